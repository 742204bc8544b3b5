import PyProof.Rows.All
import Wide.All
import OpenK.AllK
import Wide.FinOn
import PySem.Challenge.RW_sj0013_01
noncomputable section
set_option linter.all false
set_option maxRecDepth 100000
set_option maxHeartbeats 2000000
set_option Elab.async false
set_option genSizeOf false
set_option genSizeOfSpec false
set_option genInjectivity false
set_option genCtorIdx false
set_option bootstrap.genMatcherCode false
set_option tactic.hygienic false
section
namespace Mini.Internal
theorem Z0:∀{p:Prop} [Decidable p],decide p=true→p:=of_decide_eq_true
theorem Z1:∀{p:Prop} [Decidable p],p→decide p=true:=decide_eq_true
theorem Z2:∀{p:Prop} [Decidable p],¬p→decide p=false:=decide_eq_false
theorem Z3:∀{x y:Bool},(x&&y)=true→x=true∧y=true:=Bool.and_eq_true_iff.mp
theorem Z4:∀{n m k:Nat},n≤m→m≤k→n≤k:=Nat.le_trans
theorem Z5:∀(n:Nat),n≤n:=Nat.le_refl
theorem Z6:∀{α:Type _} {i:Nat} {a:α} {l:List α},l[i]?=some a→∃h:i<l.length,l[i]=a:=List.getElem?_eq_some_iff.mp
theorem Z7:∀(n:Nat),n≤n.succ:=Nat.le_succ
theorem Z8:∀(n k:Nat),n≤n+k:=Nat.le_add_right
theorem Z9:∀{α:Type _} {β:Type _} {as:List α} (f:α→β),(List.map f as).length=as.length:=List.length_map
theorem Za:∀{α:Type _} {as bs:List α},(as++bs).length=as.length+bs.length:=List.length_append
theorem Zb:∀{α:Type _} {l:List α},l<+:l:=List.prefix_rfl
theorem Zc:false≠true:=Bool.false_ne_true
theorem Zd:∀{α:Type _} {b:α} {α_1:Type _} {x:Option α_1} {f:α_1→Option α},x.bind f=some b→∃a,x=some a∧f a=some b:=Option.bind_eq_some_iff.mp
theorem Ze:∀{α:Type _} {a:α} {l:List α},a∈a::l:=List.mem_cons_self
theorem Zf:∀{n m:Nat},n≤m→∀(k:Nat),k+n≤k+m:=Nat.add_le_add_left
theorem Zg:∀{a b c:Int},a≤b→b≤c→a≤c:=Int.le_trans
theorem Zh:∀{α:Type _} (y:α) {a:α} {l:List α},a∈l→a∈y::l:=List.mem_cons_of_mem
theorem Zi:∀{n m:Nat},n=m→n≤m:=Nat.le_of_eq
theorem Zj:∀{α:Type _} {l₁ l₂:List α} {i:Nat},i<l₁.length→(l₁++l₂)[i]?=l₁[i]? :=List.getElem?_append_left
theorem Zk:∀{α:Type _} {p:α→Bool} {l:List α},l.all p=true→∀(x:α),x∈l→p x=true:=List.all_eq_true.mp
theorem Zl:∀{n m k:Nat},n≤m→m<k→n<k:=Nat.lt_of_le_of_lt
theorem Zm:∀{α:Type _} {b:α} {l:List α} {a:α},a∈b::l→a=b∨a∈l:=List.mem_cons.mp
theorem Zn:∀(a:Int) {b:Int},0≤b→a.fmod b=a % b:=Int.fmod_eq_emod_of_nonneg
theorem Zo:∀{α:Type _} {l:List α} {i:Nat} (h:i<l.length),l[i]?=some l[i]:=List.getElem?_eq_getElem
theorem Zp:∀{a b:Int},a<b→a≤b:=Int.le_of_lt
theorem Zq:∀{n m k:Nat},n≤m→n≤m+k:=Nat.le_add_right_of_le
theorem Zr:∀{a b c:Int},a<b→b≤c→a<c:=Int.lt_of_lt_of_le
theorem Zs:∀{α:Type _} {a b:α},a∈ [b]→a=b:=List.mem_singleton.mp
theorem Zt:∀{α:Type _} {a b:α},some a=some b→a=b:=Option.some.inj
theorem Zu:∀{α:Type _} {β:Type _} {f:α→β} {l:List α} {i:Nat},(List.map f l)[i]?=Option.map f l[i]? :=List.getElem?_map
theorem Zv:∀{α:Type _} {a:α} {s t:List α},a∈s++t→a∈s∨a∈t:=List.mem_append.mp
theorem Zw:∀{α:Type _} {l₁ l₂:List α} {i:Nat},l₁.length≤i→(l₁++l₂)[i]?=l₂[i-l₁.length]? :=List.getElem?_append_right
theorem Zx:∀{α:Type _} {l:List α} {i:Nat} {a:α},l[i]?=some a→a∈l:=List.mem_of_getElem?
theorem Zy:∀(a:Int) {b:Int},0<b→0≤a.fmod b:=Int.fmod_nonneg_of_pos
theorem Zz:∀{a b c:Int},a≤b→b<c→a<c:=Int.lt_of_le_of_lt
theorem ZA:∀{n m k:Nat},n<m→m≤k→n<k:=Nat.lt_of_lt_of_le
end Mini.Internal
end
section
open PySem PySem.W PyProof.Rows PySem.Calls
namespace Mine.Internal
noncomputable abbrev cq:=List (Nat×Obj)
noncomputable def cH(K:cq)(a:Nat):Option Obj:=List.rec none (fun p ζ ih=>bif Nat.beq p.1 a then some p.2 else ih) K
noncomputable def uh(K:cq)(a:Nat)(f:Obj→Obj):cq:=List.rec [] (fun p l ih=>bif Nat.beq p.1 a then (p.1,f p.2)::l else p::ih) K
noncomputable def among(l:List Nat)(a:Nat):Bool:=List.rec false (fun b ζ ih=>bif Nat.beq b a then true else ih) l
theorem wu{a b:Nat}(h:a≠b):Nat.beq a b=false:=eq_false_of_ne_true fun e=>h (Nat.eq_of_beq_eq_true e)
theorem AY{a b:Nat}{C:Bool→Prop}(h:a=b→C true)(k:a≠b→C false):C (Nat.beq a b):=by
 by_cases e:a=b
 ·subst e;rw[Nat.beq_refl];exact h rfl
 ·rw[wu e];exact k e
theorem kB(K:cq)(p:Nat×Obj):cH (p::K) p.1=some p.2:=by
 show cond (Nat.beq p.1 p.1) _ _=_
 rw[Nat.beq_refl];rfl
theorem gT{K:cq}{p:Nat×Obj}{a:Nat}(h:p.1≠a):cH (p::K) a=cH K a:=by
 show cond (Nat.beq p.1 a) _ _=_
 rw[wu h];rfl
theorem CY(K:cq)(p:Nat×Obj)(f:Obj→Obj):uh (p::K) p.1 f=(p.1,f p.2)::K:=by
 show cond (Nat.beq p.1 p.1) _ _=_
 rw[Nat.beq_refl];rfl
theorem Ds{K:cq}{p:Nat×Obj}{a:Nat}(f:Obj→Obj)(h:p.1≠a):uh (p::K) a f=p::uh K a f:=by
 show cond (Nat.beq p.1 a) _ _=_
 rw[wu h];rfl
theorem set_same(f:Obj→Obj){a:Nat}{o:Obj}(K:cq):cH K a=some o→cH (uh K a f) a=some (f o):=by
 induction K with
 |nil=>exact nofun
 |cons p l ih=>
  by_cases h:p.1=a
  ·subst h;rw[kB,CY];exact fun e=>(kB _ (p.1,_)).trans (congrArg _ (congrArg f (Option.some.inj e)))
  ·rw[gT h,Ds f h,gT h];exact ih
theorem zd(f:Obj→Obj){a b:Nat}(q:a≠b)(K:cq):cH (uh K a f) b=cH K b:=by
 induction K with
 |nil=>rfl
 |cons p l ih=>
  by_cases h:p.1=a
  ·subst h;rw[CY,gT q];exact gT (p:=(p.1,_)) q
  ·rw[Ds f h];exact congrArg (cond (Nat.beq p.1 b) (some p.2)) ih
theorem zK{a:Nat}(l:List Nat):among l a=true→a∈l:=by
 induction l with
 |nil=>exact nofun
 |cons b l ih=>exact AY (C:=fun x=>cond x true (among l a)=true→a∈b::l) (fun q ζ=>q▸List.mem_cons_self ..) fun ζ e=>List.mem_cons_of_mem _ (ih e)
def EIn(h:Heap)(K:cq):Prop:=∀a o,cH K a=some o→h.objs[a]?=some o
noncomputable abbrev Stp:=Program→World→Shared→Thread→Step
noncomputable abbrev Gp(R:Type):=cq→Nat→Nat→Thread→Option R
section
variable{R:Type}(stp:Stp)(p:Program)(w:World)(dr:Drawn)(os:OsState)(M:List Nat)(n₀:Nat)(k:Gp R)(K:cq)(n tk:Nat)
noncomputable def bM(t:Thread):Option R:=Step.casesOn (stp p w ⟨{},#[],dr,tk,os⟩ t) (fun ζ t'=>k K n tk t') fun ζ ζ=>none
noncomputable def yV(t:Thread):Option R:=Thread.casesOn t fun cur code pos stack=>
 @Sem.casesOn Fin (fun ζ=>Option R) cur (fun a=>bM stp p w dr os k K n tk ⟨.pure a,code,pos,stack⟩) (fun a=>bM stp p w dr os k K n tk ⟨.raise a,code,pos,stack⟩) (fun ζ=>none) (fun ζ=>none)
  (fun a b=>bM stp p w dr os k K n tk ⟨.rule a b,code,pos,stack⟩) (fun a b=>bM stp p w dr os k K n tk ⟨.at a b,code,pos,stack⟩)
  (fun a ζ f=>(cH K a).bind fun o=>(alive o).bind fun o=>k K n tk ⟨f o,code,pos,stack⟩)
  (fun a ζ f g=>bif Nat.ble n₀ a||among M a then (cH K a).bind fun o=>(alive o).bind fun ζ=>k (uh K a f) n tk ⟨g (),code,pos,stack⟩else none)
  (fun o f=>k ((n,o)::K) (Nat.succ n) tk ⟨f n,code,pos,stack⟩)
  (fun a f=>(cH K a).bind fun o=>k K n tk ⟨f (alive o),code,pos,stack⟩)
  (fun a b=>bM stp p w dr os k K n tk ⟨.point a b,code,pos,stack⟩) (fun ζ ζ=>none)
  (fun f=>k K n (Nat.succ tk) ⟨f tk,code,pos,stack⟩)
  (fun a=>bM stp p w dr os k K n tk ⟨.ask a,code,pos,stack⟩) (fun ζ ζ ζ=>none) (fun ζ ζ ζ=>none)
  (fun a b c d e=>bM stp p w dr os k K n tk ⟨.call a b c d e,code,pos,stack⟩) (fun a b=>bM stp p w dr os k K n tk ⟨.handled a b,code,pos,stack⟩)
  (fun ζ ζ=>none) (fun ζ ζ=>none) (fun ζ ζ ζ ζ=>none) (fun ζ ζ ζ ζ=>none)
  (fun a=>bM stp p w dr os k K n tk ⟨.stack a,code,pos,stack⟩) (fun ζ ζ=>none) (fun ζ=>none) (fun ζ ζ ζ ζ ζ=>none)
noncomputable def MQ(m₀:Nat)(ann:Option Value)(b f:Nat):cq→Nat→Nat→Thread→Option (Flow×cq×Nat×Nat×Code×Pos):=
 Nat.rec (fun ζ ζ ζ ζ=>none) (fun ζ ih K n tk t=>(endAt b t).elim (bif stepOk m₀ ann t then yV stp p w dr os M n₀ ih K n tk t else none) fun fl=>some (fl,K,n,tk,t.code,t.pos)) f
end
theorem jH{α β:Type}{x:Option α}{f:α→Option β}{r:β}{C:Prop}(k:∀a,x=some a→f a=some r→C)(e:x.bind f=some r):C:=(Option.bind_eq_some_iff.mp e).elim fun a h=>k a h.1 h.2
theorem bK{β:Type}{r:β}{C:Prop}(e:none=some r):C:=nomatch e
theorem lR{β:Type}{b:Bool}{x:Option β}{r:β}{C:Prop}(k:b=true→x=some r→C)(e:(bif b then x else none)=some r):C:=by
 induction b
 ·exact bK e
 ·exact k rfl e
section
variable{R:Type}{den:Code→Sem Fin}{p:Program}{w:World}{dr:Drawn}{os:OsState}{M:List Nat}{n₀ tk n:Nat}{K:cq}{k:Gp R}{r:R}{h:Heap}
theorem df{a:Nat}{o:Obj}(e:h.objs[a]?=some o):h.get? a=alive o:=by
 unfold Heap.get?
 rw[e]
 obtain⟨c,d,dt,sl⟩:=o
 induction dt<;>rfl
def Aft(M:List Nat)(n₀:Nat)(h h':Heap)(K':cq)(n':Nat):Prop:=h'.objs.size=n'∧EIn h' K'∧n₀≤n'∧∀a,a<n₀→a∉M→h'.objs[a]?=h.objs[a]?
theorem Aft.here(hn:h.objs.size=n)(hK:EIn h K)(hle:n₀≤n):Aft M n₀ h h K n:=⟨hn,hK,hle,fun ζ ζ ζ=>rfl⟩
theorem Aft.again{h':Heap}(A:Aft M n₀ h h' K n):Aft M n₀ h' h' K n:=.here A.1 A.2.1 A.2.2.1
theorem Aft.trans{h' h₂:Heap}{K₂:cq}{n₂:Nat}(A:Aft M n₀ h h' K n)(B:Aft M n₀ h' h₂ K₂ n₂):Aft M n₀ h h₂ K₂ n₂:=⟨B.1,B.2.1,B.2.2.1,fun a ha hM=>(B.2.2.2 a ha hM).trans (A.2.2.2 a ha hM)⟩
def fQ(den:Code→Sem Fin)(p:Program)(w:World)(dr:Drawn)(os:OsState)(M:List Nat)(n₀ tk:Nat)(k:Gp R)(r:R)(h:Heap)(t:Thread):Prop:=
 ∃h' K' n' tk' t',k K' n' tk' t'=some r∧step den p w ⟨h,#[],dr,tk,os⟩ t=.go ⟨h',#[],dr,tk',os⟩ t'∧Aft M n₀ h h' K' n'
theorem fQ.el{t:Thread}{C:Prop}(g:fQ den p w dr os M n₀ tk k r h t)(q:∀{h' K' n' tk' t'},k K' n' tk' t'=some r→step den p w ⟨h,#[],dr,tk,os⟩ t=.go ⟨h',#[],dr,tk',os⟩ t'→Aft M n₀ h h' K' n'→C):C:=
 g.elim fun ζ g=>g.elim fun ζ g=>g.elim fun ζ g=>g.elim fun ζ g=>g.elim fun ζ g=>q g.1 g.2.1 g.2.2
section
variable{t t₁:Thread}(A:Aft M n₀ h h K n)
include A
theorem cy(t₁:Thread)(e:∀H,step den p w ⟨H,#[],dr,tk,os⟩ t=.go ⟨H,#[],dr,tk,os⟩ t₁)(q:bM (step den) p w dr os k K n tk t=some r):fQ den p w dr os M n₀ tk k r h t:=by
 unfold bM at q
 rw[e]at q
 exact⟨h,K,n,tk,t₁,q,e h,A⟩
omit A in
theorem nJ{o:Outcome}{s:Shared}(e:step den p w ⟨{},#[],dr,tk,os⟩ t=finish o s)(q:bM (step den) p w dr os k K n tk t=some r):fQ den p w dr os M n₀ tk k r h t:=by
 unfold bM at q
 rw[e]at q
 unfold finish at q
 by_cases c:leftWithCleanup s.gens=true
 ·rw[if_pos c]at q;exact bK q
 ·rw[if_neg c]at q;exact bK q
end
section
variable{code:Code}{pos:Pos}{stack:List Frame}(A:Aft M n₀ h h K n)
include A
theorem Ho(a:Fin):bM (step den) p w dr os k K n tk ⟨.pure a,code,pos,stack⟩=some r→fQ den p w dr os M n₀ tk k r h ⟨.pure a,code,pos,stack⟩:=by
 refine a.casesOn (fun f=>?_) fun c=>cy A _ fun ζ=>rfl
 refine stack.casesOn (nJ rfl) fun fr l=>?_
 refine fr.casesOn (fun ζ ζ ζ ζ ζ ζ ζ=>cy A _ fun ζ=>rfl) fun ζ ζ ζ ζ ζ=>cy A _ fun ζ=>rfl
theorem Es(a:Value):bM (step den) p w dr os k K n tk ⟨.raise a,code,pos,stack⟩=some r→fQ den p w dr os M n₀ tk k r h ⟨.raise a,code,pos,stack⟩:=by
 refine stack.casesOn (nJ rfl) fun fr l=>?_
 refine fr.casesOn (fun ζ ζ ζ ζ ζ ζ ζ=>cy A _ fun ζ=>rfl) fun ζ ζ ζ ζ ζ=>cy A _ fun ζ=>rfl
omit A in
theorem HN{a:Addr}{o:Obj}(v:Option Value)(f:Obj→Sem Fin)(e:h.get? a=some o):step den p w ⟨h,#[],dr,tk,os⟩ ⟨.load a v f,code,pos,stack⟩=.go ⟨h,#[],dr,tk,os⟩ ⟨f o,code,pos,stack⟩:=by
 delta step
 dsimp only
 rw[e]
theorem HS(a:Addr)(v:Option Value)(f:Obj→Sem Fin)(q:(cH K a).bind (fun o=>(alive o).bind fun o=>k K n tk ⟨f o,code,pos,stack⟩)=some r):fQ den p w dr os M n₀ tk k r h ⟨.load a v f,code,pos,stack⟩:=
 jH (fun o e=>jH fun o' e' q=>⟨h,K,n,tk,_,q,HN v f ((df (A.2.1 a o e)).trans e'),A⟩) q
theorem EB(a:Addr)(f:Option Obj→Sem Fin)(q:(cH K a).bind (fun o=>k K n tk ⟨f (alive o),code,pos,stack⟩)=some r):fQ den p w dr os M n₀ tk k r h ⟨.loadIfAlive a f,code,pos,stack⟩:=
 jH (fun o e q=>⟨h,K,n,tk,_,q,congrArg (fun x=>Step.go ⟨h,#[],dr,tk,os⟩ ⟨f x,code,pos,stack⟩) (df (A.2.1 a o e)),A⟩) q
theorem D5(f:Tok→Sem Fin)(q:k K n (Nat.succ tk) ⟨f tk,code,pos,stack⟩=some r):fQ den p w dr os M n₀ tk k r h ⟨.fresh f,code,pos,stack⟩:=
 ⟨h,K,n,_,_,q,rfl,A⟩
theorem BL(o:Obj)(f:Addr→Sem Fin)(q:k ((n,o)::K) (Nat.succ n) tk ⟨f n,code,pos,stack⟩=some r):fQ den p w dr os M n₀ tk k r h ⟨.alloc o f,code,pos,stack⟩:=by
 obtain⟨hn,hK,hle,_⟩:=A
 subst hn
 refine ⟨h.push o,_,_,_,_,q,rfl,Array.size_push ..,fun b ob=>?_,Nat.le_succ_of_le hle,fun b hb ζ=>(Array.getElem?_push ..).trans (if_neg (Nat.ne_of_lt (Nat.lt_of_lt_of_le hb hle)))⟩
 show _→(h.objs.push o)[b]?=_
 rw[Array.getElem?_push]
 by_cases c:h.objs.size=b
 ·subst c;rw[kB,if_pos rfl];exact id
 ·rw[gT c,if_neg (fun z=>c z.symm)];exact hK b ob
theorem G0{a:Nat}{o:Obj}(f:Obj→Obj)(e:cH K a=some o)(c:(Nat.ble n₀ a||among M a)=true):Aft M n₀ h (h.update a f) (uh K a f) n:=by
 obtain⟨hn,hK,hle,_⟩:=A
 refine ⟨(Array.size_modify ..).trans hn,fun b ob=>?_,hle,fun b hb hM=>(Array.getElem?_modify ..).trans (if_neg ?_)⟩
 ·show _→(h.objs.modify a f)[b]?=_
  rw[Array.getElem?_modify]
  by_cases q:a=b
  ·subst q;rw[set_same f K e,if_pos rfl,hK a o e];exact id
  ·rw[zd f q,if_neg q];exact hK b ob
 ·rintro rfl
  exact ((Bool.or_eq_true ..).mp c).elim (fun z=>Nat.not_le.mpr hb (Nat.le_of_ble_eq_true z)) fun z=>hM (zK M z)
theorem JY(a:Addr)(v:Option Value)(f:Obj→Obj)(g:Unit→Sem Fin)(q:(bif Nat.ble n₀ a||among M a then (cH K a).bind fun o=>(alive o).bind fun ζ=>k (uh K a f) n tk ⟨g (),code,pos,stack⟩else none)=some r):
  fQ den p w dr os M n₀ tk k r h ⟨.update a v f g,code,pos,stack⟩:=
 lR (fun c=>jH fun o e=>jH fun o' e' q=>⟨h.update a f,_,n,tk,_,q,if_pos (congrArg Option.isSome ((df (A.2.1 a o e)).trans e')),G0 A f e c⟩) q
theorem ly(t:Thread):yV (step den) p w dr os M n₀ k K n tk t=some r→fQ den p w dr os M n₀ tk k r h t:=by
 refine t.casesOn fun cur code pos stack=>?_
 exact @Sem.casesOn Fin (fun c=>yV (step den) p w dr os M n₀ k K n tk ⟨c,code,pos,stack⟩=some r→fQ den p w dr os M n₀ tk k r h ⟨c,code,pos,stack⟩) cur (Ho A) (Es A) (fun ζ=>bK) (fun ζ=>bK)
  (fun a b=>(cy A _ fun ζ=>rfl:bM (step den) p w dr os k K n tk ⟨.rule a b,code,pos,stack⟩=some r→_)) (fun a b=>(cy A _ fun ζ=>rfl:bM (step den) p w dr os k K n tk ⟨.at a b,code,pos,stack⟩=some r→_)) (HS A) (JY A) (BL A) (EB A)
  (fun a b=>(cy A _ fun ζ=>rfl:bM (step den) p w dr os k K n tk ⟨.point a b,code,pos,stack⟩=some r→_)) (fun ζ ζ=>bK) (D5 A) (fun a=>(cy A _ fun ζ=>rfl:bM (step den) p w dr os k K n tk ⟨.ask a,code,pos,stack⟩=some r→_)) (fun ζ ζ ζ=>bK) (fun ζ ζ ζ=>bK)
  (fun a b c d e=>(cy A _ fun ζ=>rfl:bM (step den) p w dr os k K n tk ⟨.call a b c d e,code,pos,stack⟩=some r→_)) (fun a b=>(cy A _ fun ζ=>rfl:bM (step den) p w dr os k K n tk ⟨.handled a b,code,pos,stack⟩=some r→_))
  (fun ζ ζ=>bK) (fun ζ ζ=>bK) (fun ζ ζ ζ ζ=>bK) (fun ζ ζ ζ ζ=>bK)
  (fun a=>(cy A _ fun ζ=>rfl:bM (step den) p w dr os k K n tk ⟨.stack a,code,pos,stack⟩=some r→_)) (fun ζ ζ=>bK) (fun ζ=>bK) (fun ζ ζ ζ ζ ζ=>bK)
end
theorem Ba{tb:String→Option Builtin}{m₀:Nat}{ann:Option Value}{b f:Nat}{s s':Shared}{t t':Thread}(he:endAt b t=none)(hk:stepOk m₀ ann t=true)(hs:step (denote tb) p w s t=.go s' t'):segRun tb p w m₀ ann b (f+1) s t=segRun tb p w m₀ ann b f s' t':=by
 rw[segRun,he,hk,hs]
section
def pB(tb:String→Option Builtin)(p:Program)(w:World)(dr:Drawn)(os:OsState)(M:List Nat)(n₀ m₀:Nat)(ann:Option Value)(b f tk:Nat)(t:Thread)(h:Heap)(r:Flow×cq×Nat×Nat×Code×Pos):Prop:=
 ∃h',segRun tb p w m₀ ann b f ⟨h,#[],dr,tk,os⟩ t=some (r.1,⟨h',#[],dr,r.2.2.2.1,os⟩,r.2.2.2.2)∧Aft M n₀ h h' r.2.1 r.2.2.1
variable{r:Flow×cq×Nat×Nat×Code×Pos}{tb:String→Option Builtin}{m₀:Nat}{ann:Option Value}{b f tk₁:Nat}{t t₁:Thread}{h₁:Heap}{K₁:cq}{n₁:Nat}
theorem pB.step(he:endAt b t=none)(hk:stepOk m₀ ann t=true)(e:PySem.step (denote tb) p w ⟨h,#[],dr,tk,os⟩ t=.go ⟨h₁,#[],dr,tk₁,os⟩ t₁)(A₁:Aft M n₀ h h₁ K₁ n₁)(ih:pB tb p w dr os M n₀ m₀ ann b f tk₁ t₁ h₁ r):pB tb p w dr os M n₀ m₀ ann b (f+1) tk t h r:=
 ih.elim fun h₂ e₂=>⟨h₂,(Ba he hk e).trans e₂.1,A₁.trans e₂.2⟩
theorem pB.halt{g:Flow}(he:endAt b t=some g)(A:Aft M n₀ h h K n):pB tb p w dr os M n₀ m₀ ann b (f+1) tk t h (g,K,n,tk,t.code,t.pos):=⟨h,by rw[segRun,he],A⟩
theorem Lx{α β:Type}{x:Option α}{y r:Option β}{g:α→Option β}{C:Prop}(h1:x=none→y=r→C)(h2:∀a,x=some a→g a=r→C)(e:x.elim y g=r):C:=by
 induction x
 ·exact h1 rfl e
 ·exact h2 _ rfl e
theorem oq(f:Nat):∀{K:cq} {n tk:Nat} {t:Thread},MQ (step (denote tb)) p w dr os M n₀ m₀ ann b f K n tk t=some r→∀{h},Aft M n₀ h h K n→pB tb p w dr os M n₀ m₀ ann b f tk t h r:=by
 induction f with
 |zero=>exact bK
 |succ f ih=>exact fun hs h A=>Lx (fun he=>lR fun hk hd=>(ly A _ hd).el fun hr e A₁=>.step he hk e A₁ (ih hr A₁.again)) (fun g he e=>Option.some.inj e▸ .halt he A) hs
end
end
noncomputable abbrev pw:Program:=PySem.Challenge.pw_sj0013_01
noncomputable def body:List Stmt:=pw.main.body
noncomputable def stm(k:Nat):Stmt:=(body[k]?).getD default
noncomputable def sl(i j:Nat):List Stmt:=(body.drop i).take j
noncomputable def MZ:Stmt→Nat→Stmt
 |.ClassDef _ _ _ b ..,j=>(b[j]?).getD default
 |_,_=>default
noncomputable def mst(k j:Nat):Stmt:=MZ (stm k) j
noncomputable def fParams:Stmt→Arguments
 |.FunctionDef _ a .. =>a
 |_=>default
noncomputable def fBody:Stmt→List Stmt
 |.FunctionDef _ _ b .. =>b
 |_=>[]
noncomputable def fScope:Stmt→Scope
 |.FunctionDef _ _ _ _ _ _ sc .. =>sc
 |_=>default
noncomputable def kf:Env:={scope:=pw.main.scope,locals:=mainNs,globals:=mainNs,cells:=[],code:=.ref 13,frame:=some 14}
noncomputable def s(x:String)(t:Nat):Value:=.str (Str.ofString x) t
noncomputable def i0(n:Nat):Value:=.int (Int.ofNat n) 0
noncomputable def oTup(l:List Value):Obj:=⟨.type "tuple",none,.seq ⟨l⟩ 0,#[]⟩
noncomputable def BD(l:List Value):Obj:=⟨.none,none,.fields ⟨l⟩,#[]⟩
noncomputable def en(P:Params)(x:String)(t:Nat)(v:Value):DictEntry:=⟨PyData.keyHash P (Str.ofString x),.str (Str.ofString x) t,v⟩
noncomputable def dW(es:List DictEntry)(ep:Nat):Obj:=⟨.type "dict",none,.dict ⟨es⟩ ep,#[]⟩
noncomputable def oBm(id:String)(v:Value):Obj:=⟨.type "builtin_function_or_method",none,.fields ⟨[.builtin id,v]⟩,#[]⟩
noncomputable def file(t:Nat):Value:=s "/claim/cut.py" t
noncomputable def txs:List String→Nat→List Value
 |[],_=>[]
 |x::r,t=>s x t::txs r (Nat.succ t)
noncomputable def fData(st:Stmt)(nm q:String)(g:Addr)(pm code:Value):Data:=.func
 {name:=Str.ofString nm,qualname:=Str.ofString q,params:=fParams st,body:=.stmts (fBody st),scope:=fScope st,globals:=g,closure:=[],defaults:=.none,kwdefaults:=.none,
  doc:=.none,pyModule:=pm,annotations:=none,code:=code,closureTuple:=.none,builtins:=0}
noncomputable def oFn(st:Stmt)(nm q:String)(pm:Value)(c:Nat):Obj:=⟨.type "function",none,fData st nm q 3 pm (.ref c),#[]⟩
noncomputable def xm(l:List Value):Obj:=⟨.type "code",none,.fields ⟨l⟩,#[]⟩
noncomputable def dfn(st:Stmt)(nm q:String)(line na:Nat)(locs:List String)(m:Nat)(pm:Value)(n t:Nat):List Obj:=
 [oTup [],BD [],oTup (txs locs (t+3)),oTup [],⟨.none,none,fData st nm q 0 .none .none,#[]⟩,
  xm [s nm t,s q (t+1),file (t+2),i0 line,i0 na,i0 0,i0 0,i0 3,.ref n,.bool true,i0 181,.ref (n+1),.none,.ref (n+2),.ref (n+3),.ref (n+4),i0 (t+3+m),i0 line,file (t+4+m)],
  oFn st nm q pm (n+5)]
noncomputable def Rp(st:Stmt)(nm q:String)(line na:Nat)(pm:Value)(n t:Nat):List Obj:=
 [oTup [],BD [],⟨.none,none,fData st nm q 0 .none .none,#[]⟩,
  xm [s nm t,s q (t+1),file (t+2),i0 line,i0 na,i0 0,i0 0,i0 3,.ref n,.bool true,i0 181,.ref (n+1),.none,.none,.none,.ref (n+2),i0 (t+3),i0 line,file (t+4)],
  oFn st nm q pm (n+3)]
noncomputable def JO(nm:String)(bases mro:List Value)(ns:Nat)(sub:List Value)(bt:Option Value)(t tq:Nat)(new:String):Obj:=
 ⟨.type "type",none,.cls {name:=Str.ofString nm,bases:=bases,mro:=mro,ns:=ns,qualname:=Str.ofString nm,hasDict:=true,slotNames:=[],subclasses:=sub,abstract:=false,collection:=none,hasDel:=false},
  ⟨[bt,none,some (s nm t),some (s nm tq),some (.builtin new),some (.bool true)]⟩⟩
noncomputable def K4(nm:String)(bases:List Value)(line:Nat)(codes:List Value)(ents:List DictEntry)(ep:Nat)(pm:Value)(n t:Nat):List Obj:=
 [oTup bases,oBm "type.__prepare__" (.type "type"),dW ents ep,oTup [],BD codes,
  xm [s nm (t+2),s nm (t+3),file (t+4),i0 line,i0 0,i0 0,i0 0,i0 0,.ref (n+3),.bool false,i0 181,.ref (n+4),.none,.none,.none,.none,i0 (t+5),i0 line,file (t+6)],
  ⟨.type "frame",none,.plain,⟨[some (.ref (n+5)),some (.ref 3),some (.ref (n+2)),none,some pm,none,some (.ref 0)]⟩⟩]
noncomputable def Mw(P:Params)(pm:Value)(nm:String)(line t:Nat):List DictEntry:=
 [en P "__module__" (t+7) pm,en P "__qualname__" (t+9) (s nm (t+8)),en P "__firstlineno__" (t+11) (.int (Int.ofNat line) (t+10))]
noncomputable def Ll(P:Params)(pm:Value)(line t:Nat):List DictEntry:=
 [en P "__module__" (t+7) pm,en P "__firstlineno__" (t+11) (.int (Int.ofNat line) (t+10))]
noncomputable def Ox(x:String)(t c:Nat)(get set:Value):Obj:=⟨.type "getset_descriptor",none,.fields ⟨[s x t,.ref c,get,set]⟩,#[]⟩
noncomputable def Jx(t c:Nat):Obj:=Ox "__dict__" t c (.builtin "function.__dict__") (.builtin "function.__dict__#set")
noncomputable def DR(t c:Nat):Obj:=Ox "__weakref__" t c (.builtin "ExceptionGroup.__weakref__") .none
noncomputable def Lw(c:Nat):List Obj:=[⟨.type "super",none,.fields ⟨[.ref c,.ref c,.ref c]⟩,#[]⟩,oBm "object.__init_subclass__" (.ref c)]
noncomputable def lP:Nat→List Obj→cq→cq
 |_,[],acc=>acc
 |n,o::r,acc=>lP (Nat.succ n) r ((n,o)::acc)
noncomputable abbrev GC:Stp:=Fast.tw8437177126325714943 (Fast.tw11892475500146522536 Fast.tw14364793385576792824)
theorem qx:step (denote treeTable)=GC:=by
 rw[Fast.te8437177126325714943,Fast.te11892475500146522536,Fast.te14364793385576792824]
noncomputable abbrev M0:List Nat:=[2,3,12,38,433,454]
noncomputable def Mr(l b:List Stmt)(pos q:Pos):Thread:=⟨(Fast.tw12563942051412417395 l kf).wrap doneF deadEnd id id,.body b kf,pos,[topFrame q]⟩
theorem Fy(l b:List Stmt)(pos q:Pos):piecesOf l kf (.body b kf) pos [topFrame q]=Mr l b pos q:=by
 unfold Mr
 rw[←Fast.te12563942051412417395]
noncomputable def fq:Pos:=⟨0,0,0,0⟩
theorem oD{P:World→Prop}(h:∀(w:World) (r:Bool),P (w.withFollow "special-get-raises" r))(w:World):P w:=by
 have e:=World.withFollow_self w "special-get-raises"
 rw[←e]
 exact h w _
section
variable(stp:Stp)(p:Program)(w:World)(dr:Drawn)(os:OsState)(M:List Nat)(n₀ m₀:Nat)(ann:Option Value)
noncomputable def goD(f:Nat):Gp (cq×Nat×Nat×Thread):=
 Nat.rec (fun K n tk t=>some (K,n,tk,t)) (fun ζ ih K n tk t=>bif !through t then bif stepOk m₀ ann t then yV stp p w dr os M n₀ ih K n tk t else none else none) f
end
section
variable{w:World}{p:Program}{dr:Drawn}{os:OsState}{M:List Nat}{n₀ m₀:Nat}{ann:Option Value}{tb:String→Option Builtin}
theorem Gf{f:Nat}{s s':Shared}{t t':Thread}(he:(!through t)=true)(hk:stepOk m₀ ann t=true)(hs:step (denote tb) p w s t=.go s' t'):topGo tb p w m₀ ann (f+1) s t=topGo tb p w m₀ ann f s' t':=by
 rw[topGo,(Bool.not_eq_true' (through t)).mp he,hk,hs]
section
variable{r:cq×Nat×Nat×Thread}{tk₁ f:Nat}{t t₁:Thread}{h h₁:Heap}
def yx(tb:String→Option Builtin)(p:Program)(w:World)(dr:Drawn)(os:OsState)(M:List Nat)(n₀ m₀:Nat)(ann:Option Value)(f tk:Nat)(t:Thread)(h:Heap)(r:cq×Nat×Nat×Thread):Prop:=
 ∃h',topGo tb p w m₀ ann f ⟨h,#[],dr,tk,os⟩ t=some (⟨h',#[],dr,r.2.2.1,os⟩,r.2.2.2)∧Aft M n₀ h' h' r.1 r.2.1
theorem yx.step{tk:Nat}(he:(!through t)=true)(hk:stepOk m₀ ann t=true)(e:PySem.step (denote tb) p w ⟨h,#[],dr,tk,os⟩ t=.go ⟨h₁,#[],dr,tk₁,os⟩ t₁)(ih:yx tb p w dr os M n₀ m₀ ann f tk₁ t₁ h₁ r):yx tb p w dr os M n₀ m₀ ann (f+1) tk t h r:=
 ih.elim fun h₂ e₂=>⟨h₂,(Gf he hk e).trans e₂.1,e₂.2⟩
theorem zM(f:Nat):∀{K:cq} {n tk:Nat} {t:Thread},goD (step (denote tb)) p w dr os M n₀ m₀ ann f K n tk t=some r→∀{h},Aft M n₀ h h K n→yx tb p w dr os M n₀ m₀ ann f tk t h r:=by
 induction f with
 |zero=>exact fun hs h A=>Option.some.inj hs▸ ⟨h,rfl,A⟩
 |succ f ih=>exact fun hs h A=>lR (fun he=>lR fun hk hd=>(ly A _ hd).el fun hr e A₁=>.step he hk e (ih hr A₁.again)) hs
end
end
theorem xC{K:cq}{f:Nat→Option Obj}{a:Nat}{o:Obj}(e:K.map (fun p=>f p.1)=K.map (fun p=>some p.2)):cH K a=some o→f a=some o:=by
 induction K with
 |nil=>exact bK
 |cons p l ih=>
  by_cases q:p.1=a
  ·subst q;rw[kB];exact fun x=>(List.cons.inj e).1.trans x
  ·rw[gT q];exact ih (List.cons.inj e).2
theorem EIn.g7{h:Heap}{K K2:cq}(H:EIn h K)(e:K2.map (fun p=>cH K p.1)=K2.map (fun p=>some p.2)):EIn h K2:=fun a o ea=>H a o (xC (f:=cH K) e ea)
noncomputable abbrev TR(w:World)(N:Nat)(s:Shared)(t:Thread):Option Shared:=topRun treeTable pw w 11 (some (.ref 6)) N s t
def Reach(w:World)(s₀ s:Shared)(t:Thread):Prop:=∀N r,TR w N s t=some r→∃N',TR w N' s₀ (topStub pw)=some r
theorem tC(K:cq):∀(obs:List Obj) (n:Nat) (A:cq),lP n obs (A++K)=lP n obs A++K
 |[],_,_=>rfl
 |o::r,n,A=>tC K r (Nat.succ n) ((n,o)::A)
theorem sL{K:cq}{a:Nat}{o:Obj}(A:cq):cH A a=some o→cH (A++K) a=some o:=by
 induction A with
 |nil=>exact bK
 |cons p l ih=>
  rw[List.cons_append]
  by_cases q:p.1=a
  ·subst q;rw[kB,kB];exact id
  ·rw[gT q,gT q];exact ih
theorem zQ{a:Nat}(l:List Nat):among l a=false→a∉l:=by
 induction l with
 |nil=>exact fun ζ=>List.not_mem_nil
 |cons b l ih=>exact AY (C:=fun x=>cond x true (among l a)=false→a∉b::l) (fun ζ=>nofun) fun q h m=>(List.mem_cons.mp m).elim (fun e=>q e.symm) (ih h)
theorem Fu(i j:Nat):body.drop i=sl i j++body.drop (i+j):=by
 unfold sl
 rw[←List.drop_drop]
 exact (List.take_append_drop j _).symm
noncomputable def m0:Value:=s "__main__" 164
noncomputable def m1:Value:=s "framerune.faults" 356
noncomputable def m2:Value:=s "framerune.kinds" 457
noncomputable def m3:Value:=s "framerune.store" 799
noncomputable def m4:Value:=s "framerune.csnodes" 919
noncomputable def m5:Value:=s "framerune.csbound" 973
noncomputable def m6:Value:=s "framerune.emitcore" 1161
noncomputable def m7:Value:=s "framerune.emitops" 1467
noncomputable def m8:Value:=s "framerune.emitexpr" 2155
noncomputable def m9:Value:=s "law_sj0013_01" 2183
noncomputable def vi(x t:Nat):Value:=.int (Int.ofNat x) t
noncomputable def er(P:Params)(x:String)(t a:Nat):DictEntry:=en P x t (.ref a)
noncomputable def ens(P:Params)(t:Nat)(l:List (String×Nat)):List DictEntry→List DictEntry:=fun z=>List.rec (fun ζ=>z) (fun p ζ ih t=>en P p.1 (Nat.succ t) (vi p.2 t)::ih (Nat.succ (Nat.succ t))) l t
noncomputable abbrev Df:=String×Nat×Nat×List String
noncomputable def ds(pm:Value)(k n t:Nat)(l:List Df):List Obj:=List.rec (fun ζ ζ ζ=>[]) (fun p ζ ih k n t=>dfn (stm k) p.1 p.1 p.2.1 p.2.2.1 p.2.2.2 p.2.2.2.length pm n t++ih (k+1) (n+7) (t+p.2.2.2.length+6)) l k n t
noncomputable def cmO(nm:String)(pm:Value)(k n t:Nat)(l:List Df):List Obj:=List.rec (fun ζ ζ ζ=>[]) (fun p ζ ih j n t=>dfn (mst k j) p.1 (nm++"."++p.1) p.2.1 p.2.2.1 p.2.2.2 p.2.2.2.length pm n t++ih (j+1) (n+7) (t+p.2.2.2.length+6)) l 0 n t
noncomputable def cmE(P:Params)(n t:Nat)(l:List Df)(z:Nat→Nat→List DictEntry):List DictEntry:=List.rec z (fun p ζ ih n t=>er P p.1 (t+p.2.2.2.length+5) (n+6)::ih (n+7) (t+p.2.2.2.length+6)) l n t
noncomputable def cmC(n:Nat)(l:List Df):List Value:=List.rec (fun ζ=>[]) (fun p ζ ih n=>i0 p.2.1::i0 4::.ref (n+5)::ih (n+7)) l n
noncomputable def cmN(l:List Df):Nat:=List.rec 0 (fun ζ ζ ih=>ih+7) l
noncomputable def cmT(t:Nat)(l:List Df):Nat:=List.rec t (fun p ζ ih=>p.2.2.2.length+6+ih) l
noncomputable def cz(P:Params)(b sa:Nat)(t:Nat):List DictEntry:=er P "__static_attributes__" t sa::bif Nat.beq b 0 then [er P "__dict__" (t+2) (sa+3),er P "__weakref__" (t+4) (sa+4),en P "__doc__" (t+5) .none]else [en P "__doc__" (t+1) .none]
noncomputable def cb(b:Nat):List Value:=bif Nat.beq b 0 then [.type "object"]else [.ref b]
noncomputable def cr(b:Nat):List Value:=bif Nat.beq b 0 then [.type "object"]else bif Nat.beq b 38 then [.ref b,.type "Exception",.type "BaseException",.type "object"]else [.ref b,.type "object"]
noncomputable def cN(P:Params)(pm:Value)(line b n t:Nat)(ms:List Df)(sa:List String):Obj:=
 dW (Ll P pm line t++cmE P (n+7) (t+12) ms fun a t=>cz P b a (t+sa.length)) (bif Nat.beq b 0 then 4 else 2)
noncomputable def cC(nm:String)(b n t:Nat)(ms:List Df)(sub:List Value):Obj:=
 JO nm (cb b) (.ref (n+9+cmN ms)::cr b) (n+8+cmN ms) sub (bif Nat.beq b 0 then none else some (.ref n)) t (t+8) (bif Nat.beq b 38 then "Exception.__new__" else "object.__new__")
noncomputable def cx(P:Params)(pm:Value)(nm:String)(line k b n t:Nat)(ms:List Df)(sa:List String):List Obj:=
 K4 nm (bif Nat.beq b 0 then []else [.ref b]) line (cmC (n+7) ms) (Mw P pm nm line t++cmE P (n+7) (t+12) ms fun a t=>[er P "__static_attributes__" (t+sa.length) a]) (ms.length+4) pm n t++(cmO nm pm k (n+7) (t+12) ms++
 (oTup (txs sa (cmT (t+12) ms))::cN P pm line b n t ms sa::cC nm b n t ms []::((bif Nat.beq b 0 then [Jx (cmT (t+12) ms+sa.length+1) (n+9+cmN ms),DR (cmT (t+12) ms+sa.length+3) (n+9+cmN ms)]else [])++Lw (n+9+cmN ms))))
noncomputable def Sp(P:Params):List DictEntry:=[en P "__doc__" 166 .none,en P "__package__" 167 .none,en P "__loader__" 168 (.builtin "__main__.__loader__#opaque"),en P "__spec__" 169 .none,er P "__annotations__" 170 6,er P "__builtins__" 171 4,en P "__file__" 173 (s "/claim/cut.py" 172),en P "__cached__" 174 .none]
noncomputable def Sn(P:Params):List DictEntry:=[er P "_wall" 193 21]++(ens P 194 [("OP_LDNULL",20),("OP_LDC_I4",32),("OP_LDC_I8",33),("OP_POP",38),("OP_CALL",40),("OP_BR",56),("OP_BRFALSE",57),("OP_BRTRUE",58),("OP_BEQ",59),("OP_BGE",60),("OP_BGT",61),("OP_BLE",62),("OP_BLT",63),("OP_BNE_UN",64),("OP_BGE_UN",65),("OP_BGT_UN",66),("OP_BLE_UN",67),("OP_BLT_UN",68),("OP_ADD",88),("OP_SUB",89),("OP_MUL",90),("OP_DIV",91),("OP_DIV_UN",92),("OP_REM",93),("OP_REM_UN",94),("OP_AND",95),("OP_OR",96),("OP_XOR",97),("OP_SHL",98),("OP_SHR",99),("OP_SHR_UN",100),("OP_NEG",101),("OP_NOT",102),("OP_CONV_I1",103),("OP_CONV_I2",104),("OP_CONV_I4",105),("OP_CONV_I8",106),("OP_CONV_U4",109),("OP_CONV_U8",110),("OP_LDOBJ",113),("OP_LDSTR",114),("OP_CASTCLASS",116),("OP_ISINST",117),("OP_CONV_OVF_I1_UN",130),("OP_CONV_OVF_I2_UN",131),("OP_CONV_OVF_I4_UN",132),("OP_CONV_OVF_I8_UN",133),("OP_CONV_OVF_U1_UN",134),("OP_CONV_OVF_U2_UN",135),("OP_CONV_OVF_U4_UN",136),("OP_CONV_OVF_U8_UN",137),("OP_BOX",140),("OP_UNBOX_ANY",165),("OP_CONV_OVF_I1",179),("OP_CONV_OVF_U1",180),("OP_CONV_OVF_I2",181),("OP_CONV_OVF_U2",182),("OP_CONV_OVF_I4",183),("OP_CONV_OVF_U4",184),("OP_CONV_OVF_I8",185),("OP_CONV_OVF_U8",186),("OP_LDTOKEN",208),("OP_CONV_U2",209),("OP_CONV_U1",210),("OP_CONV_I",211),("OP_ADD_OVF",214),("OP_ADD_OVF_UN",215),("OP_MUL_OVF",216),("OP_MUL_OVF_UN",217),("OP_SUB_OVF",218),("OP_SUB_OVF_UN",219),("OP_CEQ",65025),("OP_CGT",65026),("OP_CGT_UN",65027),("OP_CLT",65028),("OP_CLT_UN",65029),("OP_LDARG",65033),("OP_LDLOC",65036),("OP_LDLOCA",65037),("OP_STLOC",65038),("OP_INITOBJ",65045)] ([en P "LF_NOTYPE" 359 (vi 1 358),en P "LF_ENUM" 361 (vi 12 360),er P "RuneError" 392 38,er P "BadCode" 408 51,er P "BadKind" 424 63,er P "LoadFault" 440 75,er P "LeftOut" 456 87]++(ens P 459 [("VOID",0),("BOOL",1),("CHAR",2),("I1",3),("U1",4),("I2",5),("U2",6),("I4",7),("U4",8),("I8",9),("U8",10),("NINT",11),("OBJECT",12),("STRING",13),("NULLK",14),("PRIM_END",16),("R_PRIM",1),("R_CLASS",2),("R_VALUE",3),("R_ARRAY",4),("R_BYREF",5),("R_VAR",6),("R_MVAR",7),("R_BOXED",8),("R_ROREF",9),("R_FTN",10),("R_RAW",11),("DEEPEST_KIND",24),("HEAVIEST_KIND",4096)] ([er P "PRIM_TID" 545 90,er P "TID_PRIM" 574 91,en P "ARRAY_TID" 576 (vi 5 575),er P "INT_RANGES" 615 92,er P "KindTable" 672 134,er P "inner_kinds" 680 145,er P "row_level" 687 152,er P "row_length" 694 159,er P "check_kind_row" 704 166,er P "check_named" 712 173,er P "check_args" 721 180,er P "may_stand" 730 187,er P "kind_sort" 738 194,er P "tid_of" 747 201,er P "args_of" 756 208,er P "is_value" 764 215,er P "is_ref" 773 222,er P "is_var" 782 229,er P "int_range" 789 236,er P "is_int" 796 243,en P "CM_TYPE_FROM" 798 (vi 202 797)]++(ens P 801 [("S_IFACE",3),("S_DELEGATE",4),("S_ENUM",5),("VA_NONE",0),("T_NULLABLE",8)] ([er P "TypeDef" 864 260,er P "Store" 898 281,er P "type_of" 907 292,er P "plain_kind" 918 299,er P "Diags" 972 335]++(ens P 975 [("X_CONST",1),("X_LOCAL",2),("X_DEFAULT",12),("X_UN",13),("X_BIN",14),("X_AND",15),("X_OR",16),("X_COND",17),("X_CONV",19),("X_IS",20),("X_AS",21),("X_TYPEOF",29),("CV_NUM",1),("CV_REF",2),("CV_CAST",3),("CV_BOX",4),("CV_UNBOX",5),("CV_NULL",8),("CV_SAME",10),("FN_PLAIN",0),("VF_REF",2),("VF_OUT",4)] ([er P "Var" 1057 356,er P "Fn" 1099 377,er P "Unit" 1137 398,er P "new_fn" 1148 409,er P "new_var" 1160 416,en P "PM_WRITE" 1164 (vi 0 1163),er P "EmitRule" 1193 433,er P "JumpRule" 1224 454,er P "Em" 1365 552,er P "take_temp" 1374 563,er P "give_temp" 1384 570,er P "emit_expr" 1393 577,er P "emit_effect" 1402 584,er P "emit_place" 1412 591,er P "emit_copy" 1421 598,er P "emit_jump" 1432 605,er P "local_of" 1441 612,er P "by_ref" 1450 619,er P "inner_nullable" 1458 626,er P "box_var" 1466 633,er P "ARITH" 1489 634,er P "COMPARE" 1508 645,er P "BRANCHES" 1521 652,er P "CONVS" 1531 659,er P "signed_bits" 1540 675,er P "is_wide" 1547 682,er P "emit_const" 1557 689,er P "emit_default" 1567 696,er P "EmitConst" 1592 713,er P "EmitDefault" 1617 732,er P "EmitTypeof" 1642 751,er P "ConstEffect" 1667 770,er P "ConstJump" 1694 789,er P "is_unsigned" 1703 798,er P "EmitUnary" 1729 815,er P "emit_turned" 1736 824,er P "NotJump" 1763 841,er P "emit_sides" 1771 850,er P "emit_shift" 1780 857,er P "EmitBinary" 1808 874,er P "BinaryJump" 1837 893,er P "EmitLogic" 1864 912,er P "AndJump" 1891 931,er P "OrJump" 1918 950,er P "short_jump" 1930 959,er P "joins_loosely" 1939 966,er P "EmitCond" 1967 983,er P "emit_side" 1976 992,er P "CondEffect" 2003 1009,er P "emit_number" 2019 1018,er P "EmitConv" 2046 1035,er P "emit_test" 2056 1044,er P "EmitIs" 2081 1061,er P "IsJump" 2108 1080,er P "EmitAs" 2133 1099,er P "install_e_consts" 2140 1108,er P "install_e_operators" 2147 1115,er P "install_e_convs" 2154 1122,er P "EmitLocal" 2182 1139,er P "_law_ROWS" 2206 1160,er P "_law_ROOTS" 2229 1161,er P "_law_RANGES" 2235 1168,er P "_law_VALUES" 2241 1175,er P "_law_NUMBERS" 2252 1176,er P "_law_BOXED" 2263 1177,er P "_law_LOOKED" 2275 1178,er P "_law_TESTS" 2282 1179,er P "_law_pick" 2291 1186,er P "_law_turn" 2298 1193,er P "_law_shut" 2306 1200,er P "_law_under" 2314 1207,er P "_law_leaf" 2326 1214,er P "_law_tree" 2335 1221,er P "_law_choice" 2346 1228,er P "_law_number" 2359 1235,er P "_law_truth" 2373 1242,er P "_law_alike" 2385 1249,er P "_law_nothing" 2392 1256,er P "_law_thing" 2404 1263,er P "_law_stop" 2412 1270,er P "_law_is" 2420 1277,er P "_law_blank" 2428 1284,er P "_law_box" 2437 1291,er P "_law_unbox" 2446 1298,er P "_law_exact" 2456 1305,er P "_law_fit" 2468 1312,er P "_law_mean" 2484 1319,er P "_law_binary" 2497 1326,er P "_law_brought" 2507 1333,er P "_law_WORDS" 2513 1340,er P "_law_UNSIGNED" 2526 1341,er P "_law_CONVS" 2532 1348,er P "_law_signed" 2540 1355,er P "_law_cell" 2550 1362,er P "_law_seen" 2560 1369,er P "_law_holds" 2573 1376,er P "_law_two" 2589 1383,er P "_law_conv" 2603 1390,er P "_law_other" 2615 1397,er P "_law_load" 2625 1404,er P "_law_branch" 2636 1411,er P "_law_run" 2651 1418,er P "_law_same" 2659 1425,er P "_law_store" 2669 1432,er P "law" 2692 1439]++([])))))))))
noncomputable def RT:List Value:=[(1,20),(88,27),(93,47),(95,59),(97,71),(99,83),(135,109),(184,144),(193,151),(197,158),(203,165),(225,172),(229,179),(233,186),(238,193),(240,200),(249,207),(254,214),(258,221),(263,228),(266,235),(270,242),(279,249),(305,270),(315,291),(321,298),(333,305),(369,345),(379,366),(393,387),(405,408),(411,415),(419,422),(423,443),(427,464),(488,562),(494,569),(501,576),(506,583),(514,590),(520,597),(525,604),(535,611),(542,618),(545,625),(549,632),(557,674),(560,681),(562,688),(574,695),(586,702),(590,721),(594,740),(599,759),(603,778),(608,797),(611,804),(628,823),(631,830),(639,849),(644,856),(655,863),(673,882),(686,901),(697,920),(701,939),(705,958),(714,965),(721,972),(738,991),(742,998),(753,1017),(770,1024),(790,1043),(796,1050),(802,1069),(807,1088),(813,1107),(819,1114),(830,1121),(836,1128),(849,1167),(851,1174),(857,1185),(861,1192),(865,1199),(867,1206),(869,1213),(884,1220),(894,1227),(898,1234),(921,1241),(944,1248),(954,1255),(956,1262),(985,1269),(989,1276),(991,1283),(994,1290),(1000,1297),(1007,1304),(1024,1311),(1031,1318),(1072,1325),(1093,1332),(1104,1339),(1107,1347),(1109,1354),(1112,1361),(1121,1368),(1128,1375),(1146,1382),(1174,1389),(1189,1396),(1217,1403),(1225,1410),(1233,1417),(1271,1424),(1275,1431),(1284,1438)].flatMap fun (p:Nat×Nat)=>[i0 p.1,i0 0,.ref p.2]
noncomputable def stE(P:Params):List DictEntry:=[en P "type.__subclasses__.Exception.0" 389 (i0 38),en P "type.__subclasses__.Exception.n" 390 (i0 1)]
noncomputable def gAt(P:Params)(nm:Value)(m ep:Nat):Obj:=dW (en P "__name__" 165 nm::(Sp P++(Sn P).take m)) ep
noncomputable def oSt(es:List DictEntry)(ep:Nat):Obj:=⟨.none,none,.dict ⟨es⟩ ep,#[]⟩
noncomputable def o13:Obj:=xm [(s "<module>" 182),(s "<module>" 183),(s "/claim/cut.py" 184),(i0 1),(i0 0),(i0 0),(i0 0),(i0 0),(.ref 11),(.bool false),(i0 181),(.ref 12),.none,.none,.none,.none,(i0 185),(i0 1),(s "/claim/cut.py" 186)]
noncomputable def o14:Obj:=⟨.type "frame",none,.plain,⟨[some (.ref 13),some (.ref 3),some (.ref 3),none,some m0,none,some (.ref 0)]⟩⟩
noncomputable def jA(P:Params):Obj:=dW (Ll P m1 88 362++[er P "__init__" 382 35,er P "__static_attributes__" 385 36,er P "__weakref__" 387 39,en P "__doc__" 388 .none]) 3
noncomputable def jC(sub:List Value):Obj:=JO "RuneError" [(.type "Exception")] [(.ref 38),(.type "Exception"),(.type "BaseException"),(.type "object")] 37 sub (some (.ref 22)) 362 370 "Exception.__new__"
noncomputable def msE:List Df:=[("emit",421,3,["self","em","e"])]
noncomputable def vq(P:Params):Obj:=cN P m6 419 0 417 1165 msE []
noncomputable def uz(sub:List Value):Obj:=cC "EmitRule" 0 417 1165 msE sub
noncomputable def msJ:List Df:=[("jump",425,5,["self","em","e","when","label"])]
noncomputable def sS(P:Params):Obj:=cN P m6 423 0 438 1194 msJ []
noncomputable def uG(sub:List Value):Obj:=cC "JumpRule" 0 438 1194 msJ sub
noncomputable def B0(P:Params):Obj:=dW (Ll P m4 333 921++[er P "__init__" 939 313,er P "put" 949 320,er P "cut" 957 327,er P "numbers" 963 332,er P "__static_attributes__" 965 333,er P "__dict__" 967 336,er P "__weakref__" 969 337,en P "__doc__" 970 .none]) 4
noncomputable def EW(sub:List Value):Obj:=JO "Diags" [(.type "object")] [(.ref 335),(.type "object")] 334 sub none 921 929 "object.__new__"
noncomputable def rf(l:List Nat):List Value:=l.map .ref
noncomputable def kx(nm:Value)(m c r e j:Nat)(w:World):cq:=
 (3,gAt w.params nm m (m+9))::(12,BD (RT.take c))::(2,bif Nat.beq c 0||Nat.beq c 3 then oSt [] 0 else oSt (stE w.params) 2)::(13,o13)::(4,boot_o_4 w.params)::(0,boot_o_0 w.params)::
 ((bif Nat.beq r 0 then []else [(38,jC (rf ([51,63,75,87].take (r-1)))),(37,jA w.params)])++
 (bif Nat.beq e 0 then []else [(433,uz (rf ([713,732,751,770,815,874,912,983,1009,1035,1061,1099,1139].take (e-1)))),(432,vq w.params)])++
 (bif Nat.beq j 0 then []else [(454,uG (rf ([789,841,893,931,950,1080].take (j-1)))),(453,sS w.params)]))
noncomputable def Sk(P:Params):List Obj:=dfn (stm 0) "_wall" "_wall" 1 1 ["k"] 1 m0 15 187
noncomputable def R8(P:Params):List Obj:=K4 "RuneError" [(.type "Exception")] 88 [i0 90,i0 4,.ref 34] (Mw P m1 "RuneError" 88 362++[er P "__init__" 382 35,er P "__static_attributes__" 385 36]) 5 m1 22 362++(dfn (mst 85 0) "__init__" "RuneError.__init__" 90 3 ["self","code","at"] 3 m1 29 374++([oTup (txs ["at","code"] 383),jA P,jC [],DR 386 38]++(Lw 38)))
noncomputable def RH(P:Params):List Obj:=cx P m1 "BadCode" 93 0 38 42 393 [] []
noncomputable def Sd(P:Params):List Obj:=cx P m1 "BadKind" 95 0 38 54 409 [] []
noncomputable def R7(P:Params):List Obj:=cx P m1 "LoadFault" 97 0 38 66 425 [] []
noncomputable def Rm(P:Params):List Obj:=cx P m1 "LeftOut" 99 0 38 78 441 [] []
noncomputable def Oh(P:Params):List Obj:=[dW [⟨Int.ofNat 0,(vi 0 459),(vi 20 517)⟩,⟨Int.ofNat 1,(vi 1 461),(vi 9 518)⟩,⟨Int.ofNat 2,(vi 2 463),(vi 10 519)⟩,⟨Int.ofNat 3,(vi 3 465),(vi 11 520)⟩,⟨Int.ofNat 4,(vi 4 467),(vi 12 521)⟩,⟨Int.ofNat 5,(vi 5 469),(vi 13 522)⟩,⟨Int.ofNat 6,(vi 6 471),(vi 14 523)⟩,⟨Int.ofNat 7,(vi 7 473),(vi 15 524)⟩,⟨Int.ofNat 8,(vi 8 475),(vi 16 525)⟩,⟨Int.ofNat 9,(vi 9 477),(vi 17 526)⟩,⟨Int.ofNat 10,(vi 10 479),(vi 18 527)⟩,⟨Int.ofNat 11,(vi 11 481),(vi 19 528)⟩,⟨Int.ofNat 12,(vi 12 483),(vi 1 529)⟩,⟨Int.ofNat 13,(vi 13 485),(vi 4 530)⟩] 14]
noncomputable def M4(P:Params):List Obj:=[dW [⟨Int.ofNat 20,(vi 20 546),(vi 0 459)⟩,⟨Int.ofNat 9,(vi 9 547),(vi 1 461)⟩,⟨Int.ofNat 10,(vi 10 548),(vi 2 463)⟩,⟨Int.ofNat 11,(vi 11 549),(vi 3 465)⟩,⟨Int.ofNat 12,(vi 12 550),(vi 4 467)⟩,⟨Int.ofNat 13,(vi 13 551),(vi 5 469)⟩,⟨Int.ofNat 14,(vi 14 552),(vi 6 471)⟩,⟨Int.ofNat 15,(vi 15 553),(vi 7 473)⟩,⟨Int.ofNat 16,(vi 16 554),(vi 8 475)⟩,⟨Int.ofNat 17,(vi 17 555),(vi 9 477)⟩,⟨Int.ofNat 18,(vi 18 556),(vi 10 479)⟩,⟨Int.ofNat 19,(vi 19 557),(vi 11 481)⟩,⟨Int.ofNat 1,(vi 1 558),(vi 12 483)⟩,⟨Int.ofNat 4,(vi 4 559),(vi 13 485)⟩] 14]
noncomputable def QU(P:Params):List Obj:=[dW [⟨Int.ofNat 1,(vi 1 461),(.ref 93)⟩,⟨Int.ofNat 2,(vi 2 463),(.ref 94)⟩,⟨Int.ofNat 3,(vi 3 465),(.ref 95)⟩,⟨Int.ofNat 4,(vi 4 467),(.ref 96)⟩,⟨Int.ofNat 5,(vi 5 469),(.ref 97)⟩,⟨Int.ofNat 6,(vi 6 471),(.ref 98)⟩,⟨Int.ofNat 7,(vi 7 473),(.ref 99)⟩,⟨Int.ofNat 8,(vi 8 475),(.ref 100)⟩,⟨Int.ofNat 9,(vi 9 477),(.ref 101)⟩,⟨Int.ofNat 10,(vi 10 479),(.ref 102)⟩,⟨Int.ofNat 11,(vi 11 481),(.ref 103)⟩] 11,oTup [(vi 0 577),(vi 255 578)],oTup [(vi 0 579),(vi 65535 580)],oTup [(.int (Int.negSucc 127) 582),(vi 127 583)],oTup [(vi 0 584),(vi 255 585)],oTup [(.int (Int.negSucc 32767) 587),(vi 32767 588)],oTup [(vi 0 589),(vi 65535 590)],oTup [(.int (Int.negSucc 2147483647) 592),(vi 2147483647 593)],oTup [(vi 0 594),(vi 4294967295 595)],oTup [(.int (Int.negSucc 9223372036854775807) 597),(vi 9223372036854775807 598)],oTup [(vi 0 599),(vi 18446744073709551615 600)],oTup [(.int (Int.negSucc 2147483647) 602),(vi 2147483647 603)]]
noncomputable def QB(P:Params):List Obj:=cx P m2 "KindTable" 135 124 0 104 616 [("__init__",137,1,["self","number","row"]),("row",151,2,["self","k"]),("put",156,2,["self","row","found","depth","weight","opened","level","inner","k"])] ["depths","index","opens","rows","weights"]
noncomputable def QS(P:Params):List Obj:=ds m2 125 139 673 [("inner_kinds",184,1,["row","sort"]),("row_level",193,1,["sort"]),("row_length",197,1,["sort"]),("check_kind_row",203,2,["kt","row","sort","inner"]),("check_named",225,2,["kt","row"]),("check_args",229,2,["kt","args","arg"]),("may_stand",233,2,["kt","k","sort"]),("kind_sort",238,2,["kt","k"])]
noncomputable def PE(P:Params):List Obj:=ds m2 133 195 739 [("tid_of",240,2,["kt","k","row"]),("args_of",249,2,["kt","k","row"]),("is_value",254,2,["kt","k"]),("is_ref",258,2,["kt","k","sort"]),("is_var",263,2,["kt","k","sort"]),("int_range",266,1,["k"]),("is_int",270,1,["k"])]
noncomputable def Po(P:Params):List Obj:=cx P m3 "TypeDef" 279 147 0 244 811 [("__init__",281,8,["self","tid","name","sort","flags","base","params","asm","word"])] ["asm","base","bounds","cctor","events","fields","finaliser","flags","home","ifaces","impls","methods","name","params","props","sort","tid","under","variances"]
noncomputable def OC(P:Params):List Obj:=cx P m3 "Store" 305 148 0 265 865 [("__init__",307,1,["self"])] ["asms","entry","fields_","kt","methods","names","types"]
noncomputable def PQ(P:Params):List Obj:=dfn (stm 149) "type_of" "type_of" 315 2 ["store","k","tid"] 3 m3 286 899++(dfn (stm 151) "plain_kind" "plain_kind" 321 2 ["store","k","t"] 3 (s "framerune.values" 908) 293 910)
noncomputable def PA(P:Params):List Obj:=K4 "Diags" [] 333 [i0 335,i0 4,.ref 312,i0 338,i0 4,.ref 319,i0 341,i0 4,.ref 326,i0 344,i0 4,.ref 331] (Mw P m4 "Diags" 333 921++[er P "__init__" 939 313,er P "put" 949 320,er P "cut" 957 327,er P "numbers" 963 332,er P "__static_attributes__" 965 333]) 8 m4 300 921++(dfn (mst 153 0) "__init__" "Diags.__init__" 335 1 ["self"] 1 m4 307 933++(dfn (mst 153 1) "put" "Diags.put" 338 4 ["self","number","at","words"] 4 m4 314 940++(dfn (mst 153 2) "cut" "Diags.cut" 341 2 ["self","count"] 2 m4 321 950++(Rp (mst 153 3) "numbers" "Diags.numbers" 344 1 m4 328 958++([oTup (txs ["rows"] 964),B0 P,EW [],Jx 966 335,DR 968 335]++(Lw 335))))))
noncomputable def Qu(P:Params):List Obj:=cx P m5 "Var" 369 177 0 340 1019 [("__init__",371,6,["self","lid","name","kind","flags","owner"])] ["arg","block","flags","kind","lid","name","owner"]
noncomputable def N9(P:Params):List Obj:=cx P m5 "Fn" 379 178 0 361 1058 [("__init__",381,5,["self","fnid","mid","up","at"])] ["at","body","elem","fnid","lids","mid","params","ret","sort","this_kind","up"]
noncomputable def N8(P:Params):List Obj:=cx P m5 "Unit" 393 179 0 382 1100 [("__init__",395,3,["self","store","asm"])] ["asm","consts","diags","fns","inits","of_mid","sinits","store","vars"]
noncomputable def QF(P:Params):List Obj:=ds m5 180 403 1138 [("new_fn",405,4,["unit","mid","up","at","fnid"]),("new_var",411,5,["unit","fnid","name","kind","flags","lid"])]
noncomputable def P2(P:Params):List Obj:=cx P m6 "EmitRule" 419 184 0 417 1165 [("emit",421,3,["self","em","e"])] []
noncomputable def O7(P:Params):List Obj:=cx P m6 "JumpRule" 423 185 0 438 1194 [("jump",425,5,["self","em","e","when","label"])] []
noncomputable def Qq(P:Params):List Obj:=cx P m6 "Em" 427 186 0 459 1225 [("__init__",429,3,["self","unit","fn"]),("ins",453,3,["self","op","operand"]),("mark",456,2,["self","n"]),("new_label",461,1,["self"]),("temp",465,2,["self","kind"]),("give",468,2,["self","place"]),("expr",471,2,["self","e"]),("effect",474,2,["self","e"]),("place",477,2,["self","e"]),("place_read",480,2,["self","e"]),("jump",483,4,["self","e","when","label"]),("stmt",486,2,["self","s"])] ["args","clauses","code","effects","exprs","fn","free","jumps","kt","labels","locals_","made","of_lid","places","region_count","region_of_label","regions","ret_label","ret_local","stmts","store","unit"]
noncomputable def Pe(P:Params):List Obj:=ds m6 187 557 1366 [("take_temp",488,2,["em","kind","pool"]),("give_temp",494,2,["em","place","kind","pool"]),("emit_expr",501,2,["em","e","rule"]),("emit_effect",506,2,["em","e","rule"]),("emit_place",514,3,["em","e","mode","rule"]),("emit_copy",520,2,["em","e","place"]),("emit_jump",525,4,["em","e","when","label","rule"]),("local_of",535,2,["em","lid","place"])]
noncomputable def Rc(P:Params):List Obj:=ds m6 195 613 1442 [("by_ref",542,2,["em","lid","var"]),("inner_nullable",545,2,["kt","k"]),("box_var",549,2,["em","k"])]
noncomputable def Q1(P:Params):List Obj:=[dW [er P "+" 1469 635,er P "-" 1470 636,er P "*" 1471 637,er P "/" 1472 638,er P "%" 1473 639,er P "&" 1474 640,er P "|" 1475 641,er P "^" 1476 642,er P "<<" 1477 643,er P ">>" 1478 644] 10,oTup [(vi 88 230),(vi 88 230),(vi 214 324),(vi 215 326)],oTup [(vi 89 232),(vi 89 232),(vi 218 332),(vi 219 334)],oTup [(vi 90 234),(vi 90 234),(vi 216 328),(vi 217 330)],oTup [(vi 91 236),(vi 92 238),(vi 91 236),(vi 92 238)],oTup [(vi 93 240),(vi 94 242),(vi 93 240),(vi 94 242)],oTup [(vi 95 244),(vi 95 244),(vi 95 244),(vi 95 244)],oTup [(vi 96 246),(vi 96 246),(vi 96 246),(vi 96 246)],oTup [(vi 97 248),(vi 97 248),(vi 97 248),(vi 97 248)],oTup [(vi 98 250),(vi 98 250),(vi 98 250),(vi 98 250)],oTup [(vi 99 252),(vi 100 254),(vi 99 252),(vi 100 254)]]
noncomputable def NW(P:Params):List Obj:=[dW [er P "==" 1490 646,er P "!=" 1492 647,er P "<" 1494 648,er P ">" 1496 649,er P "<=" 1498 650,er P ">=" 1500 651] 6,oTup [(vi 65025 336),(vi 65025 336),(vi 0 1491)],oTup [(vi 65025 336),(vi 65025 336),(vi 1 1493)],oTup [(vi 65028 342),(vi 65029 344),(vi 0 1495)],oTup [(vi 65026 338),(vi 65027 340),(vi 0 1497)],oTup [(vi 65026 338),(vi 65027 340),(vi 1 1499)],oTup [(vi 65028 342),(vi 65029 344),(vi 1 1501)]]
noncomputable def N3(P:Params):List Obj:=[dW [er P "==" 1509 653,er P "!=" 1510 654,er P "<" 1511 655,er P "<=" 1512 656,er P ">" 1513 657,er P ">=" 1514 658] 6,oTup [(vi 59 210),(vi 59 210),(vi 64 220),(vi 64 220)],oTup [(vi 64 220),(vi 64 220),(vi 59 210),(vi 59 210)],oTup [(vi 63 218),(vi 68 228),(vi 60 212),(vi 65 222)],oTup [(vi 62 216),(vi 67 226),(vi 61 214),(vi 66 224)],oTup [(vi 61 214),(vi 66 224),(vi 62 216),(vi 67 226)],oTup [(vi 60 212),(vi 65 222),(vi 63 218),(vi 68 228)]]
noncomputable def OK(P:Params):List Obj:=[dW [⟨Int.ofNat 3,(vi 3 465),(.ref 660)⟩,⟨Int.ofNat 4,(vi 4 467),(.ref 661)⟩,⟨Int.ofNat 5,(vi 5 469),(.ref 662)⟩,⟨Int.ofNat 6,(vi 6 471),(.ref 663)⟩,⟨Int.ofNat 2,(vi 2 463),(.ref 664)⟩,⟨Int.ofNat 7,(vi 7 473),(.ref 665)⟩,⟨Int.ofNat 8,(vi 8 475),(.ref 666)⟩,⟨Int.ofNat 9,(vi 9 477),(.ref 667)⟩,⟨Int.ofNat 10,(vi 10 479),(.ref 668)⟩] 9,oTup [(vi 103 260),(vi 179 300),(vi 130 280)],oTup [(vi 210 320),(vi 180 302),(vi 134 288)],oTup [(vi 104 262),(vi 181 304),(vi 131 282)],oTup [(vi 209 318),(vi 182 306),(vi 135 290)],oTup [(vi 209 318),(vi 182 306),(vi 135 290)],oTup [(vi 105 264),(vi 183 308),(vi 132 284)],oTup [(vi 109 268),(vi 184 310),(vi 136 292)],oTup [(vi 106 266),(vi 185 312),(vi 133 286)],oTup [(vi 110 270),(vi 186 314),(vi 137 294)]]++(ds m7 203 669 1532 [("signed_bits",557,2,["n","bits","half"]),("is_wide",560,1,["k"])])
noncomputable def NG(P:Params):List Obj:=ds m7 205 683 1548 [("emit_const",562,3,["em","k","value","pk"]),("emit_default",574,2,["em","k","pk","place"])]
noncomputable def QT(P:Params):List Obj:=cx P m7 "EmitConst" 586 207 433 697 1568 [("emit",588,3,["self","em","e"])] []
noncomputable def OD(P:Params):List Obj:=cx P m7 "EmitDefault" 590 208 433 716 1593 [("emit",592,3,["self","em","e"])] []
noncomputable def PZ(P:Params):List Obj:=cx P m7 "EmitTypeof" 594 209 433 735 1618 [("emit",596,3,["self","em","e"])] []
noncomputable def Ra(P:Params):List Obj:=cx P m7 "ConstEffect" 599 210 433 754 1643 [("emit",601,3,["self","em","e"])] []
noncomputable def QI(P:Params):List Obj:=cx P m7 "ConstJump" 603 211 454 773 1668 [("jump",605,5,["self","em","e","when","label"])] []
noncomputable def Oo(P:Params):List Obj:=dfn (stm 212) "is_unsigned" "is_unsigned" 608 2 ["em","k","pk"] 3 m7 792 1695
noncomputable def PK(P:Params):List Obj:=cx P m7 "EmitUnary" 611 213 433 799 1704 [("emit",613,3,["self","em","e","op"])] []
noncomputable def N0(P:Params):List Obj:=dfn (stm 214) "emit_turned" "emit_turned" 628 1 ["em"] 1 m7 818 1730
noncomputable def Oc(P:Params):List Obj:=cx P m7 "NotJump" 631 215 454 825 1737 [("jump",633,5,["self","em","e","when","label"])] []
noncomputable def PB(P:Params):List Obj:=ds m7 216 844 1764 [("emit_sides",639,2,["em","e"]),("emit_shift",644,2,["em","e","most"])]
noncomputable def Qm(P:Params):List Obj:=cx P m7 "EmitBinary" 655 218 433 858 1781 [("emit",657,3,["self","em","e","no_sign","row","place"])] []
noncomputable def QL(P:Params):List Obj:=cx P m7 "BinaryJump" 673 219 454 877 1809 [("jump",675,5,["self","em","e","when","label","row","place"])] []
noncomputable def P7(P:Params):List Obj:=cx P m7 "EmitLogic" 686 220 433 896 1838 [("emit",688,3,["self","em","e","no","end"])] []
noncomputable def M8(P:Params):List Obj:=cx P m7 "AndJump" 697 221 454 915 1865 [("jump",699,5,["self","em","e","when","label"])] []
noncomputable def Qh(P:Params):List Obj:=cx P m7 "OrJump" 701 222 454 934 1892 [("jump",703,5,["self","em","e","when","label"])] []
noncomputable def PN(P:Params):List Obj:=ds m7 223 953 1919 [("short_jump",705,5,["em","e","ending","when","label","skip"]),("joins_loosely",714,2,["em","k","td"])]
noncomputable def O5(P:Params):List Obj:=cx P m7 "EmitCond" 721 225 433 967 1940 [("emit",723,3,["self","em","e","other","end","place"])] []
noncomputable def Oy(P:Params):List Obj:=dfn (stm 226) "emit_side" "emit_side" 738 3 ["em","e","place"] 3 m7 986 1968
noncomputable def N7(P:Params):List Obj:=cx P m7 "CondEffect" 742 227 433 993 1977 [("emit",744,3,["self","em","e","other","end"])] []
noncomputable def M7(P:Params):List Obj:=dfn (stm 228) "emit_number" "emit_number" 753 4 ["em","source","aim","checked","low","high","least","most","goes_in","row"] 10 m7 1012 2004
noncomputable def Q5(P:Params):List Obj:=cx P m7 "EmitConv" 770 229 433 1019 2020 [("emit",772,3,["self","em","e","inner","cv"])] []
noncomputable def PY(P:Params):List Obj:=dfn (stm 230) "emit_test" "emit_test" 790 3 ["em","e","k","inner"] 4 m7 1038 2047
noncomputable def N6(P:Params):List Obj:=cx P m7 "EmitIs" 796 231 433 1045 2057 [("emit",798,3,["self","em","e"])] []
noncomputable def Q2(P:Params):List Obj:=cx P m7 "IsJump" 802 232 454 1064 2082 [("jump",804,5,["self","em","e","when","label"])] []
noncomputable def P8(P:Params):List Obj:=cx P m7 "EmitAs" 807 233 433 1083 2109 [("emit",809,3,["self","em","e"])] []
noncomputable def Qb(P:Params):List Obj:=ds m7 234 1102 2134 [("install_e_consts",813,1,["em"]),("install_e_operators",819,1,["em"]),("install_e_convs",830,1,["em"])]
noncomputable def QA(P:Params):List Obj:=cx P m8 "EmitLocal" 836 238 433 1123 2157 [("emit",838,3,["self","em","e","lid"])] []
noncomputable def Pg(P:Params):List Obj:=[oTup [],oTup [(vi 3 2185),(vi 64 2186),(.ref 1142)],oTup [(vi 7 2189)],oTup [(vi 3 2187),(vi 8 2188),(.ref 1144)],oTup [],oTup [(vi 3 2190),(vi 65 2191),(.ref 1146)],oTup [(vi 7 2192),(vi 0 2193)],oTup [],oTup [(vi 2 2194),(vi 66 2195),(.ref 1149)],oTup [],oTup [(vi 2 2196),(vi 67 2197),(.ref 1151)],oTup [],oTup [(vi 2 2198),(vi 68 2199),(.ref 1153)],oTup [(vi 4 2200),(vi 20 2201)],oTup [],oTup [(vi 2 2202),(vi 69 2203),(.ref 1156)],oTup [],oTup [(vi 2 2204),(vi 51 2205),(.ref 1158)],oTup [(.ref 1143),(.ref 1145),(.ref 1147),(.ref 1148),(.ref 1150),(.ref 1152),(.ref 1154),(.ref 1155),(.ref 1157),(.ref 1159)]]++([oTup [(vi 8 2207),(vi 1 2208),(vi 9 2209),(vi 10 2210),(vi 7 2211),(vi 12 2212),(vi 4 2213),(vi 6 2214),(vi 3 2215),(vi 16 2216),(vi 20 2217),(vi 22 2218),(vi 23 2219),(vi 24 2220),(vi 17 2221),(vi 19 2222),(vi 18 2223),(vi 13 2224),(vi 2 2225),(vi 5 2226),(vi 11 2227),(vi 21 2228)]]++(ds m9 242 1162 2230 [("_law_RANGES",849,0,[]),("_law_VALUES",851,0,[])]++([oTup [(vi 7 2242),(vi 8 2243),(vi 9 2244),(vi 10 2245),(vi 2 2246),(vi 3 2247),(vi 4 2248),(vi 5 2249),(vi 6 2250),(vi 16 2251)]]++([oTup [(vi 7 2253),(vi 9 2254),(vi 1 2255),(vi 2 2256),(vi 16 2257),(vi 17 2258),(vi 18 2259),(vi 19 2260),(vi 4 2261),(vi 10 2262)]]++([oTup [(vi 7 2264),(vi 13 2265),(vi 16 2266),(vi 17 2267),(vi 18 2268),(vi 19 2269),(vi 20 2270),(vi 21 2271),(vi 22 2272),(vi 23 2273),(vi 12 2274)]]++([oTup [(s "==" 2276),(s "!=" 2277),(s "<" 2278),(s ">" 2279),(s "<=" 2280),(s ">=" 2281)]]))))))
noncomputable def OB(P:Params):List Obj:=ds m9 248 1180 2283 [("_law_pick",857,2,["w","count","digit"]),("_law_turn",861,1,["w"]),("_law_shut",865,2,["w","k"]),("_law_under",867,2,["w","k"]),("_law_leaf",869,2,["w","k","sort","values","value","lid"]),("_law_tree",884,3,["w","k","deep"]),("_law_choice",894,3,["w","k","deep","test","first"]),("_law_number",898,3,["w","k","deep","form","checked","op","left"])]
noncomputable def OW(P:Params):List Obj:=ds m9 256 1236 2360 [("_law_truth",921,2,["w","deep","form","left","op","source","aim","k"]),("_law_alike",944,2,["w","deep","op","k","turned","left"]),("_law_nothing",954,1,["k"]),("_law_thing",956,3,["w","k","deep","form","checked","source"]),("_law_stop",985,2,["w","word"]),("_law_is",989,2,["exact","k"]),("_law_blank",991,2,["w","k"]),("_law_box",994,3,["w","k","value"])]
noncomputable def Oe(P:Params):List Obj:=ds m9 264 1292 2438 [("_law_unbox",1000,3,["w","k","value"]),("_law_exact",1007,3,["op","x","y","times"]),("_law_fit",1024,4,["w","n","k","checked","low","high"]),("_law_mean",1031,2,["w","e","code","left","right","inner","first","thing","aim","found"]),("_law_binary",1072,4,["w","e","left","right","op","k","count"]),("_law_brought",1093,3,["w","e","value","way"]),("_law_WORDS",1104,0,[])]++([oTup [(vi 65 2514),(vi 66 2515),(vi 67 2516),(vi 68 2517),(vi 65027 2518),(vi 65029 2519),(vi 92 2520),(vi 94 2521),(vi 100 2522),(vi 215 2523),(vi 217 2524),(vi 219 2525)]])
noncomputable def Q9(P:Params):List Obj:=ds m9 272 1342 2527 [("_law_CONVS",1107,0,[]),("_law_signed",1109,2,["n","bits"]),("_law_cell",1112,3,["w","k","value","plain"]),("_law_seen",1121,3,["w","k","cell","plain"]),("_law_holds",1128,4,["w","op","a","b","word","x","y"]),("_law_two",1146,4,["w","op","a","b","word","bits","x","y","n","low"]),("_law_conv",1174,3,["w","op","a","bits","sign","how","n","low"])]
noncomputable def Nb(P:Params):List Obj:=ds m9 279 1391 2604 [("_law_other",1189,4,["m","op","arg","stack","a","found"]),("_law_load",1217,3,["m","place","stack","cell"]),("_law_branch",1225,3,["m","op","stack","b","full"]),("_law_run",1233,3,["m","code","labels","stack","at","op","arg","b","a"]),("_law_same",1271,2,["x","y"]),("_law_store",1275,0,["store","row","sorts","place"]),("law",1284,1,["script","store","unit","fn","w","aims","valued","em","wanted","turn","e","value","count","m","lid","place","stack"])]
noncomputable def nL:List Nat:=[15,22,22,22,22,42,54,66,78,90,90,91,92,104,139,195,244,244,265,286,300,340,340,361,382,403,417,438,459,557,613,634,645,652,659,683,697,716,735,754,773,792,799,818,825,844,858,877,896,915,934,953,967,986,993,1012,1019,1038,1045,1064,1083,1102,1123,1142,1180,1236,1292,1342,1391,1440]
noncomputable def tL:List Nat:=[187,244,300,356,362,393,409,425,441,457,513,546,577,616,673,739,807,811,865,899,921,973,1019,1058,1100,1138,1165,1194,1225,1366,1442,1469,1490,1509,1522,1548,1568,1593,1618,1643,1668,1695,1704,1730,1737,1764,1781,1809,1838,1865,1892,1919,1940,1968,1977,2004,2020,2047,2057,2082,2109,2134,2157,2183,2283,2360,2438,2527,2604,2693]
noncomputable def iL:List Nat:=[0,26,54,82,85,86,87,88,89,90,118,121,123,124,125,133,145,147,148,149,153,154,177,178,179,180,184,185,186,187,195,199,200,201,202,205,207,208,209,210,211,212,213,214,215,216,218,219,220,221,222,223,225,226,227,228,229,230,231,232,233,234,238,239,248,256,264,272,279,286]
noncomputable def fL:List Nat:=[255,253,253,28,231,214,214,214,214,253,225,216,223,299,243,258,19,248,228,81,316,208,233,236,232,86,223,225,599,253,101,251,137,155,260,65,246,246,246,246,248,32,247,30,248,62,249,250,248,248,248,66,249,32,248,39,248,33,246,248,246,97,247,242,254,255,253,232,244]
noncomputable def pL:List (Nat×Nat×Nat):=[(0,0,0),(28,28,9),(56,56,12),(84,84,10),(87,87,7),(88,92,20),(93,94,8),(95,96,8),(97,98,8),(99,100,8),(128,128,5),(131,131,8),(133,133,9),(134,134,10),(135,183,16),(238,239,23),(276,276,6),(278,278,10),(279,304,21),(305,314,22),(332,332,8),(333,345,44),(368,368,6),(369,378,22),(379,392,20),(393,404,24),(418,418,8),(419,422,30),(423,426,30),(427,487,16),(535,541,16),(552,552,8),(553,553,5),(554,554,7),(555,555,8),(560,561,29),(574,585,22),(586,589,34),(590,593,30),(594,598,49),(599,602,14),(603,607,32),(608,610,47),(611,627,29),(628,630,21),(631,638,60),(644,654,21),(655,672,37),(673,685,33),(686,696,20),(697,700,41),(701,704,41),(714,720,75),(721,737,26),(738,741,31),(742,752,20),(753,769,25),(770,789,37),(790,795,48),(796,801,28),(802,806,56),(807,812,38),(835,835,8),(836,845,34),(856,856,10),(898,920,63),(994,999,50),(1106,1106,13),(1174,1188,32),(1284,1327,78)]
noncomputable def obL(P:Params):List (List Obj):=[Sk P,[],[],[],R8 P,RH P,Sd P,R7 P,Rm P,[],Oh P,M4 P,QU P,QB P,QS P,PE P,[],Po P,OC P,PQ P,PA P,[],Qu P,N9 P,N8 P,QF P,P2 P,O7 P,Qq P,Pe P,Rc P,Q1 P,NW P,N3 P,OK P,NG P,QT P,OD P,PZ P,Ra P,QI P,Oo P,PK P,N0 P,Oc P,PB P,Qm P,QL P,P7 P,M8 P,Qh P,PN P,O5 P,Oy P,N7 P,M7 P,Q5 P,PY P,N6 P,Q2 P,P8 P,Qb P,QA P,Pg P,OB P,OW P,Oe P,Q9 P,Nb P]
noncomputable def kT:List (Value×Nat×Nat×Nat×Nat×Nat):=[(m0,0,0,0,0,0),(m0,26,3,0,0,0),(m0,54,3,0,0,0),(m0,82,3,0,0,0),(m1,84,3,0,0,0),(m1,85,6,1,0,0),(m1,86,9,2,0,0),(m1,87,12,3,0,0),(m1,88,15,4,0,0),(m1,89,18,5,0,0),(m2,116,18,5,0,0),(m2,119,18,5,0,0),(m2,121,18,5,0,0),(m2,122,18,5,0,0),(m2,123,21,5,0,0),(m2,131,45,5,0,0),(m3,142,66,5,0,0),(m3,144,66,5,0,0),(m3,145,69,5,0,0),(m3,146,72,5,0,0),(m4,148,78,5,0,0),(m4,149,81,5,0,0),(m5,171,81,5,0,0),(m5,172,84,5,0,0),(m5,173,87,5,0,0),(m5,174,90,5,0,0),(m6,177,96,5,0,0),(m6,178,99,5,1,0),(m6,179,102,5,1,1),(m6,180,105,5,1,1),(m6,188,129,5,1,1),(m7,191,138,5,1,1),(m7,192,138,5,1,1),(m7,193,138,5,1,1),(m7,194,138,5,1,1),(m7,197,144,5,1,1),(m7,199,150,5,1,1),(m7,200,153,5,2,1),(m7,201,156,5,3,1),(m7,202,159,5,4,1),(m7,203,162,5,5,1),(m7,204,165,5,5,2),(m7,205,168,5,5,2),(m7,206,171,5,6,2),(m7,207,174,5,6,2),(m7,208,177,5,6,3),(m7,210,183,5,6,3),(m7,211,186,5,7,3),(m7,212,189,5,7,4),(m7,213,192,5,8,4),(m7,214,195,5,8,5),(m7,215,198,5,8,6),(m7,217,204,5,8,6),(m7,218,207,5,9,6),(m7,219,210,5,9,6),(m7,220,213,5,10,6),(m7,221,216,5,10,6),(m7,222,219,5,11,6),(m7,223,222,5,11,6),(m7,224,225,5,12,6),(m7,225,228,5,12,7),(m7,226,231,5,13,7),(m8,229,240,5,13,7),(m8,230,243,5,14,7),(m9,238,249,5,14,7),(m9,246,273,5,14,7),(m9,254,297,5,14,7),(m9,262,318,5,14,7),(m9,269,339,5,14,7),(m9,276,360,5,14,7)]
noncomputable def nAt(j:Nat):Nat:=nL.getD j 0
noncomputable def tAt(j:Nat):Nat:=tL.getD j 0
noncomputable def iAt(j:Nat):Nat:=iL.getD j 0
noncomputable def pAt(j:Nat):Pos:=(fun p:Nat×Nat×Nat=>⟨p.1,0,p.2.1,p.2.2⟩) (pL.getD j (0,0,0))
noncomputable def rW(P:Params)(j:Nat):List Obj:=(obL P).getD j []
noncomputable def kAt(w:World)(j:Nat):cq:=(fun k:Value×Nat×Nat×Nat×Nat×Nat=>kx k.1 k.2.1 k.2.2.1 k.2.2.2.1 k.2.2.2.2.1 k.2.2.2.2.2 w) (kT.getD j (.none,0,0,0,0,0))
noncomputable def kBt(w:World)(j:Nat):cq:=(kAt w (j+1)).filter fun p=>Nat.blt p.1 (nAt j)
def PC(p:Program)(w:World)(os:OsState)(b:List Stmt)(g:Nat):Prop:=
 MQ GC p w boot_drawn os M0 (nAt g) 11 (some (.ref 6)) 1 (fL.getD g 0) (kAt w g) (nAt g) (tAt g) (Mr (sl (iAt g) (iAt (g+1)-iAt g)) b (pAt g) fq)=some (.next,lP (nAt g) (rW w.params g) (kBt w g),nAt (g+1),tAt (g+1),.body b kf,pAt (g+1))∧
 (kAt w (g+1)).map (fun p=>cH (lP (nAt g) (rW w.params g) (kBt w g)) p.1)=(kAt w (g+1)).map (fun p=>some p.2)
section
variable(p:Program)(w:World)(os:OsState)(b:List Stmt)
theorem RW:PC p w os b 0:=⟨by kernel_rfl,by kernel_rfl⟩
theorem RG:PC p w os b 1:=⟨by kernel_rfl,by kernel_rfl⟩
theorem Rk:PC p w os b 2:=⟨by kernel_rfl,by kernel_rfl⟩
theorem Si:PC p w os b 3:=⟨by kernel_rfl,by kernel_rfl⟩
theorem Ri:PC p w os b 4:=⟨by kernel_rfl,by kernel_rfl⟩
theorem Rx:PC p w os b 5:=⟨by kernel_rfl,by kernel_rfl⟩
theorem RR:PC p w os b 6:=⟨by kernel_rfl,by kernel_rfl⟩
theorem RE:PC p w os b 7:=⟨by kernel_rfl,by kernel_rfl⟩
theorem R3:PC p w os b 8:=⟨by kernel_rfl,by kernel_rfl⟩
theorem Rj:PC p w os b 9:=⟨by kernel_rfl,by kernel_rfl⟩
theorem Ot:PC p w os b 10:=by revert w;exact oD fun w r=>by cases r<;>exact⟨by kernel_rfl,by kernel_rfl⟩
theorem QD:PC p w os b 11:=by revert w;exact oD fun w r=>by cases r<;>exact⟨by kernel_rfl,by kernel_rfl⟩
theorem Pj:PC p w os b 12:=by revert w;exact oD fun w r=>by cases r<;>exact⟨by kernel_rfl,by kernel_rfl⟩
theorem PT:PC p w os b 13:=⟨by kernel_rfl,by kernel_rfl⟩
theorem Ng:PC p w os b 14:=⟨by kernel_rfl,by kernel_rfl⟩
theorem NJ:PC p w os b 15:=⟨by kernel_rfl,by kernel_rfl⟩
theorem Nv:PC p w os b 16:=⟨by kernel_rfl,by kernel_rfl⟩
theorem Qs:PC p w os b 17:=⟨by kernel_rfl,by kernel_rfl⟩
theorem Oj:PC p w os b 18:=⟨by kernel_rfl,by kernel_rfl⟩
theorem QY:PC p w os b 19:=⟨by kernel_rfl,by kernel_rfl⟩
theorem QJ:PC p w os b 20:=⟨by kernel_rfl,by kernel_rfl⟩
theorem PM:PC p w os b 21:=⟨by kernel_rfl,by kernel_rfl⟩
theorem Ow:PC p w os b 22:=⟨by kernel_rfl,by kernel_rfl⟩
theorem OV:PC p w os b 23:=⟨by kernel_rfl,by kernel_rfl⟩
theorem NT:PC p w os b 24:=⟨by kernel_rfl,by kernel_rfl⟩
theorem O0:PC p w os b 25:=⟨by kernel_rfl,by kernel_rfl⟩
theorem NH:PC p w os b 26:=⟨by kernel_rfl,by kernel_rfl⟩
theorem Na:PC p w os b 27:=⟨by kernel_rfl,by kernel_rfl⟩
theorem Rg:PC p w os b 28:=⟨by kernel_rfl,by kernel_rfl⟩
theorem O4:PC p w os b 29:=⟨by kernel_rfl,by kernel_rfl⟩
theorem QW:PC p w os b 30:=⟨by kernel_rfl,by kernel_rfl⟩
theorem PV:PC p w os b 31:=by revert w;exact oD fun w r=>by cases r<;>exact⟨by kernel_rfl,by kernel_rfl⟩
theorem M5:PC p w os b 32:=by revert w;exact oD fun w r=>by cases r<;>exact⟨by kernel_rfl,by kernel_rfl⟩
theorem O3:PC p w os b 33:=by revert w;exact oD fun w r=>by cases r<;>exact⟨by kernel_rfl,by kernel_rfl⟩
theorem Qk:PC p w os b 34:=by revert w;exact oD fun w r=>by cases r<;>exact⟨by kernel_rfl,by kernel_rfl⟩
theorem NA:PC p w os b 35:=⟨by kernel_rfl,by kernel_rfl⟩
theorem NP:PC p w os b 36:=⟨by kernel_rfl,by kernel_rfl⟩
theorem Rd:PC p w os b 37:=⟨by kernel_rfl,by kernel_rfl⟩
theorem PJ:PC p w os b 38:=⟨by kernel_rfl,by kernel_rfl⟩
theorem P1:PC p w os b 39:=⟨by kernel_rfl,by kernel_rfl⟩
theorem M9:PC p w os b 40:=⟨by kernel_rfl,by kernel_rfl⟩
theorem P6:PC p w os b 41:=⟨by kernel_rfl,by kernel_rfl⟩
theorem Oq:PC p w os b 42:=⟨by kernel_rfl,by kernel_rfl⟩
theorem Q8:PC p w os b 43:=⟨by kernel_rfl,by kernel_rfl⟩
theorem OZ:PC p w os b 44:=⟨by kernel_rfl,by kernel_rfl⟩
theorem Og:PC p w os b 45:=⟨by kernel_rfl,by kernel_rfl⟩
theorem Qi:PC p w os b 46:=⟨by kernel_rfl,by kernel_rfl⟩
theorem P9:PC p w os b 47:=⟨by kernel_rfl,by kernel_rfl⟩
theorem OH:PC p w os b 48:=⟨by kernel_rfl,by kernel_rfl⟩
theorem Qa:PC p w os b 49:=⟨by kernel_rfl,by kernel_rfl⟩
theorem Pc:PC p w os b 50:=⟨by kernel_rfl,by kernel_rfl⟩
theorem P4:PC p w os b 51:=⟨by kernel_rfl,by kernel_rfl⟩
theorem Nt:PC p w os b 52:=⟨by kernel_rfl,by kernel_rfl⟩
theorem Pa:PC p w os b 53:=⟨by kernel_rfl,by kernel_rfl⟩
theorem QN:PC p w os b 54:=⟨by kernel_rfl,by kernel_rfl⟩
theorem OM:PC p w os b 55:=⟨by kernel_rfl,by kernel_rfl⟩
theorem NY:PC p w os b 56:=⟨by kernel_rfl,by kernel_rfl⟩
theorem Q4:PC p w os b 57:=⟨by kernel_rfl,by kernel_rfl⟩
theorem Nr:PC p w os b 58:=⟨by kernel_rfl,by kernel_rfl⟩
theorem O8:PC p w os b 59:=⟨by kernel_rfl,by kernel_rfl⟩
theorem OU:PC p w os b 60:=⟨by kernel_rfl,by kernel_rfl⟩
theorem Qx:PC p w os b 61:=⟨by kernel_rfl,by kernel_rfl⟩
theorem NK:PC p w os b 62:=⟨by kernel_rfl,by kernel_rfl⟩
theorem Oz:PC p w os b 63:=⟨by kernel_rfl,by kernel_rfl⟩
theorem Pn:PC p w os b 64:=⟨by kernel_rfl,by kernel_rfl⟩
theorem Qo:PC p w os b 65:=⟨by kernel_rfl,by kernel_rfl⟩
theorem PO:PC p w os b 66:=⟨by kernel_rfl,by kernel_rfl⟩
theorem Pm:PC p w os b 67:=⟨by kernel_rfl,by kernel_rfl⟩
theorem MX:PC p w os b 68:=⟨by kernel_rfl,by kernel_rfl⟩
end
noncomputable def sV(P:Params):cq:=[(0,boot_o_0 P),(1,boot_o_1 P),(2,boot_o_2 P),(3,boot_o_3 P),(4,boot_o_4 P),(5,boot_o_5 P),(6,boot_o_6 P),(7,boot_o_7 P),(8,boot_o_8 P),(9,boot_o_9 P),(10,boot_o_10 P)]
noncomputable def p0:Pos:=⟨0,0,0,0⟩
def At(w:World)(s₀:Shared)(os:OsState)(g:Nat):Prop:=
 ∃h:Heap,Reach w s₀ ⟨h,#[],boot_drawn,tAt g,os⟩ (restOf (body.drop (iAt g)) kf (.body body kf) (pAt g) [topFrame fq])∧h.objs.size=nAt g∧EIn h (kAt w g)∧
  ∀j,j<g→∀a o,cH (lP (nAt j) (rW w.params j) []) a=some o→among M0 a=false→h.objs[a]?=some o
theorem GK{w:World}{h h':Heap}{g:Nat}{K':cq}(hF:∀j,j<g→∀a o,cH (lP (nAt j) (rW w.params j) []) a=some o→among M0 a=false→h.objs[a]?=some o)
  (fr:∀a,a<h.objs.size→a∉M0→h'.objs[a]?=h.objs[a]?) (hK':EIn h' (lP (nAt g) (rW w.params g) K')) (l:Nat) (hl:l<g+1) (a:Nat) (o:Obj) (ha:cH (lP (nAt l) (rW w.params l) []) a=some o) (hm:among M0 a=false):h'.objs[a]?=some o:=by
 rcases Nat.lt_succ_iff_lt_or_eq.mp hl with q|q
 ·have old:=hF l q a o ha hm
  exact (fr a (Array.getElem?_eq_some_iff.mp old).1 (zQ _ hm)).trans old
 ·subst q
  exact hK' a o ((congrArg (cH · a) (tC K' _ _ [])).trans (sL _ ha))
theorem At.next{w:World}{s₀:Shared}{os:OsState}{g:Nat}(A:At w s₀ os g)(hi:Nat.ble (iAt g) (iAt (g+1))=true)(P:PC pw w os body g):At w s₀ os (g+1):=by
 obtain⟨hp,hsub⟩:=P
 refine A.elim fun h A=>?_
 rw[←qx]at hp
 refine (oq _ hp (.here A.2.1 A.2.2.1 (Nat.le_refl _))).elim fun h' e=>?_
 have e1:=e.1
 rw[←Fy]at e1
 have ei:iAt g+(iAt (g+1)-iAt g)=iAt (g+1):=Nat.add_sub_of_le (Nat.le_of_ble_eq_true hi)
 exact⟨h',fun N r q=>A.1 _ r (Fu (iAt g) (iAt (g+1)-iAt g)▸piece_app (rest:=body.drop (iAt g+(iAt (g+1)-iAt g))) e1 (ei▸q)),e.2.1,e.2.2.1.g7 hsub,GK A.2.2.2 (A.2.1▸e.2.2.2.2) e.2.2.1⟩
noncomputable abbrev AtG(w:World)(os:OsState):=At w ⟨boot_heap w.params,#[],boot_drawn,boot_toks,os⟩ os
theorem KN(w:World)(os:OsState)(A:AtG w os 0):AtG w os 69:=
 A|>.next rfl (RW pw w os body)|>.next rfl (RG pw w os body)|>.next rfl (Rk pw w os body)|>.next rfl (Si pw w os body)|>.next rfl (Ri pw w os body)|>.next rfl (Rx pw w os body)|>.next rfl (RR pw w os body)|>.next rfl (RE pw w os body)|>.next rfl (R3 pw w os body)|>.next rfl (Rj pw w os body)|>.next rfl (Ot pw w os body)|>.next rfl (QD pw w os body)|>.next rfl (Pj pw w os body)|>.next rfl (PT pw w os body)|>.next rfl (Ng pw w os body)|>.next rfl (NJ pw w os body)|>.next rfl (Nv pw w os body)|>.next rfl (Qs pw w os body)|>.next rfl (Oj pw w os body)|>.next rfl (QY pw w os body)|>.next rfl (QJ pw w os body)|>.next rfl (PM pw w os body)|>.next rfl (Ow pw w os body)|>.next rfl (OV pw w os body)|>.next rfl (NT pw w os body)|>.next rfl (O0 pw w os body)|>.next rfl (NH pw w os body)|>.next rfl (Na pw w os body)|>.next rfl (Rg pw w os body)|>.next rfl (O4 pw w os body)|>.next rfl (QW pw w os body)|>.next rfl (PV pw w os body)|>.next rfl (M5 pw w os body)|>.next rfl (O3 pw w os body)|>.next rfl (Qk pw w os body)|>.next rfl (NA pw w os body)|>.next rfl (NP pw w os body)|>.next rfl (Rd pw w os body)|>.next rfl (PJ pw w os body)|>.next rfl (P1 pw w os body)|>.next rfl (M9 pw w os body)|>.next rfl (P6 pw w os body)|>.next rfl (Oq pw w os body)|>.next rfl (Q8 pw w os body)|>.next rfl (OZ pw w os body)|>.next rfl (Og pw w os body)|>.next rfl (Qi pw w os body)|>.next rfl (P9 pw w os body)|>.next rfl (OH pw w os body)|>.next rfl (Qa pw w os body)|>.next rfl (Pc pw w os body)|>.next rfl (P4 pw w os body)|>.next rfl (Nt pw w os body)|>.next rfl (Pa pw w os body)|>.next rfl (QN pw w os body)|>.next rfl (OM pw w os body)|>.next rfl (NY pw w os body)|>.next rfl (Q4 pw w os body)|>.next rfl (Nr pw w os body)|>.next rfl (O8 pw w os body)|>.next rfl (OU pw w os body)|>.next rfl (Qx pw w os body)|>.next rfl (NK pw w os body)|>.next rfl (Oz pw w os body)|>.next rfl (Pn pw w os body)|>.next rfl (Qo pw w os body)|>.next rfl (PO pw w os body)|>.next rfl (Pm pw w os body)|>.next rfl (MX pw w os body)
noncomputable def k15(P:Params):cq:=(14,o14)::(13,o13)::(12,BD [])::(11,oTup [])::sV P
noncomputable def Ka:Thread:=⟨Fast.tw11892475500146522536 Fast.tw14364793385576792824 (.body body kf),.body body kf,p0,[topFrame fq]⟩
theorem Hz:Ka=⟨denote treeTable (.body body kf),.body body kf,p0,[topFrame fq]⟩:=by
 unfold Ka
 rw[←Fast.te11892475500146522536,←Fast.te14364793385576792824]
theorem B6(w:World)(os:OsState):goD GC pw w boot_drawn os M0 11 11 (some (.ref 6)) 12 (sV w.params) 11 181 (topStub pw)=some (k15 w.params,15,187,Ka):=by kernel_rfl
theorem uC(w:World)(os:OsState):MQ GC pw w boot_drawn os M0 15 11 (some (.ref 6)) 1 1 (k15 w.params) 15 187 (blockOf body kf (.body body kf) p0 [topFrame fq])=some (.next,k15 w.params,15,187,.body body kf,p0):=by kernel_rfl
theorem zN(w:World):(kAt w 0).map (fun p=>cH (k15 w.params) p.1)=(kAt w 0).map (fun p=>some p.2):=by kernel_rfl
theorem pP(P:Params):(boot_heap P).objs.size=11:=by kernel_rfl
theorem AI(P:Params):(sV P).map (fun p=>(boot_heap P).objs[p.1]?)=(sV P).map (fun p=>some p.2):=by kernel_rfl
theorem boot_in(P:Params):EIn (boot_heap P) (sV P):=fun a o ea=>xC (f:=fun a=>(boot_heap P).objs[a]?) (AI P) ea
theorem Sa(w:World)(os:OsState):AtG w os 0:=by
 have g:=B6 w os
 rw[←qx]at g
 obtain⟨h₁,e₁,hs₁,hK₁,_⟩:=zM _ g (.here (pP w.params) (boot_in _) (Nat.le_refl _))
 have b:=uC w os
 rw[←qx]at b
 obtain⟨h₂,e₂,hs₂,hK₂,_⟩:=oq _ b (.here hs₁ hK₁ (Nat.le_refl _))
 refine ⟨h₂,fun N r q=>?_,hs₂,hK₂.g7 (zN w),fun j hj=>absurd hj (Nat.not_lt_zero _)⟩
 have z:=piece_block e₂ q
 rw[←Hz]at z
 exact⟨_,go_top e₁ z⟩
theorem Lz(w:World)(os:OsState):AtG w os 69:=KN w os (Sa w os)
end Mine.Internal
end
section
open PySem PySem.W PyProof.Rows
namespace Mine.Internal
noncomputable abbrev roadP:Program:=PySem.Challenge.rw_sj0013_01.row.prog
theorem road0:readsOut roadP roadP.main.body "vars"=false:=by
 rw[Fast.te13343964577679436407]
 kernel_rfl
theorem road1:readsOut roadP roadP.main.body "dir"=false:=by
 rw[Fast.te13343964577679436407]
 kernel_rfl
theorem road2:readsOut roadP roadP.main.body "locals"=false:=by
 rw[Fast.te13343964577679436407]
 kernel_rfl
theorem roads:(["vars","dir","locals"]:List Str).filter (readsOut roadP roadP.main.body)=[]:=by
 rw[List.filter,road0,List.filter,road1,List.filter,road2]
 rfl
theorem Sl:PySem.Challenge.rw_sj0013_01.wellSaid=true:=by
 unfold OpenLaw.wellSaid OpenRow.wellSaid OpenRow.partSaid looksOpen
 repeat' (with_reducible apply look_both)
 all_goals (
  (try rw[roads])
  (try rw[Fast.te8377067652309620493])
  (try rw[Fast.te8326940854005059898])
  (try rw[Fast.te17119622794617984870])
  (try rw[Fast.te6984425678791042302])
  (try rw[Fast.te797321630700447069])
  (try rw[Fast.te10792542408131684335])
  (try rw[Fast.te8179353310426384613])
  (try rw[Fast.te16286561074155671207])
  (try rw[Fast.te17868728402115742887])
  (try rw[Fast.te18344453789297297638])
  (try rw[Fast.named_eq])
  decide+kernel)
end Mine.Internal
end
section
open PySem PySem.W PyProof.Rows PySem.Calls
namespace Mine.Internal
structure TF (w:World)(h:Heap):Prop where
 size:1440≤h.objs.size
 K:∀a o,cH (kAt w 69) a=some o→h.get? a=alive o
 F:∀j,j<69→∀a o,cH (lP (nAt j) (rW w.params j) []) a=some o→among M0 a=false→h.get? a=alive o
theorem Bz:body.drop (iAt 69)=[]:=by kernel_rfl
theorem uS{o:Obj}{h:Heap}{a:Nat}(e:h.objs[a]?=some o):h.get? a=alive o:=df e
theorem C3(w:World)(os:OsState):∃N h,TR w N ⟨boot_heap w.params,#[],boot_drawn,boot_toks,os⟩ (topStub pw)=some ⟨h,#[],boot_drawn,2693,os⟩∧h.objs.size=1440∧TF w h:=by
 obtain⟨h,R,hs,hK,hF⟩:=Lz w os
 rw[Bz]at R
 obtain⟨N,e⟩:=R 5 ⟨h,#[],boot_drawn,2693,os⟩ rfl
 exact⟨N,h,e,hs,⟨Nat.le_of_eq hs.symm,fun a o q=>uS (hK a o q),fun j hj a o q m=>uS (hF j hj a o q m)⟩⟩
theorem oJ:opening pw=plainProg pw.main.scope.names:=by kernel_rfl
theorem g4(s:Shared):fenceModules? pw s=some s:=by kernel_rfl
theorem opened(w:World):(∃s,AfterRun (opening pw) w s)∧∀s,AfterRun (opening pw) w s→fenceModules? pw s=some s∧s.asleep∧∃os,s=⟨boot_heap w.params,#[],boot_drawn,boot_toks,os⟩:=by
 have b:=boot_open (p:=pw) (N:=600) oJ rfl g4 w
 obtain⟨s₀,h1,h2⟩:=Option.map_eq_some_iff.mp b
 obtain⟨s,h3,h4⟩:=Option.bind_eq_some_iff.mp h1
 rw[←table_eq_tree]at h3
 have A:=AfterImport.of_importEnds h3
 refine ⟨⟨s,A⟩,fun s' hs'=>?_⟩
 obtain rfl:s'=s:=AfterImport.unique hs' A
 obtain rfl:s'=s₀:=Option.some.inj ((g4 s').symm.trans h4)
 refine ⟨g4 _,Shared.asleep_of_life rfl A.life,?_⟩
 obtain⟨hp,g,d,t,os⟩:=s'
 simp only[Prod.mk.injEq]at h2
 obtain⟨rfl,rfl,rfl,rfl⟩:=h2
 exact⟨os,rfl⟩
noncomputable def kat(w:World)(a:Nat):Obj:=(cH (kAt w 69) a).getD default
noncomputable def hS(w:World):Heap:=⟨#[kat w 0,oTup [],kat w 2,kat w 3,kat w 4],{}⟩
section
variable{h h':Heap}{a:Addr}
theorem cZ(e:h.get? a=h'.get? a):h.isNs a=h'.isNs a:=by unfold Heap.isNs;rw[e]
theorem b6(e:h.get? a=h'.get? a):h.nsMap a=h'.nsMap a:=by funext x;unfold Heap.nsMap;rw[e]
theorem fW(e:h.get? a=h'.get? a):h.nsKeys a=h'.nsKeys a:=by unfold Heap.nsKeys;rw[e]
theorem pj(e:h.get? a=h'.get? a):h.nsPairs a=h'.nsPairs a:=by unfold Heap.nsPairs;rw[e]
end
theorem Pw(w:World):cH (kAt w 69) 0=some (kat w 0):=by kernel_rfl
theorem M6(w:World):cH (kAt w 69) 2=some (kat w 2):=by kernel_rfl
theorem Oi(w:World):cH (kAt w 69) 3=some (kat w 3):=by kernel_rfl
theorem Q0(w:World):cH (kAt w 69) 4=some (kat w 4):=by kernel_rfl
section
variable{w:World}{h:Heap}(T:TF w h)
include T
theorem TF.e0:h.get? builtinsNs=(hS w).get? builtinsNs:=(T.K _ _ (Pw w)).trans (df (h:=hS w) (a:=0) rfl).symm
theorem TF.e2:h.get? cStatics=(hS w).get? cStatics:=(T.K _ _ (M6 w)).trans (df (h:=hS w) (a:=2) rfl).symm
theorem TF.e3:h.get? mainGlobals=(hS w).get? mainGlobals:=(T.K _ _ (Oi w)).trans (df (h:=hS w) (a:=3) rfl).symm
theorem TF.e4:h.get? 4=(hS w).get? 4:=(T.K _ _ (Q0 w)).trans (df (h:=hS w) (a:=4) rfl).symm
end
theorem AQ(w:World):(hS w).isNs mainGlobals=true:=by kernel_rfl
theorem Cf(w:World):(hS w).isNs builtinsNs=true:=by kernel_rfl
theorem Ah(w:World):(hS w).bltView=bltViewBooted:=by kernel_rfl
theorem rY(w:World):staticsOk (importedModules pw.main.body) (boot_heap w.params) (hS w)=true:=by kernel_rfl
theorem Cr(w:World):(hS w).accountedOkI (importedModules pw.main.body)=true:=by kernel_rfl
theorem vP(w:World):namesBound pw (hS w)=true:=by
 unfold namesBound
 rw[Fast.te18344453789297297638,Fast.sDec_eq]
 kernel_rfl
theorem AK(w:World):laidKept (boot_heap w.params) (hS w)=true:=by kernel_rfl
theorem vB(w:World):(hS w).nsMap mainGlobals "__builtins__"=some (.ref 4):=by kernel_rfl
theorem sG(w:World):(boot_heap w.params).nsMap mainGlobals "__annotations__"=some (.ref 6):=by kernel_rfl
section
variable{w:World}{h:Heap}(T:TF w h)
include T
theorem TF.nG:h.isNs mainGlobals=true:=(cZ T.e3).trans (AQ w)
theorem TF.CL:h.isNs builtinsNs=true:=(cZ T.e0).trans (Cf w)
theorem TF.view:h.bltView=bltViewBooted:=by
 have e:h.bltView=(hS w).bltView:=by unfold Heap.bltView;rw[pj T.e0]
 exact e.trans (Ah w)
theorem TF.statics:staticsBehindTheTop (importedModules pw.main.body) (boot_heap w.params) h:=by
 refine statics_of_ok ?_
 have:=rY w
 unfold staticsOk at this⊢
 rw[cZ T.e2,fW T.e2,b6 T.e2]
 exact this
theorem TF.acc:staticsAccountedI h (importedModules pw.main.body):=by
 refine Heap.accountedI_of_ok ?_
 have:=Cr w
 unfold Heap.accountedOkI at this⊢
 rw[cZ T.e2,fW T.e2,b6 T.e2]
 exact this
theorem TF.names:∀x v,globalOf h x=some v→x∈startupNames∨x∈pw.boundNames:=by
 refine names_of_bound ?_
 have:=vP w
 unfold namesBound at this⊢
 rw[cZ T.e3,fW T.e3]
 exact this
theorem TF.laid:∀n∈laidNames,globalOf h n=globalOf (boot_heap w.params) n:=by
 refine laid_of_kept ?_
 have:=AK w
 unfold laidKept at this⊢
 rw[cZ T.e3,b6 T.e3]
 exact this
theorem TF.bmain:builtinsGlobalAsBooted h:=by
 refine ⟨4,kat w 4,(Pin.globalOf_eq T.nG _).trans ?_,?_,?_,?_⟩
 ·rw[b6 T.e3];exact vB w
 ·exact T.e4.trans (by kernel_rfl)
 ·kernel_rfl
 ·kernel_rfl
theorem TF.blt(x:Str)(hx:x≠"__name__"):h.nsMap builtinsNs x=bootBuiltins x:=Heap.of_bltView T.CL T.view x hx
end
theorem IT(w:World)(os:OsState)(hz:(⟨boot_heap w.params,#[],boot_drawn,boot_toks,os⟩:Shared).asleep):
  ∃h,TopRan pw w ⟨boot_heap w.params,#[],boot_drawn,boot_toks,os⟩ ⟨h,#[],boot_drawn,2693,os⟩∧TF w h∧h.objs.size=1440∧(⟨h,#[],boot_drawn,2693,os⟩:Shared).asleep:=by
 obtain⟨N,h,e,hs,T⟩:=C3 w os
 unfold TR at e
 rw[←table_eq_tree]at e
 obtain⟨a,l,o,fr⟩:=topRun_spec _ _ _ _ hz e
 refine ⟨h,⟨a,l,Shared.rest_eq o,fun b ob hb hn=>fr b ob ?_ (fun q=>hn (.inl q)) (fun q=>hn (.inr (.inl q))) (fun q=>hn (.inr (.inr ?_))) hb,T.acc,T.statics,Pin.keysAreStrs_of T.nG,
  fun x hx=>(Pin.builtinOf_eq T.CL x).trans (T.blt x hx),T.bmain,fun g hg=>by simp at hg,T.names,T.laid⟩,T,hs,Shared.asleep_of_life l hz⟩
 ·have:=Heap.lt_size hb
  rwa [pP]at this
 ·show globalOf (boot_heap w.params) "__annotations__"=some (.ref b)
  rw[←q]
  exact (Pin.globalOf_eq (by kernel_rfl) _).trans (sG w)
end Mine.Internal
end
section
open PySem PySem.W PyProof.Rows PySem.Calls PySem.TablesWhole
namespace Mine.Internal
theorem oy(top:Scope)(cx:TablesWhole.Ctx)(sc:Scope):∀a b:List Stmt,wSs holds top cx sc (a++b)=(wSs holds top cx sc a&&wSs holds top cx sc b)
 |[],b=>by rw[List.nil_append];show _=(true&&_);rw[Bool.true_and]
 |s::a,b=>by
  rw[List.cons_append]
  show (wS holds top cx sc s&&wSs holds top cx sc (a++b))=((wS holds top cx sc s&&wSs holds top cx sc a)&&wSs holds top cx sc b)
  rw[oy top cx sc a b,Bool.and_assoc]
theorem Ii(i j:Nat):body.drop i=sl i j++body.drop (i+j):=by
 unfold sl
 rw[←List.drop_drop]
 exact (List.take_append_drop j _).symm
noncomputable abbrev tcx:TablesWhole.Ctx:=⟨pw.main.scope,[],[],[],none⟩
theorem ba{i j:Nat}(a:wSs holds pw.main.scope tcx pw.main.scope (sl i j)=true)(b:wSs holds pw.main.scope tcx pw.main.scope (body.drop (i+j))=true):wSs holds pw.main.scope tcx pw.main.scope (body.drop i)=true:=by
 rw[Ii i j,oy,a,b];rfl
theorem D9:wSs gather pw.main.scope tcx pw.main.scope body=[]:=by
 rw[Fast.te16421684217811934046,Fast.te12652042256554560961]
 kernel_rfl
theorem zi:noTwice pw.main.scope=true:=by
 rw[Fast.te8331962902438777018]
 kernel_rfl
theorem OO:wSs holds pw.main.scope tcx pw.main.scope (sl 0 60)=true:=by
 unfold holds
 rw[Fast.te16421684217811934046,Fast.te15985051520779696433]
 kernel_rfl
theorem J1:wSs holds pw.main.scope tcx pw.main.scope (sl 60 60)=true:=by
 unfold holds
 rw[Fast.te16421684217811934046,Fast.te15985051520779696433]
 kernel_rfl
theorem FJ:wSs holds pw.main.scope tcx pw.main.scope (sl 120 30)=true:=by
 unfold holds
 rw[Fast.te16421684217811934046,Fast.te15985051520779696433]
 kernel_rfl
theorem Hj:wSs holds pw.main.scope tcx pw.main.scope (sl 150 37)=true:=by
 unfold holds
 rw[Fast.te16421684217811934046,Fast.te15985051520779696433]
 kernel_rfl
theorem Ia:wSs holds pw.main.scope tcx pw.main.scope (sl 187 16)=true:=by
 unfold holds
 rw[Fast.te16421684217811934046,Fast.te15985051520779696433]
 kernel_rfl
theorem IK:wSs holds pw.main.scope tcx pw.main.scope (sl 203 6)=true:=by
 unfold holds
 rw[Fast.te16421684217811934046,Fast.te15985051520779696433]
 kernel_rfl
theorem II:wSs holds pw.main.scope tcx pw.main.scope (sl 209 13)=true:=by
 unfold holds
 rw[Fast.te16421684217811934046,Fast.te15985051520779696433]
 kernel_rfl
theorem Hr:wSs holds pw.main.scope tcx pw.main.scope (sl 222 18)=true:=by
 unfold holds
 rw[Fast.te16421684217811934046,Fast.te15985051520779696433]
 kernel_rfl
theorem G5:wSs holds pw.main.scope tcx pw.main.scope (sl 240 10)=true:=by
 unfold holds
 rw[Fast.te16421684217811934046,Fast.te15985051520779696433]
 kernel_rfl
theorem Hv:wSs holds pw.main.scope tcx pw.main.scope (sl 250 8)=true:=by
 unfold holds
 rw[Fast.te16421684217811934046,Fast.te15985051520779696433]
 kernel_rfl
theorem He:wSs holds pw.main.scope tcx pw.main.scope (sl 258 4)=true:=by
 unfold holds
 rw[Fast.te16421684217811934046,Fast.te15985051520779696433]
 kernel_rfl
theorem IF:wSs holds pw.main.scope tcx pw.main.scope (sl 262 4)=true:=by
 unfold holds
 rw[Fast.te16421684217811934046,Fast.te15985051520779696433]
 kernel_rfl
theorem Gy:wSs holds pw.main.scope tcx pw.main.scope (sl 266 4)=true:=by
 unfold holds
 rw[Fast.te16421684217811934046,Fast.te15985051520779696433]
 kernel_rfl
theorem FH:wSs holds pw.main.scope tcx pw.main.scope (sl 270 4)=true:=by
 unfold holds
 rw[Fast.te16421684217811934046,Fast.te15985051520779696433]
 kernel_rfl
theorem Ik:wSs holds pw.main.scope tcx pw.main.scope (sl 274 3)=true:=by
 unfold holds
 rw[Fast.te16421684217811934046,Fast.te15985051520779696433]
 kernel_rfl
theorem Gv:wSs holds pw.main.scope tcx pw.main.scope (sl 277 3)=true:=by
 unfold holds
 rw[Fast.te16421684217811934046,Fast.te15985051520779696433]
 kernel_rfl
theorem H6:wSs holds pw.main.scope tcx pw.main.scope (sl 280 3)=true:=by
 unfold holds
 rw[Fast.te16421684217811934046,Fast.te15985051520779696433]
 kernel_rfl
theorem FU:wSs holds pw.main.scope tcx pw.main.scope (sl 283 3)=true:=by
 unfold holds
 rw[Fast.te16421684217811934046,Fast.te15985051520779696433]
 kernel_rfl
theorem Gh:wSs holds pw.main.scope tcx pw.main.scope (body.drop 286)=true:=by
 rw[show body.drop 286=[]by kernel_rfl]
 rfl
theorem B2:wSs holds pw.main.scope tcx pw.main.scope body=true:=(ba (i:=0) (j:=60) OO (ba (i:=60) (j:=60) J1 (ba (i:=120) (j:=30) FJ (ba (i:=150) (j:=37) Hj (ba (i:=187) (j:=16) Ia (ba (i:=203) (j:=6) IK (ba (i:=209) (j:=13) II (ba (i:=222) (j:=18) Hr (ba (i:=240) (j:=10) G5 (ba (i:=250) (j:=8) Hv (ba (i:=258) (j:=4) He (ba (i:=262) (j:=4) IF (ba (i:=266) (j:=4) Gy (ba (i:=270) (j:=4) FH (ba (i:=274) (j:=3) Ik (ba (i:=277) (j:=3) Gv (ba (i:=280) (j:=3) H6 (ba (i:=283) (j:=3) FU Gh))))))))))))))))))
theorem xa(m:Module)(t:wSs gather m.scope ⟨m.scope,[],[],[],none⟩ m.scope m.body=[])(n:noTwice m.scope=true)(b:wSs holds m.scope ⟨m.scope,[],[],[],none⟩ m.scope m.body=true):wModule holds m=true:=by
 unfold wModule
 show (true&&(noTwice m.scope&&(wSs holds m.scope ⟨m.scope,[],wSs gather m.scope ⟨m.scope,[],[],[],none⟩ m.scope m.body,[],none⟩ m.scope m.body&&true)))=true
 rw[t,n,b]
 rfl
theorem sY(p:Program)(m:wModule holds p.main=true)(a:p.modules=[])(b:p.parses=[])(c:p.harvested=[]):p.tablesWhole=true:=by
 unfold Program.tablesWhole wProgram
 rw[m,a,b,c]
 rfl
theorem whole:pw.tablesWhole=true:=sY pw (xa pw.main D9 zi B2) (by kernel_rfl) (by kernel_rfl) (by kernel_rfl)
end Mine.Internal
end
section
open PySem PySem.W PyProof.Rows PySem.Calls
namespace Mine.Internal
noncomputable abbrev rw0:OpenLaw:=PySem.Challenge.rw_sj0013_01
theorem w7:opensWell pw=true:=by kernel_rfl
noncomputable def iD:Stmt:=stm 285
noncomputable def xp:Obj:=oFn iD "law" "law" (s "law_sj0013_01" 2183) 1438
theorem L8(w:World):cH (lP (nAt 68) (rW w.params 68) []) 1439=some xp:=by kernel_rfl
theorem um(w:World):(hS w).nsMap mainGlobals "law"=some (.ref 1439):=by kernel_rfl
theorem H5:pw.theDef "law"=some (fParams iD,fBody iD,fScope iD):=by kernel_rfl
theorem qq:(fParams iD).defaults=[]:=by kernel_rfl
theorem MD:kwWritten? (fParams iD).kwonlyargs (fParams iD).kw_defaults=some []:=by kernel_rfl
theorem TF.law{w:World}{h:Heap}(T:TF w h):h.get? 1439=some xp:=T.F 68 (by decide) 1439 xp (L8 w) rfl
theorem TF.pinned{w:World}{h:Heap}(T:TF w h):isTheDefsW pw h "law":=
 ⟨1439,xp,_,fParams iD,fBody iD,fScope iD,(Pin.globalOf_eq T.nG _).trans ((congrFun (b6 T.e3) _).trans (um w)),T.law,rfl,H5,rfl,rfl,rfl,rfl,rfl,rfl,rfl,rfl,
  .inl ⟨qq,rfl⟩,[],MD,.inl ⟨rfl,rfl⟩⟩
def Walk:Prop:=∀(w:World) (s₀ s₁:Shared),TF w s₀.heap→(∃o,s₀.heap.get? sysModules=some o)→(∀b o,s₀.heap.get? b=some o→s₁.heap.get? b=some o)→s₁.gens= #[]→
 ∀args vs as,rw0.row.claim.pre args=true→WData.layableAll args=true→Laid [] w s₀ s₁ args vs as→
  wpAny (model pw w) callerA (PySem.call (.ref 1439) vs) (fun v s'=>v=.bool true∧OldK s₁.heap s'.heap∧s'.os=s₁.os∧AllBare s'.gens) (fun ζ ζ=>False) s₁
theorem zG(args:List WData):rw0.row.claim.post args (.bool true) args=true:=by kernel_rfl
theorem pf(H:Walk):rw0.Holds:=by
 refine holds_law Sl fun k1=>⟨k1,⟨[.list []],by decide+kernel,by decide+kernel⟩,⟨?_,w7,rfl⟩,?_,fun w=>⟨(opened w).1,fun s hs=>?_⟩⟩
 ·exact⟨rfl,rfl,rfl,rfl,rfl,whole⟩
 ·exact⟨[.list []],by decide+kernel,by decide+kernel⟩
 ·obtain⟨hf,hz,os,rfl⟩:=(opened w).2 s hs
  obtain⟨h,hT,T,hsz,hz'⟩:=IT w os hz
  refine ⟨_,hf,rfl,_,hT,?_,fun x hx=>(nomatch hx),fun x hx=>(nomatch hx),?_⟩
  ·intro n hn
   have e:n=rw0.row.name:=by split at hn<;>simp_all
   subst e
   exact T.pinned
  ·refine ClaimW.callFrom_of_specG (c:=rw0.row.claim) hz' rfl fun args hpre hlay ord hord=>?_
   obtain⟨⟨vs,s₁⟩,hlaid⟩:=Option.isSome_iff_exists.mp (layAllW_isSome (P:=w.params) (ord:=ord) (R:=[]) (cl:=classAt h) (fun c hc=>(nomatch hc)) args rw0.row.args ⟨h,#[],boot_drawn,2693,os⟩ (pre_splitW hpre).1)
   have keeps:=layAllW_keeps _ _ _ hlaid
   have hal:=layAllW_rest _ _ _ hlaid
   obtain⟨as,hrd,hin,hold⟩:=reads_layAllW hord _ _ _ hlaid hlay s₁.heap (fun ζ ζ e=>e)
   have L:Laid [] w ⟨h,#[],boot_drawn,2693,os⟩ s₁ args vs as:=⟨⟨ord,hord,hlaid⟩,hrd,hin,hold,keeps,hal.1,hal.2.2.1⟩
   refine ⟨vs,s₁,hlaid,?_⟩
   have nh:s₁.heap.Ns mainGlobals (h.nsMap mainGlobals):=(Heap.Ns.of_isNs T.nG).keeps keeps
   have hf1:h.nsMap mainGlobals rw0.row.name=some (.ref 1439):=(congrFun (b6 T.e3) _).trans (um w)
   have g1:=hal.1
   have hsys:∃o,h.get? sysModules=some o:=⟨boot_o_1 w.params,hT.2.2.2.1 1 (boot_o_1 w.params) (by kernel_rfl) (by
    rintro (q|q|q)
    ·cases q
    ·cases q
    ·rw[show globalOf (boot_heap w.params) "__annotations__"=some (.ref 6)from (Pin.globalOf_eq (by kernel_rfl) _).trans (sG w)]at q
     cases q)⟩
   have W:=H w ⟨h,#[],boot_drawn,2693,os⟩ s₁ T hsys keeps hal.1 args vs as hpre hlay L
   have good:∀v s',(v=.bool true∧OldK s₁.heap s'.heap∧s'.os=s₁.os∧AllBare s'.gens)→
     GoodWG rw0.row.claim (classAt h) (ExcName.means h) args s₁ (.ok (.ret v)) s':=by
    rintro v s' ⟨rfl,k,o,b⟩
    exact⟨.inl ⟨.bool true,.bool true,[],rfl,fun cls=>rfl,.bool true,zG args,fun ζ=>⟨List.nodup_nil,fun a ha=>(nomatch ha)⟩⟩,k,o,b⟩
   refine wpAny_bind (wpAny_nsGet nh ?_)
   rw[hf1]
   refine wpAny_bind (wpAny_mono W (fun v s' x=>wpAny_pure ?_) fun ζ ζ x=>x.elim)
   have z:=(good v s' x).laid (c:=rw0.row.claim) rfl rfl (fun a b=>ident_freeW rfl rfl rfl a b) L
   exact⟨_,rfl,z.1,z.2.1,z.2.2,fun q=>by cases q⟩
end Mine.Internal
end
section
namespace Mini.Internal
section
inductive V where
 |none
 |bool (b:Bool)
 |int (i:Int)
 |str (c:Nat)
 |tup (l:List V)
 |fl (l:List V)
 |cd (n:Nat)
 |ref (a:Nat)
noncomputable def V.ctorIdx(x:V):Nat:=V.casesOn x 0 (fun ζ=>1) (fun ζ=>2) (fun ζ=>3) (fun ζ=>4) (fun ζ=>5) (fun ζ=>6) (fun ζ=>7)
inductive O where
 |list (l:List V)
 |aM (l:List (Int×V))
 |aP (l:List (Nat×V))
 |inst (c:Nat) (l:List (Nat×V))
 |dS (l:List (V×V))
noncomputable def O.ctorIdx(x:O):Nat:=O.casesOn x (fun ζ=>0) (fun ζ=>1) (fun ζ=>2) (fun ζ ζ=>3) (fun ζ=>4)
noncomputable abbrev H:=List O
noncomputable abbrev Loc:=List (Option V)
mutual
noncomputable def V.beq:V→V→Bool
 |.none,.none=>true
 |.bool a,.bool b=>a==b
 |.int a,.int b=>decide (a=b)
 |.str a,.str b=>decide (a=b)
 |.tup l,.tup m=>V.sZ l m
 |_,_=>false
noncomputable def V.sZ:List V→List V→Bool
 |[],[]=>true
 |a::l,b::m=>V.beq a b&&V.sZ l m
 |_,_=>false
end
noncomputable def iy:Nat→V→Bool
 |_,.none=>true
 |_,.int _=>true
 |_,.str _=>true
 |n+1,.tup l=>l.all (iy n)
 |_,_=>false
noncomputable abbrev V.flat(v:V):Bool:=iy 4 v
noncomputable abbrev V.Jg(l:List V):Bool:=l.all (iy 4)
set_option genCtorIdx true in
inductive Op where
 |add|sub|mul|fdiv|mod|pow|shl|band|bor|bxor
 deriving DecidableEq
set_option genCtorIdx true in
inductive Cmp where
 |eq|ne|lt|le|gt|ge|inn|nin|isn|jh
mutual
inductive E where
 |loc (i:Nat)
 |cst (v:V)
 |gl (k:Nat)
 |bin (op:Op) (a b:E)
 |neg (a:E)
 |bop (isAnd:Bool) (l:List E)
 |cmp (op:Cmp) (a b:E)
 |ife (c:C) (a b:E)
 |attr (o:E) (f:Nat)
 |sub (o i:E)
 |tup (l:List E)
 |fl (l:List E)
 |aX (l:List E)
 |rep (l:List E) (n:E)
 |bE
 |nO
 |gG (ks:List Nat) (l:List E)
 |lx (n:Nat)
 |call (f:Nat) (l:List E)
 |new (c:Nat) (l:List E)
 |af (o:E) (m:Nat) (l:List E)
 |len (a:E)
 |abs (a:E)
 |isInt (a:E)
 |slice (a:E) (n:Nat)
inductive C where
 |e (e:E)
 |no (c:C)
 |bop (isAnd:Bool) (l:List C)
 |cmp (op:Cmp) (a b:E)
 |oQ (op op2:Cmp) (a b c:E)
end
inductive S where
 |asg (i:Nat) (e:E)
 |aC (o k e:E)
 |ae (o:E) (f:Nat) (e:E)
 |unp (is:List Nat) (e:E)
 |aug (i:Nat) (op:Op) (e:E)
 |gF (o k:E) (op:Op) (e:E)
 |ex (e:E)
 |ite (c:C) (a b:List S)
 |wh (c:C) (b:List S)
 |oX (i:Nat) (e:E) (b:List S)
 |forR (i:Nat) (e:E) (b:List S)
 |wW (i:Nat) (e:E) (b:List S)
 |ret (e:E)
 |iq
 |bad
inductive Flow where
 |next
 |ret (v:V)
noncomputable def Flow.ctorIdx(x:Flow):Nat:=Flow.casesOn x 0 (fun ζ=>1)
noncomputable abbrev LIM:Nat:=1048576
noncomputable def bitNot(x:Int):Int:= -x-1
noncomputable def bitAnd(x y:Int):Int:=
 match decide (0≤x),decide (0≤y)with
 |true,true=>(x.toNat &&& y.toNat:Nat)
 |true,false=>x-(x.toNat &&& (bitNot y).toNat:Nat)
 |false,true=>y-(y.toNat &&& (bitNot x).toNat:Nat)
 |false,false=>bitNot ((bitNot x).toNat ||| (bitNot y).toNat:Nat)
noncomputable def bitOr(x y:Int):Int:=bitNot (bitAnd (bitNot x) (bitNot y))
noncomputable def bitXor(x y:Int):Int:=bitOr x y-bitAnd x y
noncomputable def small(a:Int):Bool:=decide (-18446744073709551616<a∧a<18446744073709551616)
noncomputable def intOp:Op→Int→Int→Option Int
 |.add,a,b=>some (a+b)
 |.sub,a,b=>some (a-b)
 |.mul,a,b=>if small a||small b then some (a*b)else none
 |.fdiv,a,b=>if decide (b=0)then none else if small b then some (a.fdiv b)else none
 |.mod,a,b=>if decide (b=0)then none else some (a.fmod b)
 |.pow,a,b=>if small a&&decide (0≤b)&&decide (b≤1048576)then some (a^b.toNat)else none
 |.shl,a,b=>if small a&&decide (0≤b)&&decide (b≤1048576)then some (a*2^b.toNat)else none
 |.band,a,b=>some (bitAnd a b)
 |.bor,a,b=>some (bitOr a b)
 |.bxor,a,b=>some (bitXor a b)
noncomputable def u7:Op→Int→Int→Option Int
 |.add,a,b=>some (a+b)
 |.sub,a,b=>some (a-b)
 |.fdiv,a,b=>if decide (b=0)then none else if small b then some (a.fdiv b)else none
 |_,_,_=>none
noncomputable def au{K:Type}[DecidableEq K](k:K):List (K×V)→Option V
 |[]=>none
 |(x,v)::r=>if k=x then some v else au k r
noncomputable def cg{K:Type}[DecidableEq K](k:K)(v:V):List (K×V)→List (K×V)
 |[]=>[(k,v)]
 |(x,u)::r=>if k=x then (x,v)::r else (x,u)::cg k v r
noncomputable def idx(i:Int):Bool:=decide (0≤i)&&decide (i<4611686018427387904)
noncomputable def bc:V→Option Int
 |.int i=>some i
 |_=>none
noncomputable def pD:V→Option Nat
 |.str i=>some i
 |_=>none
noncomputable def iA:V→Option Nat
 |.ref a=>some a
 |_=>none
noncomputable def QE:V→Option (List V)
 |.fl l=>some l
 |_=>none
noncomputable def Lp:V→Option Bool
 |.bool b=>some b
 |_=>none
noncomputable def isNil:V→Bool
 |.none=>true
 |_=>false
noncomputable def lst(h:H)(a:Nat):Option (List V):=match h[a]? with
 |some (.list l)=>some l
 |_=>none
noncomputable def ins(h:H)(a:Nat):Option (Nat×List (Nat×V)):=match h[a]? with
 |some (.inst c l)=>some (c,l)
 |_=>none
noncomputable def binop(op:Op)(x y:V)(h:H):Option (V×H):=
 match x with
 |.int a=>(bc y).bind fun b=>(intOp op a b).bind fun c=>some (.int c,h)
 |.ref a=>(iA y).bind fun b=>if op=.add then (lst h a).bind fun l=>(lst h b).bind fun m=>if l.length+m.length≤LIM then some (.ref h.length,h++[.list (l++m)])else none else none
 |_=>none
noncomputable def truthy(v:V)(h:H):Option Bool:=
 match v with
 |.none=>some false
 |.bool b=>some b
 |.int i=>some (!decide (i=0))
 |.ref a=>(lst h a).bind fun l=>if l.length≤LIM then some (!l.isEmpty)else none
 |_=>none
noncomputable def sP(x:V):List V→Bool
 |[]=>false
 |y::l=>V.beq x y||sP x l
noncomputable def intsOf:List V→Option (List Int)
 |[]=>some []
 |.int i::r=>(intsOf r).map (i:: ·)
 |_=>none
noncomputable def eqv(x y:V)(h:H):Option Bool:=
 match x with
 |.bool a=>(Lp y).bind fun b=>some (a==b)
 |.ref a=>(iA y).bind fun b=>(lst h a).bind fun l=>(lst h b).bind fun m=>(intsOf l).bind fun k=>(intsOf m).bind fun n=>some (decide (k=n))
 |x=>if V.flat x&&V.flat y then some (V.beq x y)else none
structure Fn where
 np:Nat
 nl:Nat
 body:List S
structure Prog where
 fn:Nat→Option Fn
 af:Nat→Nat→Option Nat
 att:Nat→Nat→Bool
 init:Nat→Option (Option Nat)
 cd:Nat→List (V×V)
 cdi:Nat→Bool
 DZ:Nat→Option Nat
 ve:Nat→Option Nat
 eH:V→Option Int
 gl:Nat→V
 bR:Nat
 iQ:Nat
 Ax:Nat
noncomputable def cF(k:V):List (V×V)→Option V
 |[]=>none
 |(x,v)::r=>if V.beq k x then some v else cF k r
variable(P:Prog)
noncomputable def keyOk(n:Nat):V→Bool
 |.int _=>P.cdi n
 |.str _=> !P.cdi n
 |_=>false
noncomputable def isIn(x y:V)(h:H):Option Bool:=
 match y with
 |.tup l=>if V.flat x&&V.Jg l then some (sP x l)else none
 |.cd n=>if keyOk P n x then some (cF x (P.cd n)).isSome else none
 |.ref a=>(h[a]?).bind fun o=>match o with
  |.aM l=>(bc x).bind fun k=>some (au k l).isSome
  |.aP l=>(pD x).bind fun k=>some (au k l).isSome
  |_=>none
 |_=>none
noncomputable def iz(op:Cmp)(x y:V)(h:H):Option Bool:=
 match op with
 |.eq=>eqv x y h
 |.ne=>(eqv x y h).bind fun b=>some (!b)
 |.lt=>(bc x).bind fun a=>(bc y).bind fun b=>some (decide (a<b))
 |.le=>(bc x).bind fun a=>(bc y).bind fun b=>some (decide (a≤b))
 |.gt=>(bc x).bind fun a=>(bc y).bind fun b=>some (decide (b<a))
 |.ge=>(bc x).bind fun a=>(bc y).bind fun b=>some (decide (b≤a))
 |.inn=>isIn P x y h
 |.nin=>(isIn P x y h).bind fun b=>some (!b)
 |.isn=>if isNil y=true then some (isNil x)else none
 |.jh=>if isNil y=true then some (!isNil x)else none
noncomputable def aJ(x k:V)(h:H):Option V:=
 match x with
 |.tup l=>(bc k).bind fun i=>if idx i then l[i.toNat]? else none
 |.fl l=>(bc k).bind fun i=>if idx i then l[i.toNat]? else none
 |.cd n=>if keyOk P n k then cF k (P.cd n)else none
 |.str c=>(bc k).bind fun i=>if decide (i=0)then (P.ve c).bind fun d=>some (.str d)else none
 |.ref a=>(h[a]?).bind fun o=>match o with
  |.list l=>(bc k).bind fun i=>if idx i then l[i.toNat]? else none
  |.aM l=>(bc k).bind fun i=>au i l
  |.aP l=>(pD k).bind fun c=>au c l
  |_=>none
 |_=>none
noncomputable def eD(k:V)(l:List (V×V)):Bool:=
 match P.eH k with
 |some n=>l.all fun e=>match P.eH e.1 with
  |some m=> !decide (m=n)
  |none=>false
 |none=>false
noncomputable def subset(x k v:V)(h:H):Option H:=
 (iA x).bind fun a=>(h[a]?).bind fun o=>match o with
  |.list l=>(bc k).bind fun i=>if idx i&&decide (i.toNat<l.length)then some (h.set a (.list (l.set i.toNat v)))else none
  |.aM l=>(bc k).bind fun i=>if decide (l.length<LIM)then some (h.set a (.aM (cg i v l)))else none
  |.aP l=>(pD k).bind fun c=>if decide (l.length<LIM)then some (h.set a (.aP (cg c v l)))else none
  |.dS l=>if eD P k l&&decide (l.length<LIM)then some (h.set a (.dS (l++[(k,v)])))else none
  |_=>none
noncomputable def jR(x:V)(f:Nat)(h:H):Option V:=(iA x).bind fun a=>(ins h a).bind fun o=>au f o.2
noncomputable def lW(x:V)(f:Nat)(v:V)(h:H):Option H:=
 (iA x).bind fun a=>(ins h a).bind fun o=>if P.att o.1 f&&decide (o.2.length<LIM)then some (h.set a (.inst o.1 (cg f v o.2)))else none
noncomputable def lenOf(x:V)(h:H):Option Nat:=
 match x with
 |.tup l=>if l.length≤LIM then some l.length else none
 |.fl l=>if l.length≤LIM then some l.length else none
 |.str c=>P.DZ c
 |.ref a=>(lst h a).bind fun l=>if l.length≤LIM then some l.length else none
 |_=>none
noncomputable def Pr:List V→Option V
 |[v]=>some v
 |_=>none
noncomputable def Ny:List V→Option (V×V)
 |[k]=>some (k,.none)
 |[k,d]=>some (k,d)
 |_=>none
noncomputable def Cu:List V→List V→Option (V×List V)
 |[],l=>(l.getLast?).bind fun v=>some (v,l.dropLast)
 |[k],l=>(bc k).bind fun i=>if decide (i=0)then (l.head?).bind fun v=>some (v,l.tail)else none
 |_,_=>none
noncomputable def ah(x:V)(m:Nat)(vs:List V)(h:H):Option (V×H):=
 if m=P.bR then (iA x).bind fun a=>(lst h a).bind fun l=>(Pr vs).bind fun v=>if l.length<LIM then some (.none,h.set a (.list (l++[v])))else none
 else if m=P.iQ then (iA x).bind fun a=>(lst h a).bind fun l=>(Cu vs l).bind fun r=>if l.length≤LIM then some (r.1,h.set a (.list r.2))else none
 else if m=P.Ax then (Ny vs).bind fun k=>match x with
  |.cd n=>if keyOk P n k.1 then some ((cF k.1 (P.cd n)).getD k.2,h)else none
  |.ref a=>(h[a]?).bind fun o=>match o with
   |.aM l=>(bc k.1).bind fun i=>some ((au i l).getD k.2,h)
   |.dS l=>if eD P k.1 l then some (k.2,h)else none
   |_=>none
  |_=>none
 else none
noncomputable def fA(x:V)(m:Nat)(h:H):Option (Option Nat):=
 match x with
 |.cd _=>if m=P.bR∨m=P.iQ then none else some none
 |.ref a=>(h[a]?).bind fun o=>match o with
  |.inst c l=>if (au m l).isNone then some (some c)else none
  |.list _=>if m=P.bR∨m=P.iQ then some none else none
  |.aP _=>none
  |_=>if m=P.bR∨m=P.iQ then none else some none
 |_=>none
noncomputable def GF(l:Loc)(i:Nat):Option V:=match l[i]? with
 |some x=>x
 |none=>none
noncomputable def xG:V→Option Bool
 |.int _=>some true
 |.none=>some false
 |.tup _=>some false
 |_=>none
noncomputable def itemsOf:V→Option (List V)
 |.tup l=>some l
 |_=>none
noncomputable def kP:List Nat→List V→Loc→Option Loc
 |[],[],l=>some l
 |i::is,v::vs,l=>kP is vs (l.set i (some v))
 |_,_,_=>none
noncomputable def sI:V→Option (List V)
 |.tup l=>some l
 |.fl l=>some l
 |_=>none
noncomputable def keysOf(a:Nat)(h:H):Option (List Int):=
 match h[a]? with
 |some (.aM l)=>some (l.map (·.1))
 |_=>none
noncomputable def hW(a:Nat)(ks:List Int)(h:H):Bool:=
 match h[a]? with
 |some (.aM l)=>decide (l.map (·.1)=ks)
 |_=>false
noncomputable abbrev E6:Nat:=1048576
noncomputable def qe(cond:Loc→H→Option (Bool×H))(body:Loc→H→Option (Flow×Loc×H)):Nat→Loc→H→Option (Flow×Loc×H)
 |0,_,_=>none
 |n+1,l,h=>(cond l h).bind fun c=>if c.1=true then (body l c.2).bind fun r=>(match r.1 with
   |.next=>qe cond body n r.2.1 r.2.2
   |.ret v=>some (.ret v,r.2))else some (.next,l,c.2)
noncomputable def gC(i:Nat)(ok:H→Bool)(body:Loc→H→Option (Flow×Loc×H)):List V→Loc→H→Option (Flow×Loc×H)
 |[],l,h=>if ok h=true then some (.next,l,h)else none
 |v::r,l,h=>if ok h=true then (body (l.set i (some v)) h).bind fun x=>(match x.1 with
   |.next=>gC i ok body r x.2.1 x.2.2
   |.ret v=>some (.ret v,x.2))else none
section
variable(call:Nat→List V→H→Option (V×H))
noncomputable def jG(c:Nat)(vs:List V)(h:H):Option (V×H):=
 (P.init c).bind fun io=>match io with
  |some f=>(call f (.ref h.length::vs) (h++[.inst c []])).bind fun r=>if isNil r.1=true then some (.ref h.length,r.2)else none
  |none=>if vs.isEmpty=true then some (.ref h.length,h++[.inst c []])else none
mutual
noncomputable def evE:E→Loc→H→Option (V×H)
 |.loc i,l,h=>(GF l i).bind fun v=>some (v,h)
 |.cst v,_,h=>some (v,h)
 |.gl j,_,h=>some (P.gl j,h)
 |.bin op a b,l,h=>(evE a l h).bind fun x=>(evE b l x.2).bind fun y=>binop op x.1 y.1 y.2
 |.neg a,l,h=>(evE a l h).bind fun x=>(bc x.1).bind fun i=>some (.int (-i),x.2)
 |.bop t es,l,h=>evB t es l h
 |.cmp op a b,l,h=>(evE a l h).bind fun x=>(evE b l x.2).bind fun y=>(iz P op x.1 y.1 y.2).bind fun r=>some (.bool r,y.2)
 |.ife c a b,l,h=>(evC c l h).bind fun x=>if x.1=true then evE a l x.2 else evE b l x.2
 |.attr o f,l,h=>(evE o l h).bind fun x=>(jR x.1 f x.2).bind fun v=>some (v,x.2)
 |.sub o i,l,h=>(evE o l h).bind fun x=>(evE i l x.2).bind fun k=>(aJ P x.1 k.1 k.2).bind fun v=>some (v,k.2)
 |.tup es,l,h=>(evL es l h).bind fun vs=>some (.tup vs.1,vs.2)
 |.fl es,l,h=>(evL es l h).bind fun vs=>some (.fl vs.1,vs.2)
 |.aX es,l,h=>(evL es l h).bind fun vs=>some (.ref vs.2.length,vs.2++[.list vs.1])
 |.rep es n,l,h=>(evL es l h).bind fun vs=>(evE n l vs.2).bind fun c=>(bc c.1).bind fun i=>
   if decide (0≤i)&&decide (i≤64)&&decide (vs.1.length≤64)then some (.ref c.2.length,c.2++[.list (List.replicate i.toNat vs.1).flatten])else none
 |.bE,_,h=>some (.ref h.length,h++[.aM []])
 |.nO,_,h=>some (.ref h.length,h++[.dS []])
 |.gG ks es,l,h=>(evL es l h).bind fun vs=>some (.ref vs.2.length,vs.2++[.aP (ks.zip vs.1)])
 |.lx n,_,h=>some (.cd n,h)
 |.call f es,l,h=>(evL es l h).bind fun vs=>call f vs.1 vs.2
 |.new c es,l,h=>(evL es l h).bind fun vs=>jG P call c vs.1 vs.2
 |.af o m es,l,h=>(evE o l h).bind fun x=>(fA P x.1 m x.2).bind fun s=>match s with
  |some c=>(P.af c m).bind fun f=>(evL es l x.2).bind fun vs=>call f (x.1::vs.1) vs.2
  |none=>(evL es l x.2).bind fun vs=>ah P x.1 m vs.1 vs.2
 |.len a,l,h=>(evE a l h).bind fun x=>(lenOf P x.1 x.2).bind fun n=>some (.int n,x.2)
 |.abs a,l,h=>(evE a l h).bind fun x=>(bc x.1).bind fun i=>some (.int (if i<0 then-i else i),x.2)
 |.isInt a,l,h=>(evE a l h).bind fun x=>(xG x.1).bind fun b=>some (.bool b,x.2)
 |.slice a n,l,h=>(evE a l h).bind fun x=>(QE x.1).bind fun vs=>if vs.length≤LIM then some (.ref x.2.length,x.2++[.list (vs.take n)])else none
noncomputable def evL:List E→Loc→H→Option (List V×H)
 |[],_,h=>some ([],h)
 |e::r,l,h=>(evE e l h).bind fun x=>(evL r l x.2).bind fun y=>some (x.1::y.1,y.2)
noncomputable def evB:Bool→List E→Loc→H→Option (V×H)
 |_,[],_,_=>none
 |t,e::r,l,h=>(evE e l h).bind fun x=>match r with
  |[]=>some x
  |_::_=>(truthy x.1 x.2).bind fun b=>if b=t then evB t r l x.2 else some x
noncomputable def evC:C→Loc→H→Option (Bool×H)
 |.e e,l,h=>(evE e l h).bind fun x=>(truthy x.1 x.2).bind fun b=>some (b,x.2)
 |.no a,l,h=>(evC a l h).bind fun x=>some (!x.1,x.2)
 |.bop t es,l,h=>LJ t es l h
 |.cmp op a b,l,h=>(evE a l h).bind fun x=>(evE b l x.2).bind fun y=>(iz P op x.1 y.1 y.2).bind fun r=>some (r,y.2)
 |.oQ op op2 a b c,l,h=>(evE a l h).bind fun x=>(evE b l x.2).bind fun y=>(iz P op x.1 y.1 y.2).bind fun r=>
   if r=true then (evE c l y.2).bind fun z=>(iz P op2 y.1 z.1 z.2).bind fun r=>some (r,z.2)else some (false,y.2)
noncomputable def LJ:Bool→List C→Loc→H→Option (Bool×H)
 |t,[],_,h=>some (t,h)
 |t,e::r,l,h=>(evC e l h).bind fun x=>if x.1=t then LJ t r l x.2 else some x
end
mutual
noncomputable def evS:S→Loc→H→Option (Flow×Loc×H)
 |.asg i e,l,h=>(evE P call e l h).bind fun x=>some (.next,l.set i (some x.1),x.2)
 |.aC o k e,l,h=>(evE P call e l h).bind fun v=>(evE P call o l v.2).bind fun x=>(evE P call k l x.2).bind fun i=>(subset P x.1 i.1 v.1 i.2).bind fun h4=>some (.next,l,h4)
 |.ae o f e,l,h=>(evE P call e l h).bind fun v=>(evE P call o l v.2).bind fun x=>(lW P x.1 f v.1 x.2).bind fun h4=>some (.next,l,h4)
 |.unp is e,l,h=>(evE P call e l h).bind fun x=>(sI x.1).bind fun vs=>(kP is vs l).bind fun l2=>some (.next,l2,x.2)
 |.aug i op e,l,h=>(GF l i).bind fun a=>(evE P call e l h).bind fun b=>(bc a).bind fun x=>(bc b.1).bind fun y=>(u7 op x y).bind fun c=>some (.next,l.set i (some (.int c)),b.2)
 |.gF o k op e,l,h=>(evE P call o l h).bind fun x=>(evE P call k l x.2).bind fun i=>(aJ P x.1 i.1 i.2).bind fun a=>(evE P call e l i.2).bind fun b=>
   (bc a).bind fun y=>(bc b.1).bind fun z=>(u7 op y z).bind fun c=>(subset P x.1 i.1 (.int c) b.2).bind fun h4=>some (.next,l,h4)
 |.ex e,l,h=>(evE P call e l h).bind fun x=>some (.next,l,x.2)
 |.ite c a b,l,h=>(evC P call c l h).bind fun x=>if x.1=true then bB a l x.2 else bB b l x.2
 |.wh c b,l,h=>qe (fun l h=>evC P call c l h) (fun l h=>bB b l h) E6 l h
 |.oX i e b,l,h=>(evE P call e l h).bind fun x=>(itemsOf x.1).bind fun vs=>gC i (fun ζ=>true) (fun l h=>bB b l h) vs l x.2
 |.forR i e b,l,h=>(evE P call e l h).bind fun x=>(bc x.1).bind fun n=>if decide (0≤n)&&decide (n≤64)then gC i (fun ζ=>true) (fun l h=>bB b l h) ((List.range n.toNat).map fun (k:Nat)=>V.int (k:Int)) l x.2 else none
 |.wW i e b,l,h=>(evE P call e l h).bind fun x=>(iA x.1).bind fun a=>(keysOf a x.2).bind fun ks=>gC i (hW a ks) (fun l h=>bB b l h) (ks.map V.int) l x.2
 |.ret e,l,h=>(evE P call e l h).bind fun x=>some (.ret x.1,l,x.2)
 |.iq,l,h=>some (.ret .none,l,h)
 |.bad,_,_=>none
noncomputable def bB:List S→Loc→H→Option (Flow×Loc×H)
 |[],l,h=>some (.next,l,h)
 |s::r,l,h=>(evS s l h).bind fun x=>match x.1 with
  |.next=>bB r x.2.1 x.2.2
  |.ret v=>some (.ret v,x.2)
end
end
noncomputable def Flow.v:Flow→V
 |.next=>.none
 |.ret v=>v
noncomputable def aa:Nat→Nat→List V→H→Option (V×H)
 |0,_,_,_=>none
 |n+1,f,vs,h=>(P.fn f).bind fun F=>if vs.length=F.np then (bB P (aa n) F.body (vs.map some++List.replicate (F.nl-F.np) none) h).bind fun x=>some (x.1.v,x.2.2)else none
end
end Mini.Internal
end
section
open PySem PySem.W PyProof.Rows PySem.Calls
namespace Mini.Internal
noncomputable abbrev Ro:=List (Addr×Addr)
def own(R:Ro)(b:Addr):Prop:=∃p∈R,b=p.1∨b=p.2
def hot(R:Ro)(F:List Addr)(b:Addr):Prop:=own R b∨b∈F
section
variable(tx:List Str)(pr:Program)(w:World)
variable(cd:Nat→Heap→Ro→List Addr→Addr→Prop)(h:Heap)(R:Ro)(F:List Addr)
mutual
noncomputable def dv:V→Value→Prop
 |.none,v=>v=.none
 |.bool b,v=>v=.bool b
 |.int i,v=>∃t,v=.int i t
 |.str c,v=>∃x t,tx[c]?=some x∧v=.str x t
 |.tup l,v=>∃a items,v=.ref a∧¬hot R F a∧h.IsTuple a items∧cI l items.toList
 |.fl l,v=>∃a items,v=.ref a∧¬hot R F a∧h.IsList a items∧cI l items.toList
 |.cd n,v=>∃a,v=.ref a∧¬hot R F a∧cd n h R F a
 |.ref i,v=>∃p,R[i]?=some p∧v=.ref p.1
noncomputable def cI:List V→List Value→Prop
 |[],[]=>True
 |a::l,b::m=>dv a b∧cI l m
 |_,_=>False
end
noncomputable def aT{K:Type}{K':Type}(kr:K→K'→Prop):List (K×V)→List (K'×Value)→Prop
 |[],[]=>True
 |a::l,b::m=>(kr a.1 b.1∧dv tx cd h R F a.2 b.2)∧aT kr l m
 |_,_=>False
variable(ca:Nat→Addr)(att:Nat→Nat→Bool)
def jb(l:List (Nat×V))(m:Str→Option Value):Prop:=
 ∀c x,tx[c]?=some x→match au c l with
  |some v=>∃mv,m x=some mv∧dv tx cd h R F v mv
  |none=>m x=none
variable(th:V→Option Int)
noncomputable def cM:List (V×V)→List DictEntry→Prop
 |[],[]=>True
 |a::l,e::m=>(∃b,e.key=.ref b∧dv tx cd h R F a.1 (.ref b)∧th a.1=some e.hash)∧cM l m
 |_,_=>False
noncomputable def Sr:O→Addr×Addr→Prop
 |.list l,p=>p.2=p.1∧∃items,h.PlainList p.1 items∧cI tx cd h R F l items.toList
 |.aM l,p=>p.2=p.1∧(p.1==sysModules)=false∧∃kvs,h.DictAt (intKind pr w) p.1 kvs kvs.length∧aT tx cd h R F (· = ·) l kvs
 |.aP l,p=>p.2=p.1∧(p.1==sysModules)=false∧∃kvs,h.DictOf (strKind pr w) p.1 kvs∧aT tx cd h R F (fun c x=>tx[c]?=some x) l kvs
 |.inst c l,p=>p.2≠p.1∧h.get? p.1=some (instObj (ca c) p.2)∧(∀f v,au f l=some v→att c f=true)∧∃m,h.Ns p.2 m∧(∃es n,h.get? p.2=some (dictOf es n)∧es.length≤l.length)∧jb tx cd h R F l m
 |.dS l,p=>p.2=p.1∧(p.1==sysModules)=false∧∃o es ep,h.get? p.1=some o∧o.ExactDict∧o.data=.dict es ep∧cM tx cd h R F th l es.toList
end
section
structure Lk where
 P:Prog
 tx:List Str
 pr:Program
 w:World
 ca:Nat→Addr
 K:Frag
 fa:Nat→Addr
variable(k:Lk)
noncomputable def EO:Nat→Heap→Ro→List Addr→Addr→Prop:=fun ζ ζ ζ ζ ζ=>False
noncomputable abbrev gu(h:Heap)(R:Ro)(F:List Addr):=dv k.tx EO h R F
def uZ(h:Heap)(R:Ro)(F:List Addr)(a:Option V)(b:Option Value):Prop:=
 match a,b with
 |some v,some mv=>gu k h R F v mv
 |none,none=>True
 |_,_=>False
def bu(n:Nat)(h:Heap)(R:Ro)(F:List Addr)(a:Addr):Prop:=
 (a==sysModules)=false∧
 if k.P.cdi n then∃f:Int→Option Value,h.MapOf (intKind k.pr k.w) a f∧∀i,uZ k h R F (cF (.int i) (k.P.cd n)) (f i)
 else∃f:Str→Option Value,h.MapOf (strKind k.pr k.w) a f∧∀c x,k.tx[c]?=some x→uZ k h R F (cF (.str c) (k.P.cd n)) (f x)
noncomputable abbrev VR(h:Heap)(R:Ro)(F:List Addr):=dv k.tx (bu k) h R F
noncomputable abbrev VRs(h:Heap)(R:Ro)(F:List Addr):=cI k.tx (bu k) h R F
noncomputable abbrev OR(h:Heap)(R:Ro)(F:List Addr):=Sr k.tx k.pr k.w (bu k) h R F k.ca k.P.att k.P.eH
structure St (base:Heap)(R:Ro)(F:List Addr)(H:Mini.Internal.H)(h:Heap):Prop where
 dV:base.StaysIn h
 fresh:∀b,hot R F b→base.get? b=none
 live:∀b,hot R F b→∃o,h.get? b=some o
 len:R.length=H.length
 obj:∀(i:Nat) (o:O) (p:Addr×Addr),H[i]?=some o→R[i]?=some p→OR k h R F o p
 dis:∀(i j:Nat) (p q:Addr×Addr),R[i]?=some p→R[j]?=some q→i≠j→p.1≠q.1∧p.1≠q.2∧p.2≠q.1∧p.2≠q.2
 frm:∀b,own R b→b∉F
structure Ext (ex:Addr→Prop)(R:Ro)(h:Heap)(R':Ro)(h':Heap):Prop where
 pre:R<+:R'
 keep:∀b o,h.get? b=some o→¬own R b→¬ex b→h'.get? b=some o
 live:∀b o,h.get? b=some o→∃o',h'.get? b=some o'
 new:∀p∈R',p∈R∨(h.get? p.1=none∧h.get? p.2=none)
theorem Ext.refl{ex:Addr→Prop}{R:Ro}{h:Heap}:Ext ex R h R h:=
 ⟨List.prefix_refl R,fun ζ ζ e ζ ζ=>e,fun ζ o e=>⟨o,e⟩,fun ζ hp=>.inl hp⟩
theorem Ext.yk{ex:Addr→Prop}{R R':Ro}{h h':Heap}(x:Ext ex R h R' h'){b:Addr}{o:Obj}(ho:h.get? b=some o)(hb:own R' b):own R b:=by
 obtain⟨p,hp,e⟩:=hb
 rcases x.new p hp with q|⟨q1,q2⟩
 ·exact⟨p,q,e⟩
 ·rcases e with rfl|rfl
  ·rw[q1]at ho;cases ho
  ·rw[q2]at ho;cases ho
theorem Ext.trans{ex:Addr→Prop}{R R' R'':Ro}{h h' h'':Heap}(x:Ext ex R h R' h')(y:Ext ex R' h' R'' h''):Ext ex R h R'' h'':=
 ⟨x.pre.trans y.pre,fun b o e n1 n2=>y.keep b o (x.keep b o e n1 n2) (fun q=>n1 (x.yk e q)) n2,
  fun b o e=>let ⟨_,e'⟩:=x.live b o e;y.live b _ e',
  fun p hp=>by
  rcases y.new p hp with q|⟨q1,q2⟩
  ·exact x.new p q
  ·refine .inr ⟨?_,?_⟩
   ·induction e:h.get? p.1 with
    |none=>rfl
    |some o=>obtain⟨o',e'⟩:=x.live _ _ e;rw[q1]at e';cases e'
   ·induction e:h.get? p.2 with
    |none=>rfl
    |some o=>obtain⟨o',e'⟩:=x.live _ _ e;rw[q2]at e';cases e'⟩
theorem Ext.weak{ex ex':Addr→Prop}{R R':Ro}{h h':Heap}(x:Ext ex R h R' h')(i:∀b,ex b→ex' b):Ext ex' R h R' h':=
 ⟨x.pre,fun b o e n1 n2=>x.keep b o e n1 fun q=>n2 (i b q),x.live,x.new⟩
theorem Ext.stays{ex:Addr→Prop}{R R':Ro}{F F':List Addr}{h h':Heap}(x:Ext ex R h R' h')(hex:∀b,ex b→b∈F)(hF:∀b,b∈F'→b∈F∨h.get? b=none){b:Addr}{o:Obj}(e:h.get? b=some o)(n:¬hot R F b):
  h'.get? b=some o∧¬hot R' F' b:=by
 refine ⟨x.keep b o e (fun q=>n (.inl q)) fun q=>n (.inr (hex b q)),fun q=>?_⟩
 rcases q with q|q
 ·exact n (.inl (x.yk e q))
 ·rcases hF b q with q|q
  ·exact n (.inr q)
  ·rw[q]at e;cases e
section
variable{tx:List Str}{cd:Nat→Heap→Ro→List Addr→Addr→Prop}{ex:Addr→Prop}{R R':Ro}{F F':List Addr}{h h':Heap}
theorem eJ{h h':Heap}{a:Addr}{items:Array Value}(x:h.IsTuple a items)(k:∀o,h.get? a=some o→h'.get? a=some o):h'.IsTuple a items:=let ⟨o,ho,r⟩:=x;⟨o,k o ho,r⟩
theorem iG{h h':Heap}{a:Addr}{items:Array Value}(x:h.IsList a items)(k:∀o,h.get? a=some o→h'.get? a=some o):h'.IsList a items:=let ⟨o,ho,r⟩:=x;⟨o,k o ho,r⟩
mutual
theorem dv.mono(x:Ext ex R h R' h')(hex:∀b,ex b→b∈F)(hF:∀b,b∈F'→b∈F∨h.get? b=none)
  (hcd:∀n a,cd n h R F a→¬hot R F a→cd n h' R' F' a∧¬hot R' F' a):∀{v:V} {mv:Value},dv tx cd h R F v mv→dv tx cd h' R' F' v mv
 |.none,_,e=>e
 |.bool _,_,e=>e
 |.int _,_,e=>e
 |.str _,_,e=>e
 |.tup l,_,⟨a,items,e,n,t,r⟩=>by
  obtain⟨o,ho,_⟩:=id t
  exact⟨a,items,e,(x.stays hex hF ho n).2,eJ t fun o ho=>(x.stays hex hF ho n).1,cI.mono x hex hF hcd r⟩
 |.fl l,_,⟨a,items,e,n,t,r⟩=>by
  obtain⟨o,ho,_⟩:=id t
  exact⟨a,items,e,(x.stays hex hF ho n).2,iG t fun o ho=>(x.stays hex hF ho n).1,cI.mono x hex hF hcd r⟩
 |.cd _,_,⟨a,e,n,c⟩=>⟨a,e,(hcd _ a c n).2,(hcd _ a c n).1⟩
 |.ref i,_,⟨p,hp,e⟩=>⟨p,by obtain⟨l,rfl⟩:=x.pre;exact Zj (Z6 hp).1▸hp,e⟩
theorem cI.mono(x:Ext ex R h R' h')(hex:∀b,ex b→b∈F)(hF:∀b,b∈F'→b∈F∨h.get? b=none)
  (hcd:∀n a,cd n h R F a→¬hot R F a→cd n h' R' F' a∧¬hot R' F' a):∀{l:List V} {m:List Value},cI tx cd h R F l m→cI tx cd h' R' F' l m
 |[],[],_=>trivial
 |_::_,_::_,⟨a,b⟩=>⟨dv.mono x hex hF hcd a,cI.mono x hex hF hcd b⟩
 |[],_::_,e=>e
 |_::_,[],e=>e
end
end
set_option tactic.hygienic true in
theorem nx{ex:Addr→Prop}{R R':Ro}{F F':List Addr}{h h':Heap}(x:Ext ex R h R' h')(hex:∀b,ex b→b∈F)(hF:∀b,b∈F'→b∈F∨h.get? b=none):
  ∀n a,bu k n h R F a→¬hot R F a→bu k n h' R' F' a∧¬hot R' F' a:=by
 intro n a c na
 have r0:∀u v,uZ k h R F u v→uZ k h' R' F' u v:=by
  intro u v r
  induction u<;>induction v<;>first|exact r|exact dv.mono x hex hF (fun ζ ζ q=>q.elim) r
 obtain⟨hs,c⟩:=c
 unfold bu
 split at c
 ·rename_i hc
  rw[if_pos hc]
  obtain⟨f,⟨o,es,ep,ho,r⟩,hf⟩:=c
  exact⟨⟨hs,f,⟨o,es,ep,(x.stays hex hF ho na).1,r⟩,fun i=>r0 _ _ (hf i)⟩,(x.stays hex hF ho na).2⟩
 ·rename_i hc
  rw[if_neg hc]
  obtain⟨f,⟨o,es,ep,ho,r⟩,hf⟩:=c
  exact⟨⟨hs,f,⟨o,es,ep,(x.stays hex hF ho na).1,r⟩,fun i y hy=>r0 _ _ (hf i y hy)⟩,(x.stays hex hF ho na).2⟩
theorem VR.mono{k:Lk}{ex:Addr→Prop}{R R':Ro}{F F':List Addr}{h h':Heap}(x:Ext ex R h R' h')(hex:∀b,ex b→b∈F)(hF:∀b,b∈F'→b∈F∨h.get? b=none)
  {v:V} {mv:Value} (r:VR k h R F v mv):VR k h' R' F' v mv:=dv.mono x hex hF (nx k x hex hF) r
theorem VRs.mono{k:Lk}{ex:Addr→Prop}{R R':Ro}{F F':List Addr}{h h':Heap}(x:Ext ex R h R' h')(hex:∀b,ex b→b∈F)(hF:∀b,b∈F'→b∈F∨h.get? b=none)
  {v:List V} {mv:List Value} (r:VRs k h R F v mv):VRs k h' R' F' v mv:=cI.mono x hex hF (nx k x hex hF) r
end
section
variable{k:Lk}{ex:Addr→Prop}{R R':Ro}{F F':List Addr}{h h' base:Heap}{H:Mini.Internal.H}
theorem aT.mono{K K':Type}{kr:K→K'→Prop}(x:Ext ex R h R' h')(hex:∀b,ex b→b∈F)(hF:∀b,b∈F'→b∈F∨h.get? b=none):
  ∀{l:List (K×V)} {m:List (K'×Value)},aT k.tx (bu k) h R F kr l m→aT k.tx (bu k) h' R' F' kr l m
 |[],[],_=>trivial
 |_::_,_::_,⟨⟨a,b⟩,c⟩=>⟨⟨a,VR.mono x hex hF b⟩,aT.mono x hex hF c⟩
 |[],_::_,e=>e
 |_::_,[],e=>e
theorem jb.mono{l:List (Nat×V)}{m:Str→Option Value}(x:Ext ex R h R' h')(hex:∀b,ex b→b∈F)(hF:∀b,b∈F'→b∈F∨h.get? b=none)
  (a:jb k.tx (bu k) h R F l m):jb k.tx (bu k) h' R' F' l m:=by
 intro c y hy
 have:=a c y hy
 revert this
 induction au c l with
 |none=>exact id
 |some v=>exact fun ⟨mv,e,r⟩=>⟨mv,e,VR.mono x hex hF r⟩
theorem cM.mono(x:Ext ex R h R' h')(hex:∀b,ex b→b∈F)(hF:∀b,b∈F'→b∈F∨h.get? b=none){th:V→Option Int}:
  ∀{l:List (V×V)} {m:List DictEntry},cM k.tx (bu k) h R F th l m→cM k.tx (bu k) h' R' F' th l m
 |[],[],_=>trivial
 |_::_,_::_,⟨⟨b,e,r,t⟩,c⟩=>⟨⟨b,e,VR.mono x hex hF r,t⟩,cM.mono x hex hF c⟩
 |[],_::_,e=>e
 |_::_,[],e=>e
theorem OR.mono{o:O}{p:Addr×Addr}(x:Ext ex R h R' h')(hex:∀b,ex b→b∈F)(hF:∀b,b∈F'→b∈F∨h.get? b=none)
  (s1:h'.get? p.1=h.get? p.1) (s2:h'.get? p.2=h.get? p.2) (r:OR k h R F o p):OR k h' R' F' o p:=by
 induction o with
 |list l=>obtain⟨e,items,⟨n,ho⟩,v⟩:=r;exact⟨e,items,⟨n,s1.trans ho⟩,VRs.mono x hex hF v⟩
 |aM l=>obtain⟨e,ns,kvs,⟨ob,es,ho,q⟩,v⟩:=r;exact⟨e,ns,kvs,⟨ob,es,s1.trans ho,q⟩,aT.mono x hex hF v⟩
 |aP l=>obtain⟨e,ns,kvs,⟨ob,es,ep,ho,q⟩,v⟩:=r;exact⟨e,ns,kvs,⟨ob,es,ep,s1.trans ho,q⟩,aT.mono x hex hF v⟩
 |inst c l=>obtain⟨e,ho,at_,m,⟨ob,es,ep,ho',q⟩,⟨es₂,n₂,hd,hz⟩,v⟩:=r;exact⟨e,s1.trans ho,at_,m,⟨ob,es,ep,s2.trans ho',q⟩,⟨es₂,n₂,s2.trans hd,hz⟩,jb.mono x hex hF v⟩
 |dS l=>obtain⟨e,ns,o,es,ep,ho,q1,q2,v⟩:=r;exact⟨e,ns,o,es,ep,s1.trans ho,q1,q2,cM.mono x hex hF v⟩
theorem Ext.of_stays(s:h.StaysIn h'):Ext ex R h R h':=
 ⟨List.prefix_refl R,fun b o e ζ ζ=>s b o e,fun b o e=>⟨o,s b o e⟩,fun ζ hp=>.inl hp⟩
theorem fF{b:Addr}(s:h.StaysIn h')(l:∃o,h.get? b=some o):h'.get? b=h.get? b:=let ⟨o,ho⟩:=l;(s b o ho).trans ho.symm
theorem cD{i:Nat}{p:Addr×Addr}(hp:R[i]?=some p):own R p.1∧own R p.2:=
 ⟨⟨p,Zx hp,.inl rfl⟩,⟨p,Zx hp,.inr rfl⟩⟩
theorem St.stays(S:St k base R F H h)(s:h.StaysIn h'):St k base R F H h' where
 dV:=fun b o e=>s b o (S.dV b o e)
 fresh:=S.fresh
 live:=fun b hb=>let ⟨o,ho⟩:=S.live b hb;⟨o,s b o ho⟩
 len:=S.len
 obj:=fun i o p hi hp=>OR.mono (ex:=fun ζ=>False) (F:=F) (Ext.of_stays s) (fun ζ q=>q.elim) (fun ζ q=>.inl q)
  (fF s (S.live _ (.inl (cD hp).1))) (fF s (S.live _ (.inl (cD hp).2))) (S.obj i o p hi hp)
 dis:=S.dis
 frm:=S.frm
theorem St.push(S:St k base R F H h)(s:h.StaysIn h'){L:Addr}(n:h.get? L=none)(l:∃o,h'.get? L=some o):St k base R (L::F) H h' where
 dV:=fun b o e=>s b o (S.dV b o e)
 fresh:=fun b hb=>by
  rcases hb with q|q
  ·exact S.fresh b (.inl q)
  ·rcases Zm q with rfl|q
   ·induction e:base.get? b with
    |none=>rfl
    |some o=>have:=S.dV _ _ e;rw[n]at this;cases this
   ·exact S.fresh b (.inr q)
 live:=fun b hb=>by
  rcases hb with q|q
  ·obtain⟨o,ho⟩:=S.live b (.inl q);exact⟨o,s b o ho⟩
  ·rcases Zm q with rfl|q
   ·exact l
   ·obtain⟨o,ho⟩:=S.live b (.inr q);exact⟨o,s b o ho⟩
 len:=S.len
 obj:=fun i o p hi hp=>OR.mono (ex:=fun ζ=>False) (F:=F) (Ext.of_stays s) (fun ζ q=>q.elim)
  (fun b q=>(Zm q).elim (fun e=>.inr (e▸n)) .inl)
  (fF s (S.live _ (.inl (cD hp).1))) (fF s (S.live _ (.inl (cD hp).2))) (S.obj i o p hi hp)
 dis:=S.dis
 frm:=fun b hb q=>by
  rcases Zm q with rfl|q
  ·obtain⟨o,ho⟩:=S.live b (.inl hb);rw[n]at ho;cases ho
  ·exact S.frm b hb q
theorem St.pop{L:Addr}(S:St k base R (L::F) H h):St k base R F H h where
 dV:=S.dV
 fresh:=fun b hb=>S.fresh b (hb.imp id fun q=>.tail _ q)
 live:=fun b hb=>S.live b (hb.imp id fun q=>.tail _ q)
 len:=S.len
 obj:=fun i o p hi hp=>OR.mono (ex:=fun ζ=>False) (F:=L::F) Ext.refl (fun ζ q=>q.elim) (fun ζ q=>.inl (.tail _ q)) rfl rfl (S.obj i o p hi hp)
 dis:=S.dis
 frm:=fun b hb q=>S.frm b hb (.tail _ q)
theorem St.held{I:Addr}(S:St k base R F H h)(hI:I∈F)(kb:∀b o,b≠I→h.get? b=some o→h'.get? b=some o)(l:∃o,h'.get? I=some o):St k base R F H h'∧Ext (· =I) R h R h':=by
 have nb:∀b,own R b→b≠I:=fun b hb e=>S.frm b hb (e▸hI)
 have X:Ext (· =I) R h R h':=⟨List.prefix_refl R,fun b o e ζ n=>kb b o n e,fun b o e=>by
  by_cases q:b=I
  ·exact q▸l
  ·exact⟨o,kb b o q e⟩,fun ζ hp=>.inl hp⟩
 have same:∀b,own R b→h'.get? b=h.get? b:=fun b hb=>let ⟨o,ho⟩:=S.live b (.inl hb);(kb _ _ (nb _ hb) ho).trans ho.symm
 exact⟨⟨fun b o e=>kb b o (fun q=>by have:=S.fresh I (.inr hI);rw[←q,e]at this;cases this) (S.dV b o e),S.fresh,fun b hb=>let ⟨o,ho⟩:=S.live b hb;X.live b o ho,S.len,
  fun i o p hi hp=>OR.mono (F:=F) X (fun b q=>q▸hI) (fun ζ q=>.inl q) (same _ (cD hp).1) (same _ (cD hp).2) (S.obj i o p hi hp),S.dis,S.frm⟩,X⟩
theorem St.frame{L:Addr}(S:St k base R F H h)(hL:L∈F)(s:Heap.SameBut L h h')(l:∃o,h'.get? L=some o):St k base R F H h'∧Ext (· =L) R h R h':=S.held hL (fun b o n e=>(s.2 b n).trans e) l
theorem St.upd{i:Nat}{o o':O}{p:Addr×Addr}{b:Addr}(S:St k base R F H h)(hi:H[i]?=some o)(hp:R[i]?=some p)(hb:b=p.1∨b=p.2)(s:Heap.SameBut b h h')(l:∃x,h'.get? b=some x)
  (ho:Ext (fun ζ=>False) R h R h'→OR k h' R F o' p):St k base R F (H.set i o') h'∧Ext (fun ζ=>False) R h R h':=by
 have hob:own R b:=⟨p,Zx hp,hb⟩
 have X:Ext (fun ζ=>False) R h R h':=⟨List.prefix_refl R,fun c o e n ζ=>(s.2 c fun q=>n (q▸hob)).trans e,fun c o e=>by
  by_cases q:c=b
  ·exact q▸l
  ·exact⟨o,(s.2 c q).trans e⟩,fun ζ hp=>.inl hp⟩
 refine ⟨⟨fun c o e=>(s.2 c fun q=>?_).trans (S.dV c o e),S.fresh,fun c hc=>?_,by rw[List.length_set];exact S.len,fun j oj q hj hq=>?_,S.dis,S.frm⟩,X⟩
 ·have:=S.fresh b (.inl hob);rw[←q,e]at this;cases this
 ·obtain⟨o,ho⟩:=S.live c hc;exact X.live c o ho
 ·by_cases hij:i=j
  ·subst hij
   rw[hp]at hq;cases hq
   rw[List.getElem?_set_self (Z6 hi).1]at hj
   cases hj
   exact ho X
  ·rw[List.getElem?_set_ne hij]at hj
   obtain⟨d1,d2,d3,d4⟩:=S.dis i j p q hp hq hij
   refine OR.mono (F:=F) X (fun ζ q=>q.elim) (fun ζ q=>.inl q) (s.2 _ ?_) (s.2 _ ?_) (S.obj j oj q hj hq)
   ·rcases hb with rfl|rfl
    ·exact fun e=>d1 e.symm
    ·exact fun e=>d3 e.symm
   ·rcases hb with rfl|rfl
    ·exact fun e=>d2 e.symm
    ·exact fun e=>d4 e.symm
theorem St.alloc{o:O}{p:Addr×Addr}(S:St k base R F H h)(s:h.StaysIn h')(n1:h.get? p.1=none)(n2:h.get? p.2=none)(l1:∃x,h'.get? p.1=some x)(l2:∃x,h'.get? p.2=some x)
  (ho:Ext (fun ζ=>False) R h (R++[p]) h'→OR k h' (R++[p]) F o p):St k base (R++[p]) F (H++[o]) h'∧Ext (fun ζ=>False) R h (R++[p]) h':=by
 have X:Ext (fun ζ=>False) R h (R++[p]) h':=⟨⟨[p],rfl⟩,fun b o e ζ ζ=>s b o e,fun b o e=>⟨o,s b o e⟩,fun q hq=>by
  rcases Zv hq with z|z
  ·exact .inl z
  ·rw[List.mem_singleton]at z;exact .inr (z▸ ⟨n1,n2⟩)⟩
 have own_or:∀b,own (R++[p]) b→own R b∨b=p.1∨b=p.2:=fun b ⟨q,hq,e⟩=>by
  rcases Zv hq with z|z
  ·exact .inl ⟨q,z,e⟩
  ·rw[List.mem_singleton]at z;subst z;exact .inr e
 have nob:∀b,(b=p.1∨b=p.2)→h.get? b=none:=fun b e=>by rcases e with rfl|rfl<;>assumption
 have lv:∀b,hot R F b→h.get? b≠none:=fun b hb e=>by obtain⟨o,ho⟩:=S.live b hb;rw[e]at ho;cases ho
 refine ⟨⟨fun b o e=>s b o (S.dV b o e),fun b hb=>?_,fun b hb=>?_,by simp[S.len],fun i oi q hi hq=>?_,fun i j a b ha hb hij=>?_,fun b hb q=>?_⟩,X⟩
 ·rcases hb with z|z
  ·rcases own_or b z with z|z
   ·exact S.fresh b (.inl z)
   ·induction e:base.get? b with
    |none=>rfl
    |some o=>have:=S.dV _ _ e;rw[nob b z]at this;cases this
  ·exact S.fresh b (.inr z)
 ·rcases hb with z|z
  ·rcases own_or b z with z|z
   ·obtain⟨o,ho⟩:=S.live b (.inl z);exact⟨o,s b o ho⟩
   ·rcases z with rfl|rfl<;>assumption
  ·obtain⟨o,ho⟩:=S.live b (.inr z);exact⟨o,s b o ho⟩
 ·rcases Nat.lt_or_ge i R.length with z|z
  ·rw[Zj z]at hq
   rw[Zj (S.len▸z)]at hi
   exact OR.mono (F:=F) X (fun ζ q=>q.elim) (fun ζ q=>.inl q) (fF s (S.live _ (.inl (cD hq).1))) (fF s (S.live _ (.inl (cD hq).2))) (S.obj i oi q hi hq)
  ·have hlt:i<(R++[p]).length:=(Z6 hq).1
   have hi':i=R.length:=by simp at hlt;omega
   subst hi'
   rw[Zw (Z5 _),Nat.sub_self]at hq
   rw[S.len,Zw (Z5 _),Nat.sub_self]at hi
   cases hq;cases hi
   exact ho X
 ·have at_:∀(i:Nat) (a:Addr×Addr),(R++[p])[i]?=some a→(i<R.length∧R[i]?=some a)∨(i=R.length∧a=p):=fun i a ha=>by
   rcases Nat.lt_or_ge i R.length with z|z
   ·rw[Zj z]at ha;exact .inl ⟨z,ha⟩
   ·have hlt:i<(R++[p]).length:=(Z6 ha).1
    have hi':i=R.length:=by simp at hlt;omega
    subst hi'
    rw[Zw (Z5 _),Nat.sub_self]at ha
    cases ha;exact .inr ⟨rfl,rfl⟩
  rcases at_ i a ha with ⟨z,ha'⟩|⟨z,ea⟩<;>rcases at_ j b hb with ⟨y,hb'⟩|⟨y,eb⟩
  ·exact S.dis i j a b ha' hb' hij
  ·subst eb
   have q1:=lv _ (.inl (cD ha').1);have q2:=lv _ (.inl (cD ha').2)
   exact⟨fun e=>q1 (e▸n1),fun e=>q1 (e▸n2),fun e=>q2 (e▸n1),fun e=>q2 (e▸n2)⟩
  ·subst ea
   have q1:=lv _ (.inl (cD hb').1);have q2:=lv _ (.inl (cD hb').2)
   exact⟨fun e=>q1 (e▸n1),fun e=>q2 (e▸n1),fun e=>q1 (e▸n2),fun e=>q2 (e▸n2)⟩
  ·exact absurd (z.trans y.symm) hij
 ·rcases own_or b hb with z|z
  ·exact S.frm b z q
  ·exact lv b (.inr q) (nob b z)
end
section
variable{k:Lk}{base:Heap}{F F':List Addr}{R R':Ro}{H:Mini.Internal.H}{v:V}{mv:Value}{h h':Heap}
abbrev jE(h h':Heap)(R:Ro)(F:List Addr):Prop:=∀b o,¬hot R F b→h.get? b=some o→h'.get? b=some o
mutual
theorem dv.move{tx:List Str}{cd:Nat→Heap→Ro→List Addr→Addr→Prop}(kb:jE h h' R F)(p:R<+:R')(hh:∀b,hot R' F' b→hot R F b)(hcd:∀n a,¬hot R F a→cd n h R F a→cd n h' R' F' a):∀{v:V} {mv:Value},dv tx cd h R F v mv→dv tx cd h' R' F' v mv
 |.none,_,e=>e
 |.bool _,_,e=>e
 |.int _,_,e=>e
 |.str _,_,e=>e
 |.tup l,_,⟨a,items,e,n,t,r⟩=>⟨a,items,e,fun q=>n (hh _ q),eJ t fun o ho=>kb _ o n ho,cI.move kb p hh hcd r⟩
 |.fl l,_,⟨a,items,e,n,t,r⟩=>⟨a,items,e,fun q=>n (hh _ q),iG t fun o ho=>kb _ o n ho,cI.move kb p hh hcd r⟩
 |.cd _,_,⟨a,e,n,c⟩=>⟨a,e,fun q=>n (hh _ q),hcd _ _ n c⟩
 |.ref i,_,⟨q,hq,e⟩=>⟨q,by obtain⟨l,rfl⟩:=p;exact Zj (Z6 hq).1▸hq,e⟩
theorem cI.move{tx:List Str}{cd:Nat→Heap→Ro→List Addr→Addr→Prop}(kb:jE h h' R F)(p:R<+:R')(hh:∀b,hot R' F' b→hot R F b)(hcd:∀n a,¬hot R F a→cd n h R F a→cd n h' R' F' a):∀{l:List V} {m:List Value},cI tx cd h R F l m→cI tx cd h' R' F' l m
 |[],[],_=>trivial
 |_::_,_::_,⟨a,b⟩=>⟨dv.move kb p hh hcd a,cI.move kb p hh hcd b⟩
 |[],_::_,e=>e
 |_::_,[],e=>e
end
set_option tactic.hygienic true in
theorem nR(kb:jE h h' R F)(p:R<+:R')(hh:∀b,hot R' F' b→hot R F b)(n:Nat)(a:Addr)(na:¬hot R F a)(c:bu k n h R F a):bu k n h' R' F' a:=by
 have r0:∀u v,uZ k h R F u v→uZ k h' R' F' u v:=by
  intro u v r
  induction u<;>induction v<;>first|exact r|exact dv.move kb p hh (fun ζ ζ ζ q=>q.elim) r
 obtain⟨hs,c⟩:=c
 refine ⟨hs,?_⟩
 split at c
 ·rename_i hc
  rw[if_pos hc]
  obtain⟨f,⟨o,es,ep,ho,r⟩,hf⟩:=c
  exact⟨f,⟨o,es,ep,kb _ _ na ho,r⟩,fun i=>r0 _ _ (hf i)⟩
 ·rename_i hc
  rw[if_neg hc]
  obtain⟨f,⟨o,es,ep,ho,r⟩,hf⟩:=c
  exact⟨f,⟨o,es,ep,kb _ _ na ho,r⟩,fun i y hy=>r0 _ _ (hf i y hy)⟩
theorem VR.move(kb:jE h h' R F)(p:R<+:R')(hh:∀b,hot R' F' b→hot R F b)(r:VR k h R F v mv):VR k h' R' F' v mv:=dv.move kb p hh (nR kb p hh) r
theorem VRs.move(kb:jE h h' R F)(p:R<+:R')(hh:∀b,hot R' F' b→hot R F b){v:List V}{mv:List Value}(r:VRs k h R F v mv):VRs k h' R' F' v mv:=cI.move kb p hh (nR kb p hh) r
theorem aT.move{K K':Type}{kr:K→K'→Prop}(kb:jE h h' R F)(p:R<+:R')(hh:∀b,hot R' F' b→hot R F b):∀{l:List (K×V)} {m:List (K'×Value)},aT k.tx (bu k) h R F kr l m→aT k.tx (bu k) h' R' F' kr l m
 |[],[],_=>trivial
 |_::_,_::_,⟨⟨a,b⟩,c⟩=>⟨⟨a,VR.move kb p hh b⟩,aT.move kb p hh c⟩
 |[],_::_,e=>e
 |_::_,[],e=>e
theorem OR.move(kb:jE h h' R F)(p:R<+:R')(hh:∀b,hot R' F' b→hot R F b){o:O}{q:Addr×Addr}(s1:h'.get? q.1=h.get? q.1)(s2:h'.get? q.2=h.get? q.2)(r:OR k h R F o q):OR k h' R' F' o q:=by
 induction o with
 |list l=>obtain⟨e,items,⟨n,ho⟩,v⟩:=r;exact⟨e,items,⟨n,s1.trans ho⟩,VRs.move kb p hh v⟩
 |aM l=>obtain⟨e,ns,kvs,⟨ob,es,ho,q⟩,v⟩:=r;exact⟨e,ns,kvs,⟨ob,es,s1.trans ho,q⟩,aT.move kb p hh v⟩
 |aP l=>obtain⟨e,ns,kvs,⟨ob,es,ep,ho,q⟩,v⟩:=r;exact⟨e,ns,kvs,⟨ob,es,ep,s1.trans ho,q⟩,aT.move kb p hh v⟩
 |inst c l=>
  obtain⟨e,ho,at_,m,⟨ob,es,ep,ho',q⟩,⟨es₂,n₂,hd,hz⟩,v⟩:=r
  refine ⟨e,s1.trans ho,at_,m,⟨ob,es,ep,s2.trans ho',q⟩,⟨es₂,n₂,s2.trans hd,hz⟩,fun c y hy=>?_⟩
  have:=v c y hy
  revert this
  induction au c l with
  |none=>exact id
  |some u=>exact fun ⟨mv,e,r⟩=>⟨mv,e,VR.move kb p hh r⟩
 |dS l=>
  obtain⟨e,ns,o,es,ep,ho,q1,q2,v⟩:=r
  refine ⟨e,ns,o,es,ep,s1.trans ho,q1,q2,?_⟩
  have go:∀{l:List (V×V)} {m:List DictEntry},cM k.tx (bu k) h R F k.P.eH l m→cM k.tx (bu k) h' R' F' k.P.eH l m:=by
   intro l
   induction l with
   |nil=>intro m z;induction m<;>exact z
   |cons a l ih=>
    intro m z
    induction m with
    |nil=>exact z
    |cons b m=>obtain⟨⟨b',e',r',t'⟩,z⟩:=z;exact⟨⟨b',e',VR.move kb p hh r',t'⟩,ih z⟩
  exact go v
theorem jE.refl:jE h h R F:=fun ζ ζ ζ e=>e
theorem dv.same{tx:List Str}{cd:Nat→Heap→Ro→List Addr→Addr→Prop}(p:R<+:R')(hh:∀b,hot R' F' b→hot R F b)(hcd:∀n a,cd n h R F a→cd n h R' F' a){v:V}{mv:Value}(r:dv tx cd h R F v mv):dv tx cd h R' F' v mv:=dv.move jE.refl p hh (fun n a ζ=>hcd n a) r
theorem VR.same(p:R<+:R')(hh:∀b,hot R' F' b→hot R F b)(r:VR k h R F v mv):VR k h R' F' v mv:=VR.move jE.refl p hh r
theorem aT.same{K K':Type}{kr:K→K'→Prop}(p:R<+:R')(hh:∀b,hot R' F' b→hot R F b){l:List (K×V)}{m:List (K'×Value)}(r:aT k.tx (bu k) h R F kr l m):aT k.tx (bu k) h R' F' kr l m:=aT.move jE.refl p hh r
theorem OR.same(p:R<+:R')(hh:∀b,hot R' F' b→hot R F b){o:O}{q:Addr×Addr}(r:OR k h R F o q):OR k h R' F' o q:=OR.move jE.refl p hh rfl rfl r
theorem St.adopt{d:Addr}{o:O}(S:St k base R (d::F) H h)(hd:d∉F)(ho:OR k h (R++[(d,d)]) F o (d,d)):St k base (R++[(d,d)]) F (H++[o]) h∧R<+:R++[(d,d)]∧(∀b,hot (R++[(d,d)]) F b→hot R (d::F) b):=by
 have pre:R<+:R++[(d,d)]:=⟨_,rfl⟩
 have own_or:∀b,own (R++[(d,d)]) b→own R b∨b=d:=fun b ⟨q,hq,e⟩=>by
  rcases Zv hq with z|z
  ·exact .inl ⟨q,z,e⟩
  ·rw[List.mem_singleton]at z;subst z;exact .inr (e.elim id id)
 have hh:∀b,hot (R++[(d,d)]) F b→hot R (d::F) b:=by
  rintro b (q|q)
  ·rcases own_or b q with z|z
   ·exact .inl z
   ·exact .inr (z▸Ze ..)
  ·exact .inr (Zh _ q)
 have nd:∀b,own R b→b≠d:=fun b hb e=>S.frm b hb (e▸Ze ..)
 refine ⟨⟨S.dV,fun b hb=>S.fresh b (hh b hb),fun b hb=>S.live b (hh b hb),by simp[S.len],fun i oi q hi hq=>?_,fun i j a b ha hb hij=>?_,fun b hb q=>?_⟩,pre,hh⟩
 ·rcases Nat.lt_or_ge i R.length with z|z
  ·rw[Zj z]at hq
   rw[Zj (S.len▸z)]at hi
   exact OR.same pre hh (S.obj i oi q hi hq)
  ·have hlt:i<(R++[(d,d)]).length:=(Z6 hq).1
   have hi':i=R.length:=by simp at hlt;omega
   subst hi'
   rw[Zw (Z5 _),Nat.sub_self]at hq
   rw[S.len,Zw (Z5 _),Nat.sub_self]at hi
   cases hq;cases hi
   exact ho
 ·have at_:∀(i:Nat) (a:Addr×Addr),(R++[(d,d)])[i]?=some a→(i<R.length∧R[i]?=some a)∨(i=R.length∧a=(d,d)):=fun i a ha=>by
   rcases Nat.lt_or_ge i R.length with z|z
   ·rw[Zj z]at ha;exact .inl ⟨z,ha⟩
   ·have hlt:i<(R++[(d,d)]).length:=(Z6 ha).1
    have hi':i=R.length:=by simp at hlt;omega
    subst hi'
    rw[Zw (Z5 _),Nat.sub_self]at ha
    cases ha;exact .inr ⟨rfl,rfl⟩
  rcases at_ i a ha with ⟨z,ha'⟩|⟨z,ea⟩<;>rcases at_ j b hb with ⟨y,hb'⟩|⟨y,eb⟩
  ·exact S.dis i j a b ha' hb' hij
  ·subst eb
   have q1:=nd _ (cD ha').1;have q2:=nd _ (cD ha').2
   exact⟨q1,q1,q2,q2⟩
  ·subst ea
   have q1:=nd _ (cD hb').1;have q2:=nd _ (cD hb').2
   exact⟨q1.symm,q2.symm,q1.symm,q2.symm⟩
  ·exact absurd (z.trans y.symm) hij
 ·rcases own_or b hb with z|z
  ·exact S.frm b z (Zh _ q)
  ·exact hd (z▸q)
theorem St.OL{I:Addr}(S:St k base R (I::F) H h)(hI:I∉F)(kb:∀b o,b≠I→h.get? b=some o→h'.get? b=some o):St k base R F H h':=by
 have nb:∀b,own R b→b≠I:=fun b hb e=>S.frm b hb (e▸Ze ..)
 have up:∀b,hot R F b→hot R (I::F) b:=fun b q=>q.imp id (Zh _)
 have K:jE h h' R (I::F):=fun b o nh e=>kb b o (fun z=>nh (.inr (z▸Ze ..))) e
 have same:∀b,own R b→h'.get? b=h.get? b:=fun b hb=>let ⟨o,ho⟩:=S.live b (.inl hb);(kb _ _ (nb _ hb) ho).trans ho.symm
 exact⟨fun b o e=>kb b o (fun q=>by have:=S.fresh I (.inr (Ze ..));rw[←q,e]at this;cases this) (S.dV b o e),fun b hb=>S.fresh b (up b hb),
  fun b hb=>let ⟨o,ho⟩:=S.live b (up b hb);⟨o,kb b o (fun z=>hb.elim (fun q=>nb b q z) fun q=>hI (z▸q)) ho⟩,S.len,fun i o p hi hp=>OR.move K (List.prefix_refl _) up (same _ (cD hp).1) (same _ (cD hp).2) (S.obj i o p hi hp),S.dis,fun b hb q=>S.frm b hb (Zh _ q)⟩
theorem VR.D6{d:Addr}(r:VR k h R (d::F) v mv):VR k h R F v mv:=VR.same (List.prefix_refl R) (fun b q=>q.imp id (Zh _)) r
end
section
variable{α β:Type}{m:Option α}{f:α→Option β}{K:β→Prop}{G:Prop}
def W(m:Option α)(K:α→Prop):Prop:=m.elim False K
theorem wb{K':α→Prop}(q:W (m.bind f) K)(h:∀a,W (f a) K→K' a):W m K':=by induction m;exact q;exact h _ q
theorem we(q:W (m.bind f) K)(h:∀a,m=some a→W (f a) K→G):G:=by induction m;exact q.elim;exact h _ rfl q
theorem wbe{K':α→Prop}(q:W (m.bind f) K)(h:∀a,m=some a→W (f a) K→K' a):W m K':=by induction m;exact q;exact h _ rfl q
theorem RQ{K:α→Prop}{a:α}(e:m=some a)(h:K a):W m K:=by subst e;exact h
theorem wm{K K':α→Prop}(q:W m K)(h:∀a,K a→K' a):W m K':=by induction m;exact q;exact h _ q
theorem xS{K:α→Prop}(q:W m K)(h:∀a,m=some a→K a→G):G:=by induction m;exact q.elim;exact h _ rfl q
section
variable{c:Prop}[Decidable c]{K:α→Prop}
theorem wif(q:W (if c then m else none) K)(h:c→W m K→G):G:=by
 by_cases hc:c
 ·rw[if_pos hc]at q;exact h hc q
 ·rw[if_neg hc]at q;exact q.elim
theorem Ml(q:W (if c then none else m) K)(h:¬c→W m K→G):G:=by
 by_cases hc:c
 ·rw[if_pos hc]at q;exact q.elim
 ·rw[if_neg hc]at q;exact h hc q
end
theorem fV{x:V}{f:Int→Option β}(q:W ((bc x).bind f) K)(h:∀i,x=.int i→W (f i) K→G):G:=by
 cases x<;>first|exact h _ rfl q|exact q.elim
theorem KW{x:V}{f:Nat→Option β}(q:W ((pD x).bind f) K)(h:∀i,x=.str i→W (f i) K→G):G:=by
 cases x<;>first|exact h _ rfl q|exact q.elim
theorem wfl{x:V}{f:List V→Option β}(q:W ((QE x).bind f) K)(h:∀i,x=.fl i→W (f i) K→G):G:=by
 cases x<;>first|exact h _ rfl q|exact q.elim
theorem wO{x:V}{f:Nat→Option β}(q:W ((iA x).bind f) K)(h:∀i,x=.ref i→W (f i) K→G):G:=by
 cases x<;>first|exact h _ rfl q|exact q.elim
end
noncomputable abbrev Dg:=Nat→List V→H→Option (V×H)
structure Fm where
 env:Env
 names:List Str
noncomputable abbrev Fm.L(f:Fm):Addr:=f.env.locals
structure Gm where
 k:Lk
 base:Heap
 A:Around
 f:Fm
 call:Dg
structure Sg where
 R:Ro
 F:List Addr
 s:Shared
noncomputable abbrev upd(s:Shared)(h:Heap)(t:Nat):Shared:={s with heap:=h,toks:=t}
noncomputable def noX:Addr→Prop:=fun ζ=>False
abbrev Gm.wp{α:Type}(Γ:Gm)(t:Sem α)(Q:α→Shared→Prop)(E:Value→Shared→Prop)(s:Shared):Prop:=wpAny (model Γ.k.pr Γ.k.w) Γ.A t Q E s
abbrev Vr(Γ:Gm)(σ:Sg)(v:V)(mv:Value):Prop:=VR Γ.k σ.s.heap σ.R σ.F v mv
abbrev Vrs(Γ:Gm)(σ:Sg)(v:List V)(mv:List Value):Prop:=VRs Γ.k σ.s.heap σ.R σ.F v mv
abbrev Sts(Γ:Gm)(σ:Sg)(H:Mini.Internal.H):Prop:=St Γ.k Γ.base σ.R σ.F H σ.s.heap
structure MvS (k:Lk)(base:Heap)(ex:Addr→Prop)(σ:Sg)(H:Mini.Internal.H)(σ':Sg):Prop where
 x:Ext ex σ.R σ.s.heap σ'.R σ'.s.heap
 S:St k base σ'.R σ'.F H σ'.s.heap
 F:σ'.F=σ.F
 e:σ'.s=(upd σ.s σ'.s.heap σ'.s.toks)
abbrev Mv(Γ:Gm)(ex:Addr→Prop)(σ:Sg)(H:Mini.Internal.H)(σ':Sg):Prop:=MvS Γ.k Γ.base ex σ H σ'
def NB(k:Lk)(h:Heap)(R:Ro)(F:List Addr)(f:Fm)(l:Loc):Prop:=
 l.length=f.names.length∧∃m,h.Ns f.L m∧∀(i:Nat) (x:Str) (v:V),f.names[i]?=some x→l[i]?=some (some v)→∃mv,m x=some mv∧VR k h R F v mv
structure At (Γ:Gm)(l:Loc)(H:Mini.Internal.H)(σ:Sg):Prop where
 S:Sts Γ σ H
 o:NB Γ.k σ.s.heap σ.R σ.F Γ.f l
 L:Γ.f.L∈σ.F
section
variable{Γ:Gm}{ex ex':Addr→Prop}{σ σ' σ'':Sg}{H H':Mini.Internal.H}{v:V}{mv:Value}{l:Loc}
theorem Mv.trans{H1 H2:Mini.Internal.H}(a:Mv Γ ex σ H1 σ')(b:Mv Γ ex σ' H2 σ''):Mv Γ ex σ H2 σ'':=⟨a.x.trans b.x,b.S,b.F.trans a.F,by rw[b.e,a.e]⟩
theorem Mv.weak(m:Mv Γ noX σ H σ'):Mv Γ ex σ H σ':=⟨m.x.weak fun ζ z=>z.elim,m.S,m.F,m.e⟩
theorem Mv.here(S:Sts Γ σ H){tk:Nat}:Mv Γ ex σ H ⟨σ.R,σ.F,(upd σ.s σ.s.heap tk)⟩:=⟨Ext.refl,S,rfl,rfl⟩
theorem Mv.up(m:Mv Γ ex σ H σ')(hex:∀b,ex b→b∈σ.F)(r:Vr Γ σ v mv):Vr Γ σ' v mv:=VR.mono m.x hex (fun ζ q=>.inl (m.F▸q)) r
theorem Mv.ups(m:Mv Γ ex σ H σ')(hex:∀b,ex b→b∈σ.F){v:List V}{mv:List Value}(r:Vrs Γ σ v mv):Vrs Γ σ' v mv:=VRs.mono m.x hex (fun ζ q=>.inl (m.F▸q)) r
theorem VR.up(r:Vr Γ σ v mv)(m:Mv Γ noX σ H σ'):Vr Γ σ' v mv:=m.up (fun ζ z=>z.elim) r
theorem VRs.up{v:List V}{mv:List Value}(r:Vrs Γ σ v mv)(m:Mv Γ noX σ H σ'):Vrs Γ σ' v mv:=m.ups (fun ζ z=>z.elim) r
theorem At.gox(o:At Γ l H σ)(m:Mv Γ ex σ H' σ')(hex:∀b,ex b→b∈σ.F)(hL:¬ex Γ.f.L):At Γ l H' σ':=by
 obtain⟨hl,ns,hn,hv⟩:=o.o
 exact⟨m.S,⟨hl,ns,hn.at fun ob e=>m.x.keep _ ob e (fun q=>o.S.frm _ q o.L) hL,fun i x v hx hl=>let ⟨mv,e,r⟩:=hv i x v hx hl;⟨mv,e,m.up hex r⟩⟩,m.F▸o.L⟩
theorem At.go(o:At Γ l H σ)(m:Mv Γ noX σ H' σ'):At Γ l H' σ':=o.gox m (fun ζ z=>z.elim) fun z=>z
def aD(Γ:Gm)(σ:Sg)(Q:Value→Shared→Prop)(x:V×Mini.Internal.H):Prop:=∀mv σ',Mv Γ noX σ x.2 σ'→Vr Γ σ' x.1 mv→Q mv σ'.s
def I5(Γ:Gm)(σ:Sg)(Q:List Value→Shared→Prop)(x:List V×Mini.Internal.H):Prop:=∀mv σ',Mv Γ noX σ x.2 σ'→Vrs Γ σ' x.1 mv→Q mv σ'.s
def eR(Γ:Gm)(σ:Sg)(Q:Bool→Shared→Prop)(x:Bool×Mini.Internal.H):Prop:=∀σ',Mv Γ noX σ x.2 σ'→Q x.1 σ'.s
def EZ(Γ:Gm)(σ:Sg)(Q:Unit→Shared→Prop)(H:Mini.Internal.H):Prop:=∀σ',Mv Γ noX σ H σ'→Q () σ'.s
section
variable{Q:Value→Shared→Prop}{H1:Mini.Internal.H}
theorem aD.go{x:V×Mini.Internal.H}(q:aD Γ σ Q x)(m:Mv Γ noX σ H1 σ'):aD Γ σ' Q x:=fun mv σ2 m2 r=>q mv σ2 (m.trans m2) r
theorem W.go{m:Option (V×Mini.Internal.H)}(q:W m (aD Γ σ Q))(a:Mv Γ noX σ H1 σ'):W m (aD Γ σ' Q):=wm q fun ζ p=>p.go a
theorem eR.go{Q:Bool→Shared→Prop}{x:Bool×Mini.Internal.H}(q:eR Γ σ Q x)(m:Mv Γ noX σ H1 σ'):eR Γ σ' Q x:=fun σ2 m2=>q σ2 (m.trans m2)
theorem W.goB{Q:Bool→Shared→Prop}{m:Option (Bool×Mini.Internal.H)}(q:W m (eR Γ σ Q))(a:Mv Γ noX σ H1 σ'):W m (eR Γ σ' Q):=wm q fun ζ p=>p.go a
theorem aD.here(q:aD Γ σ Q (v,H))(S:Sts Γ σ H)(r:Vr Γ σ v mv){tk:Nat}:Q mv (upd σ.s σ.s.heap tk):=q mv _ (Mv.here S) r
theorem aD.at(q:aD Γ σ Q (v,H))(S:Sts Γ σ H)(r:Vr Γ σ v mv):Q mv σ.s:=q.here S r (tk:=σ.s.toks)
theorem aD.int{i:Int}(q:aD Γ σ Q (.int i,H))(S:Sts Γ σ H){t tk:Nat}:Q (.int i t) (upd σ.s σ.s.heap tk):=q.here S ⟨t,rfl⟩
theorem aD.bool{b:Bool}(q:aD Γ σ Q (.bool b,H))(S:Sts Γ σ H){tk:Nat}:Q (.bool b) (upd σ.s σ.s.heap tk):=q.here S rfl
end
def EH(Γ:Gm)(e:Expr)(e':E):Prop:=∀(l:Loc) (H:Mini.Internal.H) (σ:Sg) (Q:Value→Shared→Prop) (Er:Value→Shared→Prop),At Γ l H σ→W (evE Γ.k.P Γ.call e' l H) (aD Γ σ Q)→Γ.wp (eval e Γ.f.env) Q Er σ.s
def CH(Γ:Gm)(e:Expr)(e':C):Prop:=∀(l:Loc) (H:Mini.Internal.H) (σ:Sg) (Q:Bool→Shared→Prop) (Er:Value→Shared→Prop),At Γ l H σ→W (evC Γ.k.P Γ.call e' l H) (eR Γ σ Q)→Γ.wp (isTrue e Γ.f.env (eval e Γ.f.env)) Q Er σ.s
end
noncomputable def opM:Op→PySem.Operator
 |.add=>.Add|.sub=>.Sub|.mul=>.Mult|.fdiv=>.FloorDiv|.mod=>.Mod|.pow=>.Pow|.shl=>.LShift|.band=>.BitAnd|.bor=>.BitOr|.bxor=>.BitXor
noncomputable def pq:Cmp→PySem.CmpOp
 |.eq=>.Eq|.ne=>.NotEq|.lt=>.Lt|.le=>.LtE|.gt=>.Gt|.ge=>.GtE|.inn=>.In|.nin=>.NotIn|.isn=>.Is|.jh=>.IsNot
theorem kX{a:Int}(h:small a=true): -(2^64)<a∧a<2^64:=Z0 h
theorem jg{a:Int}(h:small a=true):Builtin.Int.intBits a≤64:=intBits_le_64 (kX h).1 (kX h).2
theorem pH{a:Int}(h:small a=true):a.natAbs.log2<9000:=by
 have:=kX h
 by_cases h0:a.natAbs=0
 ·rw[h0];decide+kernel
 ·exact Nat.lt_trans ((Nat.log2_lt h0).mpr (show a.natAbs<2^64 by lia)) (by decide)
theorem zZ{a b:Int}(h:(small a||small b)=true):IntMulOk a b:=(Bool.or_eq_true_iff.mp h).elim (fun h=>IntMulOk.of_left (jg h)) fun h=>IntMulOk.of_right (jg h)
theorem dH{a b:Int}(h:(small a&&decide (0≤b)&&decide (b≤1048576))=true):0≤b∧(Builtin.Int.intBits a:Int)*b≤2^27∧Builtin.Int.intBits a≤64∧b≤1048576:=by
 simp only[Bool.and_eq_true,decide_eq_true_eq]at h
 obtain⟨⟨h1,h2⟩,h3⟩:=h
 have h4:=jg h1
 exact⟨h2,Zg (Int.mul_le_mul_of_nonneg_right (show (Builtin.Int.intBits a:Int)≤64 by lia) h2) (by lia),h4,h3⟩
theorem r6{p:Prop}[Decidable p](h:¬decide p=true):¬p:=fun e=>h (Z1 e)
section
variable{pr:Program}{w:World}{A:Around}{E:Value→Shared→Prop}{s:Shared}
set_option tactic.hygienic true in
theorem zF{op:Op}{a b:Int}{t u:Tok}{Q:Value→Shared→Prop}(q:W (intOp op a b) fun c=>Q (.int c s.toks) {s with toks:=s.toks+1}):wpAny (model pr w) A (binaryOp (opM op) (.int a t) (.int b u)) Q E s:=by
 induction op
 case add=>exact PyProof.Rows.add_int q
 case sub=>exact sub_int' q
 case mul=>exact wif q fun h q=>mul_int q (zZ h)
 case fdiv=>exact Ml q fun h q=>wif q fun h2 q=>floordiv_int (r6 h) q (.inl (PyProof.noPylong_of_log2 (pH h2)))
 case mod=>exact Ml q fun h q=>mod_int' (r6 h) q
 case pow=>exact wif q fun h q=>pow_int (dH h).1 (dH h).2.1 q
 case shl=>exact wif q fun h q=>lshift_int (dH h).1 (by have:=(dH h).2.2;lia) q
 case band=>exact and_int q
 case bor=>exact or_int q
 case bxor=>exact xor_int q
set_option tactic.hygienic true in
theorem jQ{op:Op}{a b:Int}{t u:Tok}{Q:Value→Shared→Prop}(q:W (u7 op a b) fun c=>Q (.int c s.toks) {s with toks:=s.toks+1}):wpAny (model pr w) A (inplaceOp (opM op) (.int a t) (.int b u)) Q E s:=by
 induction op
 case add=>exact PyProof.Rows.iadd_int q
 case sub=>exact isub_int q
 case fdiv=>exact Ml q fun h q=>wif q fun h2 q=>ifloordiv_int (r6 h) q (.inl (PyProof.noPylong_of_log2 (pH h2)))
 all_goals exact q.elim
end
section
variable{k:Lk}{R:Ro}{F:List Addr}{h:Heap}
theorem VRs.length:∀{l:List V} {m:List Value},VRs k h R F l m→l.length=m.length
 |[],[],_=>rfl
 |_::_,_::_,r=>congrArg (· +1) (VRs.length r.2)
 |[],_::_,e=>e.elim
 |_::_,[],e=>e.elim
theorem VRs.get:∀{l:List V} {m:List Value} {i:Nat} {v:V},VRs k h R F l m→l[i]?=some v→∃mv,m[i]?=some mv∧VR k h R F v mv
 |_::_,_::_,0,_,r,e=>⟨_,rfl,Zt e▸r.1⟩
 |_::_,_::_,i+1,_,r,e=>VRs.get (i:=i) r.2 e
 |[],[],_,_,_,e=>nomatch e
 |[],_::_,_,_,e,_=>e.elim
 |_::_,[],_,_,e,_=>e.elim
theorem VRs.append:∀{l l':List V} {m m':List Value},VRs k h R F l m→VRs k h R F l' m'→VRs k h R F (l++l') (m++m')
 |[],_,[],_,_,r=>r
 |_::_,_,_::_,_,a,r=>⟨a.1,VRs.append a.2 r⟩
 |[],_,_::_,_,e,_=>e.elim
 |_::_,_,[],_,e,_=>e.elim
theorem VRs.set:∀{l:List V} {m:List Value} {i:Nat} {v:V} {mv:Value},VRs k h R F l m→VR k h R F v mv→VRs k h R F (l.set i v) (m.set i mv)
 |_::_,_::_,0,_,_,a,q=>⟨q,a.2⟩
 |_::_,_::_,_+1,_,_,a,q=>⟨a.1,VRs.set a.2 q⟩
 |[],[],_,_,_,_,_=>trivial
 |[],_::_,_,_,_,e,_=>e.elim
 |_::_,[],_,_,_,e,_=>e.elim
theorem VRs.erase:∀{j:Nat} {l:List V} {m:List Value},VRs k h R F l m→VRs k h R F (l.eraseIdx j) (m.eraseIdx j)
 |_,[],[],_=>trivial
 |0,_::_,_::_,r=>r.2
 |j+1,_::_,_::_,r=>⟨r.1,VRs.erase (j:=j) r.2⟩
 |_,[],_::_,e=>e.elim
 |_,_::_,[],e=>e.elim
theorem VRs.take:∀(n:Nat) {l:List V} {m:List Value},VRs k h R F l m→VRs k h R F (l.take n) (m.take n)
 |0,_,_,_=>trivial
 |_+1,[],[],_=>trivial
 |n+1,_::_,_::_,r=>⟨r.1,VRs.take n r.2⟩
 |_+1,[],_::_,e=>e.elim
 |_+1,_::_,[],e=>e.elim
theorem VRs.rep{vs:List V}{ms:List Value}(r:VRs k h R F vs ms):∀n,VRs k h R F (List.replicate n vs).flatten (List.replicate n ms).flatten
 |0=>trivial
 |n+1=>VRs.append r (VRs.rep r n)
theorem VRs.size{l:List V}{m:Array Value}(r:VRs k h R F l m.toList):l.length=m.size:=r.length
theorem bG(h:Heap):h.get? h.objs.size=none:=by
 induction e:h.get? h.objs.size with
 |none=>rfl
 |some o=>exact absurd (Heap.lt_size e) (Nat.lt_irrefl _)
end
section
variable{Γ:Gm}{σ:Sg}{H:Mini.Internal.H}
theorem mU{α:Type}{l:List α}{a:α}{n:Nat}(e:l.length=n):(l++[a])[n]?=some a:=by rw[←e,Zw (Z5 _),Nat.sub_self];rfl
theorem vN{o:O}{ob:Obj}(S:Sts Γ σ H)(hf:ob.isFreed=false)(ho:Ext noX σ.R σ.s.heap (σ.R++[(σ.s.heap.objs.size,σ.s.heap.objs.size)]) (σ.s.heap.push ob)→(σ.s.heap.push ob).get? σ.s.heap.objs.size=some ob→
   OR Γ.k (σ.s.heap.push ob) (σ.R++[(σ.s.heap.objs.size,σ.s.heap.objs.size)]) σ.F o (σ.s.heap.objs.size,σ.s.heap.objs.size))
  {Q:Value→Shared→Prop} (q:aD Γ σ Q (.ref H.length,H++[o])) {tk:Nat}:Q (.ref σ.s.heap.objs.size) (upd σ.s (σ.s.heap.push ob) tk):=by
 have nn:=bG σ.s.heap
 have g:(σ.s.heap.push ob).get? σ.s.heap.objs.size=some ob:=Heap.get?_push_size _ hf
 obtain⟨S',X⟩:=S.alloc (o:=o) (p:=(σ.s.heap.objs.size,σ.s.heap.objs.size)) (h':=σ.s.heap.push ob) (fun b o e=>Heap.get?_push_of_some _ e) nn nn ⟨_,g⟩ ⟨_,g⟩ fun X=>ho X g
 exact q _ ⟨_,σ.F,(upd σ.s (σ.s.heap.push ob) tk)⟩ ⟨X,S',rfl,rfl⟩ ⟨_,mU S.len,rfl⟩
theorem jy{Q:Value→Shared→Prop}{l:List V}{items:Array Value}{n:Nat}(S:Sts Γ σ H)(r:Vrs Γ σ l items.toList)(q:aD Γ σ Q (.ref H.length,H++[.list l])){tk:Nat}:
  Q (.ref σ.s.heap.objs.size) (upd σ.s (σ.s.heap.push {cls:=.type "list",data:=.seq items n}) tk):=
 vN (o:=.list l) (ob:={cls:=.type "list",data:=.seq items n}) S rfl (fun X g=>⟨rfl,items,⟨n,g⟩,VRs.mono X (fun ζ z=>z.elim) (fun ζ z=>.inl z) r⟩) q
theorem Ab{Q:Value→Shared→Prop}{l:List V}{items:Array Value}{n a:Nat}(ha:σ.s.heap.objs.size=a)(S:Sts Γ σ H)(r:Vrs Γ σ l items.toList)(q:aD Γ σ Q (.ref H.length,H++[.list l])){tk:Nat}:
  Q (.ref a) (upd σ.s (σ.s.heap.push {cls:=.type "list",data:=.seq items n}) tk):=ha▸jy S r q
theorem fR(S:Sts Γ σ H)(ob:Obj)(hf:ob.isFreed=false){tk:Nat}:Mv Γ noX σ H ⟨σ.R,σ.F,(upd σ.s (σ.s.heap.push ob) tk)⟩∧(σ.s.heap.push ob).get? σ.s.heap.objs.size=some ob∧¬hot σ.R σ.F σ.s.heap.objs.size:=by
 have st:σ.s.heap.StaysIn (σ.s.heap.push ob):=fun b ob e=>Heap.get?_push_of_some _ e
 refine ⟨⟨Ext.of_stays st,S.stays st,rfl,rfl⟩,Heap.get?_push_size _ hf,fun q=>?_⟩
 obtain⟨x,hx⟩:=S.live _ q
 rw[bG]at hx;cases hx
theorem Sts.at{i:Nat}{o:O}{mv:Value}(S:Sts Γ σ H)(r:Vr Γ σ (.ref i) mv)(ho:H[i]?=some o){G:Value→Prop}(g:∀p,σ.R[i]?=some p→OR Γ.k σ.s.heap σ.R σ.F o p→G (.ref p.1)):G mv:=by
 obtain⟨p,hp,rfl⟩:=r
 exact g p hp (S.obj i o p ho hp)
end
end Mini.Internal
end
section
open PySem PySem.W PyProof.Rows PySem.Calls PySem.SeqAt
namespace Mini.Internal
theorem iX:∀l m:List V,V.sZ l m=((List.range (min l.length m.length)).all (fun j=>V.beq (l.getD j .none) (m.getD j .none))&&l.length==m.length)
 |[],[]=>rfl
 |[],_::_=>by simp[V.sZ]
 |_::_,[]=>by simp[V.sZ]
 |a::l,b::m=>by
  rw[V.sZ,iX l m]
  have e:min (a::l).length (b::m).length=min l.length m.length+1:=by simp
  rw[e,List.range_succ_eq_map,List.all_cons,List.all_map,Bool.and_assoc]
  simp[Function.comp_def]
theorem V.beq_eq:∀{x y:V},V.beq x y=true→x=y:=by
 intro x
 refine V.rec (motive_1:=fun x=>∀{y},V.beq x y=true→x=y) (motive_2:=fun l=>∀{m},V.sZ l m=true→l=m) ?_ ?_ ?_ ?_ ?_ ?_ ?_ ?_ ?_ ?_ x
 ·intro y e;cases y<;>first|rfl|cases e
 ·intro b y e;cases y<;>first|exact congrArg _ (eq_of_beq e)|cases e
 ·intro b y e;cases y<;>first|exact congrArg _ (Z0 e)|cases e
 ·intro b y e;cases y<;>first|exact congrArg _ (Z0 e)|cases e
 ·intro l ih y e;cases y<;>first|exact congrArg _ (ih e)|cases e
 ·intro l ih y e;cases y<;>cases e
 ·intro l y e;cases y<;>cases e
 ·intro l y e;cases y<;>cases e
 ·intro m e;induction m<;>first|rfl|cases e
 ·intro a l iha ihl m e
  induction m with
  |nil=>cases e
  |cons b m=>exact (iha (Z3 e).1)▸ (ihl (Z3 e).2)▸rfl
structure ik (k:Lk):Prop where
 inj:∀(i j:Nat) (x:Str),k.tx[i]?=some x→k.tx[j]?=some x→i=j
 DZ:∀c n,k.P.DZ c=some n→∃x,k.tx[c]?=some x∧x.length=n∧n<1000
 ve:∀c d,k.P.ve c=some d→∃x ch,k.tx[c]?=some x∧k.tx[d]?=some ⟨#[ch]⟩∧x.cps[0]?=some ch
section
variable{Γ:Gm}{A:Around}{σ:Sg}
inductive Fv (Γ:Gm)(σ:Sg):Nat→V→Value→Prop
 |none {n:Nat}:Fv Γ σ n .none .none
 |int {n:Nat} (i:Int) (t:Tok):Fv Γ σ n (.int i) (.int i t)
 |str {n:Nat} (c:Nat) (x:Str) (t:Tok):Γ.k.tx[c]?=some x→Fv Γ σ n (.str c) (.str x t)
 |tup {n:Nat} (l:List V) (a:Addr) (items:Array Value):σ.s.heap.IsTuple a items→l.length=items.size→(∀(j:Nat) (h:j<items.size),Fv Γ σ n (l.getD j .none) items[j])→Fv Γ σ (n+1) (.tup l) (.ref a)
set_option tactic.hygienic true in
theorem Qr:∀(n:Nat) {x:V} {mx:Value},iy n x=true→Vr Γ σ x mx→Fv Γ σ n x mx:=by
 intro n
 induction n with
 |zero=>intro x mx f r;cases x<;>first|(cases r;exact .none)|(obtain⟨t,rfl⟩:=r;exact .int _ _)|(obtain⟨x,t,h,rfl⟩:=r;exact .str _ _ _ h)|(cases f;done)
 |succ n ih=>
  intro x mx f r
  cases x<;>first|(cases r;exact .none)|(obtain⟨t,rfl⟩:=r;exact .int _ _)|(obtain⟨x,t,h,rfl⟩:=r;exact .str _ _ _ h)|(cases f;done)|skip
  rename_i l
  obtain⟨a,items,rfl,_,t,r⟩:=r
  have len:=VRs.size r
  refine .tup l a items t len fun j h=>?_
  have hl:j<l.length:=by rw[len];exact h
  obtain⟨mv,e,q⟩:=VRs.get (i:=j) (v:=l[j]) r (Zo hl)
  rw[Array.getElem?_toList,Array.getElem?_eq_getElem h]at e
  cases e
  rw[List.getD_eq_getElem?_getD,Zo hl]
  exact ih (Zk (show l.all (iy n)=true from f) _ (List.getElem_mem hl)) q
theorem Fv.mI{n:Nat}{x:V}{mx:Value}(f:Fv Γ σ n x mx):V.beq x x=true:=by
 induction f with
 |none=>rfl
 |int i t=>exact Z1 rfl
 |str c x t h=>exact Z1 rfl
 |tup l a items t len h ih=>
  show V.sZ l l=true
  rw[iX,Nat.min_self,beq_self_eq_true,Bool.and_true,List.all_eq_true]
  exact fun j hj=>ih j (len▸List.mem_range.mp hj)
theorem Fv.comm{n m:Nat}{x y:V}{mx my:Value}(f:Fv Γ σ n x mx)(g:Fv Γ σ m y my):V.beq x y=V.beq y x:=
 Bool.eq_iff_iff.mpr ⟨fun h=>V.beq_eq h▸f.mI,fun h=>V.beq_eq h▸g.mI⟩
variable(inj:∀(i j:Nat) (x:Str),Γ.k.tx[i]?=some x→Γ.k.tx[j]?=some x→i=j)
include inj
theorem str_beq{c d:Nat}{x y:Str}(hx:Γ.k.tx[c]?=some x)(hy:Γ.k.tx[d]?=some y):(x==y)=decide (c=d):=by
 by_cases h:c=d
 ·subst h;rw[hx]at hy;cases hy;rw[beq_self_eq_true,Z1 rfl]
 ·rw[Z2 h]
  exact beq_eq_false_iff_ne.mpr fun e=>h (inj c d x hx (e▸hy))
theorem Fv.one{n:Nat}{x:V}{mx:Value}(fx:Fv Γ σ n x mx):∀{m:Nat} {y:V} {my:Value},Fv Γ σ m y my→mx=my→x=y:=by
 induction fx with
 |none=>intro m y my fy e;induction fy<;>first|rfl|cases e
 |int i t=>intro m y my fy e;induction fy<;>first|(cases e;rfl)|cases e
 |str c x t h=>
  intro m y my fy e
  induction fy with
  |str d y u h2=>cases e;rw[inj _ _ _ h h2]
  |_=>cases e
 |tup l a items t len h ih=>
  intro m y my fy e
  induction fy with
  |tup l' b items' t' len' h'=>
   cases e
   obtain⟨o,ho,_,n1,hd⟩:=t
   obtain⟨o',ho',_,n2,hd'⟩:=t'
   rw[ho]at ho';cases ho'
   rw[hd]at hd';cases hd'
   refine congrArg V.tup (List.ext_getElem (len.trans len'.symm) fun j h1 h2=>?_)
   have:=ih j (len▸h1) (h' j (len▸h1)) rfl
   rwa [List.getD_eq_getElem?_getD,Zo h1,List.getD_eq_getElem?_getD,Zo h2]at this
  |_=>cases e
def Eq3(A:Around)(s:Shared)(mx my:Value)(b:Bool):Prop:=EqAt A s mx my b∧RcAt A s mx my b∧RcNeAt A s mx my (!b)
theorem Fv.eq3{n:Nat}{x:V}{mx:Value}(fx:Fv Γ σ n x mx):∀{A:Around} {m:Nat} {y:V} {my:Value},Fv Γ σ m y my→A.units+n<cLine→Eq3 A σ.s mx my (V.beq x y):=by
 induction fx with
 |none=>
  intro A m y my fy hu
  induction fy with
  |none=>exact⟨EqAt.same _,RcAt.none_none,RcNeAt.none_none⟩
  |int i t=>exact⟨EqAt.none_int _ _,RcAt.none_int _ _,RcNeAt.none_int _ _⟩
  |str c x t h=>exact⟨EqAt.none_str _ _,RcAt.none_str _ _,RcNeAt.none_str _ _⟩
  |tup l a items t=>have hu:=Zl (Z8 _ _) hu;exact⟨EqAt.none_tuple t hu,RcAt.none_tuple t hu,RcNeAt.none_tuple t hu⟩
 |int i t=>
  intro A m y my fy hu
  induction fy with
  |none=>exact⟨EqAt.int_none _ _,RcAt.int_none _ _,RcNeAt.int_none _ _⟩
  |int i t=>exact⟨EqAt.int_int _ _ _ _,RcAt.int_int _ _ _ _,RcNeAt.int_int _ _ _ _⟩
  |str c x t h=>exact⟨EqAt.int_str _ _ _ _,RcAt.int_str _ _ _ _,RcNeAt.int_str _ _ _ _⟩
  |tup l a items t=>have hu:=Zl (Z8 _ _) hu;exact⟨EqAt.int_tuple _ _ t hu,RcAt.int_tuple _ _ t hu,RcNeAt.int_tuple _ _ t hu⟩
 |str c x t h=>
  intro A m y my fy hu
  induction fy with
  |none=>exact⟨EqAt.str_none _ _,RcAt.str_none _ _,RcNeAt.str_none _ _⟩
  |int i t=>exact⟨EqAt.str_int _ _ _ _,RcAt.str_int _ _ _ _,RcNeAt.str_int _ _ _ _⟩
  |str d y t h2=>
   have e:V.beq (.str c) (.str d)=(x==y):=(str_beq inj h h2).symm
   rw[e]
   exact⟨EqAt.str_str _ _ _ _,RcAt.str_str _ _ _ _,RcNeAt.str_str _ _ _ _⟩
  |tup l a items t=>have hu:=Zl (Z8 _ _) hu;exact⟨EqAt.str_tuple _ _ t hu,RcAt.str_tuple _ _ t hu,RcNeAt.str_tuple _ _ t hu⟩
 | @tup n l a items t len h ih=>
  intro A m y my fy hu2
  have hu:=Zl (Z8 _ _) hu2
  induction fy with
  |none=>exact⟨EqAt.tuple_none t hu,RcAt.tuple_none t hu,RcNeAt.tuple_none t hu⟩
  |int i u=>exact⟨EqAt.tuple_int _ _ t hu,RcAt.tuple_int _ _ t hu,RcNeAt.tuple_int _ _ t hu⟩
  |str c x u _=>exact⟨EqAt.tuple_str _ _ t hu,RcAt.tuple_str _ _ t hu,RcNeAt.tuple_str _ _ t hu⟩
  |tup l' b items' t' len' h'=>
   have at_:∀j (h1:j<items.size) (h2:j<items'.size),Eq3 A.in1 σ.s items[j] items'[j] (V.beq (l.getD j .none) (l'.getD j .none)):=fun j h1 h2=>ih j h1 (h' j h2) (by show A.units+1+n<cLine;lia)
   have eb:V.beq (.tup l) (.tup l')=((List.range (min items.size items'.size)).all (fun j=>V.beq (l.getD j .none) (l'.getD j .none))&&items.size==items'.size):=(iX l l').trans (by rw[len,len'])
   have rc:RcAt A σ.s (.ref a) (.ref b) (V.beq (.tup l) (.tup l')):=eb▸RcAt.tuples t t' hu fun j h1 h2=>(at_ j h1 h2).1
   refine ⟨?_,rc,eb▸RcNeAt.tuples t t' hu fun j h1 h2=>(at_ j h1 h2).1⟩
   by_cases hab:a=b
   ·have f:Fv Γ σ (n+1) (.tup l) (.ref a):=.tup l a items t len h
    rw[←Fv.one inj f (.tup l' b items' t' len' h') (congrArg Value.ref hab),f.mI,hab]
    exact EqAt.same _
   ·exact EqAt.of_refs hab rc
end
section
variable{Γ:Gm}{σ:Sg}{x y:V}{mx my:Value}
theorem ny(f:V.flat x=true)(r:Vr Γ σ x mx):Fv Γ σ 4 x mx:=Qr 4 f r
end
theorem mj{i:Int}(h:idx i=true):0≤i∧i<2^62:=(Z3 h).imp Z0 Z0
theorem gD{h:H}{a:Nat}{l:List V}(e:lst h a=some l):h[a]?=some (.list l):=by
 unfold lst at e
 revert e
 induction h[a]? with
 |none=>intro e;cases e
 |some o=>induction o<;>intro e<;>cases e;rfl
theorem DV{h:H}{a:Nat}{c:Nat×List (Nat×V)}(e:ins h a=some c):h[a]?=some (.inst c.1 c.2):=by
 unfold ins at e
 revert e
 induction h[a]? with
 |none=>intro e;cases e
 |some o=>induction o<;>intro e<;>cases e;rfl
theorem kK:∀{l:List V} {ns:List Int},intsOf l=some ns→l=ns.map V.int
 |[],ns,e=>by cases e;rfl
 |v::l,ns,e=>by
  cases v<;>first|(cases e;done)|skip
  obtain⟨m,hm,rfl⟩:=Option.map_eq_some_iff.mp e
  rw[kK hm];rfl
def qr{α β:Type}(P:α→β→Prop)(a:Option α)(b:Option β):Prop:=a.elim (b=none) fun v=>∃w,b=some w∧P v w
theorem qr.Ph{α β:Type}{P:α→β→Prop}{a:Option α}{b:Option β}(h:qr P a b):b.isSome=a.isSome:=by
 induction a with
 |none=>rw[show b=none from h];rfl
 |some v=>obtain⟨w,e,_⟩:=h;rw[e];rfl
theorem qr.getD{α β:Type}{P:α→β→Prop}{a:Option α}{b:Option β}(h:qr P a b){d:α}{e:β}(r:P d e):P (a.getD d) (b.getD e):=by
 induction a with
 |none=>rw[show b=none from h];exact r
 |some v=>obtain⟨w,e,q⟩:=h;rw[e];exact q
theorem qr.of{α β:Type}{P:α→β→Prop}{a:Option α}{b:Option β}(h:qr P a b){v:α}(e:a=some v):∃w,b=some w∧P v w:=by subst e;exact h
section
variable{k:Lk}{R:Ro}{F:List Addr}
theorem aT.au{K K':Type}[DecidableEq K][DecidableEq K']{kr:K→K'→Prop}{h:Heap}(uniq:∀a b a' b',kr a a'→kr b b'→(a=b↔a'=b')){key:K}{key':K'}(hk:kr key key'):
  ∀{l:List (K×V)} {m:List (K'×Value)},aT k.tx (bu k) h R F kr l m→qr (VR k h R F) (Mini.Internal.au key l) (valueAt m key')
 |[],[],_=>rfl
 |(a,v)::l,(b,w)::m,r=>by
  have u:=uniq key a key' b hk r.1.1
  unfold Mini.Internal.au valueAt
  by_cases q:key=a
  ·rw[if_pos q,List.find?_cons,Z1 (u.mp q).symm]
   exact⟨w,rfl,r.1.2⟩
  ·rw[if_neg q,List.find?_cons,Z2 fun z=>q (u.mpr (Eq.symm z))]
   exact aT.au uniq hk r.2
 |[],_::_,e=>e.elim
 |_::_,[],e=>e.elim
theorem JB:∀a b a' b':Int,a=a'→b=b'→(a=b↔a'=b'):=fun ζ ζ ζ ζ e f=>e▸f▸Iff.rfl
theorem Eu(T:ik k):∀(a b:Nat) (a' b':Str),k.tx[a]?=some a'→k.tx[b]?=some b'→(a=b↔a'=b'):=fun a b a' b' e f=>
 ⟨fun q=>Zt (e.symm.trans (q▸f)),fun q=>T.inj _ _ _ e (q▸f)⟩
theorem jw{x:Str}{t:Tok}:(strKind k.pr k.w).is x (.str x t)=true:=by simp[PySem.strKind,Value.isStrOf]
theorem gN{i:Int}{t:Tok}:(intKind k.pr k.w).is i (.int i t)=true:=by simp[intKind,Value.isInt]
theorem pA{h:Heap}:∀{v:V} {mv:Value},gu k h R F v mv→VR k h R F v mv:=by
 intro v
 refine V.rec (motive_1:=fun v=>∀{mv},gu k h R F v mv→VR k h R F v mv) (motive_2:=fun l=>∀m,cI k.tx EO h R F l m→VRs k h R F l m) ?_ ?_ ?_ ?_ ?_ ?_ ?_ ?_ ?_ ?_ v
 ·exact fun {ζ0} e=>e
 ·exact fun ζ {ζ0} e=>e
 ·exact fun ζ {ζ0} e=>e
 ·exact fun ζ {ζ0} e=>e
 ·exact fun l ih {ζ0} ⟨a,items,e,n,t,r⟩=>⟨a,items,e,n,t,ih _ r⟩
 ·exact fun l ih {ζ0} ⟨a,items,e,n,t,r⟩=>⟨a,items,e,n,t,ih _ r⟩
 ·exact fun ζ {ζ0} ⟨ζ1,ζ2,ζ3,c⟩=>c.elim
 ·exact fun ζ {ζ0} e=>e
 ·exact fun m e=>by induction m<;>exact e
 ·exact fun a l iha ihl m e=>by
   induction m with
   |nil=>exact e
   |cons b m=>exact⟨iha e.1,ihl _ e.2⟩
end
section
variable{Γ:Gm}{σ:Sg}{H H':Mini.Internal.H}{Q:Value→Shared→Prop}{E:Value→Shared→Prop}{v x y:V}{mx my:Value}
inductive KG (Γ:Gm)(σ:Sg)(a:Addr)(key:Value)(r:Option V):Prop
 |mk (K:Type) (i1:DecidableEq K) (knd:PySem.KeyKind Γ.k.pr Γ.k.w K) (f:K→Option Value) (i:K) (hs:(a==sysModules)=false) (hm:σ.s.heap.MapOf knd a f) (hi:knd.is i key=true) (hr:qr (Vr Γ σ) r (f i))
theorem xJ{h:Heap}{R:Ro}{F:List Addr}{a:Option V}{b:Option Value}(r:uZ Γ.k h R F a b):qr (VR Γ.k h R F) a b:=by
 induction a<;>induction b<;>first|exact r.elim|rfl|exact⟨_,rfl,pA r⟩
set_option tactic.hygienic true in
theorem xP{n:Nat}{a:Addr}{key:V}{mk:Value}(c:bu Γ.k n σ.s.heap σ.R σ.F a)(ok:keyOk Γ.k.P n key=true)(rk:Vr Γ σ key mk):KG Γ σ a mk (cF key (Γ.k.P.cd n)):=by
 obtain⟨hs,c⟩:=c
 cases key<;>first|(cases ok;done)|skip
 case int i=>
  rw[if_pos (show Γ.k.P.cdi n=true from ok)]at c
  obtain⟨f,hm,hf⟩:=c
  obtain⟨t,rfl⟩:=rk
  exact⟨_,_,_,f,i,hs,hm,gN,xJ (hf i)⟩
 case str i=>
  rw[if_neg (fun z=>by rw[keyOk,z]at ok;cases ok)]at c
  obtain⟨f,hm,hf⟩:=c
  obtain⟨x,t,hx,rfl⟩:=rk
  exact⟨_,_,_,f,x,hs,hm,jw,xJ (hf i x hx)⟩
theorem Io{l:List (Int×V)}{p:Addr×Addr}(r:OR Γ.k σ.s.heap σ.R σ.F (.aM l) p)(i:Int)(t:Tok):KG Γ σ p.1 (.int i t) (au i l):=
 let ⟨_,hs,kvs,hd,pr⟩:=r
 ⟨_,_,_,_,i,hs,hd.dictOf.mapOf,gN,aT.au JB rfl pr⟩
theorem LN(T:ik Γ.k){l:List (Nat×V)}{p:Addr×Addr}(r:OR Γ.k σ.s.heap σ.R σ.F (.aP l) p){c:Nat}{x:Str}(hx:Γ.k.tx[c]?=some x)(t:Tok):KG Γ σ p.1 (.str x t) (au c l):=
 let ⟨_,hs,kvs,hd,pr⟩:=r
 ⟨_,_,_,_,x,hs,hd.mapOf,jw,aT.au (Eu T) hx pr⟩
def GI(Γ:Gm)(E:Value→Shared→Prop)(σ:Sg)(mx mk:Value)(Q:Value→Shared→Prop):Prop:=Γ.wp (getItem mx mk) Q E σ.s∧∃T id,σ.s.TypeIs mx T∧typeLookup (.type T) "__getitem__"=pure (some (.builtin id))
theorem GI.key{a:Addr}{key:Value}{r:Option V}(S:Sts Γ σ H)(g:KG Γ σ a key r)(q:W r fun v=>aD Γ σ Q (v,H)):GI Γ E σ (.ref a) key Q:=by
 obtain⟨K,i1,knd,f,i,hs,hm,hi,hr⟩:=g
 refine xS q fun v e p=>?_
 obtain⟨mv,e,r⟩:=hr.of e
 exact⟨wpAny_getItem_of hi hm e (p.here S r),_,_,hm.typeIs,PySem.slot_dict_getitem.lookup⟩
theorem kZ{a:Addr}{key:Value}{r:Option V}(S:Sts Γ σ H)(g:KG Γ σ a key r):(aD Γ σ Q (.bool r.isSome,H)→Γ.wp (compareOp .In key (.ref a)) Q E σ.s)∧(aD Γ σ Q (.bool (!r.isSome),H)→Γ.wp (compareOp .NotIn key (.ref a)) Q E σ.s):=by
 obtain⟨K,i1,knd,f,i,hs,hm,hi,hr⟩:=g
 rw[←hr.Ph]
 exact⟨fun q=>wpAny_in_of hi hs hm (q.bool S),fun q=>wpAny_notIn_of hi hs hm (q.bool S)⟩
theorem GI.list{a:Addr}{items:Array Value}{l:List V}{key:V}{mk:Value}(S:Sts Γ σ H)(t:σ.s.heap.IsList a items)(r:Vrs Γ σ l items.toList)(rk:Vr Γ σ key mk)(q:W ((bc key).bind fun i=>if idx i then l[i.toNat]? else none) fun v=>aD Γ σ Q (v,H)):GI Γ E σ (.ref a) mk Q:=
 fV q fun i e q=>wif q fun h0 q=>xS q fun v e' p=>by
  subst e
  obtain⟨u,rfl⟩:=rk
  obtain⟨mv,e',r'⟩:=VRs.get r e'
  rw[Array.getElem?_toList]at e'
  exact⟨wpAny_getItem_list t (mj h0).1 (by have:=mj h0;lia) e' (p.at S r'),_,_,t.typeIs,PySem.slot_list_getitem.lookup⟩
theorem oB(T:ik Γ.k){key:V}{mk:Value}(S:Sts Γ σ H)(rx:Vr Γ σ x mx)(rk:Vr Γ σ key mk)(q:W (aJ Γ.k.P x key H) fun v=>aD Γ σ Q (v,H)):GI Γ E σ mx mk Q:=by
 cases x with
 |tup l=>
  obtain⟨a,items,rfl,_,t,r⟩:=rx
  refine fV q fun i e q=>wif q fun h0 q=>xS q fun v e' p=>?_
  subst e
  obtain⟨u,rfl⟩:=rk
  obtain⟨mv,e',r'⟩:=VRs.get r e'
  rw[Array.getElem?_toList]at e'
  have hlt:=(Array.getElem?_eq_some_iff.mp e').1
  have h0:=mj h0
  exact⟨PyProof.Rows.getItem_tuple t (by lia) (by lia) (seqIndex_of h0.1 (by lia)) e' (p.at S r'),_,_,IsTup.typeIs t,PyProof.Rows.slot_tuple_getitem.lookup⟩
 |fl l=>
  obtain⟨a,items,rfl,_,t,r⟩:=rx
  exact GI.list S t r rk q
 |cd n=>
  obtain⟨a,rfl,_,c⟩:=rx
  exact wif q fun ok q=>GI.key S (xP c ok rk) q
 |str c=>
  refine fV q fun i e q=>wif q fun h0 q=>we q fun d hd q2=>?_
  have h0:i=0:=Z0 h0
  subst e h0
  obtain⟨x,ch,hx,hy,h1⟩:=T.ve c d hd
  obtain⟨x',t,hx',rfl⟩:=rx
  rw[hx]at hx';cases hx'
  obtain⟨u,rfl⟩:=rk
  have Nf:0<x.cps.size:=(Array.getElem?_eq_some_iff.mp h1).1
  refine ⟨PySem.P.getItem_str (c:=ch) (by decide) ?_ (aD.here q2 S ⟨_,_,hy,rfl⟩),_,_,typeIs_str σ.s x t,PyProof.Rows.slot_str_getitem.lookup⟩
  rw[seqIndex_of (n:=x.length) (Int.le_refl 0) (by have:x.length=x.cps.size:=rfl;lia)]
  exact h1
 |ref i=>
  refine we q fun o ho q=>Sts.at S rx ho (G:=fun mx=>GI Γ E σ mx mk Q) fun p hp r=>?_
  induction o with
  |list l=>obtain⟨_,items,t,r⟩:=r;exact GI.list S (Heap.PlainList.isList t) r rk q
  |aM l=>exact fV q fun j e q=>by subst e;obtain⟨u,rfl⟩:=rk;exact GI.key S (Io r j u) q
  |aP l=>exact KW q fun j e q=>by subst e;obtain⟨z,u,hz,rfl⟩:=rk;exact GI.key S (LN T r hz u) q
  |_=>exact q.elim
 |_=>exact q.elim
end
theorem yP:∀{a b:List Int},a.length=b.length→(List.range a.length).all (fun j=>a.getD j 0==b.getD j 0)=decide (a=b)
 |[],[],_=>rfl
 |x::a,y::b,h=>by
  have ih:=yP (a:=a) (b:=b) (Nat.succ.inj h)
  rw[List.length_cons,List.range_succ_eq_map,List.all_cons,List.all_map]
  show ((x==y)&&(List.range a.length).all fun j=>a.getD j 0==b.getD j 0)=_
  rw[ih]
  by_cases e:x=y<;>simp[e]
 |[],_::_,h=>nomatch h
 |_::_,[],h=>nomatch h
section
variable{Γ:Gm}{σ:Sg}{H H':Mini.Internal.H}{E:Value→Shared→Prop}{v x y:V}{mx my:Value}
theorem xW{ns:List Int}{vs:Array Value}(r:Vrs Γ σ (ns.map V.int) vs.toList){j:Nat}(hj:j<vs.size):∃t,vs[j]=.int (ns.getD j 0) t:=by
 have len:=VRs.size r
 rw[Z9]at len
 have hl:j<ns.length:=len▸hj
 obtain⟨mv,e,t,q⟩:=VRs.get (i:=j) (v:=.int ns[j]) r (by rw[Zu,Zo hl];rfl)
 rw[Array.getElem?_toList,Array.getElem?_eq_getElem hj]at e
 exact⟨t,by rw[List.getD_eq_getElem?_getD,Zo hl];exact (Zt e).trans q⟩
def Rc2(A:Around)(s:Shared)(mx my:Value)(b:Bool):Prop:=RcAt A s mx my b∧RcNeAt A s mx my (!b)
theorem G9{A:Around}{a b:List Int}{p p':Addr}{items items':Array Value}(t:σ.s.heap.IsList p items)(r:Vrs Γ σ (a.map V.int) items.toList)(t':σ.s.heap.IsList p' items')(r':Vrs Γ σ (b.map V.int) items'.toList)(hu:A.units<cLine):
  Rc2 A σ.s (.ref p) (.ref p') (decide (a=b)):=by
 have len:a.length=items.size:=(Z9 _).symm.trans (VRs.size r)
 have len':b.length=items'.size:=(Z9 _).symm.trans (VRs.size r')
 by_cases hsz:items.size=items'.size
 ·have at_:∀j (h1:j<items.size) (h2:j<items'.size),EqAt A.in1 σ.s items[j] items'[j] (a.getD j 0==b.getD j 0):=fun j h1 h2=>by
   obtain⟨t1,e1⟩:=xW r h1
   obtain⟨t2,e2⟩:=xW r' h2
   rw[e1,e2]
   exact EqAt.int_int _ _ _ _
  have q:=yP (len.trans (hsz.trans len'.symm))
  rw[len]at q
  exact⟨q▸RcAt.lists t t' hsz hu at_,q▸RcNeAt.lists t t' hsz hu at_⟩
 ·rw[Z2 fun z=>hsz (by rw[←len,←len',z])]
  exact⟨RcAt.lists_lengths t t' (bne_iff_ne.mpr hsz) hu,RcNeAt.lists_lengths t t' (bne_iff_ne.mpr hsz) hu⟩
theorem CS(T:ik Γ.k){A:Around}(rx:Vr Γ σ x mx)(ry:Vr Γ σ y my)(hu:A.units+8<cLine){P:Bool→Prop}(q:W (if V.flat x&&V.flat y then some (V.beq x y)else none) P):∃b,P b∧Rc2 A σ.s mx my b:=
 wif q fun f q=>⟨_,q,(Fv.eq3 T.inj (ny (Z3 f).1 rx) (ny (Z3 f).2 ry) (by lia)).2⟩
set_option tactic.hygienic true in
theorem yG(T:ik Γ.k){A:Around}(S:Sts Γ σ H)(rx:Vr Γ σ x mx)(ry:Vr Γ σ y my)(hu:A.units+8<cLine){P:Bool→Prop}(q:W (eqv x y H) P):∃b,P b∧Rc2 A σ.s mx my b:=by
 have hu':A.units<cLine:=by lia
 cases x
 case bool a=>
  cases y<;>first|exact q.elim|skip
  cases rx;cases ry
  exact⟨_,q,RcAt.bool_bool _ _,RcNeAt.bool_bool _ _⟩
 case ref i=>
  refine wO q fun j e q=>we q fun l hl q=>we q fun m hm q=>we q fun a ha q=>we q fun b hb z=>?_
  subst e
  obtain⟨p,hp,rfl⟩:=rx
  obtain⟨p',hp',rfl⟩:=ry
  obtain⟨_,items,t,r⟩:=S.obj _ _ _ (gD hl) hp
  obtain⟨_,items',t',r'⟩:=S.obj _ _ _ (gD hm) hp'
  rw[kK ha]at r
  rw[kK hb]at r'
  exact⟨_,z,G9 (Heap.PlainList.isList t) r (Heap.PlainList.isList t') r' hu'⟩
 all_goals exact CS T rx ry hu q
theorem Cb(T:ik Γ.k)(fx:V.flat x=true)(rx:Vr Γ σ x mx):∀{l:List V} {vs:List Value},Vrs Γ σ l vs→V.Jg l=true→∃e:Value→Bool,(∀mv∈vs,∃v,Fv Γ σ 4 v mv∧e mv=V.beq v x)∧vs.any e=sP x l:=by
 classical
 have key:∀{v:V} {mv:Value},Fv Γ σ 4 v mv→decide (∃v,Fv Γ σ 4 v mv∧V.beq v x=true)=V.beq v x:=by
  intro v mv f
  induction hb:V.beq v x with
  |true=>exact Z1 ⟨v,f,hb⟩
  |false=>exact Z2 fun ⟨u,g,e⟩=>by rw[←Fv.one T.inj f g rfl,hb]at e;cases e
 intro l vs r f
 refine ⟨fun mv=>decide (∃v,Fv Γ σ 4 v mv∧V.beq v x=true),?_⟩
 induction l generalizing vs with
 |nil=>induction vs with
  |nil=>exact⟨fun ζ h=>(nomatch h),rfl⟩
  |cons _ _=>exact r.elim
 |cons a l ih=>induction vs with
  |nil=>exact r.elim
  |cons b vs=>
   have f:=Z3 (show (iy 4 a&&l.all (iy 4))=true from f)
   have fa:=ny f.1 r.1
   obtain⟨i1,i2⟩:=ih r.2 f.2
   refine ⟨fun mv hm=>(Zm hm).elim (fun e=>⟨a,e▸fa,e▸key fa⟩) (i1 mv),?_⟩
   show (_||_)=(V.beq x a||sP x l)
   rw[i2]
   refine congrArg (· ||sP x l) ((key fa).trans ?_)
   exact fa.comm (ny fx rx)
set_option tactic.hygienic true in
theorem tN(T:ik Γ.k)(S:Sts Γ σ H)(rx:Vr Γ σ x mx)(ry:Vr Γ σ y my)(hu:Γ.A.units+8<cLine){P:Bool→Prop}(q:W (isIn Γ.k.P x y H) P):
  ∃b,P b∧(∀{Q},aD Γ σ Q (.bool b,H)→Γ.wp (compareOp .In mx my) Q E σ.s)∧(∀{Q},aD Γ σ Q (.bool (!b),H)→Γ.wp (compareOp .NotIn mx my) Q E σ.s):=by
 cases y
 case tup l=>
  refine wif q fun f q=>⟨_,q,?_⟩
  have f:=Z3 f
  obtain⟨a,items,rfl,_,t,rs⟩:=ry
  obtain⟨e,he,hany⟩:=Cb T f.1 rx rs f.2
  have at_:∀y,y∈items→EqAt Γ.A.in1 σ.s y mx (e y):=fun y hy=>by
   obtain⟨v,g,eq⟩:=he y (Array.mem_toList_iff.mpr hy)
   rw[eq]
   exact (Fv.eq3 T.inj g (ny f.1 rx) (by show Γ.A.units+1+4<cLine;lia)).1
  have ha:items.any e=sP x l:=by rw[←hany,Array.any_toList]
  exact⟨fun q=>in_tupleAt e t at_ (ha▸q.bool S (tk:=σ.s.toks)),fun q=>notIn_tupleAt e t at_ (ha▸q.bool S (tk:=σ.s.toks))⟩
 case cd n=>
  obtain⟨a,rfl,_,c⟩:=ry
  exact wif q fun ok q=>⟨_,q,fun q=>(kZ S (xP c ok rx)).1 q,fun q=>(kZ S (xP c ok rx)).2 q⟩
 case ref i=>
  refine we q fun o ho q=>?_
  obtain⟨p,hp,rfl⟩:=ry
  have r:=S.obj i o p ho hp
  induction o with
  |aM l=>exact fV q fun j e z=>by subst e;obtain⟨u,rfl⟩:=rx;exact⟨_,z,fun q=>(kZ S (Io r j u)).1 q,fun q=>(kZ S (Io r j u)).2 q⟩
  |aP l=>exact KW q fun j e z=>by subst e;obtain⟨y,u,hz,rfl⟩:=rx;exact⟨_,z,fun q=>(kZ S (LN T r hz u)).1 q,fun q=>(kZ S (LN T r hz u)).2 q⟩
  |_=>exact q.elim
 all_goals exact q.elim
theorem yp(r:Vr Γ σ x mx):(mx== .none)=isNil x:=by
 cases x<;>first
  |(obtain rfl:=r;rfl)
  |(obtain⟨t,rfl⟩:=r;rfl)
  |(obtain⟨a,t,_,rfl⟩:=r;rfl)
  |(obtain⟨a,items,rfl,_⟩:=r;rfl)
  |(obtain⟨a,rfl,_⟩:=r;rfl)
  |(obtain⟨p,_,rfl⟩:=r;rfl)
theorem nil_of(r:Vr Γ σ x mx)(h:isNil x=true):mx=.none:=by cases x<;>first|exact r|cases h
theorem xX{f:Int→Int→Option Bool}{K:Bool→Prop}{G:Prop}(rx:Vr Γ σ x mx)(ry:Vr Γ σ y my)(q:W ((bc x).bind fun a=>(bc y).bind fun b=>f a b) K)(h:∀a b t u,mx=.int a t→my=.int b u→W (f a b) K→G):G:=
 fV q fun a e q=>fV q fun b e2 z=>by
  subst e;subst e2
  obtain⟨t,e⟩:=rx
  obtain⟨u,e2⟩:=ry
  exact h a b t u e e2 z
set_option tactic.hygienic true in
theorem mi(T:ik Γ.k){op:Cmp}{Q:Value→Shared→Prop}(S:Sts Γ σ H)(rx:Vr Γ σ x mx)(ry:Vr Γ σ y my)(hu:Γ.A.units+8<cLine)(q:W (iz Γ.k.P op x y H) fun r=>aD Γ σ Q (.bool r,H)):Γ.wp (compareOp (pq op) mx my) Q E σ.s:=by
 induction op
 case eq=>obtain⟨b,p,h,_⟩:=yG T S rx ry hu q;exact h _ _ _ _ (p.bool S (tk:=σ.s.toks))
 case ne=>obtain⟨b,p,_,h⟩:=yG T S rx ry hu (wb q fun ζ q=>q);exact h _ _ _ _ (aD.bool p S (tk:=σ.s.toks))
 case lt=>exact xX rx ry q fun a b t u e e2 q=>e▸e2▸PyProof.Rows.lt_int (aD.bool q S (tk:=σ.s.toks))
 case le=>exact xX rx ry q fun a b t u e e2 q=>e▸e2▸PyProof.Rows.le_int (aD.bool q S (tk:=σ.s.toks))
 case gt=>exact xX rx ry q fun a b t u e e2 q=>e▸e2▸PyProof.Rows.gt_int (aD.bool q S (tk:=σ.s.toks))
 case ge=>exact xX rx ry q fun a b t u e e2 q=>e▸e2▸PyProof.Rows.ge_int (aD.bool q S (tk:=σ.s.toks))
 case inn=>obtain⟨b,p,h,_⟩:=tN T S rx ry hu q;exact h p
 case nin=>obtain⟨b,p,_,h⟩:=tN T S rx ry hu (wb q fun ζ q=>q);exact h p
 case isn=>exact wif q fun h q=>nil_of ry h▸is_none (yp rx▸aD.bool q S (tk:=σ.s.toks))
 case jh=>exact wif q fun h q=>nil_of ry h▸isNot_none (yp rx▸aD.bool q S (tk:=σ.s.toks))
set_option tactic.hygienic true in
theorem iR{Q:Bool→Shared→Prop}(S:Sts Γ σ H)(rx:Vr Γ σ x mx)(q:W (truthy x H) fun b=>eR Γ σ Q (b,H)):Γ.wp (PySem.truthy mx) Q E σ.s:=by
 have fin:∀{b tk},eR Γ σ Q (b,H)→Q b (upd σ.s σ.s.heap tk):=fun p=>p _ (Mv.here S)
 cases x
 case none=>cases rx;exact truthy_none (fin q (tk:=σ.s.toks))
 case bool=>cases rx;exact wpAny_truthy_bool (fin q (tk:=σ.s.toks))
 case int i=>
  obtain⟨t,rfl⟩:=rx
  exact PyProof.Rows.truthy_int (show Q (!decide (i=0)) _ from fin q (tk:=σ.s.toks))
 case ref i=>
  refine we q fun l hl q=>wif q fun hz q=>?_
  obtain⟨p,hp,rfl⟩:=rx
  obtain⟨_,items,t,r⟩:=S.obj _ _ _ (gD hl) hp
  have len:=VRs.size r
  refine wpAny_truthy_list (Heap.PlainList.isList t) (by lia) ?_
  have:(!items.isEmpty)= !l.isEmpty:=by
   unfold Array.isEmpty
   rw[←len];induction l<;>rfl
  rw[this];exact fin q
 all_goals exact q.elim
theorem GU{l b:Addr}{its its2:Array Value}{pr:Program}{w:World}{A:Around}{s:Shared}{Q:Value→Shared→Prop}(hl:s.heap.IsList l its)(hb:s.heap.IsList b its2)(hsz:its.size+its2.size≤sizeLine)
  (h:Q (.ref s.heap.objs.size) {s with heap:=s.heap.push {cls:=.type "list",data:=.seq (its++its2)}}):
  wpAny (model pr w) A (binaryOp .Add (.ref l) (.ref b)) Q E s:=by
 obtain⟨⟨cls,dd,data,sl⟩,ho,hc,n,hd⟩:=id hl
 obtain⟨⟨cls2,dd2,data2,sl2⟩,ho2,hc2,n2,hd2⟩:=id hb
 simp only at hc hd hc2 hd2
 subst hc hd hc2 hd2
 exact concat_meets ⟨_,ho,rfl⟩ ⟨_,ho2,rfl⟩ noFill_list_add seq_list_add PySem.F.slot_list_add PySem.F.entry_list_add (PySem.F.args_list_add_2 _ _) (list_addW l b its its2 n n2 dd dd2 sl sl2 (by simpa using hsz)) ⟨ho,ho2,h⟩
set_option tactic.hygienic true in
theorem zL{op:Op}{Q:Value→Shared→Prop}(S:Sts Γ σ H)(rx:Vr Γ σ x mx)(ry:Vr Γ σ y my)(q:W (binop op x y H) (aD Γ σ Q)):Γ.wp (binaryOp (opM op) mx my) Q E σ.s:=by
 cases x
 case int a=>
  refine fV q fun b e z=>?_
  subst e
  obtain⟨t,rfl⟩:=rx
  obtain⟨u,rfl⟩:=ry
  exact zF (wb z fun c q=>aD.int q S)
 case ref a=>
  refine wO q fun b e q=>wif q fun ho q=>we q fun l hl q=>we q fun m hm q=>wif q fun hz z=>?_
  subst e ho
  obtain⟨p,hp,rfl⟩:=rx
  obtain⟨p2,hp2,rfl⟩:=ry
  obtain⟨_,its,t,r1⟩:=S.obj _ _ _ (gD hl) hp
  obtain⟨_,its2,t2,r2⟩:=S.obj _ _ _ (gD hm) hp2
  have z1:=VRs.size r1
  have z2:=VRs.size r2
  exact GU (Heap.PlainList.isList t) (Heap.PlainList.isList t2) (by show its.size+its2.size≤2^24;lia) (jy (tk:=σ.s.toks) S (by rw[Array.toList_append];exact VRs.append r1 r2) z)
 all_goals exact q.elim
end
end Mini.Internal
end
section
open PySem PySem.W PyProof.Rows PySem.Calls
namespace Mini.Internal
section
variable{k:Lk}{R:Ro}{F:List Addr}{h:Heap}
theorem aT.length{K K':Type}{kr:K→K'→Prop}:∀{l:List (K×V)} {m:List (K'×Value)},aT k.tx (bu k) h R F kr l m→l.length=m.length
 |[],[],_=>rfl
 |_::_,_::_,r=>congrArg (· +1) (aT.length r.2)
 |[],_::_,e=>e.elim
 |_::_,[],e=>e.elim
theorem map_none{K:Type}[DecidableEq K]{b:K}{v:Value}:∀{m:List (K×Value)},b∉m.map (·.1)→(m.map fun kv=>if kv.1=b then (kv.1,v)else kv)=m
 |[],_=>rfl
 |a::m,hb=>by
  have hb:=not_or.mp (fun z=>hb (List.mem_cons.mpr z))
  rw[List.map_cons,if_neg (Ne.symm hb.1),map_none hb.2]
theorem uE{K:Type}[DecidableEq K]{b:K}{n v:Value}{m:List (K×Value)}(hb:b∉m.map (·.1)):stored ((b,n)::m) b v=(b,v)::m:=by
 unfold stored
 rw[List.any_cons,Z1 rfl,Bool.true_or,if_pos rfl,List.map_cons,if_pos rfl,map_none hb]
theorem qp{K:Type}[DecidableEq K]{b d:K}{n v:Value}{m:List (K×Value)}(hb:d≠b):stored ((d,n)::m) b v=(d,n)::stored m b v:=by
 unfold stored
 rw[List.any_cons,Z2 hb,Bool.false_or,List.map_cons,if_neg hb]
 split<;>rfl
theorem aT.put{K K':Type}[DecidableEq K][DecidableEq K']{kr:K→K'→Prop}{a:K}{b:K'}{v:V}{mv:Value}(u:∀a b a' b',kr a a'→kr b b'→(a=b↔a'=b'))(ab:kr a b)(r:VR k h R F v mv):
  ∀{l:List (K×V)} {m:List (K'×Value)},aT k.tx (bu k) h R F kr l m→(m.map (·.1)).Nodup→aT k.tx (bu k) h R F kr (cg a v l) (stored m b mv)
 |[],[],_,_=>⟨⟨ab,r⟩,trivial⟩
 |(c,w)::l,(d,n)::m,z,nd=>by
  have e:=u a c b d ab z.1.1
  have nd:=List.nodup_cons.mp nd
  unfold cg
  by_cases q:a=c
  ·rw[if_pos q,←e.mp q,uE (e.mp q▸nd.1)]
   exact⟨⟨e.mp q▸z.1.1,r⟩,z.2⟩
  ·rw[if_neg q,qp fun z=>q (e.mpr (Eq.symm z))]
   exact⟨z.1,aT.put u ab r z.2 nd.2⟩
 |[],_::_,e,_=>e.elim
 |_::_,[],e,_=>e.elim
theorem sW{K:Type}[DecidableEq K]{pr:Program}{w:World}{knd:PySem.KeyKind pr w K}{a:Addr}{kvs:List (K×Value)}(x:h.DictOf knd a kvs):(kvs.map (·.1)).Nodup:=let ⟨_,_,_,_,_,_,_,_,n⟩:=x;n
theorem hD{K:Type}[DecidableEq K]{pr:Program}{w:World}{knd:PySem.KeyKind pr w K}{a:Addr}{kvs:List (K×Value)}(x:h.DictOf knd a kvs):∃o,h.get? a=some o:=let ⟨o,_,_,e,_⟩:=x;⟨o,e⟩
end
section
variable{A:Around}{E:Value→Shared→Prop}{s:Shared}{K:Type}[DecidableEq K]{prog:Program}{w:World}{knd:PySem.KeyKind prog w K}{d:Addr}{kvs:List (K×Value)}{kk:K}{key v:Value}{Q:Unit→Shared→Prop}
theorem nz{α:Type}(es:Array α)(p:α→Bool):es.findIdx? p=es.toList.findIdx? p:=by induction es;exact List.findIdx?_toArray ..
theorem wo(hkey:knd.is kk key=true)(hm:s.heap.DictAt knd d kvs kvs.length)
  (hQ:∀h',h'.DictAt knd d (stored kvs kk v) (stored kvs kk v).length→Heap.SameBut d s.heap h'→Q () {s with heap:=h',toks:=s.toks+1})
  (hsz:kvs.length≤sizeLine):
  wpAny (model prog w) A (dictSet d key v) Q E s:=by
 obtain⟨o,es,ho,hc,hd,hk,hp,hn⟩:=hm
 have hes:es.size≤sizeLine:=by
  have e1:=hp.length
  have e2:es.toList.length=es.size:=Array.length_toList
  lia
 have hidx:(es.findIdx? fun e=>knd.is kk e.key)=kvs.findIdx? fun kv=>decide (kv.1=kk):=by
  rw[←hp.findIdx kk,nz]
 unfold dictSet
 try with_reducible refine wpAny_holding ?_
 refine wpAny_bind (knd.pyHash hkey ?_)
 unfold dictSetHashed
 try with_reducible refine wpAny_holding ?_
 refine wpAny_bind (wpAny_dictFind_of (s:={s with toks:=s.toks+1}) hkey ho hd hk ?_)
 induction hi:es.findIdx? fun e=>knd.is kk e.key with
 |some i=>
  have est:stored kvs kk v=_:=if_pos (any_of_findIdx_some (hidx▸hi))
  refine wpAny_bind (wpAny_rule (wpAny_bind (wpAny_updateDict (s:={s with toks:=s.toks+1}) ho hd (wpAny_point (hQ _ ⟨_,_,Heap.get?_update_self _ ho (Obj.isFreed_of_dict (Obj.data_mapDict hd _)),
   hc.mapDict _,by rw[est,Z9];exact Obj.data_mapDict hd _,hk.modify _ _,?_,?_⟩ (Heap.SameBut.update ..))))))
  ·rw[est,Array.toList_modify]
   exact hp.modify hn (by rw[←hi,nz]) v
  ·rw[est,keys_map_store];exact hn
 |none=>
  have hnot:kk∉kvs.map (·.1):=not_mem_of_findIdx_none (hidx▸hi)
  have est:stored kvs kk v=kvs++[(kk,v)]:=if_neg fun z=>by
   rw[List.any_eq_true]at z
   obtain⟨kv,hkv,he⟩:=z
   exact hnot (List.mem_map.mpr ⟨kv,hkv,Z0 he⟩)
  refine wpAny_bind (wpAny_rule (wpAny_updateDictKeys (hz:=hes) (s:={s with toks:=s.toks+1}) ho hd (hQ _ ⟨_,_,Heap.get?_update_self _ ho (Obj.isFreed_of_dict (Obj.data_mapDictKeys hd _)),
   hc.mapDictKeys _,by rw[est,Za];exact Obj.data_mapDictKeys hd _,hk.push hkey _,?_,?_⟩ (Heap.SameBut.update ..))))
  ·rw[est,Array.toList_push]
   exact hp.append hkey (knd.hash kk) v
  ·rw[est,List.map_append]
   exact List.nodup_append.mpr ⟨hn,List.nodup_cons.mpr ⟨List.not_mem_nil,List.nodup_nil⟩,fun a ha b hb e=>hnot (by rw[Zs hb]at e;cases e;exact ha)⟩
theorem vT(hkey:knd.is kk key=true)(hm:s.heap.DictAt knd d kvs kvs.length)
  (hQ:∀h',h'.DictAt knd d (stored kvs kk v) (stored kvs kk v).length→Heap.SameBut d s.heap h'→Q () {s with heap:=h',toks:=s.toks+1})
  (hsz:kvs.length≤sizeLine):
  wpAny (model prog w) A (setItem (.ref d) key v) Q E s:=by
 have hT:=hm.dictOf.typeIs
 unfold setItem
 try with_reducible refine wpAny_holding ?_
 refine wpAny_bind (wpAny_sequenceKey hT (by decide) ?_)
 refine wpAny_bind (wpAny_callSpecial?_slot (name:=Str.ofString "__setitem__") hT slot_dict_setitem
  (wpAny_call_entry slot_dict_setitem hT entry_dict_setitem ?_ (args_dict_setitem _ _ _)))
 show wpAny _ _ (Builtin.Dict.notOrdered "__setitem__" ⟨[.ref d,key,v],[]⟩ >>= _) _ _ s
 refine wpAny_bind (wpAny_notOrdered_dict hT ?_)
 show wpAny _ _ (dictSet d key v >>= _) _ _ s
 exact wpAny_bind (wo (hsz:=hsz) hkey hm fun h' hm' hs'=>wpAny_pure ⟨.none,rfl,wpAny_pure (hQ h' hm' hs')⟩)
end
section
variable{Γ:Gm}{σ:Sg}{H H':Mini.Internal.H}{E:Value→Shared→Prop}{v x y:V}{mx my mv:Value}
theorem nY{i:Nat}{o o':O}{p:Addr×Addr}{b:Addr}{h':Heap}(S:Sts Γ σ H)(hi:H[i]?=some o)(hp:σ.R[i]?=some p)(hb:b=p.1∨b=p.2)(s:Heap.SameBut b σ.s.heap h')(l:∃x,h'.get? b=some x)
  (ho:Ext noX σ.R σ.s.heap σ.R h'→OR Γ.k h' σ.R σ.F o' p) {tk:Nat}:Mv Γ noX σ (H.set i o') ⟨σ.R,σ.F,upd σ.s h' tk⟩:=
 let ⟨S',X⟩:=S.upd hi hp hb s l ho
 ⟨X,S',rfl,rfl⟩
structure y6 (k:Lk):Prop where
 tup:∀x n,k.P.eH x=some n→∃ks,x=.tup ks
 flat:∀x n,k.P.eH x=some n→V.flat x=true
 hash:∀x n,k.P.eH x=some n→∀{A:Around} {E:Value→Shared→Prop} {s:Shared} {R:Ro} {F:List Addr} {mv:Value} {Q:Int→Shared→Prop},A.units+8<cLine→VR k s.heap R F x mv→(∀tk,Q n {s with toks:=tk})→wpAny (model k.pr k.w) A (pyHash mv) Q E s
theorem cM.mem{th:V→Option Int}{cd:Nat→Heap→Ro→List Addr→Addr→Prop}{tx:List Str}{h:Heap}{R:Ro}{F:List Addr}:∀{l:List (V×V)} {m:List DictEntry},cM tx cd h R F th l m→∀e∈m,∃p∈l,∃b,e.key=.ref b∧dv tx cd h R F p.1 (.ref b)∧th p.1=some e.hash
 |[],[],_,e,he=>nomatch he
 |a::l,d::m,z,e,he=>(Zm he).elim (fun q=>⟨a,Ze ..,q▸z.1⟩) fun q=>let ⟨p,hp,r⟩:=cM.mem z.2 e q;⟨p,Zh _ hp,r⟩
 |[],_::_,r,_,_=>r.elim
 |_::_,[],r,_,_=>r.elim
theorem cM.length{th:V→Option Int}{cd:Nat→Heap→Ro→List Addr→Addr→Prop}{tx:List Str}{h:Heap}{R:Ro}{F:List Addr}:∀{l:List (V×V)} {m:List DictEntry},cM tx cd h R F th l m→l.length=m.length
 |[],[],_=>rfl
 |_::_,_::_,r=>congrArg (· +1) (cM.length r.2)
 |[],_::_,r=>r.elim
 |_::_,[],r=>r.elim
theorem cM.snoc{th:V→Option Int}{cd:Nat→Heap→Ro→List Addr→Addr→Prop}{tx:List Str}{h:Heap}{R:Ro}{F:List Addr}{a:V×V}{e:DictEntry}(z:∃b,e.key=.ref b∧dv tx cd h R F a.1 (.ref b)∧th a.1=some e.hash):
  ∀{l:List (V×V)} {m:List DictEntry},cM tx cd h R F th l m→cM tx cd h R F th (l++[a]) (m++[e])
 |[],[],_=>⟨z,trivial⟩
 |_::_,_::_,r=>⟨r.1,cM.snoc z r.2⟩
 |[],_::_,r=>r.elim
 |_::_,[],r=>r.elim
theorem jN{P:Prog}{key:V}{l:List (V×V)}(hf:eD P key l=true):∃n,P.eH key=some n∧∀e∈l,P.eH e.1≠some n:=by
 unfold eD at hf
 revert hf
 induction hn:P.eH key with
 |none=>exact fun z=>nomatch z
 |some n=>
  refine fun hf=>⟨n,rfl,fun e he q=>?_⟩
  have:=Zk hf e he
  rw[q]at this
  exact absurd (this.symm.trans (congrArg not (Z1 rfl))) (by decide)
theorem ow(T:ik Γ.k)(Z:y6 Γ.k){key:V}{l:List (V×V)}{d a:Addr}{o:Obj}{es:Array DictEntry}{ep n:_}{A:Around}{Q:Option Nat→Shared→Prop}{Er:Value→Shared→Prop}(hn:Γ.k.P.eH key=some n)(hl:∀e∈l,Γ.k.P.eH e.1≠some n)
  (ho:σ.s.heap.get? d=some o) (hd:o.data=.dict es ep) (r:cM Γ.k.tx (bu Γ.k) σ.s.heap σ.R σ.F Γ.k.P.eH l es.toList) (rk:Vr Γ σ key (.ref a)) {tk:Nat} (q:Q none (upd σ.s σ.s.heap tk)):
  wpAny (model Γ.k.pr Γ.k.w) A (dictFind d (.ref a) n) Q Er (upd σ.s σ.s.heap tk):=by
 have ne:∀e∈es,e.hash≠n∧e.key≠.ref a:=by
  intro e he
  obtain⟨p,hp,b,e1,e2,e3⟩:=r.mem e (Array.mem_toList_iff.mpr he)
  refine ⟨fun z=>hl p hp (z▸e3),fun z=>hl p hp ?_⟩
  rw[e1]at z
  rw[Fv.one T.inj (ny (Γ:=Γ) (σ:=σ) (Z.flat _ _ e3) e2) (ny (Z.flat _ _ hn) rk) z,hn]
 have pl:placesWithHash es.size (fun i=>es[i]?.map (·.hash)) n=[]:=by
  unfold placesWithHash
  rw[List.filter_eq_nil_iff]
  intro i hi
  have hi:=List.mem_range.mp hi
  show ¬(Option.map (fun x:DictEntry=>x.hash) es[i]? ==some n)=true
  rw[Array.getElem?_eq_getElem hi]
  exact fun z=>(ne _ (Array.getElem_mem hi)).1 (Zt (eq_of_beq z))
 unfold dictFind
 try with_reducible refine wpAny_holding ?_
 refine wpAny_bind (wpAny_dictEntries (s:=upd σ.s σ.s.heap tk) ho hd ?_)
 dsimp only
 rw[pl]
 rw[if_neg (show ¬((Value.ref a::([]:List Nat).filterMap (fun i=>es[i]?.map (·.key))).all carriedByValue)=true by simp[carriedByValue])]
 rw[if_neg (by
  rw[←Array.any_toList,List.any_eq_true]
  rintro ⟨e,hin,hc⟩
  have:=ne e (Array.mem_toList_iff.mp hin)
  simp[this.2]at hc)]
 rw[List.filterMap_nil,if_neg (by simp)]
 unfold tableMayTell
 simp only[List.isEmpty_nil,if_true]
 refine wpAny_bind (wpAny_pure ?_)
 rw[if_neg (by simp)]
 exact wpAny_bind (wpAny_pure (wpAny_pure q))
theorem ux{A:Around}(hu:A.units+100<cLine):A.in1.units+8<cLine:=by
 have:A.in1.units≤A.units+1:=by simp
 lia
theorem z0(T:ik Γ.k)(Z:y6 Γ.k){key:V}{i:Nat}{l:List (V×V)}{p:Addr×Addr}{mk:Value}{Q:Unit→Shared→Prop}(S:Sts Γ σ H)(hf:eD Γ.k.P key l=true)(hz:l.length<1048576)
  (ho:H[i]?=some (.dS l)) (hp:σ.R[i]?=some p) (rk:Vr Γ σ key mk) (rv:Vr Γ σ v mv) (hu:Γ.A.units+100<cLine) (q:EZ Γ σ Q (H.set i (.dS (l++[(key,v)])))):Γ.wp (setItem (.ref p.1) mk mv) Q E σ.s:=by
 obtain⟨e2,hs,o,es,ep,hg,hc,hd,r⟩:=S.obj i _ p ho hp
 obtain⟨n,hn,hl⟩:=jN hf
 obtain⟨ks,rfl⟩:=Z.tup _ _ hn
 obtain⟨a,items,rfl,rk'⟩:=id rk
 have hT:σ.s.TypeIs (.ref p.1) "dict":=⟨o,hg,hc.1⟩
 unfold setItem
 try with_reducible refine wpAny_holding ?_
 refine wpAny_bind (wpAny_sequenceKey hT (by decide) ?_)
 refine wpAny_bind (wpAny_callSpecial?_slot (name:=Str.ofString "__setitem__") hT slot_dict_setitem
  (wpAny_call_entry slot_dict_setitem hT entry_dict_setitem ?_ (args_dict_setitem _ _ _)))
 show wpAny _ _ (Builtin.Dict.notOrdered "__setitem__" ⟨[.ref p.1,.ref a,mv],[]⟩ >>= _) _ _ σ.s
 refine wpAny_bind (wpAny_notOrdered_dict hT ?_)
 show wpAny _ _ (dictSet p.1 (.ref a) mv >>= _) _ _ σ.s
 refine wpAny_bind ?_
 unfold dictSet
 try with_reducible refine wpAny_holding ?_
 refine wpAny_bind (Z.hash _ _ hn (ux hu) rk fun tk=>?_)
 unfold dictSetHashed
 try with_reducible refine wpAny_holding ?_
 refine wpAny_bind (ow (tk:=tk) T Z hn hl hg hd r rk ?_)
 have hlen:l.length=es.size:=(cM.length r).trans Array.length_toList
 refine wpAny_bind (wpAny_rule (wpAny_updateDictKeys (hz:=by show es.size≤2^24;lia) (s:=upd σ.s σ.s.heap tk) hg hd ?_))
 have g:=Heap.get?_update_self (Obj.mapDictKeys (·.push ⟨n,.ref a,mv⟩)) hg (Obj.isFreed_of_dict (Obj.data_mapDictKeys hd _))
 exact wpAny_pure ⟨.none,rfl,wpAny_pure (q _ (nY (o':=.dS (l++[(.tup ks,v)])) (tk:=tk) S ho hp (.inl rfl) (Heap.SameBut.update ..) ⟨_,g⟩ fun X=>⟨e2,hs,_,_,_,g,hc.mapDictKeys _,Obj.data_mapDictKeys hd _,by
  rw[Array.toList_push]
  exact cM.mono X (fun ζ z=>z.elim) (fun ζ z=>.inl z) (cM.snoc ⟨a,rfl,rk,hn⟩ r)⟩))⟩
theorem oz(T:ik Γ.k)(Z:y6 Γ.k){key:V}{mk:Value}{Q:Unit→Shared→Prop}(S:Sts Γ σ H)(rx:Vr Γ σ x mx)(rk:Vr Γ σ key mk)(rv:Vr Γ σ v mv)(hu:Γ.A.units+100<cLine)(q:W (subset Γ.k.P x key v H) (EZ Γ σ Q)):Γ.wp (setItem mx mk mv) Q E σ.s:=by
 refine wO q fun i e q=>we q fun o ho q=>?_
 subst e
 obtain⟨p,hp,rfl⟩:=rx
 have r:=S.obj i o p ho hp
 induction o with
 |list l=>
  refine fV q fun j e q=>wif q fun h0 z=>?_
  subst e
  obtain⟨u,rfl⟩:=rk
  obtain⟨h1,h2⟩:=Z3 h0
  have h1:=mj h1
  have h2:=Z0 h2
  obtain⟨e2,items,⟨n,t⟩,r⟩:=r
  have hl:=VRs.size r
  have tt:=PySem.IsL.update t (·.setIfInBounds j.toNat mv)
  exact ki_setAt t h1.1 (by lia) (by lia) (z _ (nY (o':=.list (l.set j.toNat v)) (tk:=σ.s.toks) S ho hp (.inl rfl) (Heap.SameBut.update ..) ⟨_,tt⟩ fun X=>⟨e2,_,⟨_,tt⟩,by rw[Array.toList_setIfInBounds];exact VRs.mono X (fun ζ z=>z.elim) (fun ζ z=>.inl z) (VRs.set r rv)⟩))
 |aM l=>
  refine fV q fun j e q=>wif q fun h0 z=>?_
  subst e
  obtain⟨u,rfl⟩:=rk
  have h0:=Z0 h0
  obtain⟨e2,hs,kvs,hd,pr⟩:=r
  have hl:=aT.length pr
  exact vT (knd:=intKind Γ.k.pr Γ.k.w) gN hd (fun h' hd' hs'=>z _ (nY (o':=.aM (cg j v l)) S ho hp (.inl rfl) hs' (hD hd'.dictOf) fun X=>⟨e2,hs,_,hd',aT.mono X (fun ζ z=>z.elim) (fun ζ z=>.inl z) (aT.put JB rfl rv pr (sW hd.dictOf))⟩)) (by show kvs.length≤2^24;lia)
 |aP l=>
  refine KW q fun j e q=>wif q fun h0 z=>?_
  subst e
  obtain⟨y,u,hy,rfl⟩:=rk
  have h0:=Z0 h0
  obtain⟨e2,hs,kvs,hd,pr⟩:=r
  have hl:=aT.length pr
  exact wpAny_setItem_pairs (knd:=strKind Γ.k.pr Γ.k.w) jw hd (fun h' hd' hs'=>z _ (nY (o':=.aP (cg j v l)) S ho hp (.inl rfl) hs' (hD hd') fun X=>⟨e2,hs,_,hd',aT.mono X (fun ζ z=>z.elim) (fun ζ z=>.inl z) (aT.put (Eu T) hy rv pr (sW hd))⟩)) (by show kvs.length≤2^24;lia)
 |dS l=>exact wif q fun h0 z=>z0 T Z S (Z3 h0).1 (Z0 (Z3 h0).2) ho hp rk rv hu z
 |inst _ _=>exact q.elim
end
section
variable{α β:Type}{m:Option α}{K:α→Prop}
def Al(m:Option α)(K:α→Prop):Prop:=m.elim True K
theorem Al.JA{f:α→Option β}{K':β→Prop}(h:Al m K)(g:∀a,m=some a→K a→Al (f a) K'):Al (m.bind f) K':=by induction m;exact trivial;exact g _ rfl h
theorem Al.bind{f:α→Option β}{K':β→Prop}(h:Al m K)(g:∀a,K a→Al (f a) K'):Al (m.bind f) K':=h.JA fun a ζ=>g a
theorem mq{f:α→Option β}{K':β→Prop}(g:∀a,m=some a→Al (f a) K'):Al (m.bind f) K':=by induction m;exact trivial;exact g _ rfl
theorem d9{f:α→Option β}{d:Option β}{K':β→Prop}(g:∀a,m=some a→Al (f a) K')(h:Al d K'):Al (m.elim d f) K':=by induction m;exact h;exact g _ rfl
theorem cQ{c:Prop}[Decidable c](g:c→Al m K):Al (if c then m else none) K:=by
 by_cases h:c
 ·rw[if_pos h];exact g h
 ·rw[if_neg h];exact trivial
theorem ng{c:Prop}[Decidable c](g:¬c→Al m K):Al (if c then none else m) K:=by
 by_cases h:c
 ·rw[if_pos h];exact trivial
 ·rw[if_neg h];exact g h
theorem gk{c:Prop}[Decidable c]{n:Option α}(g:c→Al m K)(h:¬c→Al n K):Al (if c then m else n) K:=by
 by_cases z:c
 ·rw[if_pos z];exact g z
 ·rw[if_neg z];exact h z
theorem Di{P:Prop}(h:P):Al m fun ζ=>P:=by induction m;exact trivial;exact h
theorem Al.and{K':α→Prop}(h:Al m K)(h2:Al m K'):Al m fun a=>K a∧K' a:=by induction m;exact trivial;exact⟨h,h2⟩
theorem Al.imp{K':α→Prop}(h:Al m K)(g:∀a,K a→K' a):Al m K':=by induction m;exact trivial;exact g _ h
theorem Al.of(h:Al m K){a:α}(e:m=some a):K a:=by subst e;exact h
end
theorem tZ{α:Type}{c:Prop}[Decidable c]{a:Option α}{b:α}(e:(if c then a else none)=some b):c∧a=some b:=by
 by_cases h:c
 ·rw[if_pos h]at e;exact⟨h,e⟩
 ·rw[if_neg h]at e;cases e
noncomputable def eW{α β:Type}(f:α→Option β):List α→Option (List β)
 |[]=>some []
 |x::xs=>(f x).bind fun y=>(eW f xs).bind fun ys=>some (y::ys)
theorem Au{α β:Type}{f:α→Option β}{x:α}{xs:List α}{ys:List β}(e:eW f (x::xs)=some ys):∃b bs,ys=b::bs:=by
 obtain⟨b,_,e⟩:=Zd (show (f x).bind _=_ from e)
 obtain⟨bs,_,e⟩:=Zd e
 exact⟨b,bs,(Zt e).symm⟩
noncomputable def ix(x:Str):List Str→Option Nat
 |[]=>none
 |y::l=>if y==x then some 0 else (ix x l).bind fun i=>some (i+1)
theorem uc{x:Str}:∀(l:List Str),Al (ix x l) fun i=>l[i]?=some x
 |[]=>trivial
 |y::l=>gk (fun h=>congrArg some (eq_of_beq h)) fun ζ=>(uc l).bind fun i h=>h
theorem lp{β:Type}{x:Str}{l:List Str}{f:Nat→Option β}{K:β→Prop}(g:∀i,l[i]?=some x→Al (f i) K):Al ((ix x l).bind f) K:=(uc l).bind g
noncomputable def one{α:Type}:List α→Option α
 |[a]=>some a
 |_=>none
theorem iW{α:Type}:∀(l:List α),Al (one l) fun a=>l=[a]
 |[]=>trivial
 |[_]=>rfl
 |_::_::_=>trivial
noncomputable def two{α:Type}:List α→Option (α×α)
 |[a,b]=>some (a,b)
 |_=>none
theorem vz{α:Type}:∀(l:List α),Al (two l) fun a=>l=[a.1,a.2]
 |[]=>trivial
 |[_]=>trivial
 |[_,_]=>rfl
 |_::_::_::_=>trivial
structure Ck where
 P:Prog
 loc:List Str
 gn:List Str
 tx:List Str
 sc:Scope
 fnI:Str→Option Nat
 cnI:Str→Option Nat
 hint:Nat→Nat
noncomputable def Ck.iu(c:Ck)(x:Str):Bool:=c.sc.names.lookup x==some .globalImplicit
noncomputable def trK(tx:List Str):Const→Option V
 |.none=>some .none
 |.bool b=>some (.bool b)
 |.int i=>some (.int i)
 |.str x=>(ix x tx).bind fun i=>some (.str i)
 |_=>none
noncomputable def opT:PySem.Operator→Option Op
 |.Add=>some .add|.Sub=>some .sub|.Mult=>some .mul|.FloorDiv=>some .fdiv|.Mod=>some .mod|.Pow=>some .pow|.LShift=>some .shl|.BitAnd=>some .band|.BitOr=>some .bor|.BitXor=>some .bxor
 |_=>none
noncomputable def Dc:PySem.CmpOp→Option Cmp
 |.Eq=>some .eq|.NotEq=>some .ne|.Lt=>some .lt|.LtE=>some .le|.Gt=>some .gt|.GtE=>some .ge|.In=>some .inn|.NotIn=>some .nin|.Is=>some .isn|.IsNot=>some .jh
theorem Jn(o:PySem.Operator):Al (opT o) fun p=>o=opM p:=by induction o<;>first|rfl|trivial
theorem qP(o:PySem.CmpOp):Al (Dc o) fun p=>o=pq p:=by induction o<;>rfl
noncomputable def zc(e:Expr):Option Str:=by
 cases e with
 |Name y _=>exact some y
 |_=>exact none
theorem tp(e:Expr):Al (zc e) fun x=>∃p,e=.Name x p:=by cases e<;>first|exact trivial|exact⟨_,rfl⟩
noncomputable def NV(e:Expr):Option (Expr×Str×Pos):=by
 cases e with
 |Attribute x y p=>exact some (x,y,p)
 |_=>exact none
theorem Pd(e:Expr):Al (NV e) fun x=>e=.Attribute x.1 x.2.1 x.2.2:=by cases e<;>first|exact trivial|exact rfl
noncomputable def Nm(e:Expr):Option (List Expr×Pos):=by
 cases e with
 |List x p=>exact some (x,p)
 |_=>exact none
theorem ls_eq(e:Expr):Al (Nm e) fun x=>e=.List x.1 x.2:=by cases e<;>first|exact trivial|exact rfl
noncomputable def isCall(e:Expr):Bool:=by
 cases e with
 |Call=>exact true
 |_=>exact false
theorem xI{x:Expr}(h:¬isCall x=true)(nm:Str)(env:Env)(t:Sem Value):attributeBase x nm env t=t:=by
 unfold attributeBase
 cases x<;>first|rfl|exact absurd rfl h
noncomputable def RS:Const→Option Nat
 |.int (.ofNat n)=>some n
 |_=>none
noncomputable def natE(e:Expr):Option Nat:=by
 cases e with
 |Constant y _ _=>exact RS y
 |_=>exact none
noncomputable def OE(e:Expr):Option Nat:=by
 cases e with
 |Slice a b c _=>
  exact match a,b,c with
  |none,some u,none=>natE u
  |_,_,_=>none
 |_=>exact none
noncomputable def keyOf(tx:List Str):Option Expr→Option Nat
 |some (.Constant (.str x) _ _)=>ix x tx
 |_=>none
noncomputable def xE(tx:List Str):Nat→Expr→Option V
 |0,_=>none
 |n+1,e=>match e with
  |.Constant y _ _=>trK tx y
  |.UnaryOp .USub (.Constant (.int i) _ _) _=>some (.int (-i))
  |.Tuple es _ _=>if es.length≤1000 then (eW (xE tx n) es).bind fun l=>some (.tup l)else none
  |_=>none
noncomputable def ql(tx:List Str):List (Option Expr)→List Expr→Option (List (V×V))
 |[],[]=>some []
 |some k::ks,v::vs=>(xE tx 1 k).bind fun a=>(xE tx 4 v).bind fun b=>(ql tx ks vs).bind fun l=>some ((a,b)::l)
 |_,_=>none
noncomputable def ym:List (V×V)→List (V×V)→Bool
 |[],[]=>true
 |a::l,b::m=>V.beq a.1 b.1&&V.beq a.2 b.2&&ym l m
 |_,_=>false
noncomputable def fu:V→Bool
 |.int _=>true
 |_=>false
noncomputable def tA:List V→Bool
 |[]=>true
 |v::l=> !sP v l&&tA l
noncomputable def stE(c:Ck)(rE:Expr→Option E)(rC:Expr→Option C)(e:Expr):Option E:=by
 cases e with
 |Name x _=>
  exact (ix x c.loc).elim (if c.iu x=true then (ix x c.gn).bind fun j=>some (.gl j)else none) fun i=>some (.loc i)
 |Constant y _ _=>
  exact (trK c.tx y).bind fun v=>some (.cst v)
 |BinOp l o r _=>
  exact (opT o).bind fun op=>(rE r).bind fun b=>(if op=.mul then Nm l else none).elim ((rE l).bind fun a=>some (.bin op a b)) fun xs=>if xs.1.length≤1000 then (eW rE xs.1).bind fun es=>some (.rep es b)else none
 |UnaryOp o x _=>
  exact if o=.USub then (rE x).bind fun a=>some (.neg a)else none
 |BoolOp o vs _=>
  exact (eW rE vs).bind fun es=>some (.bop (decide (o=.And)) es)
 |Compare l os rs _=>
  exact (one os).bind fun o=>(one rs).bind fun r=>(Dc o).bind fun op=>if behindInMarks o r=true then none else (rE l).bind fun a=>(rE r).bind fun b=>some (.cmp op a b)
 |IfExp x y z _=>
  exact (rC x).bind fun t=>(rE y).bind fun a=>(rE z).bind fun b=>some (.ife t a b)
 |Attribute x nm _=>
  exact if isCall x=true then none else (ix nm c.tx).bind fun f=>(rE x).bind fun a=>some (.attr a f)
 |Subscript x sl _=>
  exact (OE sl).elim ((rE x).bind fun a=>(rE sl).bind fun i=>some (.sub a i)) fun n=>(zc x).bind fun ζ=>(rE x).bind fun a=>some (.slice a n)
 |Tuple xs _ _=>
  exact if xs.length≤1000 then (eW rE xs).bind fun es=>some (.tup es)else none
 |List xs p=>
  exact if xs.length≤1000 then (eW rE xs).bind fun es=>if c.hint p.line=1 then some (.fl es)else some (.aX es)else none
 |Dict ks vs p=>
  exact if ks=[]then (if vs=[]then (if c.hint p.line=2 then some .nO else some .bE)else none)
   else if 10≤c.hint p.line then (ql c.tx ks vs).bind fun l=>if ym l (c.P.cd (c.hint p.line-10))&&l.all (fun p=>fu p.1)&&tA (l.map (·.1))&&c.P.cdi (c.hint p.line-10)&&decide (l.length<35)&&decide (l.length≠17)then some (.lx (c.hint p.line-10))else none
   else (eW (keyOf c.tx) ks).bind fun is=>(eW rE vs).bind fun es=>if is.Nodup∧ks.length=vs.length∧ks.length≤15 then some (.gG is es)else none
 |Call g xs ks p=>
  exact if ks=[]then (zc g).elim
   ((NV g).bind fun a=>if !isCall a.1&&a.2.2.endLine==p.line&&decide (xs.length<20)then (ix a.2.1 c.tx).bind fun m=>(rE a.1).bind fun o=>(eW rE xs).bind fun es=>some (.af o m es)else none)
   (fun y=>if c.iu y=true then
    (c.fnI y).elim ((c.cnI y).elim
     ((one xs).elim ((two xs).bind fun z=>if y="isinstance" then (zc z.2).bind fun u=>if u="int" then if c.iu "int"=true then (rE z.1).bind fun a=>some (.isInt a)else none else none else none)
      fun x=>if y="len" then (rE x).bind fun a=>some (.len a)else if y="abs" then (rE x).bind fun a=>some (.abs a)else none)
     fun d=>(eW rE xs).bind fun es=>some (.new d es))
     fun f=>(eW rE xs).bind fun es=>some (.call f es)
    else none)else none
 |_=>
  exact none
noncomputable def stC(rE:Expr→Option E)(rC:Expr→Option C)(plain:Option E)(e:Expr):Option C:=by
 cases e with
 |UnaryOp o x _=>
  exact if o=.Not then (rC x).bind fun a=>some (.no a)else plain.bind fun a=>some (.e a)
 |BoolOp o vs _=>
  exact (eW rC vs).bind fun es=>some (.bop (decide (o=.And)) es)
 |Compare l os rs _=>
  exact (one os).elim ((two os).bind fun o=>(two rs).bind fun r=>(Dc o.1).bind fun p1=>(Dc o.2).bind fun p2=>if lastMarks [o.1,o.2] [r.1,r.2]=true then none else (rE l).bind fun a=>(rE r.1).bind fun b=>(rE r.2).bind fun d=>some (.oQ p1 p2 a b d))
   fun o=>(one rs).bind fun r=>(Dc o).bind fun op=>if behindInMarks o r=true then none else (rE l).bind fun a=>(rE r).bind fun b=>some (.cmp op a b)
 |IfExp=>
  exact none
 |_=>
  exact plain.bind fun a=>some (.e a)
mutual
noncomputable def trE(c:Ck):Nat→Expr→Option E
 |0,_=>none
 |n+1,e=>stE c (trE c n) (trC c n) e
noncomputable def trC(c:Ck):Nat→Expr→Option C
 |0,_=>none
 |n+1,e=>stC (trE c n) (trC c n) (stE c (trE c n) (trC c n) e) e
end
noncomputable def tgt(c:Ck)(e:Expr):Option Nat:=(zc e).bind fun x=>ix x c.loc
noncomputable def isTup(e:Expr):Bool:=by
 cases e with
 |Tuple=>exact true
 |_=>exact false
noncomputable def Dq(e:Expr):Option (Expr×List Expr×List Keyword):=by
 cases e with
 |Call g xs ks p=>exact some (g,xs,ks)
 |_=>exact none
theorem Hx(e:Expr):Al (Dq e) fun a=>∃p,e=.Call a.1 a.2.1 a.2.2 p:=by cases e<;>first|exact trivial|exact⟨_,rfl⟩
noncomputable def stT(c:Ck)(rE:Expr→Option E)(v:Expr)(a:E)(t:Expr):Option S:=by
 cases t with
 |Name x _=>exact (ix x c.loc).bind fun i=>some (.asg i a)
 |Subscript x y _=>exact (rE x).bind fun o=>(rE y).bind fun k=>some (.aC o k a)
 |Attribute x nm _=>exact (ix nm c.tx).bind fun f=>(rE x).bind fun o=>some (.ae o f a)
 |Tuple ts _ _=>exact if isTup v=true then none else (eW (tgt c) ts).bind fun is=>some (.unp is a)
 |_=>exact none
noncomputable def stA(c:Ck)(rE:Expr→Option E)(op:Op)(a:E)(t:Expr):Option S:=by
 cases t with
 |Name x _=>exact (ix x c.loc).bind fun i=>some (.aug i op a)
 |Subscript x y _=>exact (rE x).bind fun o=>(rE y).bind fun k=>some (.gF o k op a)
 |_=>exact none
noncomputable def stS(c:Ck)(rE:Expr→Option E)(rC:Expr→Option C)(rS:List Stmt→List S)(s:Stmt):Option S:=by
 cases s with
 |Assign ts v _=>exact (one ts).bind fun t=>(rE v).bind fun a=>stT c rE v a t
 |AugAssign t o v _=>exact (opT o).bind fun op=>(rE v).bind fun a=>stA c rE op a t
 |Expr x _=>exact if isCall x=true then (rE x).bind fun a=>some (.ex a)else none
 |If x y z _=>exact (rC x).bind fun t=>some (.ite t (rS y) (rS z))
 |While x y z _=>exact if z=[]then (rC x).bind fun t=>some (.wh t (rS y))else none
 |For t x y z p=>exact if z=[]then (tgt c t).bind fun i=>(Dq x).elim ((rE x).bind fun a=>if c.hint p.line=3 then some (.wW i a (rS y))else some (.oX i a (rS y))) fun q=>if zc q.1=some "range" then (if q.2.2=[]then (if c.iu "range"=true then (one q.2.1).bind fun u=>(rE u).bind fun a=>some (.forR i a (rS y))else none)else none)else (rE x).bind fun a=>some (.oX i a (rS y))else none
 |Return x _=>exact x.elim (some .iq) fun x=>(rE x).bind fun a=>some (.ret a)
 |_=>exact none
noncomputable def A4(c:Ck):Nat→List Stmt→List S
 |0,_=>[.bad]
 |n+1,l=>l.map fun s=>(stS c (trE c 20) (trC c 20) (A4 c n) s).getD .bad
structure Pp (f:Fm):Prop where
 kind:f.env.scope.kind=.function
 glob:f.env.globals=mainGlobals
 blt:f.env.builtins=builtinsNs
 loc:∀x∈f.names,f.env.kindOf x=some .local
 nodup:f.names.Nodup
 dbg:∀x∈f.names,(x==("__debug__":Str))=false
structure Glb (k:Lk)(gn:List Str)(base:Heap)(mg mb:Str→Option Value):Prop where
 ns:base.Ns mainGlobals mg
 nb:base.Ns builtinsNs mb
 K:k.K.In base
 lim:base.NoLimit
 sys:∃o,base.get? sysModules=some o
 con:∀(j:Nat) (x:Str),gn[j]?=some x→(x==("__debug__":Str))=false∧∃mv,mg x=some mv∧VR k base [] [] (k.P.gl j) mv
theorem jV(b:Addr):¬own [] b:=fun ⟨ζ0,h,ζ1⟩=>(nomatch h)
def xx(Γ:Gm)(A:Around):Prop:=∀(g:Nat) (vs:List V) (H:Mini.Internal.H) (σ:Sg) (mvs:List Value) (Z:Result→Shared→Prop),Sts Γ σ H→Vrs Γ σ vs mvs→
 W (Γ.call g vs H) (aD Γ σ fun mv s'=>Z (.ok (.ret mv)) s')→codeAny (model Γ.k.pr Γ.k.w) A (.call (.ref (Γ.k.fa g)) ⟨mvs,[]⟩) Z σ.s
noncomputable abbrev jx(A:Around)(C:Addr)(args:List Value):Around:=A.under (.builtin "type.__call__" ⟨.ref C::args,[]⟩)
structure Jf (k:Lk):Prop where
 get:∀(d i:Nat) (nm:Str),k.P.att d i=true→k.tx[i]?=some nm→
  plainGet k.K (k.ca d) nm=true∧hasDictIn k.K (k.ca d)=true∧findIn k.K (.ref (k.ca d)) nm=some none
structure Ed (k:Lk)(base:Heap):Prop where
 get:∀(d i g:Nat) (nm:Str),k.P.af d i=some g→k.tx[i]?=some nm→
  findIn k.K (.ref (k.ca d)) "__getattribute__"=some (some (.builtin "object.__getattribute__"))∧findIn k.K (.ref (k.ca d)) "__getattr__"=some none∧
  findIn k.K (.ref (k.ca d)) nm=some (some (.ref (k.fa g)))∧typeIn k.K (.ref (k.fa g))=some (.type "function")∧∃o fd,base.get? (k.fa g)=some o∧o.data=.func fd
structure Js (k:Lk)(cnI:Str→Option Nat)(mg:Str→Option Value):Prop where
 get:∀(d:Nat) (x:Str),cnI x=some d→(x==("__debug__":Str))=false∧mg x=some (.ref (k.ca d))∧keepIn k.K (.ref (k.ca d))=true∧makesIn k.K (k.ca d)=true
 init:∀(d g:Nat),k.P.init d=some (some g)→findIn k.K (.ref (k.ca d)) "__init__"=some (some (.ref (k.fa g)))∧typeIn k.K (.ref (k.fa g))=some (.type "function")
 none:∀(d:Nat),k.P.init d=some none→findIn k.K (.ref (k.ca d)) "__init__"=some (some (.builtin "object.__init__"))
structure I1 (k:Lk):Prop where
 get:∀(d i:Nat) (nm:Str),k.P.att d i=true→k.tx[i]?=some nm→
  findIn k.K (.ref (k.ca d)) "__setattr__"=some (some (.builtin "object.__setattr__"))∧plainOver k.K (k.ca d)=true∧takerIn k.K (k.ca d) nm=some none∧(clsIn k.K (k.ca d)).any (·.hasDict)=true
structure Qw (k:Lk):Prop where
 append:k.tx[k.P.bR]?=some "append"
 pop:k.tx[k.P.iQ]?=some "pop"
 get:k.tx[k.P.Ax]?=some "get"
structure Ground (k:Lk)(c:Ck)(base:Heap)(mg mb:Str→Option Value):Prop where
 P:c.P=k.P
 tx:c.tx=k.tx
 T:ik k
 G:Glb k c.gn base mg mb
 cls:Jf k
 fn:∀(g:Nat) (x:Str),c.fnI x=some g→(x==("__debug__":Str))=false∧mg x=some (.ref (k.fa g))∧∃o fd,base.get? (k.fa g)=some o∧o.data=.func fd
 blt:∀x:String,x∈ ["len","abs","isinstance"]→mg (Str.ofString x)=none∧mb (Str.ofString x)=some (.builtin x)
 FG:mg "range"=none∧mb "range"=some (.type "range")
 Ic:mg "int"=none∧mb "int"=some (.type "int")
 th:y6 k
 nm:Qw k
 af:Ed k base
 new:Js k c.cnI mg
 set:I1 k
structure Cx (Γ:Gm)(c:Ck)(mg mb:Str→Option Value):Prop extends Ground Γ.k c Γ.base mg mb where
 K:Pp Γ.f
 loc:c.loc=Γ.f.names
 sc:Γ.f.env.scope=c.sc
 hh:Γ.A.handled=none
 hu:Γ.A.units+100<cLine
 call:xx Γ Γ.A
 Ja:∀C args,xx Γ (jx Γ.A C args)
theorem c9{pos:Pos}{t:Sem Value}{r:List (Bool×Sem Value)}:backTo pos ((false,t)::r)=(false,t)::backTo pos r:=rfl
structure Gd (e:Expr):Prop where
 se:∀rest env,starEach (e::rest) env=(false,eval e env)::starEach rest env
 sb:∀o i,subscripted e false o i=operate [o,i] (getItem o i)
 sw:∀t n env,swapsWith e t n env=pure false
 as_:∀ov iv new,augStore e ov iv new=(do holding [new,ov,iv] (setItem ov iv new);release [new,ov,iv] [];pure .next)
 fo:∀env x,foldedSetIterable e env x=pure x
def EG(Γ:Gm)(e:Expr)(e':E):Prop:=EH Γ e e'∧Gd e
section
variable{Γ:Gm}{c:Ck}{mg mb:Str→Option Value}(X:Cx Γ c mg mb){σ:Sg}{H:Mini.Internal.H}{l:Loc}
structure LH (Γ:Gm)(xs:List Expr)(es:List E):Prop where
 plain:∀pos env,∀p∈backTo pos (starEach xs env),p.1=false
 go:∀(pos:Pos) (l:Loc) (H:Mini.Internal.H) (σ:Sg) (Q:List Value→Shared→Prop) (Er:Value→Shared→Prop),At Γ l H σ→W (evL Γ.k.P Γ.call es l H) (I5 Γ σ Q)→Γ.wp (spliced (backTo pos (starEach xs Γ.f.env))) Q Er σ.s
theorem ED{f:Expr→Option E}(ih:∀e,Al (f e) (EG Γ e)):∀xs:List Expr,Al (eW f xs) fun es=>LH Γ xs es∧xs.length=es.length
 |[]=>⟨⟨fun ζ ζ ζ h=>(nomatch h),fun ζ ζ ζ σ ζ ζ o q=>spliced_nil (q [] _ (Mv.here o.S (tk:=σ.s.toks)) trivial)⟩,rfl⟩
 |x::xs=>(ih x).bind fun a ha=>(ED ih xs).bind fun es r=>by
  have e:=ha.2.se xs
  refine ⟨⟨fun pos env=>?_,fun pos l H σ Q Er o q=>?_⟩,congrArg (· +1) r.2⟩
  ·rw[e,c9]
   exact fun p hp=>(Zm hp).elim (fun z=>z▸rfl) (r.1.plain pos env p)
  ·rw[e,c9]
   exact spliced_cons (ha.1 _ _ _ _ _ o (wb q fun u q mx σ1 m r1=>r.1.go pos _ _ _ _ _ (o.go m) (wb q fun y q mvs σ2 m2 r2=>q (mx::mvs) σ2 (m.trans m2) ⟨r1.up m2,r2⟩)))
theorem mJ{P:Prog}{call:Dg}{lo:Loc}:∀{es:List E} {H:Mini.Internal.H} {vs:List V×Mini.Internal.H},evL P call es lo H=some vs→vs.1.length=es.length
 |[],_,_,e=>by cases e;rfl
 |a::es,H,vs,e=>by
  obtain⟨x,e1,e⟩:=Zd (show (evE P call a lo H).bind _=_ from e)
  obtain⟨y,e2,e⟩:=Zd e
  cases e
  exact congrArg (· +1) (mJ e2)
include X
omit X in
theorem xw{l:Loc}{i:Nat}{v:V}(e:GF l i=some v):l[i]?=some (some v):=by
 unfold GF at e
 revert e
 induction l[i]? with
 |none=>intro e;cases e
 |some u=>exact fun e=>congrArg some e
theorem LP{i:Nat}{x:Str}{pos:Pos}(hx:c.loc[i]?=some x):EH Γ (.Name x pos) (.loc i):=fun l H σ Q Er o q=>we q fun v e q=>by
 obtain⟨_,m,hn,h⟩:=o.o
 rw[X.loc]at hx
 obtain⟨mv,e,r⟩:=h i x v hx (xw e)
 have hm:=Zx hx
 exact wpAny_Name (wpAny_loadName_local X.K.kind (X.K.loc _ hm) hn e (aD.at q o.S r)) (X.K.dbg _ hm)
theorem yT{y:Str}(hg:c.iu y=true):Γ.f.env.kindOf y=some .globalImplicit:=by
 show Γ.f.env.scope.names.lookup y=_
 rw[X.sc]
 exact eq_of_beq hg
theorem z9{v:V}{mv:Value}(S:Sts Γ σ H)(r:VR Γ.k Γ.base [] [] v mv):Vr Γ σ v mv:=
 VR.mono (ex:=noX) ⟨List.nil_prefix,fun b o e ζ ζ=>S.dV b o e,fun b o e=>⟨o,S.dV b o e⟩,fun p hp=>.inr ⟨S.fresh _ (.inl ⟨p,hp,.inl rfl⟩),S.fresh _ (.inl ⟨p,hp,.inr rfl⟩)⟩⟩ (fun ζ z=>z.elim) (fun b hb=>.inr (S.fresh b (.inr hb))) r
theorem sj{y:Str}{v:Value}{pos:Pos}{Q:Value→Shared→Prop}{Er:Value→Shared→Prop}(hg:c.iu y=true)(hd:(y==("__debug__":Str))=false)(e:mg y=some v)(S:Sts Γ σ H)(q:Q v σ.s):Γ.wp (eval (.Name y pos) Γ.f.env) Q Er σ.s:=
 Name_function_global X.K.kind (yT X hg) (loadGlobal_global (mg:=mg) (by rw[X.K.glob];exact X.G.ns.keeps S.dV) e q) hd
theorem mc{y:Str}{v:Value}{pos:Pos}{Q:Value→Shared→Prop}{Er:Value→Shared→Prop}(hg:c.iu y=true)(hd:(y==("__debug__":Str))=false)(e:mg y=none∧mb y=some v)(S:Sts Γ σ H)(q:Q v σ.s):Γ.wp (eval (.Name y pos) Γ.f.env) Q Er σ.s:=
 Name_function_global X.K.kind (yT X hg) (loadGlobal_builtin (mg:=mg) (mb:=mb) (by rw[X.K.glob];exact X.G.ns.keeps S.dV) e.1 (by rw[X.K.blt];exact X.G.nb.keeps S.dV) e.2 q) hd
theorem Ni{j:Nat}{x:Str}{pos:Pos}(hx:c.gn[j]?=some x)(hg:c.iu x=true):EH Γ (.Name x pos) (.gl j):=fun l H σ Q Er o q=>by
 obtain⟨hd,mv,e,r⟩:=X.G.con j x hx
 exact sj X hg hd e o.S (aD.at q o.S (z9 X o.S r))
theorem L6{y:Const}{kk:Nat}{pos:Pos}:Al (trK c.tx y) fun u=>EH Γ (.Constant y kk pos) (.cst u):=by
 induction y<;>first|exact trivial|skip
 ·exact fun l H σ Q Er o q=>PyProof.Rows.Constant_none (aD.at q o.S rfl)
 ·exact fun l H σ Q Er o q=>PyProof.Rows.Constant_bool (aD.at q o.S rfl)
 ·exact fun l H σ Q Er o q=>wpAny_Constant_int (aD.int q o.S)
 ·exact lp fun i hi l H σ Q Er o q=>Constant_str (aD.here q o.S ⟨_,_,X.tx▸hi,rfl⟩)
omit X in
theorem MV{op:Op}{a b:E}{x y:Expr}{pos:Pos}(ha:EH Γ x a)(hb:EH Γ y b):EH Γ (.BinOp x (opM op) y pos) (.bin op a b):=fun l H σ Q Er o q=>
 wpAny_BinOp (ha _ _ _ _ _ o (wb q fun u q mx σ1 m r=>hb _ _ _ _ _ (o.go m) (wb q fun w q my σ2 m2 r2=>zL m2.S (r.up m2) r2 (q.go (m.trans m2)))))
omit X in
theorem L5{a:E}{x:Expr}{pos:Pos}(ha:EH Γ x a):EH Γ (.UnaryOp .USub x pos) (.neg a):=fun l H σ Q Er o q=>
 wpAny_UnaryOp (ha _ _ _ _ _ o (wb q fun u q mx σ1 m r=>fV q fun i e q=>by
  rw[e]at r
  obtain⟨t,rfl⟩:=r
  exact PyProof.Rows.neg_int (aD.int (aD.go q m) m.S)))
theorem L4{op:Cmp}{a b:E}{x y:Expr}{pos:Pos}(hm:behindInMarks (pq op) y=false)(ha:EH Γ x a)(hb:EH Γ y b):EH Γ (.Compare x [pq op] [y] pos) (.cmp op a b):=fun l H σ Q Er o q=>
 wpAny_Compare1 (ha _ _ _ _ _ o (wb q fun u q mx σ1 m r=>hb _ _ _ _ _ (o.go m) (wb q fun w q my σ2 m2 r2=>mi X.T m2.S (r.up m2) r2 (by have:=X.hu;lia) (wb q fun t q=>aD.go q (m.trans m2))))) hm
theorem yM{Q:Bool→Shared→Prop}{Er:Value→Shared→Prop}{b:Bool}(q:eR Γ σ Q (b,H)):aD Γ σ (fun v s=>Γ.wp (PySem.truthy v) Q Er s) (.bool b,H):=fun mv σ' m r=>r▸wpAny_truthy_bool (q σ' m)
theorem LX{op:Cmp}{a b:E}{x y:Expr}{pos:Pos}(hm:behindInMarks (pq op) y=false)(ha:EH Γ x a)(hb:EH Γ y b):CH Γ (.Compare x [pq op] [y] pos) (.cmp op a b):=fun l H σ Q Er o q=>
 wpAny_isTrue_Compare1 (ha _ _ _ _ _ o (wb q fun u q mx σ1 m r=>hb _ _ _ _ _ (o.go m) (wb q fun w q my σ2 m2 r2=>mi X.T m2.S (r.up m2) r2 (by have:=X.hu;lia) (wb q fun t q=>yM X (eR.go q (m.trans m2)))))) hm
theorem HT{op op2:Cmp}{a b d:E}{x y z:Expr}{pos:Pos}(hm:lastMarks [pq op,pq op2] [y,z]=false)(ha:EH Γ x a)(hb:EH Γ y b)(hd:EH Γ z d):CH Γ (.Compare x [pq op,pq op2] [y,z] pos) (.oQ op op2 a b d):=fun l H σ Q Er o q=>by
 have hu:Γ.A.units+8<cLine:=by have:=X.hu;lia
 refine PyProof.Rows.isTrue_chain (ha _ _ _ _ _ o (wb q fun u q mx σ1 m r=>PyProof.Rows.test_link (hb _ _ _ _ _ (o.go m) (wb q fun w q my σ2 m2 r2=>mi X.T m2.S (r.up m2) r2 hu (wb q fun t q mt σ3 m3 r3=>?_))))) hm
 obtain rfl:=r3
 have mm:=(m.trans m2).trans m3
 refine wpAny_truthy_bool ?_
 induction t with
 |false=>exact eR.go q mm _ (Mv.here m3.S (tk:=σ3.s.toks))
 |true=>exact PyProof.Rows.test_last (hd _ _ _ _ _ (((o.go m).go m2).go m3) (wb q fun z q mz σ4 m4 r4=>mi X.T m4.S ((r2.up m3).up m4) r4 hu (wb q fun t q=>yM X (eR.go q (mm.trans m4)))))
theorem Mj{a i:E}{x y:Expr}{pos:Pos}(hs:∀o i,subscripted y false o i=operate [o,i] (getItem o i))(ha:EH Γ x a)(hb:EH Γ y i):EH Γ (.Subscript x y pos) (.sub a i):=fun l H σ Q Er o q=>by
 rw[eval_Subscript]
 refine wpAny_bind (ha _ _ _ _ _ o (wb q fun u q mx σ1 m r=>wpAny_bind (wpAny_holding (hb _ _ _ _ _ (o.go m) (wb q fun w q my σ2 m2 r2=>?_)))))
 obtain⟨g,T,id,ht,hl⟩:=oB (E:=Er) (Q:=Q) X.T m2.S (r.up m2) r2 (wb q fun v q=>aD.go q (m.trans m2))
 refine wpAny_bind (wpAny_standAt (wpAny_bind ?_))
 rw[getitemInPython_of_ne ht.not_modules]
 refine wpAny_bind (wpAny_specialOf ht hl (wpAny_pure ?_))
 show wpAny _ _ (subscripted y false mx my >>= _) _ _ _
 rw[hs]
 exact wpAny_bind (wpAny_operating (wpAny_mono g (fun r s₄ h₄=>wpAny_bind (wpAny_letTemporaryGo (wpAny_pure h₄))) fun ζ ζ x=>x))
omit X in
theorem LF{t:C}{a b:E}{x y z:Expr}{pos:Pos}(ht:CH Γ x t)(ha:EH Γ y a)(hb:EH Γ z b):EH Γ (.IfExp x y z pos) (.ife t a b):=fun l H σ Q Er o q=>
 PyProof.Rows.IfExp_ (ht _ _ _ _ _ o (wb q fun u q σ1 m=>by
  obtain⟨b,h⟩:=u
  induction b
  ·exact hb _ _ _ _ _ (o.go m) (W.go q m)
  ·exact ha _ _ _ _ _ (o.go m) (W.go q m)))
omit X in
theorem OA{a:C}{x:Expr}{pos:Pos}(ha:CH Γ x a):CH Γ (.UnaryOp .Not x pos) (.no a):=fun l H σ Q Er o q=>PyProof.Rows.isTrue_not (ha _ _ _ _ _ o (wb q fun u q=>q))
omit X in
theorem QP{a:E}{x:Expr}(hc:∀(env:Env) (t:Sem Value),isTrue x env t=(do let v ←t;standAt x.pos;holding [v] (PySem.truthy v)))(ha:EH Γ x a):CH Γ x (.e a):=fun l H σ Q Er o q=>
 PyProof.Rows.isTrue_plain (ha _ _ _ _ _ o (wb q fun u q mx σ1 m r=>iR m.S r (wb q fun b q=>eR.go q m))) (hc _ _)
theorem CI{f:Expr→Option E}(ih:∀e,Al (f e) (EG Γ e))(t:Bool){pos:Pos}:∀vs:List Expr,Al (eW f vs) fun es=>EH Γ (.BoolOp (if t then .And else .Or) vs pos) (.bop t es)
 |[]=>fun l H σ Q Er o q=>q.elim
 |[x]=>(ih x).bind fun a ha l H σ Q Er o q=>PyProof.Rows.BoolOp_one (ha.1 _ _ _ _ _ o (wb q fun u q=>q))
 |x::y::vs=>(ih x).bind fun a ha=>(CI ih t (pos:=pos) (y::vs)).JA fun es e rest l H σ Q Er o q=>by
  obtain⟨b,bs,rfl⟩:=Au e
  induction t with
  |true=>exact PyProof.Rows.BoolOp_and (ha.1 _ _ _ _ _ o (wb q fun u q mx σ1 m r=>iR m.S r (wb q fun d q σ2 m2=>by
    induction d
    ·exact aD.go q (m.trans m2) _ _ (Mv.here m2.S (tk:=σ2.s.toks)) (r.up m2)
    ·exact rest _ _ _ _ _ ((o.go m).go m2) (W.go q (m.trans m2)))))
  |false=>exact PyProof.Rows.BoolOp_or (ha.1 _ _ _ _ _ o (wb q fun u q mx σ1 m r=>iR m.S r (wb q fun d q σ2 m2=>by
    induction d
    ·exact rest _ _ _ _ _ ((o.go m).go m2) (W.go q (m.trans m2))
    ·exact aD.go q (m.trans m2) _ _ (Mv.here m2.S (tk:=σ2.s.toks)) (r.up m2))))
theorem Bc{f:Expr→Option C}(ih:∀e,Al (f e) (CH Γ e))(t:Bool){pos:Pos}:∀vs:List Expr,Al (eW f vs) fun es=>CH Γ (.BoolOp (if t then .And else .Or) vs pos) (.bop t es)
 |[]=>fun l H σ Q Er o q=>by
  induction t
  ·exact PyProof.Rows.isTrue_or_nil (q _ (Mv.here o.S (tk:=σ.s.toks)))
  ·exact PyProof.Rows.isTrue_and_nil (q _ (Mv.here o.S (tk:=σ.s.toks)))
 |x::vs=>(ih x).bind fun a ha=>(Bc ih t (pos:=pos) vs).bind fun es rest l H σ Q Er o q=>by
  induction t with
  |true=>exact PyProof.Rows.isTrue_and (ha _ _ _ _ _ o (wb q fun u q σ1 m=>by
    obtain⟨b,h⟩:=u
    induction b
    ·exact eR.go q m _ (Mv.here m.S (tk:=σ1.s.toks))
    ·exact rest _ _ _ _ _ (o.go m) (W.goB q m)))
  |false=>exact PyProof.Rows.isTrue_or (ha _ _ _ _ _ o (wb q fun u q σ1 m=>by
    obtain⟨b,h⟩:=u
    induction b
    ·exact rest _ _ _ _ _ (o.go m) (W.goB q m)
    ·exact eR.go q m _ (Mv.here m.S (tk:=σ1.s.toks))))
end
theorem fc{α:Type}{c:Prop}[Decidable c]{a b:α}(e:(if c then some a else none)=some b):c∧a=b:=by
 by_cases h:c
 ·rw[if_pos h]at e;exact⟨h,Zt e⟩
 ·rw[if_neg h]at e;cases e
theorem xY{α:Type}{c:Prop}[Decidable c]{a:Option α}{b:α}(e:(if c then none else a)=some b):¬c∧a=some b:=by
 by_cases h:c
 ·rw[if_pos h]at e;cases e
 ·rw[if_neg h]at e;exact⟨h,e⟩
theorem foldl_append{α:Type}(x:Array α):∀(n:Nat) (acc:Array α),(List.foldl (fun a b=>a++b) acc (List.replicate n x)).toList=acc.toList++(List.replicate n x.toList).flatten
 |0,acc=>(List.append_nil _).symm
 |n+1,acc=>by rw[List.replicate_succ,List.foldl_cons,foldl_append x n,List.replicate_succ,List.flatten_cons,Array.toList_append,List.append_assoc]
theorem vn{s:Shared}{b:Addr}{items:Array Value}{n:Int}{vl vu:Value}{Q:Value→Shared→Prop}(t:s.heap.IsList b items)(hz:items.size≤sizeLine)(pl:IsPart vl none)(pu:IsPart vu (some n))
  (q:Q (.ref (s.heap.objs.size+1)) {s with heap:=(s.heap.push {cls:=.type "slice",data:=.fields #[vl,vu,.none]}).push {cls:=.type "list",data:=.seq (slicePick items none (some n) none)}}):
  ∃l items lo hi,Value.ref b=.ref l∧s.heap.IsList l items∧items.size≤sizeLine∧IsPart vl lo∧IsPart vu hi∧
    Q (.ref (s.heap.objs.size+1)) {s with heap:=(s.heap.push {cls:=.type "slice",data:=.fields #[vl,vu,.none]}).push {cls:=.type "list",data:=.seq (slicePick items lo hi none)}}:=
 ⟨b,items,none,some n,rfl,t,hz,pl,pu,q⟩
theorem F0{pr:Program}{w:World}{A:Around}{s:Shared}{l:Addr}{items:Array Value}{n:Nat}{x:Int}{u:Tok}{Q:Value→Shared→Prop}{Er:Value→Shared→Prop}(hl:s.heap.get? l=some {cls:=.type "list",dict:=none,data:=.seq items n,slots:= #[]})
  (h0:0≤x) (h1:x≤64) (hs:items.size≤1000)
  (q:Q (.ref s.heap.objs.size) {s with heap:=s.heap.push {cls:=.type "list",data:=.seq (List.foldl (fun x1 x2=>x1++x2) #[] (List.replicate (if items.isEmpty=true then 0 else x.toNat) items))}}):
  wpAny (model pr w) A (binaryOp .Mult (.ref l) (.int x u)) Q Er s:=by
 have hm:items.size*x.toNat≤64000:=(Nat.mul_le_mul hs (show x.toNat≤64 by lia):_≤1000*64)
 exact wpAny_binaryOp_repeat_ref (T:="list") (U:="int") (by decide) ⟨_,hl,rfl⟩ (fun s'=>typeIs_int s' x u) noFill_list_mul F.fills_int_mul F.slot_int_rmul repeat_list F.slot_int_index.lookup
  (call_meets F.slot_int_rmul (typeIs_int s x u) F.entry_int_rmul (F.args_int_rmul_2 _ _) (int___rmul___int_list x u l items n)
   ⟨hl,rfl,⟨_,hl,rfl⟩,call_meets F.slot_list_mul ⟨_,hl,rfl⟩ F.entry_list_mul (F.args_list_mul_2 _ _)
    (AutoListH.list___mul___list_int_3 l items n x u (by simp[Builtin.List.listFitsIndex];lia) (by lia) (by simp[Builtin.List.listTooLong,sizeLine];lia))
    ⟨hl,q⟩⟩)
theorem sF{M:Model}{s:Shared}{Er:Value→Shared→Prop}{fv:Value}{args:List (Bool×Sem Value)}{Q:Args→Shared→Prop}(hp:∀p∈args,p.1=false)
  (h:wpAny M A (spliced args) (fun vs s'=>Q ⟨vs,[]⟩ s') Er s):wpAny M A (evalArgs fv true args []) Q Er s:=by
 induction args with
 |nil=>
  unfold evalArgs
  refine wpAny_bind (wpAny_mono h (fun vs s' h'=>?_) fun ζ ζ x=>x)
  refine wpAny_holding ?_
  exact wpAny_bind (wpAny_pure (wpAny_bind (wpAny_pure (wpAny_pure h'))))
 |cons p r=>
  obtain⟨b,t⟩:=p
  obtain rfl:b=false:=hp _ (Ze ..)
  exact evalArgs_plain h
theorem any_false{args:List (Bool×Sem Value)}(hp:∀p∈args,p.1=false):args.any (·.1)=false:=List.any_eq_false.mpr fun p h=>hp p h▸Zc
theorem zl(items:Array Value)(n:Nat):(slicePick items none (some (n:Int)) none).toList=items.toList.take n:=by
 have e:sliceBounds none (some (n:Int)) none items.size=((0:Int),((min n items.size:Nat):Int),(1:Int)):=by
  simp only[sliceBounds,Option.getD_none]
  have h2:¬((n:Int)<0):=by lia
  simp only[h2,if_false,show (1:Int) > 0 by decide,if_true]
  refine Prod.ext rfl (Prod.ext ?_ rfl)
  show max 0 (min (n:Int) (items.size:Int))=((min n items.size:Nat):Int)
  lia
 unfold slicePick
 rw[e]
 dsimp only
 rw[show (0:Int)=((0:Nat):Int)from rfl,sliceRange_one,pick_run]
 simp[List.take_take]
section
variable{Γ:Gm}{c:Ck}{mg mb:Str→Option Value}(X:Cx Γ c mg mb){σ:Sg}{H:Mini.Internal.H}{l:Loc}{xs:List Expr}{es:List E}
theorem LH.args(L:LH Γ xs es){fv:Value}{pos:Pos}{Q:Args→Shared→Prop}{Er:Value→Shared→Prop}(o:At Γ l H σ)(q:W (evL Γ.k.P Γ.call es l H) (I5 Γ σ fun vs s=>Q ⟨vs,[]⟩ s)):Γ.wp (evalArgs fv true (backTo pos (starEach xs Γ.f.env)) []) Q Er σ.s:=
 sF (L.plain pos _) (L.go pos _ _ _ _ _ o q)
theorem LH.short(L:LH Γ xs es)(hl:xs.length=es.length)(hz:xs.length≤1000){pos:Pos}{Q:List Value→Shared→Prop}{Er:Value→Shared→Prop}{f:List V×Mini.Internal.H→Option (V×Mini.Internal.H)}{K:V×Mini.Internal.H→Prop}(o:At Γ l H σ)(q:W ((evL Γ.k.P Γ.call es l H).bind f) K)
  (h:∀vs mvs σ',Mv Γ noX σ vs.2 σ'→Vrs Γ σ' vs.1 mvs→mvs.length≤1000→W (f vs) K→Q mvs σ'.s):Γ.wp (spliced (backTo pos (starEach xs Γ.f.env))) Q Er σ.s:=
 L.go pos _ _ _ _ _ o (wbe q fun vs e q mvs σ1 m r=>h vs mvs σ1 m r (by have:=mJ e;have:=VRs.length r;lia) q)
theorem Lc(L:LH Γ xs es)(hl:xs.length=es.length)(hz:xs.length≤1000){x1:Nat}{pos:Pos}:EH Γ (.Tuple xs x1 pos) (.tup es):=fun l H σ Q Er o q=>
 wpAny_Tuple_spliced (L.short hl hz o q fun vs mvs σ1 m r hz q=>⟨by show mvs.length≤2^24;lia,by
  obtain⟨m2,g,nh⟩:=fR (tk:=σ1.s.toks) m.S {cls:=.type "tuple",data:=.seq mvs.toArray} rfl
  exact q _ _ (m.trans m2) ⟨_,mvs.toArray,rfl,nh,⟨_,g,rfl,0,rfl⟩,r.up m2⟩⟩)
theorem ON(L:LH Γ xs es)(hl:xs.length=es.length)(hz:xs.length≤1000){pos:Pos}:EH Γ (.List xs pos) (.fl es):=fun l H σ Q Er o q=>
 wpAny_List_spliced (L.short hl hz o q fun vs mvs σ1 m r hz q=>⟨by show mvs.length≤2^24;lia,by
  obtain⟨m2,g,nh⟩:=fR (tk:=σ1.s.toks) m.S {cls:=.type "list",data:=.seq mvs.toArray} rfl
  exact q _ _ (m.trans m2) ⟨_,mvs.toArray,rfl,nh,⟨_,g,rfl,0,rfl⟩,r.up m2⟩⟩)
theorem Bw(L:LH Γ xs es)(hl:xs.length=es.length)(hz:xs.length≤1000){pos:Pos}:EH Γ (.List xs pos) (.aX es):=fun l H σ Q Er o q=>
 wpAny_List_spliced (L.short hl hz o q fun vs mvs σ1 m r hz q=>⟨by show mvs.length≤2^24;lia,jy (tk:=σ1.s.toks) m.S r (aD.go q m)⟩)
theorem L0(L:LH Γ xs es)(hl:xs.length=es.length)(hz:xs.length≤1000){y:Expr}{n:E}{p1 pos:Pos}(hy:EH Γ y n):EH Γ (.BinOp (.List xs p1) .Mult y pos) (.rep es n):=fun l H σ Q Er o q=>
 wpAny_BinOp (wpAny_List_spliced (L.short hl hz o q fun vs mvs σ1 m r hz q=>⟨by show mvs.length≤2^24;lia,by
  obtain⟨m2,g,nh⟩:=fR (tk:=σ1.s.toks) m.S {cls:=.type "list",data:=.seq mvs.toArray} rfl
  have mm:=m.trans m2
  refine hy _ _ _ _ _ (o.go mm) (wb q fun u q my σ3 m3 r3=>fV q fun i e q=>wif q fun hc z=>?_)
  rw[e]at r3
  obtain⟨t,rfl⟩:=r3
  have hc:=Z3 hc
  have c1:=Z0 (Z3 hc.1).1
  have c2:=Z0 (Z3 hc.1).2
  refine F0 (m3.x.keep _ _ g (fun z=>nh (.inl z)) (fun z=>z)) c1 c2 (by rw[List.size_toArray];exact hz) (jy (tk:=σ3.s.toks) (l:=(List.replicate i.toNat vs.1).flatten) m3.S ?_ (aD.go z (mm.trans m3)))
  have r5:=VRs.rep ((r.up m2).up m3) i.toNat
  rw[foldl_append]
  induction mvs with
  |nil=>induction hv:vs.1 with
   |nil=>rw[hv]at r5;simpa using r5
   |cons _ _=>rw[hv]at r;exact r.elim
  |cons a b=>exact r5⟩))
include X
theorem jS(S:Sts Γ σ H){a:Addr}(h:σ.s.heap.get? a=none):(a==sysModules)=false:=beq_eq_false_iff_ne.mpr fun e=>by
 obtain⟨o,ho⟩:=X.G.sys
 rw[e,S.dV _ _ ho]at h
 cases h
theorem Az{pos:Pos}:EH Γ (.Dict [] [] pos) .bE:=fun l H σ Q Er o q=>
 wpAny_Dict_empty (vN (o:=.aM []) (tk:=σ.s.toks) o.S rfl (fun ζ g=>⟨rfl,jS X o.S (bG _),[],⟨_,#[],g,⟨rfl,rfl,rfl⟩,rfl,fun ζ he=>absurd he (Array.not_mem_empty _),.nil,List.nodup_nil⟩,trivial⟩) q)
theorem AG{pos:Pos}:EH Γ (.Dict [] [] pos) .nO:=fun l H σ Q Er o q=>
 wpAny_Dict_empty (vN (o:=.dS []) (tk:=σ.s.toks) o.S rfl (fun ζ g=>⟨rfl,jS X o.S (bG _),_,#[],0,g,⟨rfl,rfl,rfl⟩,rfl,trivial⟩) q)
theorem Im(L:LH Γ xs es){g:Nat}{y:Str}{p0 pos:Pos}(hy:c.fnI y=some g)(hg:c.iu y=true):EH Γ (.Call (.Name y p0) xs [] pos) (.call g es):=fun l H σ Q Er o q=>by
 obtain⟨hd,e2,ob,fd,e3,e4⟩:=X.fn g y hy
 exact PyProof.Rows.Call_ (sj X hg hd e2 o.S (callWith_function (o:=ob) (fd:=fd) (L.args o (wb q fun vs q mvs σ1 m r=>⟨⟨m.S.dV _ _ e3,e4⟩,wpAny_call (X.call g _ _ σ1 mvs _ m.S r (W.go q m))⟩))))
theorem yR{y:String}{x:Expr}{a:E}{p0 pos:Pos}{Q:Value→Shared→Prop}{Er:Value→Shared→Prop}{f:V×Mini.Internal.H→Option (V×Mini.Internal.H)}{K:V×Mini.Internal.H→Prop}(hg:c.iu (Str.ofString y)=true)(hy:y∈ ["len","abs","isinstance"])(hd:((Str.ofString y) ==("__debug__":Str))=false)(ha:EG Γ x a)(o:At Γ l H σ)(q:W ((evE Γ.k.P Γ.call a l H).bind f) K)
  (h:∀u mx σ',Mv Γ noX σ u.2 σ'→Vr Γ σ' u.1 mx→W (f u) K→Γ.wp (PySem.call (.builtin y) [mx]) Q Er σ'.s):Γ.wp (eval (.Call (.Name (Str.ofString y) p0) [x] [] pos) Γ.f.env) Q Er σ.s:=by
 refine PyProof.Rows.Call_ (mc X hg hd (X.blt y hy) o.S ?_)
 rw[ha.2.se,c9]
 exact callWith_builtin rfl (evalArgs_plain (spliced_cons (ha.1 _ _ _ _ _ o (wb q fun u q mx σ1 m r=>spliced_nil (h u mx σ1 m r q)))))
theorem LM{a:E}{y:Expr}{p0 pos:Pos}(ha:EG Γ y a)(hg:c.iu "abs"=true):EH Γ (.Call (.Name "abs" p0) [y] [] pos) (.abs a):=fun l H σ Q Er o q=>
 yR X (y:="abs") hg (by decide) (by decide+kernel) ha o q fun u mx σ1 m r q=>fV q fun i e q=>by
  rw[e]at r
  obtain⟨t,rfl⟩:=r
  exact PyProof.Rows.call_abs_int fun u tk=>aD.int (aD.go q m) m.S
set_option tactic.hygienic true in
theorem Kt{a:E}{y:Expr}{p0 pos:Pos}(ha:EG Γ y a)(hg:c.iu "len"=true):EH Γ (.Call (.Name "len" p0) [y] [] pos) (.len a):=fun l H σ Q Er o q=>
 yR X (y:="len") hg (by decide) (by decide+kernel) ha o q fun u mx σ1 m r q=>by
  have fin:∀{m' n':Nat} {tk t:Nat},m'=n'→aD Γ σ Q (.int n',u.2)→Q (.int m' t) (upd σ1.s σ1.s.heap tk):=fun e p=>e▸ (p.go m).int m.S
  refine we q fun n en q=>?_
  obtain⟨u,H1⟩:=u
  cases u<;>first|(cases en;done)|skip
  case tup l=>
   have en:=fc en
   obtain⟨a,items,rfl,_,t,r⟩:=r
   have hl:=VRs.size r
   exact PyProof.Rows.len_tuple t (by lia) (fin (hl.symm.trans en.2) q)
  case fl l=>
   have en:=fc en
   obtain⟨a,items,rfl,_,t,r⟩:=r
   have hl:=VRs.size r
   exact call_len_list t (by lia) (fin (hl.symm.trans en.2) q)
  case str d _=>
   obtain⟨z,hz,hlen,hlt⟩:=X.T.DZ d n en
   obtain⟨z',t,hz',rfl⟩:=r
   rw[hz]at hz';cases hz'
   exact PySem.P.len_str (by lia) (fin hlen q)
  case ref i _=>
   obtain⟨l,hl,en⟩:=Zd (show (lst H1 i).bind _=_ from en)
   have en:=fc en
   obtain⟨p,hp,rfl⟩:=r
   obtain⟨_,items,t,r⟩:=m.S.obj _ _ _ (gD hl) hp
   have hl:=VRs.size r
   exact call_len_list (Heap.PlainList.isList t) (by lia) (fin (hl.symm.trans en.2) q)
set_option tactic.hygienic true in
theorem EL{a:E}{y:Expr}{p0 p1 pos:Pos}(ha:EG Γ y a)(hg:c.iu "isinstance"=true)(hgi:c.iu "int"=true):EH Γ (.Call (.Name "isinstance" p0) [y,.Name "int" p1] [] pos) (.isInt a):=fun l H σ Q Er o q=>by
 refine PyProof.Rows.Call_ (mc X hg (by decide+kernel) (X.blt "isinstance" (by decide)) o.S ?_)
 rw[ha.2.se,c9]
 refine callWith_builtin rfl (evalArgs_plain (spliced_cons (ha.1 _ _ _ _ _ o (wb q fun u q mx σ1 m r=>spliced_cons (mc X hgi (by decide+kernel) X.Ic m.S (spliced_nil ?_))))))
 have fin:∀{b:Bool} {tk:Nat},aD Γ σ Q (.bool b,u.2)→Q (.bool b) (upd σ1.s σ1.s.heap tk):=fun p=>aD.bool (p.go m) m.S
 obtain⟨u,H1⟩:=u
 cases u
 case none=>cases r;exact PySem.IsiPair.NoneType_int (fin q)
 case int i=>obtain⟨t,rfl⟩:=r;exact PySem.IsiPair.int_int (fin q (tk:=σ1.s.toks))
 case tup l=>obtain⟨a,items,rfl,_,⟨ob,ho,hc,_⟩,_⟩:=r;exact PySem.IsiPair.tuple_int ho hc (fin q)
 all_goals exact q.elim
omit X in
theorem DE{a:E}{y:Str}{n kk:Nat}{p p0 p1 pos:Pos}(ha:EH Γ (.Name y p) a):EH Γ (.Subscript (.Name y p) (.Slice none (some (.Constant (.int (n:Int)) kk p0)) none p1) pos) (.slice a n):=fun l H σ Q Er o q=>
 wpAny_Subscript_list_slice (ha _ _ _ _ _ o (wb q fun u q mx σ1 m r=>by
  refine wfl q fun vs e q=>wif q fun hz z=>?_
  rw[e]at r
  rw[evalPart_none]
  refine wpAny_pure ?_
  rw[evalPart_some]
  obtain⟨b,items,rfl,nh,t,r⟩:=r
  have hl:=VRs.size r
  obtain⟨m2,g,nh2⟩:=fR (tk:=σ1.s.toks+1) m.S {cls:=.type "slice",data:=.fields #[.none,.int (n:Int) σ1.s.toks,.none]} rfl
  exact wpAny_Constant_int (vn t (by show items.size≤2^24;lia) .none (.int _ _) (Ab (n:=0) (tk:=σ1.s.toks+1) (Heap.size_push ..) m2.S (by rw[zl];exact VRs.take n (VRs.up r m2)) (aD.go z (m.trans m2)))))) (by intro _ _;rfl)
end
section
variable{Γ:Gm}{c:Ck}{mg mb:Str→Option Value}(X:Cx Γ c mg mb){σ:Sg}{H:Mini.Internal.H}{l:Loc}{xs:List Expr}{es:List E}
structure IA (k:Lk)(h:Heap)(R:Ro)(F:List Addr)(d:Nat)(al:List (Nat×V))(p:Addr×Addr)(es:List DictEntry)(n:Nat):Prop where
 I:InstAt h p.1 (instObj (k.ca d) p.2) (k.ca d) (some (dictOf es n))
 hd:h.get? p.2=some (dictOf es n)
 len:es.length≤al.length
 ks:∀e∈es,∃x t,e.key=.str x t
 ar:jb k.tx (bu k) h R F al (fun y=>(es.find? (·.key.isStr y)).map (·.val))
theorem qm{k:Lk}{h:Heap}{R:Ro}{F:List Addr}{d:Nat}{al:List (Nat×V)}{p:Addr×Addr}(r:OR k h R F (.inst d al) p):∃es n,IA k h R F d al p es n:=by
 obtain⟨e,ho,at_,m,⟨o,es',ep,e1,e2,e3,e4⟩,⟨es,n,hd,hz⟩,ar⟩:=r
 rw[hd]at e1
 cases e1
 cases e2
 have em:m=fun y=>(es.find? (·.key.isStr y)).map (·.val):=funext fun y=>by rw[←e4 y,←List.find?_toArray];rfl
 exact⟨es,_,⟨ho,rfl,rfl,hd⟩,hd,hz,fun e he=>e3 e (List.mem_toArray.mpr he),em▸ar⟩
theorem jb.got{k:Lk}{h:Heap}{R:Ro}{F:List Addr}{al:List (Nat×V)}{es:List DictEntry}(ar:jb k.tx (bu k) h R F al (fun y=>(es.find? (·.key.isStr y)).map (·.val))){i:Nat}{nm:Str}(hx:k.tx[i]?=some nm){v:V}(e:au i al=some v):
  ∃en,es.find? (·.key.isStr nm)=some en∧VR k h R F v en.val:=by
 have z:=ar i nm hx
 rw[e]at z
 obtain⟨mv,em,rv⟩:=z
 obtain⟨en,he,rfl⟩:=Option.map_eq_some_iff.mp em
 exact⟨en,he,rv⟩
theorem jb.not{k:Lk}{h:Heap}{R:Ro}{F:List Addr}{al:List (Nat×V)}{es:List DictEntry}(ar:jb k.tx (bu k) h R F al (fun y=>(es.find? (·.key.isStr y)).map (·.val))){i:Nat}{nm:Str}(hx:k.tx[i]?=some nm)(e:au i al=none):
  es.find? (·.key.isStr nm)=none:=by
 have z:=ar i nm hx
 rw[e]at z
 exact Option.map_eq_none_iff.mp z
theorem handed{v:V}{mv:Value}(r:Vr Γ σ v mv):handedIn mv=true:=by
 cases v<;>first
  |(obtain rfl:=r;rfl)
  |(obtain⟨t,rfl⟩:=r;rfl)
  |(obtain⟨a,t,_,rfl⟩:=r;rfl)
  |(obtain⟨a,items,rfl,_⟩:=r;rfl)
  |(obtain⟨a,rfl,_⟩:=r;rfl)
  |(obtain⟨p,_,rfl⟩:=r;rfl)
include X
theorem KI(S:Sts Γ σ H):Γ.k.K.In σ.s.heap:=fun b ob hb=>S.dV _ _ (X.G.K b ob hb)
omit X in
theorem Dy{x v:V}{f:Nat}{h:Mini.Internal.H}(e:jR x f h=some v):∃j d al,x=.ref j∧h[j]?=some (.inst d al)∧au f al=some v:=by
 obtain⟨j,e1,e⟩:=Zd (show (iA x).bind _=_ from e)
 obtain⟨⟨d,al⟩,e2,e⟩:=Zd e
 cases x<;>first|(cases e1;done)|skip
 cases e1
 exact⟨_,d,al,rfl,DV e2,by assumption⟩
theorem G3{a:E}{y:Expr}{i:Nat}{nm:Str}{pos:Pos}(hv:¬isCall y=true)(ha:EH Γ y a)(hx:c.tx[i]?=some nm):EH Γ (.Attribute y nm pos) (.attr a i):=fun l H σ Q Er o q=>by
 rw[X.tx]at hx
 rw[arm_eval_Attribute,xI hv]
 refine wpAny_bind (ha _ _ _ _ _ o (wb q fun u q mx σ1 m r=>wpAny_bind (wpAny_standAt (wpAny_bind (wpAny_holding ?_)))))
 have g:Γ.wp (getAttr mx nm true) Q Er σ1.s:=we q fun w ew q=>by
  obtain⟨j,d,al,e,ho,eg⟩:=Dy ew
  rw[e]at r
  obtain⟨p,hp,rfl⟩:=r
  have r:=m.S.obj _ _ _ ho hp
  obtain⟨g1,g2,g3⟩:=X.cls.get d i nm (r.2.2.1 i w eg) hx
  obtain⟨es,n,z⟩:=qm r
  obtain⟨en,hen,rv⟩:=z.ar.got hx eg
  exact get_value (KI X m.S) z.I (plainGet_of g1).1 (findObj_own g2 g3 rfl (show getL nm es=some (some en.val)from by unfold getL;rw[hen])) (handed rv) (aD.here (aD.go q m) m.S rv)
 exact wpAny_mono g (fun r s₂ h₂=>wpAny_bind (wpAny_letTemporaryGo (wpAny_pure h₂))) fun ζ ζ y=>y
end
theorem uY(name:Str)(v:Value)(y:Str):∀(es:List DictEntry) (i:Nat),es.findIdx? (·.key.isStr name)=some i→(∀e∈es,∃x t,e.key=.str x t)→
  ((es.modify i fun e=> {e with val:=v}).find? (·.key.isStr y)).map (·.val)=if y=name then some v else (es.find? (·.key.isStr y)).map (·.val)
 |[],_,h,_=>by cases h
 |e::es,i,h,ks=>by
  obtain⟨x,t,hx⟩:=ks e (Ze ..)
  have is:∀z:Str,e.key.isStr z=decide (x=z):=fun z=>by rw[hx];rfl
  rw[List.findIdx?_cons,is]at h
  by_cases q:x=name
  ·subst q
   rw[Z1 rfl]at h
   cases h
   rw[List.modify_zero_cons,List.find?_cons,List.find?_cons]
   show Option.map _ (match e.key.isStr y with|true=>_|false=>_)=_
   rw[is]
   by_cases z:y=x
   ·rw[if_pos z,Z1 z.symm];rfl
   ·rw[if_neg z,Z2 (Ne.symm z)]
  ·rw[Z2 q]at h
   obtain⟨j,hj,rfl⟩:=Option.map_eq_some_iff.mp h
   rw[List.modify_succ_cons,List.find?_cons,List.find?_cons,is]
   by_cases z:x=y
   ·rw[Z1 z,if_neg (fun e=>q (z.trans e))]
   ·rw[Z2 z]
    exact uY name v y es j hj fun e' he=>ks e' (Zh _ he)
theorem putName_dict(name:Str)(hs:Int)(t:Tok)(v:Value)(es:List DictEntry)(n:Nat)(ks:∀e∈es,∃x t,e.key=.str x t):
  ∃es' n',Obj.putName name hs (.str name t) v (dictOf es n)=dictOf es' n'∧es'.length=es.length+(if (es.find? (·.key.isStr name)).isSome then 0 else 1)∧(∀e∈es',∃x t,e.key=.str x t)∧
   ∀y,(es'.find? (·.key.isStr y)).map (·.val)=if y=name then some v else (es.find? (·.key.isStr y)).map (·.val):=by
 rw[Obj.putName_eq]
 unfold Obj.putNameByArray
 dsimp only
 rw[List.findIdx?_toArray]
 induction hf:es.findIdx? (·.key.isStr name)with
 |none=>
  have no:es.find? (·.key.isStr name)=none:=List.find?_eq_none.mpr fun e he=>by rw[List.findIdx?_eq_none_iff.mp hf e he];exact Zc
  refine ⟨es++[⟨hs,.str name t,v⟩],n+1,by simp,by rw[no];exact Za,fun e he=>(Zv he).elim (ks e) fun q=>by rw[Zs q];exact⟨_,_,rfl⟩,fun y=>?_⟩
  rw[List.find?_append]
  by_cases q:y=name
  ·subst q
   rw[no,if_pos rfl,Option.none_or,List.find?_cons,show (Value.str y t).isStr y=true from Z1 rfl]
   rfl
  ·rw[if_neg q,List.find?_cons,show (Value.str name t).isStr y=false from Z2 (Ne.symm q),List.find?_nil,Option.or_none]
 |some i=>
  have yes:(es.find? (·.key.isStr name)).isSome=true:=by
   obtain⟨hi,hp,_⟩:=List.findIdx?_eq_some_iff_getElem.mp hf
   exact List.find?_isSome.mpr ⟨es[i],List.getElem_mem _,hp⟩
  refine ⟨es.modify i fun e=> {e with val:=v},n,by simp,by rw[if_pos yes];exact List.length_modify ..,fun e he=>?_,fun y=>uY name v y es i hf ks⟩
  obtain⟨j,hj,rfl⟩:=List.getElem_of_mem he
  rw[List.getElem_modify]
  rw[List.length_modify]at hj
  have:=ks es[j] (List.getElem_mem _)
  split
  ·exact this
  ·exact this
theorem AH{pr:Program}{w:World}{A:Around}{s:Shared}{mv:Value}{K:Frag}{C x dx:Addr}{es es':List DictEntry}{n n':Nat}{nm:Str}{b:Bool}{tk:Tok}{Qf:Fin→Shared→Prop}{Er:Value→Shared→Prop}(X:K.In s.heap)(I:InstAt s.heap x (instObj C dx) C (some (dictOf es n)))(hh:(clsIn K C).any (·.hasDict)=true)
  (ks:∀e∈es,∃x t,e.key=.str x t) (hz:es'.length≤1048577) (e:Obj.putName nm (PyData.keyHash w.params nm) (.str nm s.toks) mv (dictOf es n)=dictOf es' n')
  (q:Qf (.done (.ret .none)) {s with heap:=s.heap.update dx (Obj.putName nm (PyData.keyHash w.params nm) (.str nm s.toks) mv),toks:=s.toks+1}):
  wpAny (model pr w) A (Builtin.ObjectAttr.storeInOwnDict (.ref x) (.ref C) (.str nm tk) nm mv b) Qf Er s:=by
 obtain⟨cd,hc,hd'⟩:=any_some hh
 have D:s.heap.get? dx=some (dictOf es n):=I.dict
 have D':=Heap.get?_update_self (Obj.putName nm (PyData.keyHash w.params nm) (.str nm s.toks) mv) D (by rw[e];rfl)
 rw[e]at D'
 obtain⟨hx,hcl,hn, -⟩:=I
 refine wpAny_bind (wpAny_pure (wpAny_bind (wpAny_bind (wpAny_loadPart hx (wpAny_bind ((looks_clsIn X hc).here ?_))))))
 rw[hd']
 refine wpAny_pure (a:=some dx) (wpAny_bind (wpAny_pure (wpAny_bind ?_)))
 unfold nsSet
 refine wpAny_bind (wpAny_bind (wpAny_askSetting (wpAny_pure (wpAny_bind (wpAny_mkText (wpAny_bind (wpAny_loadPart D ?_)))))))
 have c0:(!es.toArray.any (·.key.isStr nm)&&es.toArray.any (·.refKey))=false:=by
  rw[show es.toArray.any (·.refKey)=false from by
   rw[←Array.any_toList,List.any_eq_false]
   intro en he
   obtain⟨y,t,hy⟩:=ks en he
   simp[DictEntry.refKey,hy],Bool.and_false]
 dsimp only
 rw[aRefKeyMayBeTheName_at,c0]
 refine wpAny_updatePart D ?_
 refine wpAny_bind (wpAny_lookBehind D' (by exact pastItsLine_dict (by rw[List.size_toArray,sizeLine_eq];lia)) ?_)
 exact wpAny_pure q
theorem eB{i j:Nat}{v:V}:∀l:List (Nat×V),au j (cg i v l)=if j=i then some v else au j l
 |[]=>rfl
 |(c,u)::l=>by
  unfold cg
  by_cases q:i=c
  ·subst q
   rw[if_pos rfl]
   unfold au
   by_cases z:j=i
   ·rw[if_pos z,if_pos z]
   ·rw[if_neg z,if_neg z,if_neg z]
  ·rw[if_neg q]
   unfold au
   rw[eB l]
   by_cases z:j=c
   ·rw[if_pos z,if_pos z,if_neg (fun w=>q (w.symm.trans z))]
   ·rw[if_neg z,if_neg z]
theorem lB{i:Nat}{v:V}:∀l:List (Nat×V),(cg i v l).length=l.length+(if (au i l).isSome then 0 else 1)
 |[]=>rfl
 |(c,u)::l=>by
  unfold cg au
  by_cases q:i=c
  ·rw[if_pos q,if_pos q];rfl
  ·rw[if_neg q,if_neg q,List.length_cons,List.length_cons,lB l];lia
theorem jb.put{k:Lk}{h:Heap}{R:Ro}{F:List Addr}{v:V}{mv:Value}{al:List (Nat×V)}{m m':Str→Option Value}{i:Nat}{nm:Str}(T:ik k)(hx:k.tx[i]?=some nm)(r:VR k h R F v mv)(a:jb k.tx (bu k) h R F al m)(e:∀y,m' y=if y=nm then some mv else m y):
  jb k.tx (bu k) h R F (cg i v al) m':=by
 intro j y hy
 rw[e,eB]
 have ij:i=j↔nm=y:=Eu T _ _ _ _ hx hy
 by_cases q:j=i
 ·rw[if_pos q,if_pos (ij.mp q.symm).symm]
  exact⟨mv,rfl,r⟩
 ·rw[if_neg q,if_neg (fun z=>q (ij.mpr z.symm).symm)]
  exact a j y hy
section
variable{Γ:Gm}{c:Ck}{mg mb:Str→Option Value}(X:Cx Γ c mg mb){σ:Sg}{H:Mini.Internal.H}{l:Loc}{xs:List Expr}{es:List E}
include X
theorem ue{i:Nat}{x v:V}{mx mv:Value}{nm:Str}{Q:Unit→Shared→Prop}{Er:Value→Shared→Prop}(S:Sts Γ σ H)(rx:Vr Γ σ x mx)(hx:Γ.k.tx[i]?=some nm)(r:Vr Γ σ v mv)(q:W (lW Γ.k.P x i v H) (EZ Γ σ Q)):Γ.wp (setAttr mx nm mv) Q Er σ.s:=
 wO q fun j e q=>we q fun da ho q=>wif q fun hc z=>by
  obtain⟨d,al⟩:=da
  have ho:=DV ho
  rw[e]at rx
  obtain⟨p,hp,rfl⟩:=rx
  obtain⟨ha,hz⟩:=Z3 hc
  have hz:=Z0 hz
  obtain⟨z1,z2,z3,z4⟩:=X.set.get d i nm ha hx
  have rr:=S.obj j _ p ho hp
  obtain⟨es,n,w⟩:=qm rr
  obtain⟨es',n',e1,e2,e3,e4⟩:=putName_dict nm (PyData.keyHash Γ.k.w.params nm) (σ.s.toks+1) mv es n w.ks
  have K:=KI X S
  have g:=Heap.get?_update_self (Obj.putName nm (PyData.keyHash Γ.k.w.params nm) (.str nm (σ.s.toks+1)) mv) w.hd (by rw[e1];rfl)
  rw[e1]at g
  have alen:=lB (i:=i) (v:=v) al
  have elen:es'.length≤(cg i v al).length:=by
   rw[e2,alen]
   induction h2:au i al with
   |none=>rw[w.ar.not hx h2];exact Nat.add_le_add_right w.len _
   |some u=>obtain⟨en,hen,_⟩:=w.ar.got hx h2;rw[hen];exact w.len
  refine set_plain K w.I z1 (osa_open (s:={σ.s with toks:=σ.s.toks+1}) K w.I z2 z3 fun b=>AH (s:={σ.s with toks:=σ.s.toks+1}) K w.I z4 w.ks (by have:=w.len;rw[e2];split<;>lia) e1 (z _ (nY (o':=.inst d (cg i v al)) S ho hp (.inr rfl) (Heap.SameBut.update ..) ⟨_,g⟩ fun X'=>⟨rr.1,((Heap.SameBut.update ..).2 _ (fun z=>rr.1 z.symm)).trans rr.2.1,fun f u hu=>?_,fun y=>(es'.find? (·.key.isStr y)).map (·.val),
   ⟨_,es'.toArray,n',g,rfl,fun e he=>e3 e (List.mem_toArray.mp he),fun y=>by show (es'.toArray.find? _).map _=_;rw[List.find?_toArray]⟩,⟨es',n',g,elen⟩,jb.put X.T hx (VR.mono X' (fun ζ z=>z.elim) (fun ζ z=>.inl z) r) (jb.mono X' (fun ζ z=>z.elim) (fun ζ z=>.inl z) w.ar) e4⟩)))
  rw[eB]at hu
  by_cases q:f=i
  ·exact q▸ha
  ·rw[if_neg q]at hu;exact rr.2.2.1 f u hu
end
theorem za{M:Model}{A:Around}{s:Shared}{o:Expr}{nm:Str}{apos pos:Pos}{args:List Expr}{env:Env}{Q:Value→Shared→Prop}{Er:Value→Shared→Prop}
  (hv:¬isCall o=true) (hl:(apos.endLine==pos.line)=true) (hn:args.length<20) (hp:∀p∈backTo pos (starEach args env),p.1=false)
  (h:wpAny M A (eval o env) (fun ov s₁=>wpAny M A (getMethod ov nm (do return (←importBound o env).getD true)) (fun fx s₂=>wpAny M A (callWith pos fx.1 fx.2 (backTo pos (starEach args env)) []) Q Er s₂) Er s₁) Er s):
  wpAny M A (eval (.Call (.Attribute o nm apos) args [] pos) env) Q Er s:=by
 refine PyProof.Rows.MethodCall_ h ?_
 rw[arm_eval_Call,xI hv]
 have e2:methodCallForm (args.length+0) (backTo pos (starEach args env)) []=true:=by
  unfold methodCallForm
  rw[show (backTo pos (starEach args env)).all (!·.1)=true from List.all_eq_true.mpr fun p hq=>by rw[hp p hq];rfl]
  simp only[Bool.true_and,List.all_nil,List.isEmpty_nil,if_true,decide_eq_true_eq]
  lia
 refine congrArg (eval o env >>= ·) (funext fun ov=>congrArg (standAt apos.atName >>= ·) (funext fun ζ=>?_))
 show methodCall o nm apos pos env ov (args.length+0) (backTo pos (starEach args env)) []=_
 unfold methodCall
 rw[e2]
 unfold calleeOf methodCallPos
 rw[hl]
 rfl
theorem AS{P:Prog}{x:V}{m d:Nat}{h:Mini.Internal.H}(e:fA P x m h=some (some d)):∃j al,x=.ref j∧h[j]?=some (.inst d al)∧au m al=none:=by
 cases x<;>first|(cases e;done)|skip
 ·rcases Classical.em (m=P.bR∨m=P.iQ)with h|h
  ·cases (if_pos h).symm.trans e
  ·cases (if_neg h).symm.trans e
 ·obtain⟨ob,ho,e⟩:=Zd e
  cases ob with
  |inst d' al=>obtain⟨h,e⟩:=fc e;cases e;exact⟨_,al,rfl,ho,Option.isNone_iff_eq_none.mp h⟩
  |aP _=>cases e
  |list _=>cases (fc e).2
  |_=>cases (xY e).2
theorem zX{P:Prog}{x:V}{m:Nat}{h:Mini.Internal.H}(hm:m=P.bR∨m=P.iQ)(e:fA P x m h=some none):∃j l,x=.ref j∧h[j]?=some (.list l):=by
 cases x<;>first|(cases e;done)|skip
 ·cases (if_pos hm).symm.trans e
 ·obtain⟨ob,ho,e⟩:=Zd e
  cases ob with
  |inst d' al=>cases (fc e).2
  |aP _=>cases e
  |list _=>exact⟨_,_,rfl,ho⟩
  |_=>exact absurd hm (xY e).1
theorem yZ{P:Prog}{x:V}{m:Nat}{h:Mini.Internal.H}(hm:¬(m=P.bR∨m=P.iQ))(e:fA P x m h=some none):(∃n,x=.cd n)∨∃j,x=.ref j∧((∃l,h[j]?=some (.aM l))∨∃l,h[j]?=some (.dS l)):=by
 cases x<;>first|(cases e;done)|skip
 ·exact .inl ⟨_,rfl⟩
 ·obtain⟨ob,ho,e⟩:=Zd e
  cases ob with
  |inst d' al=>cases (fc e).2
  |aP _=>cases e
  |list _=>exact absurd (fc e).1 hm
  |aM _=>exact .inr ⟨_,rfl,.inl ⟨_,ho⟩⟩
  |dS _=>exact .inr ⟨_,rfl,.inr ⟨_,ho⟩⟩
theorem gO:∀l:List V,l.dropLast=l.eraseIdx (l.length-1)
 |[]=>rfl
 |[_]=>rfl
 |a::b::r=>congrArg (a:: ·) (gO (b::r))
section
variable{Γ:Gm}{c:Ck}{mg mb:Str→Option Value}(X:Cx Γ c mg mb){σ:Sg}{H:Mini.Internal.H}{l:Loc}{xs:List Expr}{es:List E}{Q:Value→Shared→Prop}{Er:Value→Shared→Prop}
theorem vS{i:Nat}{l:List V}{y:V}{p:Addr×Addr}{my:Value}(S:Sts Γ σ H)(ho:H[i]?=some (.list l))(hp:σ.R[i]?=some p)
  (hz:l.length<1048576) (ry:Vr Γ σ y my) (q:aD Γ σ Q (.none,H.set i (.list (l++[y])))):Γ.wp (PySem.call (.builtin "list.append") [.ref p.1,my]) Q Er σ.s:=by
 obtain⟨e2,items,t,r⟩:=S.obj _ _ _ ho hp
 have hl:=VRs.size r
 exact wpAny_list_append_plain t (fun h' hl' hs'=>q _ _ (nY (o':=.list (l++[y])) (tk:=σ.s.toks) S ho hp (.inl rfl) hs' (let ⟨_,ho'⟩:=hl';⟨_,ho'⟩) fun X=>⟨e2,_,hl',by
  rw[Array.toList_push]
  exact VRs.mono X (fun ζ z=>z.elim) (fun ζ z=>.inl z) (VRs.append r (show VRs Γ.k _ σ.R σ.F [y] [my]from ⟨ry,trivial⟩))⟩) rfl) (by show items.size≤2^24;lia)
theorem Ig{i j:Nat}{l:List V}{y:V}{p:Addr×Addr}{vs:List Value}(S:Sts Γ σ H)(ho:H[i]?=some (.list l))(hp:σ.R[i]?=some p)
  (hy:l[j]?=some y) (hvs:(vs=[]∧j=l.length-1)∨(∃u,vs=[.int 0 u]∧j=0)) (hz:l.length≤1048576) (q:aD Γ σ Q (y,H.set i (.list (l.eraseIdx j)))):
  Γ.wp (PySem.call (.builtin "list.pop") (.ref p.1::vs)) Q Er σ.s:=by
 obtain⟨e2,items,⟨n,t⟩,r⟩:=S.obj _ _ _ ho hp
 have hl:=VRs.size r
 obtain⟨my,em,ry⟩:=VRs.get r hy
 rw[Array.getElem?_toList]at em
 have hsz:items.size≤sizeLine:=by show items.size≤2^24;lia
 have tt:=PySem.IsL.update t (fun xs=>xs.eraseIdxIfInBounds j)
 have m:=nY (o':=.list (l.eraseIdx j)) (tk:=σ.s.toks) S ho hp (.inl rfl) (Heap.SameBut.update ..) ⟨_,tt⟩ fun X=>⟨e2,_,⟨_,tt⟩,by
  rw[Array.toList_eraseIdxIfInBounds]
  exact VRs.mono X (fun ζ z=>z.elim) (fun ζ z=>.inl z) (VRs.erase (j:=j) r)⟩
 have fin:=q _ _ m (ry.up m)
 have hT:σ.s.TypeIs (.ref p.1) "list":=⟨_,t,rfl⟩
 rcases hvs with ⟨rfl,rfl⟩|⟨u,rfl,rfl⟩
 ·rw[hl]at em fin
  exact call_meets PySem.F.slot_list_pop hT PySem.F.entry_list_pop (PySem.F.args_list_pop_1 _) (PySem.MeetsSeq.list_pop_last p.1 items n my em hsz) ⟨t,fin⟩
 ·exact call_meets PySem.F.slot_list_pop hT PySem.F.entry_list_pop (PySem.F.args_list_pop_2 _ _) (PySem.MeetsSeq.list_pop_at p.1 items n 0 u 0 my (by decide+kernel) (by
   have:=(Array.getElem?_eq_some_iff.mp em).1
   unfold seqIndex?;simp[this]) em hsz) ⟨t,fin⟩
def A2(Γ:Gm)(σ:Sg)(k d:V)(vs:List Value):Prop:=∃mk,Vr Γ σ k mk∧((vs=[mk]∧d=.none)∨∃md,vs=[mk,md]∧Vr Γ σ d md)
theorem lY{mvs:List Value}(r:Vrs Γ σ [] mvs):mvs=[]:=by induction mvs;exact rfl;exact r.elim
theorem nQ{v:V}{vs:List V}{mvs:List Value}(r:Vrs Γ σ (v::vs) mvs):∃m ms,mvs=m::ms∧Vr Γ σ v m∧Vrs Γ σ vs ms:=by induction mvs;exact r.elim;exact⟨_,_,rfl,r⟩
theorem mw{v:V}{mvs:List Value}(r:Vrs Γ σ [v] mvs):∃m,mvs=[m]∧Vr Γ σ v m:=let ⟨m,ms,e,a,b⟩:=nQ r;⟨m,e.trans (congrArg _ (lY b)),a⟩
theorem Rf:∀{vs:List V} {v:V},Pr vs=some v→vs=[v]
 |[_],_,e=>congrArg (fun x=>[x]) (Zt e)
 |[],_,e=>nomatch e
 |_::_::_,_,e=>nomatch e
theorem Ql{mvs:List Value}:∀{vs:List V} {kd:V×V},Ny vs=some kd→Vrs Γ σ vs mvs→A2 Γ σ kd.1 kd.2 mvs
 |[k],kd,e,r=>by cases e;obtain⟨mk,e,r⟩:=mw r;exact⟨mk,r,.inl ⟨e,rfl⟩⟩
 |[k,d],kd,e,r=>by
  cases e
  obtain⟨mk,ms,e,r,r2⟩:=nQ r
  obtain⟨md,e2,r2⟩:=mw r2
  exact⟨mk,r,.inr ⟨md,by rw[e,e2],r2⟩⟩
 |[],_,e,_=>nomatch e
 |_::_::_::_,_,e,_=>nomatch e
theorem KC{mvs:List Value}{l:List V}{r:V×List V}:∀{vs:List V},Cu vs l=some r→Vrs Γ σ vs mvs→∃j,l[j]?=some r.1∧r.2=l.eraseIdx j∧((mvs=[]∧j=l.length-1)∨∃u,mvs=[.int 0 u]∧j=0)
 |[],e,q=>by
  obtain⟨w,hw,e⟩:=Zd (show (l.getLast?).bind _=_ from e)
  cases e
  exact⟨_,List.getLast?_eq_getElem?▸hw,gO l,.inl ⟨lY q,rfl⟩⟩
 |[k],e,q=>by
  obtain⟨i,hi,e2⟩:=Zd (show (bc k).bind _=_ from e)
  clear e
  obtain⟨m,em,q⟩:=mw q
  cases k<;>first|(cases hi;done)|skip
  cases hi
  obtain⟨u,rfl⟩:=q
  by_cases h0:decide (i=0)=true
  ·rw[if_pos h0]at e2
   cases Z0 h0
   induction l with
   |nil=>cases e2
   |cons a l=>cases e2;exact⟨0,rfl,rfl,.inr ⟨u,em,rfl⟩⟩
  ·rw[if_neg h0]at e2;cases e2
 |_::_::_,e,_=>nomatch e
theorem yc{a:Addr}{key d:V}{r:Option V}{vs:List Value}(S:Sts Γ σ H)(hv:A2 Γ σ key d vs)(g:∀mk,Vr Γ σ key mk→KG Γ σ a mk r)(q:aD Γ σ Q (r.getD d,H)):Γ.wp (PySem.call (.builtin "dict.get") (.ref a::vs)) Q Er σ.s:=by
 obtain⟨mk,rk,hv⟩:=hv
 obtain⟨K,i1,knd,f,i,hs,hm,hi,hr⟩:=g mk rk
 rcases hv with ⟨rfl,rfl⟩|⟨md,rfl,rd⟩
 ·exact call_meetsIn PySem.F.slot_dict_get hm.typeIs PySem.F.entry_dict_get (PySem.F.args_dict_get_2 _ _) (meets_dict_get _ _ hi hs) ⟨f,hm,q.here S (hr.getD (rfl:Vr Γ σ .none Value.none))⟩
 ·exact call_meetsIn PySem.F.slot_dict_get hm.typeIs PySem.F.entry_dict_get (PySem.F.args_dict_get_3 _ _ _) (meets_dict_get_default _ _ hi hs md) ⟨f,hm,q.here S (hr.getD rd)⟩
theorem Ad(T:ik Γ.k)(Z:y6 Γ.k){key d:V}{l:List (V×V)}{p:Addr×Addr}{vs:List Value}(S:Sts Γ σ H)(hv:A2 Γ σ key d vs)(hf:eD Γ.k.P key l=true)(ro:OR Γ.k σ.s.heap σ.R σ.F (.dS l) p)(hu:Γ.A.units+100<cLine)(q:aD Γ σ Q (d,H)):
  Γ.wp (PySem.call (.builtin "dict.get") (.ref p.1::vs)) Q Er σ.s:=by
 obtain⟨e2,hs,o,es,ep,ho,hc,hd,r⟩:=ro
 obtain⟨n,hn,hl⟩:=jN hf
 obtain⟨ks,rfl⟩:=Z.tup _ _ hn
 obtain⟨mk,rk,hv⟩:=hv
 obtain⟨a,items,rfl,rk'⟩:=id rk
 have miss:∀{Q:Option Value→Shared→Prop} {E:Value→Shared→Prop},(∀tk,Q none (upd σ.s σ.s.heap tk))→wpAny (model Γ.k.pr Γ.k.w) Γ.A.in1 (dictGet p.1 (.ref a)) Q E σ.s:=fun q=>by
  unfold dictGet
  try with_reducible refine wpAny_holding ?_
  exact wpAny_bind (Z.hash _ _ hn (ux hu) rk fun tk=>wpAny_bind (ow (tk:=tk) T Z hn hl ho hd r rk (wpAny_pure (q tk))))
 rcases hv with ⟨rfl,rfl⟩|⟨md,rfl,rd⟩
 ·refine wpAny_call_entry PySem.F.slot_dict_get ⟨o,ho,hc.1⟩ PySem.F.entry_dict_get ?_ (PySem.F.args_dict_get_2 _ _)
  show wpAny _ _ (dictGet p.1 (.ref a) >>= _) _ _ σ.s
  refine wpAny_bind (miss fun tk=>?_)
  show wpAny _ _ (Builtin.Dict.missed p.1 (.ref a) >>= _) _ _ _
  exact wpAny_bind (wpAny_missed_other hs (wpAny_pure ⟨_,rfl,q.here S rfl⟩))
 ·refine wpAny_call_entry PySem.F.slot_dict_get ⟨o,ho,hc.1⟩ PySem.F.entry_dict_get ?_ (PySem.F.args_dict_get_3 _ _ _)
  show wpAny _ _ (dictGet p.1 (.ref a) >>= _) _ _ σ.s
  refine wpAny_bind (miss fun tk=>?_)
  show wpAny _ _ (Builtin.Dict.missed p.1 (.ref a) >>= _) _ _ _
  exact wpAny_bind (wpAny_missed_other hs (wpAny_pure ⟨_,rfl,q.here S rd⟩))
theorem oU{a:Addr}{o:Obj}{pl:Sem Bool}{Q:Value×List Value→Shared→Prop}(ho:σ.s.heap.get? a=some o)(hc:o.ExactDict)(q:Q (.builtin "dict.get",[.ref a]) σ.s):Γ.wp (getMethod (.ref a) "get" pl) Q Er σ.s:=
 getMethod_builtin ⟨o,ho,hc.1⟩ PySem.F.plainAttrs_dict PySem.F.slot_dict_get PySem.F.type_dict_get (fun b e=>by cases e;exact⟨o,ho,hc.2.1⟩) q
theorem Gg{n:Nat}{a:Addr}(cr:bu Γ.k n σ.s.heap σ.R σ.F a):∃ob,σ.s.heap.get? a=some ob∧ob.ExactDict:=by
 obtain⟨_,cr⟩:=cr
 split at cr
 ·obtain⟨_,⟨ob,_,_,h1,h2,_⟩,_⟩:=cr;exact⟨ob,h1,h2⟩
 ·obtain⟨_,⟨ob,_,_,h1,h2,_⟩,_⟩:=cr;exact⟨ob,h1,h2⟩
include X
theorem kh(L:LH Γ xs es){id:String}{a:Addr}{pos:Pos}{f:List V×Mini.Internal.H→Option (V×Mini.Internal.H)}{K:V×Mini.Internal.H→Prop}(o:At Γ l H σ)(q:W ((evL Γ.k.P Γ.call es l H).bind f) K)
  (h:∀vs mvs σ',Mv Γ noX σ vs.2 σ'→Vrs Γ σ' vs.1 mvs→W (f vs) K→Γ.wp (PySem.call (.builtin id) (.ref a::mvs)) Q Er σ'.s):Γ.wp (callWith pos (.builtin id) [.ref a] (backTo pos (starEach xs Γ.f.env)) []) Q Er σ.s:=
 callWith_builtin (any_false (L.plain pos _)) (L.args o (wb q fun vs q mvs σ1 m r=>h vs mvs σ1 m r q))
omit X in
theorem uK{i m:Nat}{p:Addr×Addr}{vs:List V}{mvs:List Value}(hm:m=Γ.k.P.bR)(S:Sts Γ σ H)(hp:σ.R[i]?=some p)(r:Vrs Γ σ vs mvs)(q:W (ah Γ.k.P (.ref i) m vs H) (aD Γ σ Q)):Γ.wp (PySem.call (.builtin "list.append") (.ref p.1::mvs)) Q Er σ.s:=by
 unfold ah at q
 rw[if_pos hm]at q
 refine wO q fun j ej q=>we q fun l hl q=>we q fun y hy q=>wif q fun hz z=>?_
 cases ej
 rw[Rf hy]at r
 obtain⟨my,rfl,ry⟩:=mw r
 exact vS S (gD hl) hp hz ry z
omit X in
theorem CZ{i m:Nat}{p:Addr×Addr}{vs:List V}{mvs:List Value}(h1:¬m=Γ.k.P.bR)(hm:m=Γ.k.P.iQ)(S:Sts Γ σ H)(hp:σ.R[i]?=some p)(r:Vrs Γ σ vs mvs)(q:W (ah Γ.k.P (.ref i) m vs H) (aD Γ σ Q)):Γ.wp (PySem.call (.builtin "list.pop") (.ref p.1::mvs)) Q Er σ.s:=by
 unfold ah at q
 rw[if_neg h1,if_pos hm]at q
 refine wO q fun j ej q=>we q fun l hl q=>we q fun y hy q=>wif q fun hz z=>?_
 cases ej
 obtain⟨j,e1,e2,h⟩:=KC hy r
 exact Ig S (gD hl) hp e1 h hz (e2▸z)
set_option tactic.hygienic true in
theorem Dz{m:Nat}{x:V}{a:Addr}{vs:List V}{mvs:List Value}(h1:¬m=Γ.k.P.bR)(h2:¬m=Γ.k.P.iQ)(S:Sts Γ σ H)(rx:Vr Γ σ x (.ref a))(r:Vrs Γ σ vs mvs)(q:W (ah Γ.k.P x m vs H) (aD Γ σ Q)):Γ.wp (PySem.call (.builtin "dict.get") (.ref a::mvs)) Q Er σ.s:=by
 unfold ah at q
 rw[if_neg h1,if_neg h2]at q
 refine wif q fun hm q=>we q fun kd hk q=>?_
 have a2:=Ql hk r
 cases x
 case cd n=>
  obtain⟨a',ea,_,cr⟩:=rx
  cases ea
  exact wif q fun ok q=>yc S a2 (fun mk rk=>xP cr ok rk) q
 case ref i=>
  refine we q fun o' ho' q=>?_
  obtain⟨p,hp,ep⟩:=rx
  cases ep
  have r:=S.obj _ _ _ ho' hp
  induction o' with
  |aM l=>exact fV q fun j e q=>yc S a2 (fun mk rk=>by rw[e]at rk;obtain⟨u,rfl⟩:=rk;exact Io r j u) q
  |dS l=>exact wif q fun hf q=>Ad X.T X.th S a2 hf r X.hu q
  |_=>exact q.elim
 all_goals exact q.elim
omit X in
theorem Hs{x:V}{m:Nat}{vs:List V}{K:V×Mini.Internal.H→Prop}(h1:¬m=Γ.k.P.bR)(h2:¬m=Γ.k.P.iQ)(q:W (ah Γ.k.P x m vs H) K):m=Γ.k.P.Ax:=by
 unfold ah at q
 rw[if_neg h1,if_neg h2]at q
 exact wif q fun h ζ=>h
omit X in
theorem G8{m:Nat}{x:V}{mx:Value}(hm:¬(m=Γ.k.P.bR∨m=Γ.k.P.iQ))(hs:fA Γ.k.P x m H=some none)(S:Sts Γ σ H)(rx:Vr Γ σ x mx):∃a ob,mx=.ref a∧σ.s.heap.get? a=some ob∧ob.ExactDict:=by
 rcases yZ hm hs with ⟨n,rfl⟩|⟨j,rfl,h⟩
 ·obtain⟨a,rfl,_,cr⟩:=rx
  obtain⟨ob,h⟩:=Gg cr
  exact⟨a,ob,rfl,h⟩
 ·obtain⟨p,hp,rfl⟩:=rx
  rcases h with ⟨l,h⟩|⟨l,h⟩
  ·obtain⟨e2,_,kvs,⟨ob,es0,hob,hcl,_⟩,r⟩:=S.obj _ _ _ h hp;exact⟨_,ob,rfl,hob,hcl⟩
  ·obtain⟨e2,_,ob,es0,ep0,hob,hcl,_⟩:=S.obj _ _ _ h hp;exact⟨_,ob,rfl,hob,hcl⟩
omit X in
theorem xF{i:Nat}{p:Addr×Addr}{σ':Sg}{H':Mini.Internal.H}(hp:σ.R[i]?=some p)(m:Mv Γ noX σ H' σ'):σ'.R[i]?=some p:=by
 obtain⟨t,et⟩:=m.x.pre
 rw[←et]
 exact (Zj (Z6 hp).1).trans hp
theorem J6(L:LH Γ xs es){m:Nat}{nm:Str}{pos:Pos}{pl:Sem Bool}{x:V}{mx:Value}(hx:c.tx[m]?=some nm)(hs:fA Γ.k.P x m H=some none)(o:At Γ l H σ)(rx:Vr Γ σ x mx)
  (q:W ((evL Γ.k.P Γ.call es l H).bind fun vs=>ah Γ.k.P x m vs.1 vs.2) (aD Γ σ Q)):
  Γ.wp (getMethod mx nm pl) (fun fx s₂=>Γ.wp (callWith pos fx.1 fx.2 (backTo pos (starEach xs Γ.f.env)) []) Q Er s₂) Er σ.s:=by
 rw[X.tx]at hx
 by_cases hm:m=Γ.k.P.bR∨m=Γ.k.P.iQ
 ·obtain⟨i,l0,rfl,ho⟩:=zX hm hs
  obtain⟨p,hp,rfl⟩:=rx
  obtain⟨_,items,⟨n,t⟩,_⟩:=o.S.obj _ _ _ ho hp
  by_cases h1:m=Γ.k.P.bR
  ·rw[h1,X.nm.append]at hx
   cases hx
   exact getMethod_list_append t rfl rfl (kh X L o q fun vs mvs σ1 m r q=>uK h1 m.S (xF hp m) r (W.go q m))
  ·rw[hm.resolve_left h1,X.nm.pop]at hx
   cases hx
   exact PyProof.Rows.Copied.getMethod_pop_at t rfl rfl (kh X L o q fun vs mvs σ1 m r q=>CZ h1 (hm.resolve_left h1) m.S (xF hp m) r (W.go q m))
 ·have h1:¬m=Γ.k.P.bR:=fun h=>hm (.inl h)
  have h2:¬m=Γ.k.P.iQ:=fun h=>hm (.inr h)
  obtain⟨a,ob,rfl,ho,hc⟩:=G8 hm hs o.S rx
  have h3:=wbe (K':=fun ζ=>m=Γ.k.P.Ax) q fun vs ζ q=>Hs h1 h2 q
  have h3:m=Γ.k.P.Ax:=xS h3 fun ζ ζ h=>h
  rw[h3,X.nm.get]at hx
  cases hx
  exact oU ho hc (kh X L o q fun vs mvs σ1 m r q=>Dz X h1 h2 m.S (rx.up m) r (W.go q m))
theorem HL(L:LH Γ xs es){a:E}{y:Expr}{i:Nat}{nm:Str}{apos pos:Pos}(hv:¬isCall y=true)(hl:(apos.endLine==pos.line)=true)(hn:xs.length<20)(ha:EH Γ y a)(hx:c.tx[i]?=some nm):
  EH Γ (.Call (.Attribute y nm apos) xs [] pos) (.af a i es):=fun l H σ Q Er o q=>by
 refine za hv hl hn (L.plain pos _) (ha _ _ _ _ _ o (wb q fun u q mx σ1 m r=>we q fun s hs q=>?_))
 induction s with
 |none=>exact J6 X L hx hs (o.go m) r (W.go q m)
 |some d=>
  refine we q fun g hg q=>?_
  rw[X.tx]at hx
  obtain⟨z1,z2,z3,z4,ob,fd,z5,z6⟩:=X.af.get d i g nm hg hx
  obtain⟨j,al,ej,ho,hnone⟩:=AS hs
  have r0:=r
  rw[ej]at r
  obtain⟨p,hp,rfl⟩:=r
  obtain⟨es',n,w⟩:=qm (m.S.obj _ _ _ ho hp)
  have hs:shadowIn (some (dictOf es' n)) nm=some false:=by
   unfold shadowIn lookIn dictOf
   simp only[List.find?_toArray]
   rw[w.ar.not hx hnone]
   have:es'.any (·.refKey)=false:=by
    rw[List.any_eq_false]
    intro e he
    obtain⟨x,t,ek⟩:=w.ks e he
    simp[DictEntry.refKey,ek]
   simp[this]
  exact method_fn (KI X m.S) w.I z1 z2 z3 z4 hs (callWith_function (o:=ob) (fd:=fd) (L.args (o.go m) (wb q fun vs q mvs σ2 m2 r2=>⟨⟨m2.S.dV _ _ z5,z6⟩,wpAny_call (X.call g (u.1::vs.1) _ σ2 (.ref p.1::mvs) _ m2.S ⟨r0.up m2,r2⟩ (W.go q (m.trans m2)))⟩)))
end
section
variable{Γ:Gm}{c:Ck}{mg mb:Str→Option Value}(X:Cx Γ c mg mb){σ:Sg}{H:Mini.Internal.H}{l:Loc}{xs:List Expr}{es:List E}{Q:Value→Shared→Prop}{Er:Value→Shared→Prop}
theorem wK(S:Sts Γ σ H)(d:Nat){tk:Nat}:Mv Γ noX σ (H++[.inst d []]) ⟨σ.R++[(σ.s.heap.objs.size+1,σ.s.heap.objs.size)],σ.F,upd σ.s ((σ.s.heap.push emptyDict).push (instObj (Γ.k.ca d) σ.s.heap.objs.size)) tk⟩∧
  ((σ.s.heap.push emptyDict).push (instObj (Γ.k.ca d) σ.s.heap.objs.size)).get? (σ.s.heap.objs.size+1)=some (instObj (Γ.k.ca d) σ.s.heap.objs.size):=by
 have g1:((σ.s.heap.push emptyDict).push (instObj (Γ.k.ca d) σ.s.heap.objs.size)).get? (σ.s.heap.objs.size+1)=some (instObj (Γ.k.ca d) σ.s.heap.objs.size):=by heap_get
 have g2:((σ.s.heap.push emptyDict).push (instObj (Γ.k.ca d) σ.s.heap.objs.size)).get? σ.s.heap.objs.size=some emptyDict:=by heap_get
 have n2:σ.s.heap.get? (σ.s.heap.objs.size+1)=none:=by
  induction e:σ.s.heap.get? (σ.s.heap.objs.size+1)with
  |none=>rfl
  |some o=>exact absurd (Heap.lt_size e) (Nat.not_lt.mpr (Z7 _))
 obtain⟨S',X⟩:=S.alloc (o:=.inst d []) (p:=(σ.s.heap.objs.size+1,σ.s.heap.objs.size)) (fun b o e=>Heap.get?_push_of_some _ (Heap.get?_push_of_some _ e)) n2 (bG _) ⟨_,g1⟩ ⟨_,g2⟩ fun ζ=>
  ⟨Nat.ne_of_lt (Nat.lt_succ_self _),g1,fun f v e=>(nomatch e),fun ζ=>none,⟨_,#[],0,g2,rfl,fun e he=>absurd he (Array.not_mem_empty _),fun ζ=>rfl⟩,⟨[],0,g2,Z5 _⟩,fun ζ ζ ζ=>rfl⟩
 exact⟨⟨X,S',rfl,rfl⟩,g1⟩
include X
theorem Ms(L:LH Γ xs es){d:Nat}{y:Str}{p0 pos:Pos}(hy:c.cnI y=some d)(hg:c.iu y=true):EH Γ (.Call (.Name y p0) xs [] pos) (.new d es):=fun l H σ Q Er o q=>by
 obtain⟨hd,e2,hk,hmk⟩:=X.new.get d y hy
 refine PyProof.Rows.Call_ (sj X hg hd e2 o.S (callWith_of (P:=fun h=>Γ.k.K.In h) (by rw[any_false (L.plain pos _)];rfl) (keeps_K hk) (L.args o (wb q fun vs q mvs σ1 m r=>⟨KI X m.S,we q fun io hio q=>?_⟩))))
 show Γ.wp (PySem.call (.ref (Γ.k.ca d)) mvs) Q Er σ1.s
 obtain⟨m2,g1⟩:=wK m.S d (tk:=σ1.s.toks)
 have Y:=makes_of (M:=model Γ.k.pr Γ.k.w) (KI X m.S) hmk
 have self:Vr Γ ⟨σ1.R++[(σ1.s.heap.objs.size+1,σ1.s.heap.objs.size)],σ1.F,upd σ1.s ((σ1.s.heap.push emptyDict).push (instObj (Γ.k.ca d) σ1.s.heap.objs.size)) σ1.s.toks⟩ (.ref vs.2.length) (.ref (σ1.s.heap.objs.size+1)):=⟨_,mU m.S.len,rfl⟩
 induction io with
 |some g=>
  obtain⟨hi,hty⟩:=X.new.init d g hio
  refine wpAny_call (make_core Y (looks_findIn (KI X m.S) hi) (fun self=>bind_fn (KI X m.S) self hty) (.inl rfl) (X.Ja _ _ g (.ref vs.2.length::vs.1) _ _ (.ref (σ1.s.heap.objs.size+1)::mvs) _ m2.S ⟨self,r.up m2⟩ (wb q fun w q mv σ3 m3 r3=>wif q fun hn q=>?_)))
  exact⟨nil_of r3 hn,q _ _ ((m.trans m2).trans m3) (self.up m3)⟩
 |none=>
  refine wif q fun hv q=>?_
  have r:=r
  rw[List.isEmpty_iff.mp hv]at r
  obtain rfl:=lY r
  refine wpAny_call (make_core Y (looks_findIn (KI X m.S) (X.new.none d hio)) (fun self=>Looks.of_pure (oi_bind self)) (.inr ⟨rfl,rfl⟩) ?_)
  have t1:Looks (model Γ.k.pr Γ.k.w) ((σ1.s.heap.push emptyDict).push (instObj (Γ.k.ca d) σ1.s.heap.objs.size)) (typeOf (.ref (σ1.s.heap.objs.size+1))) (.ref (Γ.k.ca d)):=(Looks.ld g1).andThen .now
  have t2:Looks (model Γ.k.pr Γ.k.w) ((σ1.s.heap.push emptyDict).push (instObj (Γ.k.ca d) σ1.s.heap.objs.size)) (isInstance (.ref (σ1.s.heap.objs.size+1)) (.type "object")) true:=t1.andThen (Y.top.keeps fun b o e=>Heap.get?_push_of_some _ (Heap.get?_push_of_some _ e))
  refine codeAny_call_builtin oi_plain entry_oi (@check_slot (model Γ.k.pr Γ.k.w) _ _ _ "object.__init__" "object" "__init__" (.ref (σ1.s.heap.objs.size+1)) [] [] _ oi_kind oi_split t2 (oi_args (.ref (σ1.s.heap.objs.size+1))) ?_)
  rw[oi_run]
  exact wpAny_pure ⟨rfl,q _ _ (m.trans m2) self⟩
end
theorem far{ex:Addr→Prop}{R R1:Ro}{h h1 h2:Heap}{d:Addr}(nn:h.get? d=none)(X:Ext ex R h R1 h1)(kb:∀b o,b≠d→h1.get? b=some o→h2.get? b=some o):Ext ex R h R1 h2:=by
 have ne:∀{b ob},h.get? b=some ob→b≠d:=fun e z=>by rw[z,nn]at e;cases e
 exact⟨X.pre,fun b ob e n1 n2=>kb b ob (ne e) (X.keep b ob e n1 n2),fun b ob e=>let ⟨o1,e1⟩:=X.live b ob e;⟨o1,kb b o1 (ne e) e1⟩,X.new⟩
structure Hm (Γ:Gm)(ex:Addr→Prop)(σ:Sg)(d:Addr)(H:Mini.Internal.H)(σ':Sg):Prop where
 x:Ext ex σ.R σ.s.heap σ'.R σ'.s.heap
 S:Sts Γ σ' H
 F:σ'.F=d::σ.F
 e:σ'.s=upd σ.s σ'.s.heap σ'.s.toks
section
variable{Γ:Gm}{ex:Addr→Prop}{σ σ1 σ2:Sg}{H H':Mini.Internal.H}{d:Addr}{ob:Obj}{l:Loc}{v:V}{mv:Value}
noncomputable abbrev Sg.hold(σ:Sg)(ob:Obj)(tk:Nat):Sg:=⟨σ.R,σ.s.heap.objs.size::σ.F,upd σ.s (σ.s.heap.push ob) tk⟩
theorem ig(S:Sts Γ σ H)(hf:ob.isFreed=false){tk:Nat}:Hm Γ ex σ σ.s.heap.objs.size H (σ.hold ob tk)∧(σ.s.heap.push ob).get? σ.s.heap.objs.size=some ob:=by
 have g:(σ.s.heap.push ob).get? σ.s.heap.objs.size=some ob:=Heap.get?_push_size _ hf
 have st:σ.s.heap.StaysIn (σ.s.heap.push ob):=fun b ob e=>Heap.get?_push_of_some _ e
 exact⟨⟨Ext.of_stays st,S.push st (bG _) ⟨_,g⟩,rfl,rfl⟩,g⟩
theorem mF(o:At Γ l H σ)(hf:ob.isFreed=false){tk:Nat}:At Γ l H (σ.hold ob tk):=by
 obtain⟨hm,g⟩:=ig (ex:=noX) (tk:=tk) o.S hf
 obtain⟨hl,m,hn,hv⟩:=o.o
 exact⟨hm.S,⟨hl,m,hn.at fun ob e=>hm.x.keep _ _ e (fun z=>o.S.frm _ z o.L) (fun z=>z),fun i x v hx hl=>let ⟨mv,e,r⟩:=hv i x v hx hl;⟨mv,e,VR.mono hm.x (fun ζ z=>z.elim) (fun b z=>(Zm z).elim (fun e=>.inr (e▸bG _)) .inl) r⟩⟩,Zh _ o.L⟩
theorem Hm.free(m:Hm Γ ex σ d H σ1):d∈σ1.F:=m.F▸Ze ..
theorem Hm.go{H1:Mini.Internal.H}(m:Hm Γ ex σ d H1 σ1)(m2:Mv Γ ex σ1 H σ2):Hm Γ ex σ d H σ2:=⟨m.x.trans m2.x,m2.S,m2.F.trans m.F,by rw[m2.e,m.e]⟩
theorem Hm.NS{h2:Heap}(nn:σ.s.heap.get? d=none)(m:Hm Γ ex σ d H σ1)(kb:∀b o,b≠d→σ1.s.heap.get? b=some o→h2.get? b=some o)(lv:∃o,h2.get? d=some o){tk:Nat}:Hm Γ ex σ d H ⟨σ1.R,σ1.F,upd σ1.s h2 tk⟩∧Ext (· =d) σ1.R σ1.s.heap σ1.R h2:=by
 obtain⟨S2,X2⟩:=m.S.held m.free kb lv
 exact⟨⟨far nn m.x kb,S2,m.F,by show upd σ1.s h2 tk=_;rw[m.e]⟩,X2⟩
theorem Hm.set{h2:Heap}(nn:σ.s.heap.get? d=none)(m:Hm Γ ex σ d H σ1)(s2:Heap.SameBut d σ1.s.heap h2)(lv:∃o,h2.get? d=some o){tk:Nat}:Hm Γ ex σ d H ⟨σ1.R,σ1.F,upd σ1.s h2 tk⟩∧Ext (· =d) σ1.R σ1.s.heap σ1.R h2:=m.NS nn (fun b o n e=>(s2.2 b n).trans e) lv
theorem Hm.drop{h2:Heap}(nn:σ.s.heap.get? d=none)(S:Sts Γ σ H')(o:At Γ l H σ1)(hL:Γ.f.L∈σ.F)(m:Hm Γ ex σ d H σ1)(kb:∀b o,b≠d→σ1.s.heap.get? b=some o→h2.get? b=some o){tk:Nat}:Mv Γ ex σ H ⟨σ1.R,σ.F,upd σ1.s h2 tk⟩∧At Γ l H ⟨σ1.R,σ.F,upd σ1.s h2 tk⟩:=by
 obtain⟨R1,F1,s1⟩:=σ1
 obtain rfl:F1=d::σ.F:=m.F
 have hd:d∉σ.F:=fun hb=>by obtain⟨ob,hob⟩:=S.live _ (.inr hb);rw[nn]at hob;cases hob
 have S2:=m.S.OL hd kb
 obtain⟨hl,ns,hn,hv⟩:=o.o
 exact⟨⟨far nn m.x kb,S2,rfl,by show upd s1 h2 tk=_;rw[show s1=_ from m.e]⟩,⟨S2,⟨hl,ns,hn.at fun ob e=>kb _ ob (fun z=>hd (z▸hL)) e,fun i x v hx hl=>let ⟨mv,e,r⟩:=hv i x v hx hl;⟨mv,e,VR.move (fun b o nh e=>kb b o (fun z=>nh (.inr (z▸Ze ..))) e) (List.prefix_refl _) (fun b q=>q.imp id (Zh _)) r⟩⟩,hL⟩⟩
theorem Hm.at(m:Hm Γ noX σ d H σ1){o:Obj}(e:σ1.s.heap.get? d=some o)(m2:Mv Γ noX σ1 H' σ2):σ2.s.heap.get? d=some o:=m2.x.keep _ _ e (fun z=>m.S.frm _ z m.free) fun z=>z
theorem Hm.pop(m:Hm Γ ex σ d H σ1):Mv Γ ex σ H ⟨σ1.R,σ.F,σ1.s⟩:=by
 obtain⟨R1,F1,s1⟩:=σ1
 obtain rfl:F1=d::σ.F:=m.F
 exact⟨m.x,m.S.pop,rfl,m.e⟩
theorem Hm.adopt{o:O}(nn:σ.s.heap.get? d=none)(S:Sts Γ σ H')(m:Hm Γ ex σ d H σ1)(ho:OR Γ.k σ1.s.heap (σ1.R++[(d,d)]) σ.F o (d,d)):Mv Γ ex σ (H++[o]) ⟨σ1.R++[(d,d)],σ.F,σ1.s⟩:=by
 obtain⟨R1,F1,s1⟩:=σ1
 obtain rfl:F1=d::σ.F:=m.F
 obtain⟨S3,p3,hh3⟩:=m.S.adopt (fun hb=>by obtain⟨ob,hob⟩:=S.live _ (.inr hb);rw[nn]at hob;cases hob) ho
 exact⟨⟨m.x.pre.trans p3,m.x.keep,m.x.live,fun p hp=>(Zv hp).elim (m.x.new p) fun z=>by rw[Zs z];exact .inr ⟨nn,nn⟩⟩,S3,rfl,m.e⟩
theorem Gj{R:Ro}{F:List Addr}{b:Addr}(q:hot (R++[(d,d)]) F b):hot R (d::F) b:=by
 rcases q with ⟨p,hp,e⟩|q
 ·rcases Zv hp with z|z
  ·exact .inl ⟨p,z,e⟩
  ·rw[List.mem_singleton]at z;subst z;exact .inr (e.elim (fun e=>e▸Ze ..) (fun e=>e▸Ze ..))
 ·exact .inr (Zh _ q)
theorem Ef{R:Ro}{F:List Addr}{b:Addr}(q:hot R F b):hot R (d::F) b:=q.imp id (Zh _)
end
set_option tactic.hygienic true in
theorem CD{tx:List Str}:∀e:Option Expr,Al (keyOf tx e) fun i=>∃y kk pos,e=some (.Constant (.str y) kk pos)∧tx[i]?=some y
 |none=>trivial
 |some e=>by
  cases e<;>first|exact trivial|skip
  rename_i y kk pos
  induction y<;>first|exact trivial|skip
  exact (show Al (ix _ tx) _ from by
   have:=uc (x:= ‹Str›) tx
   induction h:ix ‹Str› tx with
   |none=>exact trivial
   |some i=>rw[h]at this;exact⟨_,_,_,rfl,this⟩)
section
variable{Γ:Gm}{c:Ck}{mg mb:Str→Option Value}(X:Cx Γ c mg mb){σ:Sg}{H:Mini.Internal.H}
theorem JK{k:Lk}{h:Heap}{R:Ro}{F:List Addr}(T:ik k):∀{ks:List Nat} {ws:List V} {kvs:List (Str×Value)},ks.Nodup→aT k.tx (bu k) h R F (fun c x=>k.tx[c]?=some x) (ks.zip ws) kvs→(kvs.map (·.1)).Nodup∧∀y∈kvs.map (·.1),∃c∈ks,k.tx[c]?=some y
 |[],_,[],_,_=>⟨List.nodup_nil,fun ζ h=>(nomatch h)⟩
 |_::_,[],[],_,_=>⟨List.nodup_nil,fun ζ h=>(nomatch h)⟩
 |a::ks,w::ws,b::kvs,hn,r=>by
  have hn:=List.nodup_cons.mp hn
  obtain⟨i1,i2⟩:=JK T hn.2 r.2
  refine ⟨List.nodup_cons.mpr ⟨fun z=>?_,i1⟩,fun y hy=>(Zm hy).elim (fun z=>⟨a,Ze ..,z▸r.1.1⟩) fun z=>let ⟨c,hc,ec⟩:=i2 y z;⟨c,Zh _ hc,ec⟩⟩
  obtain⟨c,hc,ec⟩:=i2 _ z
  exact hn.1 ((T.inj _ _ _ r.1.1 ec:a=c)▸hc)
 |[],_,_::_,_,r=>r.elim
 |_::_,[],_::_,_,r=>r.elim
 |_::_,_::_,[],_,r=>r.elim
structure PH (Γ:Gm)(kes:List (Option Expr))(xs:List Expr)(ks:List Nat)(es:List E):Prop where
 all:kes.all (·.isSome)=true
 go:∀(pos:Pos) (l:Loc) (H:Mini.Internal.H) (σ:Sg) (Q:List (Value×Value)→Shared→Prop) (Er:Value→Shared→Prop),At Γ l H σ→W (evL Γ.k.P Γ.call es l H) (fun vs=>∀prs kvs σ',Mv Γ noX σ vs.2 σ'→Carries (strKind Γ.k.pr Γ.k.w) prs kvs→aT Γ.k.tx (bu Γ.k) σ'.s.heap σ'.R σ'.F (fun c x=>Γ.k.tx[c]?=some x) (ks.zip vs.1) kvs→Q prs σ'.s)→
  Γ.wp (evalPairs (pairTrees kes xs Γ.f.env pos)) Q Er σ.s
include X
theorem A5{f:Expr→Option E}(ih:∀e,Al (f e) (EG Γ e)):∀(kes:List (Option Expr)) (xs:List Expr),kes.length=xs.length→Al (eW (keyOf c.tx) kes) fun ks=>Al (eW f xs) fun es=>PH Γ kes xs ks es
 |[],[],_=>⟨rfl,fun pos l H σ Q Er o q=>evalPairs_nil (q [] [] _ (Mv.here o.S (tk:=σ.s.toks)) trivial trivial)⟩
 |ke::kes,x::xs,hl=>(CD ke).bind fun i hi=>(A5 ih kes xs (Nat.succ.inj hl)).bind fun ks r=>(ih x).bind fun a ha=>by
  obtain⟨z,kk,kpos,rfl,hz⟩:=hi
  revert r
  induction eW f xs with
  |none=>exact fun ζ=>trivial
  |some es=>
   refine fun r=>⟨r.all,fun pos l H σ Q Er o q=>evalPairs_cons (Constant_str ?_)⟩
   have m0:Mv Γ noX σ H ⟨σ.R,σ.F,upd σ.s σ.s.heap (σ.s.toks+1)⟩:=Mv.here o.S
   exact wpAny_bind (ha.1 _ _ ⟨σ.R,σ.F,upd σ.s σ.s.heap (σ.s.toks+1)⟩ _ _ (o.go m0) (wb q fun u q mx σ1 m r1=>wpAny_bind (wpAny_standAt (wpAny_pure (r.go pos _ _ _ _ _ ((o.go m0).go m) (wb q fun vs q prs kvs σ2 m2 c2 r2=>q _ ((z,mx)::kvs) σ2 (m0.trans (m.trans m2)) ⟨jw,rfl,c2⟩ ⟨⟨X.tx▸hz,r1.up m2⟩,r2⟩))))))
 |[],_::_,h=>nomatch h
 |_::_,[],h=>nomatch h
theorem zh{kes:List (Option Expr)}{xs:List Expr}{ks:List Nat}{es:List E}{pos:Pos}(L:PH Γ kes xs ks es)(hn:ks.Nodup)(hl:kes.length=xs.length)(h0:kes≠ [])(hz:kes.length≤15):EH Γ (.Dict kes xs pos) (.gG ks es):=fun l H σ Q Er o q=>by
 have nn:=bG σ.s.heap
 obtain⟨m0,g⟩:=ig (ex:=noX) (tk:=σ.s.toks) (ob:={cls:=.type "dict",data:=.dict #[]}) o.S rfl
 refine wpAny_Dict_walk (knd:=strKind Γ.k.pr Γ.k.w) L.all hl h0 hz (L.go pos _ _ (σ.hold {cls:=.type "dict",data:=.dict #[]} σ.s.toks) _ _ (mF o rfl) (wb q fun vs q prs kvs σ1 m1 c1 r1=>?_))
 refine ⟨kvs,c1,⟨_,#[],0,m0.at g m1,⟨rfl,rfl,rfl⟩,rfl,fun e he=>absurd he (Array.not_mem_empty _),.nil,List.nodup_nil⟩,fun h2 hd2 hs2=>?_⟩
 rw[merged_nil_of_nodup _ (JK X.T hn r1).1]at hd2
 obtain⟨m2,X2⟩:=(m0.go m1).set (tk:=σ1.s.toks+prs.length) nn hs2 (hD hd2)
 have m3:=m2.adopt (o:=.aP (ks.zip vs.1)) nn o.S ⟨rfl,jS X o.S nn,kvs,hd2,aT.same ⟨_,rfl⟩ (fun b z=>by rw[(m0.go m1).F];exact Gj z) (aT.mono X2 (fun b e=>e▸ (m0.go m1).free) (fun ζ z=>.inl z) r1)⟩
 exact q _ _ m3 ⟨_,mU (m0.go m1).S.len,rfl⟩
end
theorem hide{P:Prop}(h:∀Q:Prop,(P→Q)→Q):P:=h P id
noncomputable def dC(k:Lk)(h:Heap)(R:Ro)(F:List Addr){K:Type}(kv:V→K→Prop):List (V×V)→List (K×Value)→Prop
 |[],[]=>True
 |a::l,b::m=>(kv a.1 b.1∧gu k h R F a.2 b.2)∧dC k h R F kv l m
 |_,_=>False
abbrev zI(v:V)(i:Int):Prop:=v=.int i
section
variable{k:Lk}{R R':Ro}{F F':List Addr}{h h':Heap}{K:Type}{kv:V→K→Prop}
theorem dC.imp(g:∀v mv,gu k h R F v mv→gu k h' R' F' v mv):∀{l:List (V×V)} {m:List (K×Value)},dC k h R F kv l m→dC k h' R' F' kv l m
 |[],[],_=>trivial
 |_::_,_::_,r=>⟨⟨r.1.1,g _ _ r.1.2⟩,dC.imp g r.2⟩
 |[],_::_,e=>e
 |_::_,[],e=>e
theorem dC.append:∀{l l':List (V×V)} {m m':List (K×Value)},dC k h R F kv l m→dC k h R F kv l' m'→dC k h R F kv (l++l') (m++m')
 |[],_,[],_,_,r=>r
 |_::_,_,_::_,_,a,r=>⟨a.1,dC.append a.2 r⟩
 |[],_,_::_,_,e,_=>e.elim
 |_::_,_,[],_,e,_=>e.elim
theorem dC.length:∀{l:List (V×V)} {m:List (K×Value)},dC k h R F kv l m→l.length=m.length
 |[],[],_=>rfl
 |_::_,_::_,r=>congrArg (· +1) (dC.length r.2)
 |[],_::_,e=>e.elim
 |_::_,[],e=>e.elim
theorem dC.key:∀{l:List (V×V)} {m:List (K×Value)},dC k h R F kv l m→∀i∈m.map (·.1),∃v∈l.map (·.1),kv v i
 |[],[],_,_,h=>nomatch h
 |_::_,_::_,r,i,h=>(Zm h).elim (fun e=>⟨_,Ze ..,e▸r.1.1⟩) fun z=>let ⟨v,a,b⟩:=dC.key r.2 i z;⟨v,Zh _ a,b⟩
 |[],_::_,e,_,_=>e.elim
 |_::_,[],e,_,_=>e.elim
theorem dC.nodup(inj:∀v v' i,kv v i→kv v' i→v=v'):∀{l:List (V×V)} {m:List (K×Value)},dC k h R F kv l m→(l.map (·.1)).Nodup→(m.map (·.1)).Nodup
 |[],[],_,_=>List.nodup_nil
 |x::_,_::_,r,hn=>List.nodup_cons.mpr ⟨fun z=>let ⟨v,a,b⟩:=dC.key r.2 _ z;(List.nodup_cons.mp hn).1 (show x.1∈_ from (inj v x.1 _ b r.1.1:v=x.1)▸a),dC.nodup inj r.2 (List.nodup_cons.mp hn).2⟩
 |[],_::_,e,_=>e.elim
 |_::_,[],e,_=>e.elim
theorem dC.find[DecidableEq K]{key:V}{i:K}(hk:∀v j,kv v j→V.beq key v=decide (j=i)):∀{l:List (V×V)} {m:List (K×Value)},dC k h R F kv l m→uZ k h R F (cF key l) (valueAt m i)
 |[],[],_=>trivial
 |(a1,a2)::l,(b1,b2)::m,r=>by
  have ih:=dC.find hk r.2
  have e:=hk _ _ r.1.1
  unfold cF valueAt
  rw[List.find?_cons]
  dsimp only at e⊢
  rw[e]
  by_cases q:b1=i
  ·rw[Z1 q,if_pos rfl]
   exact r.1.2
  ·rw[Z2 q,if_neg Zc]
   exact ih
 |[],_::_,e=>e.elim
 |_::_,[],e=>e.elim
theorem E3(v v':V)(i:Int)(a:zI v i)(b:zI v' i):v=v':=a.trans b.symm
theorem Jt(i:Int)(v:V)(j:Int)(e:zI v j):V.beq (.int i) v=decide (j=i):=by
 subst e
 exact decide_eq_decide.mpr eq_comm
end
section
variable{Γ:Gm}{c:Ck}{mg mb:Str→Option Value}(X:Cx Γ c mg mb){σ σ':Sg}{H H':Mini.Internal.H}{ex:Addr→Prop}{env:Env}
abbrev Lr(Γ:Gm)(σ:Sg)(l:List (V×V))(m:List (Int×Value)):Prop:=dC Γ.k σ.s.heap σ.R σ.F zI l m
abbrev Vr0(Γ:Gm)(σ:Sg)(v:V)(m:Value):Prop:=gu Γ.k σ.s.heap σ.R σ.F v m
theorem jl{R R':Ro}{F F':List Addr}{h h':Heap}{v:V}{mv:Value}(x:Ext ex R h R' h')(hex:∀b,ex b→b∈F)(hF:∀b,b∈F'→b∈F∨h.get? b=none)(r:gu Γ.k h R F v mv):gu Γ.k h' R' F' v mv:=dv.mono x hex hF (fun ζ ζ q=>q.elim) r
theorem wU{v:V}{mv:Value}(m:Mv Γ noX σ H σ')(r:Vr0 Γ σ v mv):Vr0 Γ σ' v mv:=jl m.x (fun ζ z=>z.elim) (fun ζ q=>.inl (m.F▸q)) r
theorem Od{l:List (V×V)}{ms:List (Int×Value)}(m:Mv Γ noX σ H σ')(r:Lr Γ σ l ms):Lr Γ σ' l ms:=r.imp fun ζ ζ=>wU m
def LE(Γ:Gm)(t:Sem Value)(v:V):Prop:=∀(H:Mini.Internal.H) (σ:Sg) (Q:Value→Shared→Prop) (Er:Value→Shared→Prop),Sts Γ σ H→(∀mv σ',Mv Γ noX σ H σ'→Vr0 Γ σ' v mv→Q mv σ'.s)→Γ.wp t Q Er σ.s
structure LG (Γ:Gm)(e:Expr)(v:V):Prop where
 go:∀env,LE Γ (eval e env) v
 se:∀rest env,starEach (e::rest) env=(false,eval e env)::starEach rest env
theorem sT{f:Expr→Option V}(ih:∀e,Al (f e) (LG Γ e)):∀xs:List Expr,Al (eW f xs) fun l=>l.length=xs.length∧∀(pos:Pos) (env:Env) (H:Mini.Internal.H) (σ:Sg) (Q:List Value→Shared→Prop) (Er:Value→Shared→Prop),Sts Γ σ H→(∀mvs σ',Mv Γ noX σ H σ'→mvs.length=l.length→cI Γ.k.tx EO σ'.s.heap σ'.R σ'.F l mvs→Q mvs σ'.s)→Γ.wp (spliced (backTo pos (starEach xs env))) Q Er σ.s
 |[]=>⟨rfl,fun pos env H σ Q Er S q=>spliced_nil (q [] _ (Mv.here S (tk:=σ.s.toks)) rfl trivial)⟩
 |x::xs=>(ih x).bind fun v g=>(sT ih xs).bind fun l r=>⟨congrArg (· +1) r.1,fun pos env H σ Q Er S q=>by
  rw[g.se,c9]
  exact spliced_cons (g.go _ _ _ _ _ S fun mv σ1 m r1=>r.2 pos env _ _ _ _ m.S fun mvs σ2 m2 hl r2=>q (mv::mvs) σ2 (m.trans m2) (congrArg (· +1) hl) ⟨wU m2 r1,r2⟩)⟩
set_option tactic.hygienic true in
theorem rq:∀(n:Nat) (e:Expr),Al (xE Γ.k.tx n e) (LG Γ e)
 |0,_=>trivial
 |n+1,e=>by
  cases e<;>first|exact trivial|skip
  case Constant y kk pos=>
   induction y<;>first|exact trivial|skip
   ·exact⟨fun env H σ Q Er S q=>PyProof.Rows.Constant_none (q _ _ (Mv.here S (tk:=σ.s.toks)) rfl),fun ζ ζ=>rfl⟩
   ·exact⟨fun env H σ Q Er S q=>PyProof.Rows.Constant_bool (q _ _ (Mv.here S (tk:=σ.s.toks)) rfl),fun ζ ζ=>rfl⟩
   ·exact⟨fun env H σ Q Er S q=>wpAny_Constant_int (q _ _ (Mv.here S) ⟨_,rfl⟩),fun ζ ζ=>rfl⟩
   ·exact lp fun i hi=>⟨fun env H σ Q Er S q=>Constant_str (q _ _ (Mv.here S) ⟨_,_,hi,rfl⟩),fun ζ ζ=>rfl⟩
  case UnaryOp o x pos=>
   induction o<;>first|exact trivial|skip
   cases x<;>first|exact trivial|skip
   rename_i y kk p
   induction y<;>first|exact trivial|exact⟨fun env H σ Q Er S q=>wpAny_UnaryOp (wpAny_Constant_int (PyProof.Rows.neg_int (q _ _ (Mv.here S) ⟨_,rfl⟩))),fun ζ ζ=>rfl⟩
  case Tuple es x1 pos=>
   exact cQ fun hz=>(sT (rq n) es).bind fun l r=>⟨fun env H σ Q Er S q=>wpAny_Tuple_spliced (r.2 pos env _ _ _ _ S fun mvs σ1 m hl r1=>⟨by have:=r.1;show mvs.length≤2^24;lia,by
    obtain⟨m2,g,nh⟩:=fR (tk:=σ1.s.toks) m.S {cls:=.type "tuple",data:=.seq mvs.toArray} rfl
    exact q _ _ (m.trans m2) ⟨_,mvs.toArray,rfl,nh,⟨_,g,rfl,0,rfl⟩,cI.mono m2.x (fun ζ z=>z.elim) (fun ζ z=>.inl z) (fun ζ ζ q=>q.elim) r1⟩⟩),fun ζ ζ=>rfl⟩
noncomputable def LPs(Γ:Gm):List (Sem Value×Sem Value)→List (V×V)→Prop
 |[],[]=>True
 |t::ts,a::l=>(fu a.1=true∧LE Γ t.1 a.1∧LE Γ t.2 a.2)∧LPs Γ ts l
 |_,_=>False
theorem yJ{pos:Pos}:∀{kes:List (Option Expr)} {vs:List Expr},Al (ql Γ.k.tx kes vs) fun l=>l.all (fun p=>fu p.1)=true→LPs Γ (pairTrees kes vs env pos) l∧kes.all (·.isSome)=true∧kes.length=vs.length
 |[],[]=>fun ζ=>⟨trivial,rfl,rfl⟩
 |some ke::kes,v::vs=>(rq 1 ke).bind fun a ga=>(rq 4 v).bind fun b gb=>(yJ (kes:=kes) (vs:=vs)).bind fun l r hi=>by
  have hi:=Z3 hi
  obtain⟨r1,r2,r3⟩:=r hi.2
  exact⟨⟨⟨hi.1,ga.go env,fun H σ Q Er S q=>wpAny_bind (gb.go env _ _ _ _ S fun mv σ1 m r1=>wpAny_bind (wpAny_standAt (wpAny_pure (q mv σ1 m r1))))⟩,r1⟩,r2,congrArg (· +1) r3⟩
 |[],_::_=>trivial
 |none::_,_=>trivial
 |some _::_,[]=>trivial
theorem LPs.snoc{t:Sem Value×Sem Value}{a:V×V}(h:fu a.1=true∧LE Γ t.1 a.1∧LE Γ t.2 a.2):∀{ts:List (Sem Value×Sem Value)} {l:List (V×V)},LPs Γ ts l→LPs Γ (ts++[t]) (l++[a])
 |[],[],_=>⟨h,trivial⟩
 |_::_,_::_,r=>⟨r.1,LPs.snoc h r.2⟩
 |[],_::_,r=>r.elim
 |_::_,[],r=>r.elim
theorem LPs.length:∀{ts:List (Sem Value×Sem Value)} {l:List (V×V)},LPs Γ ts l→ts.length=l.length
 |[],[],_=>rfl
 |_::_,_::_,r=>congrArg (· +1) (LPs.length r.2)
 |[],_::_,r=>r.elim
 |_::_,[],r=>r.elim
theorem xu{v:V}{mv:Value}(h:fu v=true)(r:Vr0 Γ σ v mv):∃i t,v=.int i∧mv=.int i t:=by
 cases v<;>first|(cases h;done)|exact let ⟨t,e⟩:=r;⟨_,t,rfl,e⟩
theorem nU:∀{ts:List (Sem Value×Sem Value)} {l:List (V×V)},LPs Γ ts l→∀(σ:Sg) (Q:List (Value×Value)→Shared→Prop) (Er:Value→Shared→Prop),Sts Γ σ H→
  (∀prs kvs σ',Mv Γ noX σ H σ'→Carries (intKind Γ.k.pr Γ.k.w) prs kvs→Lr Γ σ' l kvs→Q prs σ'.s)→Γ.wp (evalPairs ts) Q Er σ.s
 |[],[],_,σ,Q,Er,S,q=>evalPairs_nil (q [] [] _ (Mv.here S (tk:=σ.s.toks)) trivial trivial)
 |t::ts,a::l,h,σ,Q,Er,S,q=>evalPairs_cons (h.1.2.1 _ _ _ _ S fun mk σ1 m1 r1=>h.1.2.2 _ _ _ _ m1.S fun mv σ2 m2 r2=>by
  obtain⟨i,t,ei,rfl⟩:=xu h.1.1 r1
  exact nU h.2 _ _ _ m2.S fun prs kvs σ3 m3 c3 r3=>q _ ((i,mv)::kvs) σ3 ((m1.trans m2).trans m3) ⟨gN,rfl,c3⟩ ⟨⟨ei,wU m3 r2⟩,r3⟩)
 |[],_::_,h,_,_,_,_,_=>h.elim
 |_::_,[],h,_,_,_,_,_=>h.elim
structure HD (Γ:Gm)(σ:Sg)(H:Mini.Internal.H)(d:Addr)(l:List (V×V))(σ':Sg):Prop where
 m:Hm Γ noX σ d H σ'
 d:∃kvs,σ'.s.heap.DictOf (intKind Γ.k.pr Γ.k.w) d kvs∧Lr Γ σ' l kvs
theorem DictOf.at_{K:Type}[DecidableEq K]{pr:Program}{w:World}{knd:PySem.KeyKind pr w K}{h h':Heap}{a:Addr}{kvs:List (K×Value)}(x:h.DictOf knd a kvs)(g:∀o,h.get? a=some o→h'.get? a=some o):h'.DictOf knd a kvs:=let ⟨o,es,ep,ho,z⟩:=x;⟨o,es,ep,g o ho,z⟩
theorem HD.go{d:Addr}{l:List (V×V)}{σ1:Sg}(h:HD Γ σ H d l σ')(m:Mv Γ noX σ' H σ1):HD Γ σ H d l σ1:=by
 obtain⟨hm,kvs,D,r⟩:=h
 exact⟨hm.go m,kvs,DictOf.at_ D fun o e=>hm.at e m,Od m r⟩
theorem mK{d:Addr}(nn:σ.s.heap.get? d=none):∀{ts:List (Sem Value×Sem Value)} {l:List (V×V)},LPs Γ ts l→∀(σ':Sg) (l0:List (V×V)) (Q:PUnit→Shared→Prop) (Er:Value→Shared→Prop),HD Γ σ H d l0 σ'→((l0++l).map (·.1)).Nodup→l0.length+l.length≤1000→
  (∀σ2,HD Γ σ H d (l0++l) σ2→Q PUnit.unit σ2.s)→
   Γ.wp (forIn ts PUnit.unit fun (x:Sem Value×Sem Value) (ζ0:PUnit)=>(do
    let kv ←x.1
    let vv ←holding [kv] x.2
    holding [kv,vv] (dictSet d kv vv)
    pure (ForInStep.yield PUnit.unit):Sem (ForInStep PUnit))) Q Er σ'.s
 |[],[],_,σ',l0,Q,Er,h,_,_,q=>by
  rw[List.forIn_nil]
  exact wpAny_pure (q σ' (by rw[List.append_nil];exact h))
 |t::ts,a::l,hl,σ',l0,Q,Er,h,hn,hz,q=>by
  rw[List.forIn_cons]
  refine wpAny_bind (wpAny_bind (hl.1.2.1 _ _ _ _ h.m.S fun mk σ1 m1 r1=>wpAny_bind (wpAny_holding (hl.1.2.2 _ _ _ _ m1.S fun mv σ2 m2 r2=>wpAny_bind (wpAny_holding ?_)))))
  obtain⟨i,t,ei,rfl⟩:=xu hl.1.1 r1
  obtain⟨hm,kvs,D,r⟩:=h.go (m1.trans m2)
  have len:=r.length
  have hlen:l0.length+(l.length+1)≤1000:=hz
  have ek:((l0++[a]).map (·.1)).Nodup:=hn.sublist (by rw[List.append_cons l0 a l,List.map_append (l₁:=l0++[a])];exact List.sublist_append_left ..)
  refine wpAny_dictSet_pairs (k:=i) (knd:=intKind Γ.k.pr Γ.k.w) (hsz:=by show kvs.length≤2^24;lia) gN D fun h3 D3 s3=>wpAny_pure ?_
  have hnot:i∉kvs.map (·.1):=fun z=>by
   rw[List.map_append,List.nodup_append]at ek
   obtain⟨v,hv,e⟩:=r.key i z
   exact ek.2.2 v hv a.1 (Ze ..) (e.trans ei.symm)
  have est:stored kvs i mv=kvs++[(i,mv)]:=if_neg fun z=>by
   obtain⟨kv,hkv,e⟩:=List.any_eq_true.mp z
   exact hnot (List.mem_map.mpr ⟨kv,hkv,Z0 e⟩)
  rw[est]at D3
  obtain⟨m3,X3⟩:=hm.set (tk:=σ2.s.toks+1) nn s3 (hD D3)
  have up:∀v mv,Vr0 Γ σ2 v mv→gu Γ.k h3 σ2.R σ2.F v mv:=fun ζ ζ=>jl X3 (fun b e=>e▸hm.free) (fun ζ z=>.inl z)
  refine mK nn hl.2 ⟨σ2.R,σ2.F,upd σ2.s h3 (σ2.s.toks+1)⟩ (l0++[a]) _ _ ⟨m3,_,D3,dC.append (r.imp up) ⟨⟨ei,up _ _ r2⟩,trivial⟩⟩ (by rw[←List.append_cons];exact hn) (by rw[Za];show l0.length+1+l.length≤1000;lia) fun σ4 h4=>q σ4 (by rw[List.append_cons];exact h4)
 |[],_::_,h,_,_,_,_,_,_,_,_=>h.elim
 |_::_,[],h,_,_,_,_,_,_,_,_=>h.elim
theorem lu{ts:List (Sem Value×Sem Value)}{l:List (V×V)}(hl:LPs Γ ts l)(hn:(l.map (·.1)).Nodup)(hz:l.length≤1000){Q:Addr→Shared→Prop}{Er:Value→Shared→Prop}(S:Sts Γ σ H)
  (q:∀d σ',σ.s.heap.get? d=none→HD Γ σ H d l σ'→Q d σ'.s):Γ.wp (subDict ts) Q Er σ.s:=by
 have nn:=bG σ.s.heap
 obtain⟨m0,g⟩:=ig (ex:=noX) (tk:=σ.s.toks) (ob:={cls:=.type "dict",data:=.dict #[]}) S rfl
 have h0:HD Γ σ H σ.s.heap.objs.size [] (σ.hold {cls:=.type "dict",data:=.dict #[]} σ.s.toks):=⟨m0,[],Heap.DictOf.new _,trivial⟩
 by_cases h15:ts.length≤15
 ·refine wpAny_subDict (knd:=intKind Γ.k.pr Γ.k.w) h15 (nU hl (σ.hold {cls:=.type "dict",data:=.dict #[]} σ.s.toks) _ _ m0.S fun prs kvs σ1 m1 c1 r1=>?_)
  obtain⟨hm,kvs0,D,r0⟩:=h0.go m1
  have e0:kvs0=[]:=List.length_eq_zero_iff.mp r0.length.symm
  refine ⟨kvs,c1,e0▸D,fun h2 D2 s2=>?_⟩
  rw[merged_nil_of_nodup _ (r1.nodup E3 hn)]at D2
  obtain⟨m2,X2⟩:=hm.set (tk:=σ1.s.toks+prs.length) nn s2 (hD D2)
  exact q _ _ nn ⟨m2,kvs,D2,r1.imp fun ζ ζ=>jl X2 (fun b e=>e▸hm.free) (fun ζ z=>.inl z)⟩
 ·unfold subDict
  refine wpAny_bind (wpAny_alloc (wpAny_bind (wpAny_holding ?_)))
  rw[if_neg h15]
  exact wpAny_bind (wpAny_rule (wpAny_bind (mK nn hl (σ.hold {cls:=.type "dict",data:=.dict #[]} σ.s.toks) [] _ _ h0 hn (by rw[List.length_nil];lia) fun σ1 h1=>wpAny_pure (wpAny_pure (q _ σ1 nn h1)))))
end
section
variable{prog:Program}{w:World}{K:Type}[DecidableEq K]{knd:PySem.KeyKind prog w K}{A:Around}{E:Value→Shared→Prop}{s:Shared}{d o:Addr}{kvs more:List (K×Value)}
theorem px{k:K}{key v:Value}{Q:Unit→Shared→Prop}(hkey:knd.is k key=true)(hm:s.heap.DictOf knd d kvs)(hnot:k∉kvs.map (·.1))
  (hQ:∀h',h'.DictOf knd d (kvs++[(k,v)])→Heap.SameBut d s.heap h'→Q () {s with heap:=h'}) (hsz:kvs.length≤sizeLine):
  wpAny (model prog w) A (dictPut d (knd.hash k) key v) Q E s:=by
 obtain⟨o,es,ep,ho,hc,hd,hk,hp,hn⟩:=hm
 have hes:es.size≤sizeLine:=by
  have e1:=hp.length
  have e2:es.toList.length=es.size:=Array.length_toList
  lia
 unfold dictPut
 refine wpAny_bind (wpAny_dictFind_of hkey ho hd hk ?_)
 have hi:(es.findIdx? fun e=>knd.is k e.key)=none:=by
  rw[nz,hp.findIdx k,List.findIdx?_eq_none_iff]
  exact fun kv hkv=>Z2 fun e=>hnot (List.mem_map.mpr ⟨kv,hkv,e⟩)
 rw[hi]
 refine wpAny_updateDictKeys (hz:=hes) ho hd (hQ _ ⟨_,_,ep+1,Heap.get?_update_self _ ho (Obj.isFreed_of_dict (Obj.data_mapDictKeys hd _)),
   hc.mapDictKeys _,Obj.data_mapDictKeys hd _,hk.push hkey _,?_,?_⟩ (Heap.SameBut.update ..))
 ·rw[Array.toList_push]
  exact hp.append hkey (knd.hash k) v
 ·rw[List.map_append]
  exact List.nodup_append.mpr ⟨hn,List.nodup_cons.mpr ⟨List.not_mem_nil,List.nodup_nil⟩,fun a ha b hb e=>hnot (by rw[Zs hb]at e;cases e;exact ha)⟩
structure MI (knd:PySem.KeyKind prog w K)(s:Shared)(d o:Addr)(kvs more:List (K×Value))(oo:Obj)(rest:List Nat)(s':Shared):Prop where
 e:s'={s with heap:=s'.heap}
 i:∃i,rest=List.range' i (more.length-i)∧i≤more.length∧s'.heap.DictOf knd d (kvs++more.take i)
 oo:s'.heap.get? o=some oo
 sb:Heap.SameBut d s.heap s'.heap
theorem vO{x i n:Nat}{rest:List Nat}(e:x::rest=List.range' i (n-i)):i<n∧x=i∧rest=List.range' (i+1) (n-(i+1)):=by
 rcases Nat.lt_or_ge i n with h|h
 ·rw[show n-i=(n-(i+1))+1 by lia,List.range'_succ]at e
  exact⟨h,(List.cons.inj e).1,(List.cons.inj e).2⟩
 ·rw[Nat.sub_eq_zero_of_le h]at e;cases e
theorem Ep(hnd:((kvs++more).map (·.1)).Nodup){i:Nat}{k:K}{v:Value}(h:more[i]?=some (k,v)):k∉ (kvs++more.take i).map (·.1):=by
 obtain⟨hl,hv⟩:=Z6 h
 have e:kvs++more=(kvs++more.take i)++((k,v)::more.drop (i+1)):=by rw[List.append_assoc,←hv,←List.drop_eq_getElem_cons hl,List.take_append_drop]
 rw[e,List.map_append,List.nodup_append]at hnd
 exact fun z=>hnd.2.2 _ z _ (Ze ..) rfl
theorem tS{Q:Unit→Shared→Prop}(hdo:d≠o)(hoS:(o==sysModules)=false)(hne:kvs≠ [])(hnd:((kvs++more).map (·.1)).Nodup)
  (hd:s.heap.DictOf knd d kvs) (ho:s.heap.DictOf knd o more)
  (hQ:∀h',h'.DictOf knd d (kvs++more)→Heap.SameBut d s.heap h'→Q () {s with heap:=h'}) (hsz:kvs.length+more.length≤sizeLine):
  wpAny (model prog w) A (mergeMapping d (.ref o) false) Q E s:=by
 obtain⟨od,esd,epd,hod,hcd,hdd,hkd,hpd,hnd'⟩:=id hd
 obtain⟨oo,eso,epo,hoo,hco,hdo',hko,hpo,hno⟩:=id ho
 have hlen:more.length=eso.size:=hpo.length.symm.trans Array.length_toList
 have hemp:¬esd.isEmpty=true:=fun q=>hne (List.length_eq_zero_iff.mp (by rw[←hpd.length,Array.length_toList,Array.isEmpty_iff.mp q];rfl))
 unfold mergeMapping
 refine wpAny_bind (wpAny_isInstance ho.typeIs isSubtype_dict_dict ?_)
 dsimp only
 rw[if_pos rfl]
 refine wpAny_bind (wpAny_specialOf ho.typeIs F.slot_dict_iter.lookup (wpAny_bind (wpAny_pure ?_)))
 rw[show (some (Value.builtin "dict.__iter__") ==some (.builtin "dict.__iter__"))=true from beq_self_eq_true _]
 dsimp only
 rw[if_neg (by rw[hoS];exact Zc)]
 refine wpAny_bind (wpAny_dictEntries hod hdd ?_)
 rw[if_neg hemp]
 refine wpAny_bind (wpAny_dictEntries hoo hdo' (wpAny_bind (wpAny_dictEpoch hoo hdo' (wpAny_bind ?_))))
 rw[List.range_eq_range']
 refine wpAny_forIn_list _ (fun rest ζ s'=>MI knd s d o kvs more oo rest s') _ (fun x rest b s' I=>?_) (fun b s' I=>?_) _ _ ⟨rfl,⟨0,by rw[hlen];rfl,Nat.zero_le _,by rw[List.take_zero,List.append_nil];exact hd⟩,hoo,Heap.SameBut.refl _ _⟩
 ·refine hide fun G hG=>?_
  obtain⟨ee,⟨i,hr,hi,hd'⟩,hoo',hs'⟩:=I
  obtain⟨hlt,rfl,hrest⟩:=vO hr
  have hlt':x<eso.size:=hlen▸hlt
  obtain⟨⟨k,v⟩,hkv⟩:∃kv,more[x]?=some kv:=⟨_,Zo hlt⟩
  obtain⟨hkey,hval⟩:=hpo.get? (e:=eso[x]) (by rw[Array.getElem?_toList];exact Array.getElem?_eq_getElem hlt') hkv
  obtain⟨k',hkey',hhash⟩:=hko eso[x] (Array.getElem_mem hlt')
  obtain rfl:k'=k:=knd.inj _ _ _ hkey' hkey
  have hnot:=Ep hnd hkv
  refine hG (wpAny_bind (wpAny_dictEntries hoo' hdo' ?_))
  rw[Array.getElem?_eq_getElem hlt']
  dsimp only
  rw[hhash,hval]
  refine wpAny_bind (wpAny_holding (px (hsz:=by rw[Za,List.length_take];lia) hkey hd' hnot fun h'' hd'' hs''=>?_))
  have hoo'':h''.get? o=some oo:=(hs''.2 o (Ne.symm hdo)).trans hoo'
  refine wpAny_bind (wpAny_dictEpoch hoo'' hdo' ?_)
  rw[if_neg (fun z=>(bne_iff_ne.mp z) rfl)]
  exact wpAny_pure ⟨by rw[ee],⟨x+1,hrest,hlt,by rw[List.take_add_one,hkv,←List.append_assoc];exact hd''⟩,hoo'',hs'.trans hs''⟩
 ·obtain⟨ee,⟨i,hr,hi,hd'⟩,hoo',hs'⟩:=I
  have hin:i=more.length:=Nat.le_antisymm hi (Nat.le_of_sub_eq_zero (List.range'_eq_nil_iff.mp hr.symm))
  rw[hin,List.take_length]at hd'
  rw[ee]
  first|exact hQ _ hd' hs'|exact wpAny_pure (hQ _ hd' hs')
end
section
variable{Γ:Gm}{c:Ck}{mg mb:Str→Option Value}(X:Cx Γ c mg mb){σ:Sg}{H:Mini.Internal.H}{Er:Value→Shared→Prop}
theorem xq{h:Heap}{R:Ro}{F:List Addr}{d:Addr}{v:V}{mv:Value}(r:gu Γ.k h R (d::F) v mv):gu Γ.k h R F v mv:=dv.same (List.prefix_refl _) (fun b q=>Ef q) (fun ζ ζ q=>q.elim) r
def DS(Γ:Gm)(σ:Sg)(H:Mini.Internal.H)(main:Option Addr)(l:List (V×V))(s:Shared):Prop:=match main with
 |none=>l=[]∧s=σ.s
 |some d=>σ.s.heap.get? d=none∧l≠ []∧∃σ',s=σ'.s∧HD Γ σ H d l σ'
noncomputable def qL(run:List (Sem Value×Sem Value))(main:Option Addr):Sem (Option Addr):=
 if run.isEmpty then pure main else match main with
 |none=>do let d ←subDict run;pure (some d)
 |some d=>do
  let sub ←holding [.ref d] (subDict run)
  (holding [.ref d,.ref sub] (mergeMapping d (.ref sub) false)).onRaise fun x=>do let _ ←holding [.ref d,x] (runValue (.builtin "proto.let_go" {}))
  pure (some d)
include X
theorem pR{ts:List (Sem Value×Sem Value)}{l0 l:List (V×V)}(hl:LPs Γ ts l)(hn:((l0++l).map (·.1)).Nodup)(hz:l0.length+l.length≤1000)(S:Sts Γ σ H){main:Option Addr}{s:Shared}(h:DS Γ σ H main l0 s){Q:Option Addr→Shared→Prop}
  (q:∀m s',DS Γ σ H m (l0++l) s'→Q m s'):Γ.wp (qL ts main) Q Er s:=by
 unfold qL
 cases ts with
 |nil=>
  induction l with
  |cons _ _=>exact hl.elim
  |nil=>exact wpAny_pure (q main s (by rw[List.append_nil];exact h))
 |cons t ts=>
  have hne:l≠ []:=fun z=>by rw[z]at hl;exact hl
  rw[if_neg (show ¬(t::ts).isEmpty=true from Zc)]
  have nd:=hn
  rw[List.map_append,List.nodup_append]at nd
  induction main with
  |none=>
   obtain⟨rfl,rfl⟩:=h
   exact wpAny_bind (lu hl hn (by lia) S fun d σ' nn h=>wpAny_pure (q (some d) _ ⟨nn,hne,σ',rfl,h⟩))
  |some d=>
   obtain⟨nn,ne0,σ1,rfl,hd⟩:=h
   refine wpAny_bind (wpAny_holding (lu hl nd.2.1 (by lia) hd.m.S fun d2 σ2 nn2 h2=>wpAny_bind (wpAny_onRaise (wpAny_holding ?_))))
   obtain⟨hm2,more,D2,r2⟩:=h2
   have m2:=hm2.pop
   obtain⟨hm,kvs,D,r⟩:=hd.go m2
   have rr:Lr Γ ⟨σ2.R,σ1.F,σ2.s⟩ (l0++l) (kvs++more):=dC.append r (r2.imp fun v mv z=>xq (d:=d2) (hm2.F▸z))
   have len:=rr.length
   have hne':d≠d2:=fun z=>by obtain⟨_,kvs',⟨o,es,ep,ho,_⟩,_⟩:=hd;rw[z,nn2]at ho;cases ho
   refine tS (knd:=intKind Γ.k.pr Γ.k.w) hne' (jS X hd.m.S nn2) (fun z=>ne0 (List.length_eq_zero_iff.mp (r.length.trans (by rw[z];rfl)))) (rr.nodup E3 hn) D D2 (fun h3 D3 s3=>?_) (by rw[Za,Za]at len;show kvs.length+more.length≤2^24;lia)
   obtain⟨m3,X3⟩:=hm.set (tk:=σ2.s.toks) nn s3 (hD D3)
   exact wpAny_pure (q (some d) _ ⟨nn,fun z=>ne0 (List.append_eq_nil_iff.mp z).1,⟨σ2.R,σ1.F,upd σ2.s h3 σ2.s.toks⟩,rfl,m3,_,D3,rr.imp fun ζ ζ=>jl X3 (fun b e=>e▸hm.free) (fun ζ z=>.inl z)⟩)
structure DI (Γ:Gm)(σ:Sg)(H:Mini.Internal.H)(l:List (V×V))(rest:List (Option (Sem Value)×Sem Value))(b:Option Addr×List (Sem Value×Sem Value))(s:Shared):Prop where
 i:∃ts l0 lr l',rest=ts.map (fun p=>(some p.1,p.2))∧LPs Γ ts l'∧LPs Γ b.2 lr∧l=l0++lr++l'∧DS Γ σ H b.1 l0 s
theorem Be{ts:List (Sem Value×Sem Value)}{l:List (V×V)}(hl:LPs Γ ts l)(hn:(l.map (·.1)).Nodup)(hz:l.length≤1000)(h0:l≠ [])(S:Sts Γ σ H){Q:Value→Shared→Prop}
  (q:∀d σ',σ.s.heap.get? d=none→HD Γ σ H d l σ'→Q (.ref d) σ'.s):Γ.wp (dictDisplay (ts.map fun p=>(some p.1,p.2))) Q Er σ.s:=by
 unfold dictDisplay
 dsimp only
 refine wpAny_bind (wpAny_forIn_list _ (DI Γ σ H l) _ (fun x rest b s' I=>?_) (fun b s' I=>?_) _ _ ⟨ts,[],[],l,rfl,hl,trivial,rfl,rfl,rfl⟩)
 ·refine hide fun G hG=>?_
  obtain⟨ts',l0,lr,l',e,h1,h2,el,h3⟩:=I
  cases ts' with
  |nil=>cases e
  |cons p ts'=>
   induction l' with
   |nil=>exact h1.elim
   |cons a l'=>
    cases e
    have hs:=LPs.snoc h1.1 h2
    have el2:l=l0++(lr++[a])++l':=by rw[el,List.append_assoc,List.append_assoc,List.append_assoc];rfl
    refine hG (show Γ.wp (if ((b.2++[p]).length==17)=true then qL (b.2++[p]) b.1 >>= fun main=>pure (ForInStep.yield (main,([]:List (Sem Value×Sem Value))))else pure (ForInStep.yield (b.1,b.2++[p]))) _ Er s' from ?_)
    by_cases h17:((b.2++[p]).length==17)=true
    ·rw[if_pos h17]
     refine wpAny_bind (pR X hs ?_ ?_ S h3 fun m s' h=>wpAny_pure ⟨ts',l0++(lr++[a]),[],l',rfl,h1.2,trivial,by rw[List.append_nil];exact el2,h⟩)
     ·rw[el2,List.map_append,List.nodup_append]at hn
      exact hn.1
     ·rw[el2,Za,Za (as:=l0)]at hz
      lia
    ·rw[if_neg h17]
     exact wpAny_pure ⟨ts',l0,lr++[a],l',rfl,h1.2,hs,el2,h3⟩
 ·obtain⟨ts',l0,lr,l',e,h1,h2,el,h3⟩:=I
  obtain rfl:ts'=[]:=List.map_eq_nil_iff.mp e.symm
  obtain rfl:l'=[]:=List.length_eq_zero_iff.mp (LPs.length h1).symm
  rw[List.append_nil]at el
  subst el
  refine wpAny_bind (show Γ.wp (qL b.2 b.1) _ Er s' from pR X h2 hn (by rw[←Za];exact hz) S h3 fun m s2 h=>?_)
  induction m with
  |none=>exact absurd h.1 h0
  |some d=>
   obtain⟨nn,_,σ',rfl,h⟩:=h
   exact wpAny_pure (q d σ' nn h)
omit X in
theorem ja:∀{l:List V},l.all fu=true→tA l=true→l.Nodup
 |[],_,_=>List.nodup_nil
 |a::l,hi,h=>by
  have h:=Z3 h
  have hi:=Z3 (show (fu a&&l.all fu)=true from hi)
  refine List.nodup_cons.mpr ⟨fun z=>?_,ja hi.2 h.2⟩
  have self:V.beq a a=true:=by cases a<;>first|exact Z1 rfl|cases hi.1
  have:∀{m:List V},a∈m→sP a m=true:=by
   intro m
   induction m with
   |nil=>exact fun z=>nomatch z
   |cons b m ih=>exact fun z=>Bool.or_eq_true_iff.mpr ((Zm z).elim (fun e=>.inl (e▸self)) fun z=>.inr (ih z))
  rw[this z]at h
  cases h.1
omit X in
theorem ug:∀{l m:List (V×V)},ym l m=true→l=m
 |[],[],_=>rfl
 |(a,a')::l,(b,b')::m,h=>by
  have h:=Z3 h
  have h1:=Z3 h.1
  have e1:a=b:=V.beq_eq h1.1
  have e2:a'=b':=V.beq_eq h1.2
  rw[e1,e2,ug h.2]
 |[],_::_,h=>nomatch h
 |_::_,[],h=>nomatch h
theorem EN{m:Nat}{kes:List (Option Expr)}{vs:List Expr}{pos:Pos}(h0:kes≠ []):Al (ql c.tx kes vs) fun l=>ym l (c.P.cd m)=true→l.all (fun p=>fu p.1)=true→tA (l.map (·.1))=true→c.P.cdi m=true→l.length≤1000→EH Γ (.Dict kes vs pos) (.lx m):=by
 rw[X.tx,X.P]
 refine (yJ (env:=Γ.f.env) (pos:=pos)).imp fun l h hb hi hd hc hz lo H σ Q Er o q=>?_
 obtain⟨hl,hs,len⟩:=h hi
 have e:=ug hb
 rw[arm_eval_Dict,zip_pairTrees kes vs Γ.f.env pos hs len]
 refine wpAny_bind (wpAny_standAt (Be X hl (ja (by rw[List.all_map];exact hi) hd) hz (fun z=>?_) o.S fun d σ' nn h=>?_))
 ·have:=LPs.length hl
  rw[z,pairTrees_length _ _ _ _ hs len]at this
  exact h0 (List.length_eq_zero_iff.mp this)
 ·obtain⟨hm,kvs,D,r⟩:=h
  refine q _ ⟨σ'.R,σ.F,σ'.s⟩ hm.pop ⟨d,rfl,fun z=>z.elim (fun z=>hm.S.frm d z hm.free) fun z=>?_,jS X o.S nn,?_⟩
  ·obtain⟨ob,hob⟩:=o.S.live d (.inr z)
   rw[nn]at hob;cases hob
  ·rw[if_pos hc,←e]
   exact⟨valueAt kvs,D.mapOf,fun i=>dC.find (Jt i) (r.imp fun v mv z=>xq (d:=d) (by rw[←hm.F];exact z))⟩
end
section
variable{Γ:Gm}{c:Ck}{mg mb:Str→Option Value}(X:Cx Γ c mg mb)
theorem BH{rE:Expr→Option E}{rC:Expr→Option C}(e:Expr):Al (stE c rE rC e) fun ζ=>Gd e:=by
 cases e<;>first|exact trivial|exact Di ⟨fun ζ ζ=>rfl,fun ζ ζ=>rfl,fun ζ ζ ζ=>rfl,fun ζ ζ ζ=>rfl,fun ζ ζ=>rfl⟩
theorem BC(o:PySem.BoolOp):(if decide (o=.And)=true then PySem.BoolOp.And else .Or)=o:=by induction o<;>rfl
set_option tactic.hygienic true in
theorem nat_eq(e:Expr):Al (natE e) fun n=>∃kk p,e=.Constant (.int (n:Int)) kk p:=by
 cases e<;>first|exact trivial|skip
 rename_i y kk p
 induction y<;>first|exact trivial|skip
 rename_i i
 induction i
 ·exact⟨_,_,rfl⟩
 ·exact trivial
set_option tactic.hygienic true in
theorem PI(e:Expr):Al (OE e) fun n=>∃kk p0 p1,e=.Slice none (some (.Constant (.int (n:Int)) kk p0)) none p1:=by
 cases e<;>first|exact trivial|skip
 rename_i a b d p
 induction a<;>first|exact trivial|skip
 induction d
 ·induction b
  ·exact trivial
  ·exact (nat_eq _).imp fun n ⟨kk,p0,e⟩=>⟨kk,p0,p,by rw[e]⟩
 ·induction b<;>exact trivial
include X
set_option tactic.hygienic true in
theorem xV{rE:Expr→Option E}{rC:Expr→Option C}(iE:∀e,Al (rE e) (EG Γ e))(iC:∀e,Al (rC e) (CH Γ e))(e:Expr):Al (stE c rE rC e) (EH Γ e):=by
 have iL:=ED iE
 cases e<;>first|exact trivial|skip
 case Name x p=>
  exact d9 (fun i hi=>(LP X ((uc _).of hi))) (cQ fun hg=>lp fun j hj=>(Ni X hj hg))
 case Constant y kk p=>exact (L6 X).bind fun v h=>h
 case BinOp l o r p=>
  refine (Jn o).bind fun op ho=>(iE r).bind fun b hb=>?_
  rw[ho]
  refine d9 (fun xs hx=>?_) ((iE l).bind fun a ha=>MV ha.1 hb.1)
  obtain⟨rfl,hx⟩:=tZ hx
  rw[(ls_eq l).of hx]
  exact cQ fun hz=>(iL xs.1).bind fun es L=>L0 L.1 L.2 hz hb.1
 case UnaryOp o x p=>exact cQ fun ho=>(iE x).bind fun a ha=>ho▸L5 ha.1
 case BoolOp o vs p=>
  have h:=CI X iE (decide (o=.And)) (pos:=p) vs
  rw[BC]at h
  exact h.bind fun es h=>h
 case Compare l os rs p=>
  refine (iW os).bind fun o ho=>(iW rs).bind fun r hr=>(qP o).bind fun op hp=>?_
  subst ho hr hp
  exact ng fun hm=>(iE l).bind fun a ha=>(iE r).bind fun b hb=>L4 X (Bool.eq_false_iff.mpr hm) ha.1 hb.1
 case IfExp x y z p=>exact (iC x).bind fun t ht=>(iE y).bind fun a ha=>(iE z).bind fun b hb=>LF ht ha.1 hb.1
 case Attribute x nm p=>exact ng fun hv=>lp fun f hf=>(iE x).bind fun a ha=>G3 X hv ha.1 hf
 case Subscript x sl p=>
  refine d9 (fun n hn=>(tp x).bind fun y hy=>?_) ((iE x).bind fun a ha=>(iE sl).bind fun i hi=>Mj X hi.2.sb ha.1 hi.1)
  obtain⟨kk,p0,p1,rfl⟩:=(PI sl).of hn
  obtain⟨p2,rfl⟩:=hy
  exact (iE _).bind fun a ha=>DE ha.1
 case Tuple xs x1 p=>exact cQ fun hz=>(iL xs).bind fun es L=>Lc L.1 L.2 hz
 case List xs p=>exact cQ fun hz=>(iL xs).bind fun es L=>gk (fun ζ=>ON L.1 L.2 hz) fun ζ=>Bw L.1 L.2 hz
 case Dict ks vs p=>
  refine gk (fun hk=>cQ fun hv=>?_) fun hk=>gk (fun hh=>?_) fun ζ=>?_
  ·subst hk hv
   exact gk (fun ζ=>(AG X)) fun ζ=>(Az X)
  ·refine (EN X hk (m:=c.hint p.line-10) (pos:=p)).bind fun l h=>cQ fun hc=>?_
   simp only[Bool.and_eq_true]at hc
   exact (h hc.1.1.1.1.1 hc.1.1.1.1.2 hc.1.1.1.2 hc.1.1.2 (by have:=Z0 hc.1.2;lia))
  ·by_cases hl:ks.length=vs.length
   ·exact (A5 X iE ks vs hl).bind fun is L2=>L2.bind fun es L=>cQ fun hc=>(zh X L hc.1 hl hk hc.2.2)
   ·exact mq fun is ζ=>mq fun es ζ=>cQ fun hc=>absurd hc.2.1 hl
 case Call g xs ks p=>
  refine cQ fun hk=>?_
  subst hk
  refine d9 (fun y hy=>?_) ?_
  ·obtain⟨p0,rfl⟩:=(tp g).of hy
   refine cQ fun hg=>d9 (fun f hf=>(iL xs).bind fun es L=>(Im X L.1 hf hg)) (d9 (fun d hd=>(iL xs).bind fun es L=>(Ms X L.1 hd hg)) (d9 (fun x hx=>?_) ((vz xs).bind fun z hz=>cQ fun e1=>(tp z.2).bind fun u hu=>cQ fun e2=>cQ fun hi=>(iE z.1).bind fun a ha=>?_)))
   ·rw[(iW xs).of hx]
    exact gk (fun e=>(iE x).bind fun a ha=>(by subst e;exact Kt X ha hg)) fun ζ=>cQ fun e=>(iE x).bind fun a ha=>(by subst e;exact LM X ha hg)
   ·obtain⟨p1,hu⟩:=hu
    rw[hz,hu]
    subst e1 e2
    exact (EL X ha hg hi)
  ·refine (Pd g).bind fun a hg=>cQ fun hc=>lp fun m hm=>(iE a.1).bind fun o ho=>(iL xs).bind fun es L=>?_
   simp only[Bool.and_eq_true,decide_eq_true_eq,Bool.not_eq_true']at hc
   rw[hg]
   exact (HL X L.1 (fun z=>by rw[hc.1.1]at z;cases z) hc.1.2 hc.2 ho.1 hm)
set_option tactic.hygienic true in
theorem IQ{rE:Expr→Option E}{rC:Expr→Option C}{plain:Option E}(iE:∀e,Al (rE e) (EG Γ e))(iC:∀e,Al (rC e) (CH Γ e))(e:Expr)(ip:Al plain (EG Γ e)):Al (stC rE rC plain e) (CH Γ e):=by
 cases e
 case UnaryOp o x p=>
  refine gk (fun ho=>(iC x).bind fun a ha=>?_) fun ho=>ip.bind fun a ha=>QP (fun env t=>?_) ha.1
  ·subst ho;exact OA ha
  ·induction o<;>first|rfl|exact absurd rfl ho
 case BoolOp o vs p=>
  have h:=Bc X iC (decide (o=.And)) (pos:=p) vs
  rw[BC]at h
  exact h.bind fun es h=>h
 case Compare l os rs p=>
  refine d9 (fun o ho=>(iW rs).bind fun r hr=>(qP o).bind fun op hp=>?_) ((vz os).bind fun o ho=>(vz rs).bind fun r hr=>(qP o.1).bind fun p1 h1=>(qP o.2).bind fun p2 h2=>?_)
  ·rw[(iW os).of ho]
   subst hr hp
   exact ng fun hm=>(iE l).bind fun a ha=>(iE r).bind fun b hb=>LX X (Bool.eq_false_iff.mpr hm) ha.1 hb.1
  ·rw[ho,hr,h1,h2]
   exact ng fun hm=>(iE l).bind fun a ha=>(iE r.1).bind fun b hb=>(iE r.2).bind fun d hd=>HT X (Bool.eq_false_iff.mpr hm) ha.1 hb.1 hd.1
 case IfExp=>exact trivial
 all_goals exact ip.bind fun a ha=>QP (fun ζ ζ=>rfl) ha.1
theorem nF:∀n,(∀e,Al (trE c n e) (EG Γ e))∧(∀e,Al (trC c n e) (CH Γ e))
 |0=>⟨fun ζ=>trivial,fun ζ=>trivial⟩
 |n+1=>by
  obtain⟨iE,iC⟩:=nF n
  exact⟨fun e=>(xV X iE iC e).and (BH e),fun e=>IQ X iE iC e ((xV X iE iC e).and (BH e))⟩
end
noncomputable def FlR(Γ:Gm)(σ:Sg):Mini.Internal.Flow→PySem.Flow→Prop
 |.next,x=>x=.next
 |.ret v,x=>∃mv,x=.ret mv∧Vr Γ σ v mv
noncomputable abbrev exL(Γ:Gm):Addr→Prop:=(· =Γ.f.L)
def dO(Γ:Gm)(σ:Sg)(Q:PySem.Flow→Shared→Prop)(x:Mini.Internal.Flow×Loc×Mini.Internal.H):Prop:=∀mf σ',Mv Γ (exL Γ) σ x.2.2 σ'→At Γ x.2.1 x.2.2 σ'→FlR Γ σ' x.1 mf→Q mf σ'.s
def SH(Γ:Gm)(st:Stmt)(st':S):Prop:=∀(l:Loc) (H:Mini.Internal.H) (σ:Sg) (Q:PySem.Flow→Shared→Prop) (Er:Value→Shared→Prop),At Γ l H σ→W (evS Γ.k.P Γ.call st' l H) (dO Γ σ Q)→Γ.wp (exec st Γ.f.env) Q Er σ.s
def SsH(Γ:Gm)(st:List Stmt)(st':List S):Prop:=∀(l:Loc) (H:Mini.Internal.H) (σ:Sg) (Q:PySem.Flow→Shared→Prop) (Er:Value→Shared→Prop),At Γ l H σ→W (bB Γ.k.P Γ.call st' l H) (dO Γ σ Q)→Γ.wp (execs st Γ.f.env) Q Er σ.s
section
variable{Γ:Gm}{c:Ck}{mg mb:Str→Option Value}(X:Cx Γ c mg mb){σ σ':Sg}{H H':Mini.Internal.H}{l:Loc}
theorem dO.go{Q:PySem.Flow→Shared→Prop}{x:Mini.Internal.Flow×Loc×Mini.Internal.H}(q:dO Γ σ Q x)(m:Mv Γ (exL Γ) σ H σ'):dO Γ σ' Q x:=fun mf σ2 m2 o r=>q mf σ2 (m.trans m2) o r
theorem W.goS{Q:PySem.Flow→Shared→Prop}{m:Option (Mini.Internal.Flow×Loc×Mini.Internal.H)}(q:W m (dO Γ σ Q))(a:Mv Γ (exL Γ) σ H σ'):W m (dO Γ σ' Q):=wm q fun ζ p=>p.go a
theorem dO.next{Q:PySem.Flow→Shared→Prop}(q:dO Γ σ Q (.next,l,H))(m:Mv Γ noX σ H σ')(o:At Γ l H σ'):Q .next σ'.s:=q .next σ' m.weak o rfl
theorem Nk{x:Str}{l:List Str}{i:Nat}(e:ix x l=some i):l[i]?=some x:=(uc l).of e
theorem DG{e:Expr}{i:Nat}(h:tgt c e=some i):∃y p,e=.Name y p∧c.loc[i]?=some y:=by
 obtain⟨y,e1,e2⟩:=Zd h
 obtain⟨p,e⟩:=(tp e).of e1
 exact⟨y,p,e,Nk e2⟩
include X
theorem hE{Q:Unit→Shared→Prop}{E:Value→Shared→Prop}{i:Nat}{x:Str}{v:V}{mv:Value}(o:At Γ l H σ)(hx:c.loc[i]?=some x)(r:Vr Γ σ v mv)
  (q:∀σ',Mv Γ (exL Γ) σ H σ'→At Γ (l.set i (some v)) H σ'→Q () σ'.s):Γ.wp (storeName Γ.f.env x mv) Q E σ.s:=by
 rw[X.loc]at hx
 have hm:=Zx hx
 obtain⟨hl,m,hn,hv⟩:=o.o
 refine wpAny_storeName_local (X.K.loc _ hm) hn (fun h' hn' hs'=>?_) (by rw[X.K.kind];rfl)
 obtain⟨S',X'⟩:=o.S.frame o.L hs' (let ⟨o,_,_,e,_⟩:=hn';⟨o,e⟩)
 have mono:∀{u:V} {mu:Value},Vr Γ σ u mu→VR Γ.k h' σ.R σ.F u mu:=fun r=>VR.mono X' (fun b e=>e▸o.L) (fun ζ z=>.inl z) r
 refine q ⟨σ.R,σ.F,upd σ.s h' _⟩ ⟨X',S',rfl,rfl⟩ ⟨S',⟨by rw[List.length_set];exact hl,_,hn',fun j y u hy hu=>?_⟩,o.L⟩
 by_cases e:i=j
 ·subst e
  rw[hx]at hy
  cases hy
  rw[List.getElem?_set_self (by rw[hl];exact (Z6 hx).1)]at hu
  cases hu
  exact⟨mv,if_pos rfl,mono r⟩
 ·rw[List.getElem?_set_ne e]at hu
  obtain⟨mu,e1,r1⟩:=hv j y u hy hu
  exact⟨mu,(if_neg fun z=>e ((List.getElem?_inj (Z6 hx).1 X.K.nodup).mp (by rw[hx,hy,z]))).trans e1,mono r1⟩
theorem Mz{i:Nat}{e:E}{y:Str}{w:Expr}{p pos:Pos}(hy:c.loc[i]?=some y)(he:EG Γ w e):SH Γ (.Assign [.Name y p] w pos) (.asg i e):=fun l H σ Q Er o q=>
 wpAny_Assign_Name (he.1 _ _ _ _ _ o (wb q fun u q mx σ1 m r=>hE X (o.go m) hy r fun σ2 m2 o2=>q .next σ2 (m.weak.trans m2) o2 rfl)) (he.2.sw _ _ _)
set_option tactic.hygienic true in
theorem zH{a b e:E}{t i w:Expr}{p pos:Pos}(he:EG Γ w e)(ha:EH Γ t a)(hb:EH Γ i b):SH Γ (.Assign [.Subscript t i p] w pos) (.aC a b e):=fun l H σ Q Er o q=>
 wpAny_Assign_Subscript (he.1 _ _ _ _ _ o (wb q fun u q mx σ1 m r=>ha _ _ _ _ _ (o.go m) (wb q fun y q my σ2 m2 r2=>hb _ _ _ _ _ ((o.go m).go m2) (wb q fun z q mz σ3 m3 r3=>
  oz X.T X.th m3.S (r2.up m3) r3 ((r.up m2).up m3) X.hu (wb q fun h4 q σ4 m4=>dO.next q (((m.trans m2).trans m3).trans m4) ((((o.go m).go m2).go m3).go m4)))))) (he.2.sw _ _ _)
set_option tactic.hygienic true in
theorem w9{a e:E}{t w:Expr}{i:Nat}{nm:Str}{p pos:Pos}(hx:c.tx[i]?=some nm)(he:EG Γ w e)(ha:EH Γ t a):SH Γ (.Assign [.Attribute t nm p] w pos) (.ae a i e):=fun l H σ Q Er o q=>
 plainObj_wpAny_Assign_Attribute (he.1 _ _ _ _ _ o (wb q fun u q mx σ1 m r=>ha _ _ _ _ _ (o.go m) (wb q fun y q my σ2 m2 r2=>
  ue X m2.S r2 (X.tx▸hx) (r.up m2) (wb q fun h4 q σ3 m3=>dO.next q ((m.trans m2).trans m3) (((o.go m).go m2).go m3))))) (he.2.sw _ _ _)
theorem Ls{i:Nat}{op:Op}{e:E}{y:Str}{w:Expr}{p pos:Pos}(hy:c.loc[i]?=some y)(he:EH Γ w e):SH Γ (.AugAssign (.Name y p) (opM op) w pos) (.aug i op e):=fun l H σ Q Er o q=>we q fun v e q=>by
 obtain⟨hl,m,hn,h⟩:=o.o
 have hy':=hy
 rw[X.loc]at hy'
 obtain⟨mv,e,rv⟩:=h i y v hy' (xw e)
 refine wpAny_AugAssign_Name (wpAny_loadName_local X.K.kind (X.K.loc _ (Zx hy')) hn e (he _ _ _ _ _ o (wb q fun b q mb σ1 m r=>fV q fun x e1 q=>fV q fun y e2 q=>?_)))
 rw[e1]at rv
 rw[e2]at r
 obtain⟨ta,rfl⟩:=rv
 obtain⟨tb,rfl⟩:=r
 have m0:Mv Γ noX σ1 b.2 ⟨σ1.R,σ1.F,upd σ1.s σ1.s.heap (σ1.s.toks+1)⟩:=Mv.here m.S
 exact jQ (wb q fun r q=>hE (σ:=⟨σ1.R,σ1.F,upd σ1.s σ1.s.heap (σ1.s.toks+1)⟩) X ((o.go m).go m0) hy (show Vr Γ _ (.int r) (.int r σ1.s.toks)from ⟨_,rfl⟩) fun σ2 m2 o2=>q .next σ2 ((m.trans m0).weak.trans m2) o2 rfl)
set_option tactic.hygienic true in
theorem zJ{op:Op}{a b e:E}{t i w:Expr}{p pos:Pos}(he:EH Γ w e)(ha:EH Γ t a)(hb:EG Γ i b):SH Γ (.AugAssign (.Subscript t i p) (opM op) w pos) (.gF a b op e):=fun l H σ Q Er o q=>by
 refine wpAny_AugAssign_SubscriptAny (ha _ _ _ _ _ o (wb q fun y q my σ1 m r=>hb.1 _ _ _ _ _ (o.go m) (wb q fun z q mz σ2 m2 r2=>?_))) hb.2.as_
 have o2:=(o.go m).go m2
 refine (oB X.T m2.S (r.up m2) r2 (wb q fun n q mn σ3 m3 r3=>he _ _ _ _ _ (o2.go m3) (wb q fun mm q mm' σ4 m4 r4=>fV q fun x e1 q=>fV q fun y' e2 q=>?_))).1
 rw[e1]at r3
 rw[e2]at r4
 obtain⟨ta,rfl⟩:=r3
 obtain⟨tb,rfl⟩:=r4
 have m0:Mv Γ noX σ4 mm.2 ⟨σ4.R,σ4.F,upd σ4.s σ4.s.heap (σ4.s.toks+1)⟩:=Mv.here m4.S
 have m5:=(m3.trans m4).trans m0
 exact jQ (wb q fun r' q=>oz (σ:=⟨σ4.R,σ4.F,upd σ4.s σ4.s.heap (σ4.s.toks+1)⟩) X.T X.th m0.S ((r.up m2).up m5) (r2.up m5) (show Vr Γ _ (.int r') (.int r' σ4.s.toks)from ⟨_,rfl⟩) X.hu (wb q fun h4 q σ6 m6=>dO.next q (((m.trans m2).trans m5).trans m6) ((o2.go m5).go m6)))
set_option tactic.hygienic true in
theorem Qy{e:E}{w:Expr}{pos:Pos}(he:EG Γ w e):SH Γ (.Expr w pos) (.ex e):=fun l H σ Q Er o q=>
 wpAny_Expr_any (he.1 _ _ _ _ _ o (wb q fun u q mx σ1 m r=>dO.next q m (o.go m))) (by unfold interactive;rw[X.K.kind];rfl) (he.2.sw _ _ _)
omit X in
theorem Kc{e:E}{w:Expr}{pos:Pos}(he:EH Γ w e):SH Γ (.Return (some w) pos) (.ret e):=fun l H σ Q Er o q=>
 wpAny_Return_some (he _ _ _ _ _ o (wb q fun u q mx σ1 m r=>q _ σ1 m.weak (o.go m) ⟨mx,rfl,r⟩))
omit X in
theorem Iu{pos:Pos}:SH Γ (.Return none pos) .iq:=fun l H σ Q Er o q=>wpAny_Return_none (q _ σ (Mv.here o.S (tk:=σ.s.toks)) o ⟨_,rfl,rfl⟩)
omit X in
theorem LR:SsH Γ [] []:=fun l H σ Q Er o q=>wpAny_execs_nil (q _ σ (Mv.here o.S (tk:=σ.s.toks)) o rfl)
omit X in
theorem GG{st:Stmt}{rest:List Stmt}{st':S}{rest':List S}(h1:SH Γ st st')(h2:SsH Γ rest rest'):SsH Γ (st::rest) (st'::rest'):=fun l H σ Q Er o q=>
 wpAny_execs_cons (h1 _ _ _ _ _ o (wb q fun x q mf σ1 m o1 r=>by
  obtain⟨f,l1,H1⟩:=x
  induction f with
  |next=>obtain rfl:mf=.next:=r;exact h2 _ _ _ _ _ o1 (W.goS q m)
  |ret v=>obtain⟨mv,rfl,r⟩:=r;exact q _ σ1 m o1 ⟨mv,rfl,r⟩))
omit X in
theorem xQ{f:Stmt→S}(ih:∀st,SH Γ st (f st)):∀ss:List Stmt,SsH Γ ss (ss.map f)
 |[]=>LR
 |st::ss=>GG (ih st) (xQ ih ss)
omit X in
theorem JS{t:C}{a b:List S}{x:Expr}{y z:List Stmt}{pos:Pos}(ht:CH Γ x t)(ha:SsH Γ y a)(hb:SsH Γ z b):SH Γ (.If x y z pos) (.ite t a b):=fun l H σ Q Er o q=>
 wpAny_If (ht _ _ _ _ _ o (wb q fun u q σ1 m=>by
  obtain⟨d,h⟩:=u
  induction d
  ·exact hb _ _ _ _ _ (o.go m) (W.goS q m.weak)
  ·exact ha _ _ _ _ _ (o.go m) (W.goS q m.weak)))
structure WI (Γ:Gm)(t:C)(b:List S)(Q:PySem.Flow→Shared→Prop)(n:Nat)(s:Shared):Prop where
 ex:∃lo H σ,s=σ.s∧At Γ lo H σ∧W (qe (fun l h=>evC Γ.k.P Γ.call t l h) (fun l h=>bB Γ.k.P Γ.call b l h) n lo H) (dO Γ σ Q)
set_option tactic.hygienic true in
omit X in
theorem Ou{t:C}{b:List S}{x:Expr}{y:List Stmt}{pos:Pos}(ht:CH Γ x t)(hb:SsH Γ y b):SH Γ (.While x y [] pos) (.wh t b):=fun l H σ Q Er o q=>by
 refine wpAny_While (codeAny_whileLoop (WI Γ t b Q) (fun n s' h=>hide fun G hG=>?_) E6 ⟨l,H,σ,rfl,o,q⟩)
 obtain⟨lo,H,σ',rfl,o,q⟩:=h
 induction n with
 |zero=>exact q.elim
 |succ n=>
  exact hG (ht _ _ _ _ _ o (wb q fun u q σ1 m=>by
   obtain⟨d,h⟩:=u
   induction d
   ·exact wpAny_execs_nil (dO.next q m (o.go m))
   ·exact hb _ _ _ _ _ (o.go m) (wb q fun x q mf σ2 m2 o2 r=>by
     obtain⟨f,l1,H1⟩:=x
     induction f with
     |next=>obtain rfl:mf=.next:=r;exact⟨n,Nat.lt_succ_self n,_,_,σ2,rfl,o2,W.goS q (m.weak.trans m2)⟩
     |ret v=>obtain⟨mv,rfl,r⟩:=r;exact q _ σ2 (m.weak.trans m2) o2 ⟨mv,rfl,r⟩)))
end
theorem pV{prog:Program}{w:World}{A:Around}{E:Value→Shared→Prop}{it t:Addr}{items:Array Value}(hne:t≠it):∀(n i:Nat) (s:Shared) (Q:List Value→Shared→Prop),s.heap.IsListIter it t i→s.heap.IsList t items→i+n≤items.size→
  (∀h',h'.IsListIter it t (i+n)→Heap.SameBut it s.heap h'→Q ((items.toList.drop i).take n) {s with heap:=h'})→wpAny (model prog w) A (draw (.ref it) n) Q E s
 |0,i,s,Q,hit,_,_,hQ=>wpAny_pure (hQ s.heap hit (Heap.SameBut.refl ..))
 |n+1,i,s,Q,hit,ht,hle,hQ=>by
  have hlt:i<items.size:=by lia
  show wpAny _ _ (pyNext (.ref it) >>= _) Q E s
  refine wpAny_bind (wpAny_pyNext_list_item hit ht (x:=items[i]) (Array.getElem?_eq_getElem hlt) fun h₁ hit₁ hs₁=>wpAny_bind (wpAny_holding (pV hne n (i+1) _ _ hit₁ (ht.extBut hs₁.extBut hne) (by lia) fun h₂ hit₂ hs₂=>wpAny_pure ?_)))
  have:=hQ h₂ (by rw[show i+(n+1)=i+1+n by lia];exact hit₂) (hs₁.trans hs₂)
  rw[List.drop_eq_getElem_cons (show i<items.toList.length from hlt),List.take_succ_cons]at this
  exact this
theorem la{prog:Program}{w:World}{A:Around}{s:Shared}{E:Value→Shared→Prop}{t:Addr}{items:Array Value}{Q:List Value→Shared→Prop}(hh:A.handled=none)(ht:s.heap.IsList t items)
  (hQ:∀h',Heap.ExtBut s.heap.objs.size s.heap h'→Q items.toList {s with heap:=h'}):wpAny (model prog w) A (unpackItems (.ref t) items.size none) Q E s:=by
 have hlt:t≠s.heap.objs.size:=by obtain⟨o,ho,_⟩:=ht;exact Nat.ne_of_lt (Heap.lt_size ho)
 unfold unpackItems
 refine wpAny_bind ?_
 unfold notIterableAtAll
 refine wpAny_bind (wpAny_specialOf ht.typeIs slot_list_iter.lookup (wpAny_pure ?_))
 simp only[Bool.false_eq_true,if_false]
 refine wpAny_bind (wpAny_holding (wpAny_pyIter_list ht (wpAny_bind (wpAny_holding (pV hlt items.size 0 _ _ ⟨_,Heap.get?_push_size _ rfl,rfl,rfl⟩ (ht.push _) (by lia) fun h₁ hit₁ hs₁=>?_)))))
 have hall:List.take items.size (List.drop 0 items.toList)=items.toList:=List.take_of_length_le (Z5 _)
 rw[hall]
 rw[if_neg (by simp)]
 have ht₁:h₁.IsList t items:=(ht.push _).extBut hs₁.extBut hlt
 refine wpAny_bind (wpAny_holding (wpAny_pyNext_list_end hh hit₁ ht₁ (by simp) fun h₂ he₂=>?_))
 simp only[Option.isSome_none,Bool.false_eq_true,if_false]
 exact wpAny_pure (hQ h₂ fun b o hb e=>he₂ b o hb (hs₁.extBut b o hb (Heap.get?_push_of_some _ e)))
section
variable{Γ:Gm}{c:Ck}{mg mb:Str→Option Value}(X:Cx Γ c mg mb){σ σ':Sg}{H H':Mini.Internal.H}{l:Loc}
structure TH (Γ:Gm)(ts:List Expr)(is:List Nat):Prop where
 len:ts.length=is.length
 no:(assignEach ts Γ.f.env).findIdx? (·.1)=none∧(assignEach ts Γ.f.env).length=ts.length
 go:∀(vs:List V) (ms:List Value) (l:Loc) (H:Mini.Internal.H) (σ:Sg) (Q:Unit→Shared→Prop) (Er:Value→Shared→Prop),At Γ l H σ→Vrs Γ σ vs ms→W (kP is vs l) (fun l'=>∀σ',Mv Γ (exL Γ) σ H σ'→At Γ l' H σ'→Q () σ'.s)→Γ.wp (assignInOrder ((assignEach ts Γ.f.env).map (·.2)) ms) Q Er σ.s
theorem iH:∀{is:List Nat} {vs:List V} {l:Loc} {K:Loc→Prop},W (kP is vs l) K→is.length=vs.length
 |[],[],_,_,_=>rfl
 |_::_,_::_,_,_,e=>congrArg (· +1) (iH e)
 |[],_::_,_,_,e=>e.elim
 |_::_,[],_,_,e=>e.elim
include X
theorem E9:∀ts:List Expr,Al (eW (tgt c) ts) (TH Γ ts)
 |[]=>⟨rfl,⟨rfl,rfl⟩,fun vs ms l H σ Q Er o r q=>by
  induction vs with
  |cons _ _=>exact q.elim
  |nil=>rw[lY r];exact PyProof.Rows.assignInOrder_nil (q σ (Mv.here o.S (tk:=σ.s.toks)) o)⟩
 |t::ts=>mq fun i hi=>(E9 ts).bind fun is h=>by
  obtain⟨y,p,rfl,hy⟩:=DG hi
  have e:assignEach (.Name y p::ts) Γ.f.env=(false,assign (.Name y p) Γ.f.env)::assignEach ts Γ.f.env:=rfl
  refine ⟨congrArg (· +1) h.len,⟨by rw[e,List.findIdx?_cons,h.no.1];rfl,congrArg (· +1) h.no.2⟩,fun vs ms l H σ Q Er o r q=>?_⟩
  cases vs with
  |nil=>exact q.elim
  |cons v vs=>
   obtain⟨m,ms,rfl,r1,r2⟩:=nQ r
   rw[e,List.map_cons]
   exact PyProof.Rows.assignInOrder_cons (wpAny_assign_Name (hE X o hy r1 fun σ1 m1 o1=>h.go _ _ _ _ _ _ _ o1 (m1.ups (fun b e=>e▸o.L) r2) (wm q fun l' q σ2 m2 o2=>q σ2 (m1.trans m2) o2)))
theorem LI{is:List Nat}{e:E}{ts:List Expr}{k1:Nat}{p pos:Pos}{w:Expr}(T:TH Γ ts is)(hT:∀env,swappedStores [.Tuple ts k1 p] w env=pure none)(he:EG Γ w e):SH Γ (.Assign [.Tuple ts k1 p] w pos) (.unp is e):=fun l H σ Q Er o q=>by
 refine PyProof.Rows.Assign_Tuple (he.1 _ _ _ _ _ o (wb q fun u q mx σ1 m r=>we q fun vs hv q=>?_)) (show swapsWith w (some (.Tuple ts k1 p)) pos.line Γ.f.env=pure false from he.2.sw _ _ _) (hT _)
 have hl:=iH (wb q fun l' ζ=>trivial:W (kP is vs l) fun ζ=>True)
 have go:∀{a:Addr} {items:Array Value},Vrs Γ σ1 vs items.toList→(∀Q',(∀h',Heap.ExtBut σ1.s.heap.objs.size σ1.s.heap h'→Q' items.toList (upd σ1.s h' σ1.s.toks))→Γ.wp (unpackItems (.ref a) items.size none) Q' Er σ1.s)→Γ.wp (assign (.Tuple ts k1 p) Γ.f.env (.ref a)) (fun ζ=>Q .next) Er σ1.s:=by
  intro a items r hu
  have hlen:items.size=ts.length:=by rw[←VRs.size r,←hl,T.len]
  rw[arm_assign_Tuple]
  refine wpAny_bind (wpAny_standAt ?_)
  unfold PySem.unpack
  rw[T.no.2,T.no.1,←hlen]
  refine wpAny_bind (wpAny_holding (hu _ fun h2 hx=>?_))
  have st:σ1.s.heap.StaysIn h2:=fun b ob eb=>hx b ob (Nat.ne_of_lt (Heap.lt_size eb)) eb
  have m2:Mv Γ noX σ1 u.2 ⟨σ1.R,σ1.F,upd σ1.s h2 σ1.s.toks⟩:=⟨Ext.of_stays st,m.S.stays st,rfl,rfl⟩
  exact T.go _ _ _ _ _ _ _ ((o.go m).go m2) (VRs.up r m2) (wb q fun l' q σ3 m3 o3=>q .next σ3 ((m.trans m2).weak.trans m3) o3 rfl)
 obtain⟨u,H1⟩:=u
 cases u<;>first|(cases hv;done)|skip
 ·cases hv
  obtain⟨a,items,rfl,_,t,r⟩:=r
  exact go r fun Q' h=>wpAny_unpackItems_tuple X.hh t h
 ·cases hv
  obtain⟨a,items,rfl,_,t,r⟩:=r
  exact go r fun Q' h=>la X.hh t h
end
section
variable{Γ:Gm}{c:Ck}{mg mb:Str→Option Value}(X:Cx Γ c mg mb){σ σ':Sg}{H H':Mini.Internal.H}{l:Loc}
structure Iter (Γ:Gm)(I:Addr)(ok:Mini.Internal.H→Bool)(vs:List V)(J:Nat→Sg→Prop):Prop where
 item:∀(i:Nat) (v:V) (σ:Sg) (H:Mini.Internal.H) (Q:Option Value→Shared→Prop) (E:Value→Shared→Prop),vs[i]?=some v→ok H=true→Sts Γ σ H→I∈σ.F→J i σ→
  (∀mv h' tk',(∀b o,b≠I→σ.s.heap.get? b=some o→h'.get? b=some o)→(∃o,h'.get? I=some o)→Vr Γ σ v mv→J (i+1) ⟨σ.R,σ.F,upd σ.s h' tk'⟩→Q (some mv) (upd σ.s h' tk'))→Γ.wp (pyNext (.ref I)) Q E σ.s
 done:∀(σ:Sg) (H:Mini.Internal.H) (Q:Option Value→Shared→Prop) (E:Value→Shared→Prop),ok H=true→Sts Γ σ H→I∈σ.F→J vs.length σ→
  (∀h' tk',(∀b o,b≠I→σ.s.heap.get? b=some o→h'.get? b=some o)→Q none (upd σ.s h' tk'))→Γ.wp (pyNext (.ref I)) Q E σ.s
 frame:∀(i:Nat) (H H':Mini.Internal.H) (σ σ':Sg),Sts Γ σ H→I∈σ.F→Γ.f.L∈σ.F→Mv Γ (exL Γ) σ H' σ'→J i σ→J i σ'
structure FI (Γ:Gm)(i:Nat)(ok:Mini.Internal.H→Bool)(b:List S)(vs:List V)(J:Nat→Sg→Prop)(I:Addr)(σ0:Sg)(Q:PySem.Flow→Shared→Prop)(n:Nat)(s:Shared):Prop where
 ex:∃j lo H σ,s=σ.s∧n=vs.length+1-j∧j≤vs.length∧Hm Γ (exL Γ) σ0 I H σ∧At Γ lo H σ∧J j σ∧W (gC i ok (fun l h=>bB Γ.k.P Γ.call b l h) (vs.drop j) lo H) (dO Γ σ0 Q)
include X
set_option tactic.hygienic true in
theorem rZ{I:Addr}{i:Nat}{b:List S}{t:Expr}{y:List Stmt}{H0:Mini.Internal.H}(ht:tgt c t=some i)(hb:SsH Γ y b){ok:Mini.Internal.H→Bool}{vs:List V}{J:Nat→Sg→Prop}(Y:Iter Γ I ok vs J)
  {lo:Loc} {Q:PySem.Flow→Shared→Prop} {Er:Value→Shared→Prop} {σ0 σ:Sg} (nn:σ0.s.heap.get? I=none) (S0:Sts Γ σ0 H0) (hL:Γ.f.L∈σ0.F) (m:Hm Γ (exL Γ) σ0 I H σ) (o:At Γ lo H σ) (hJ:J 0 σ)
  (q:W (gC i ok (fun l h=>bB Γ.k.P Γ.call b l h) vs lo H) (dO Γ σ0 Q)):
  codeAny (model Γ.k.pr Γ.k.w) Γ.A (.forLoop t (.ref I) y [] Γ.f.env) (fun r s'=>match r with|.ok f=>Q f s'|.error e=>cameBackBy (model Γ.k.pr Γ.k.w) Γ.A Γ.f.env Er e s') σ.s:=by
 obtain⟨yn,p,rfl,hy⟩:=DG ht
 refine codeAny_forLoop (FI Γ i ok b vs J I σ0 Q) (fun n s' h=>hide fun G hG=>?_) (vs.length+1) ⟨0,lo,H,σ,rfl,rfl,Nat.zero_le _,m,o,hJ,q⟩
 obtain⟨j,lo,H,σ,rfl,rfl,hj,m,o,hJ,q⟩:=h
 have hLI:Γ.f.L≠I:=fun e=>by obtain⟨ob,hob⟩:=S0.live _ (.inr hL);rw[e,nn]at hob;cases hob
 by_cases hlt:j<vs.length
 ·rw[List.drop_eq_getElem_cons hlt]at q
  refine wif q fun hok q=>hG (Y.item j vs[j] σ H _ _ (Zo hlt) hok m.S m.free hJ fun mv h1 t1 kb lv rv hJ1=>?_)
  obtain⟨m1,X1⟩:=m.NS (tk:=t1) nn kb lv
  have mm:Mv Γ (· =I) σ H ⟨σ.R,σ.F,upd σ.s h1 t1⟩:=⟨X1,m1.S,rfl,rfl⟩
  have hex:∀b,b=I→b∈σ.F:=fun b e=>e▸m.free
  have o1:=o.gox mm hex hLI
  refine wpAny_assign_Name (hE (σ:=⟨σ.R,σ.F,upd σ.s h1 t1⟩) X o1 hy (mm.up hex rv) fun σ2 m2 o2=>hb _ _ _ _ _ o2 (wb q fun x q mf σ3 m3 o3 r3=>?_))
  have J2:=Y.frame _ _ _ _ _ m1.S m1.free o1.L m2 hJ1
  have h2:=m1.go m2
  have h3:=h2.go m3
  obtain⟨f,l3,H3⟩:=x
  induction f with
  |next=>obtain rfl:mf=.next:=r3;exact⟨vs.length+1-(j+1),by lia,j+1,l3,H3,σ3,rfl,rfl,hlt,h3,o3,Y.frame _ _ _ _ _ h2.S h2.free o2.L m3 J2,q⟩
  |ret v=>
   obtain⟨mv,rfl,r⟩:=r3
   obtain⟨m4,o4⟩:=h3.drop (h2:=σ3.s.heap) (tk:=σ3.s.toks) nn S0 o3 hL fun b o ζ e=>e
   exact q _ ⟨σ3.R,σ0.F,upd σ3.s σ3.s.heap σ3.s.toks⟩ m4 o4 ⟨mv,rfl,VR.D6 (d:=I) (by rw[←h3.F];exact r)⟩
 ·obtain rfl:j=vs.length:=by lia
  rw[List.drop_length]at q
  refine wif q fun hok q=>hG (Y.done σ H _ _ hok m.S m.free hJ fun h1 t1 kb=>wpAny_execs_nil ?_)
  obtain⟨m4,o4⟩:=m.drop (tk:=t1) nn S0 o hL kb
  exact q .next _ m4 o4 rfl
theorem iter_tuple{I ax:Addr}{items:Array Value}{vs:List V}(hI:ax≠I)(hLI:Γ.f.L≠I):
  Iter Γ I (fun ζ=>true) vs (fun i σ=>σ.s.heap.IsTupleIter I ax i∧σ.s.heap.IsTuple ax items∧¬hot σ.R σ.F ax∧Vrs Γ σ vs items.toList) where
 item:=fun i v σ H Q E hv ζ S hF ⟨j1,j2,nh,r⟩ q=>by
  obtain⟨mv,em,rv⟩:=VRs.get r hv
  rw[Array.getElem?_toList]at em
  refine wpAny_pyNext_tuple_item j1 j2 em fun h' hit' hs'=>?_
  have kb:∀b o,b≠I→σ.s.heap.get? b=some o→h'.get? b=some o:=fun b o n e=>(hs'.2 b n).trans e
  have lv:∃o,h'.get? I=some o:=let ⟨o,ho,_⟩:=hit';⟨o,ho⟩
  obtain⟨S1,X1⟩:=S.held hF kb lv
  exact q mv h' σ.s.toks kb lv rv ⟨hit',j2.extBut hs'.extBut hI,nh,VRs.mono X1 (fun b e=>e▸hF) (fun ζ z=>.inl z) r⟩
 done:=fun σ H Q E ζ S hF ⟨j1,j2,nh,r⟩ q=>wpAny_pyNext_tuple_end X.hh j1 j2 (Array.getElem?_eq_none (VRs.size r▸Z5 _)) fun h' he=>q h' σ.s.toks he
 frame:=fun i H H' σ σ' S hF hL m ⟨j1,j2,nh,r⟩=>by
  have nI:¬own σ.R I:=fun z=>S.frm _ z hF
  obtain⟨o2,ho2,_⟩:=id j2
  have st:∀o,σ.s.heap.get? ax=some o→_:=fun o e=>m.x.stays (F:=σ.F) (F':=σ'.F) (fun b e=>e▸hL) (fun ζ z=>.inl (m.F▸z)) e nh
  exact⟨j1.at fun o e=>m.x.keep _ o e nI (Ne.symm hLI),eJ j2 fun o e=>(st o e).1,(st o2 ho2).2,m.ups (fun b e=>e▸hL) r⟩
theorem wz{I:Addr}{n:Nat}(hLI:Γ.f.L≠I):Iter Γ I (fun ζ=>true) ((List.range n).map fun (j:Nat)=>V.int (j:Int)) (fun i σ=>IsRangeIter σ.s.heap I (i:Int) ((n:Int)-(i:Nat)) 1) where
 item:=fun i v σ H Q E hv ζ S hF j1 q=>by
  rw[Zu]at hv
  obtain⟨j,hj,rfl⟩:=Option.map_eq_some_iff.mp hv
  obtain⟨hlt,hj⟩:=Z6 hj
  rw[List.getElem_range]at hj
  subst hj
  rw[List.length_range]at hlt
  refine wpAny_pyNext_range_item j1 (by lia) fun h' hit' hs'=>q _ h' _ (fun b o n e=>(hs'.2 b n).trans e) ⟨_,hit'⟩ ⟨_,rfl⟩ ?_
  show IsRangeIter h' I ((i+1:Nat):Int) ((n:Int)-((i+1:Nat):Int)) 1
  rw[show ((i+1:Nat):Int)=(i:Int)+1 from rfl,←Int.sub_sub]
  exact hit'
 done:=fun σ H Q E ζ S hF j1 q=>by
  rw[Z9,List.length_range]at j1
  exact wpAny_pyNext_range_end X.hh j1 (by lia) fun h' he=>q h' σ.s.toks he
 frame:=fun i H H' σ σ' S hF hL m j1=>m.x.keep _ _ j1 (fun z=>S.frm _ z hF) (Ne.symm hLI)
omit X in
theorem keys_eq{k:Lk}{h:Heap}{R:Ro}{F:List Addr}:∀{l:List (Int×V)} {kvs:List (Int×Value)},aT k.tx (bu k) h R F (· = ·) l kvs→l.map (·.1)=kvs.map (·.1)
 |[],[],_=>rfl
 |_::_,_::_,r=>by rw[List.map_cons,List.map_cons,r.1.1,keys_eq r.2]
 |[],_::_,r=>r.elim
 |_::_,[],r=>r.elim
set_option tactic.hygienic true in
omit X in
theorem xy{a:Nat}{ks:List Int}{d:Addr}(hok:hW a ks H=true)(S:Sts Γ σ H)(hp:∃p,σ.R[a]?=some p∧p.1=d):∃kvs,σ.s.heap.DictAt (intKind Γ.k.pr Γ.k.w) d kvs kvs.length∧kvs.map (·.1)=ks:=by
 unfold hW at hok
 split at hok
 ·rename_i l' ho
  obtain⟨p,hp,rfl⟩:=hp
  obtain⟨e2,hs,kvs,hd,pr⟩:=S.obj _ _ _ ho hp
  exact⟨kvs,hd,(keys_eq pr).symm.trans (Z0 hok)⟩
 ·cases hok
theorem y3{I d:Addr}{a:Nat}{ks:List Int}(hI:d≠I)(hLI:Γ.f.L≠I):
  Iter Γ I (hW a ks) (ks.map V.int) (fun i σ=>σ.s.heap.IsKeyIter I d i ks.length ks.length∧∃p,σ.R[a]?=some p∧p.1=d) where
 item:=fun i v σ H Q E hv hok S hF ⟨j1,hp⟩ q=>by
  obtain⟨kvs,hd,rfl⟩:=xy hok S hp
  rw[Zu,Zu]at hv
  obtain⟨j,hj,rfl⟩:=Option.map_eq_some_iff.mp hv
  obtain⟨⟨kk,x⟩,hx,rfl⟩:=Option.map_eq_some_iff.mp hj
  rw[Z9]at j1
  refine wpAny_pyNext_dict_item j1 hd hx fun key h' hkey hit' hs'=>?_
  obtain⟨t,rfl⟩:=Value.isInt_shape hkey
  exact q _ h' σ.s.toks (fun b o n e=>(hs'.2 b n).trans e) (let ⟨o,ho,_⟩:=hit';⟨o,ho⟩) ⟨t,rfl⟩ ⟨by rw[Z9];exact hit',hp⟩
 done:=fun σ H Q E hok S hF ⟨j1,hp⟩ q=>by
  obtain⟨kvs,hd,rfl⟩:=xy hok S hp
  rw[Z9,Z9]at j1
  exact wpAny_pyNext_dict_end X.hh j1 hd (List.getElem?_eq_none (Z5 _)) fun h' he=>q h' σ.s.toks he
 frame:=fun i H H' σ σ' S hF hL m ⟨j1,p,hp,ed⟩=>⟨j1.at fun o e=>m.x.keep _ o e (fun z=>S.frm _ z hF) (Ne.symm hLI),p,by
  obtain⟨t,et⟩:=m.x.pre
  rw[←et,Zj (Z6 hp).1];exact hp,ed⟩
section
variable{i:Nat}{a:E}{b:List S}{t w:Expr}{y:List Stmt}{pos:Pos}(ht:tgt c t=some i)(hb:SsH Γ y b)
include ht hb
theorem yw(ha:EG Γ w a):SH Γ (.For t w y [] pos) (.oX i a b):=fun l H σ Q Er o q=>by
 refine wpAny_For (ha.1 _ _ _ _ _ o (wb q fun u q mx σ1 m r=>we q fun vs hv q=>?_)) (ha.2.fo _)
 obtain⟨u,H1⟩:=u
 cases u<;>first|(cases hv;done)|skip
 cases hv
 obtain⟨ax,items,rfl,nh,tt,r⟩:=r
 refine wpAny_pyIter_tuple tt ?_
 have o1:=o.go m
 have nn:=bG σ1.s.heap
 obtain⟨hm,g⟩:=ig (ex:=exL Γ) (tk:=σ1.s.toks) (ob:={cls:=.type "tuple_iterator",data:=.fields #[.ref ax,.int 0 0]}) o1.S rfl
 have ne:∀{b},(∃ob,σ1.s.heap.get? b=some ob)→b≠σ1.s.heap.objs.size:=fun ⟨ob,hob⟩ e=>by rw[e,nn]at hob;cases hob
 have hlt:=ne (let ⟨ob,hob,_⟩:=tt;⟨ob,hob⟩)
 exact rZ X ht hb (iter_tuple X (items:=items) hlt (ne (o1.S.live _ (.inr o1.L)))) nn o1.S o1.L hm (mF o1 rfl) ⟨⟨_,g,rfl,rfl⟩,tt.push _,fun z=>z.elim (fun z=>nh (.inl z)) fun z=>(Zm z).elim hlt fun z=>nh (.inr z),
  VRs.mono hm.x (fun b e=>e▸o1.L) (fun b z=>(Zm z).elim (fun e=>.inr (e▸nn)) .inl) r⟩ (W.goS q m.weak)
theorem GZ(ha:EG Γ w a):SH Γ (.For t w y [] pos) (.wW i a b):=fun l H σ Q Er o q=>by
 refine wpAny_For (ha.1 _ _ _ _ _ o (wb q fun u q mx σ1 m r=>wO q fun j e q=>we q fun ks hk q=>?_)) (ha.2.fo _)
 rw[e]at r
 obtain⟨p,hp,rfl⟩:=r
 have hok:∃dl,u.2[j]?=some (.aM dl)∧dl.map (·.1)=ks:=by
  unfold keysOf at hk
  split at hk
  ·cases hk;exact⟨_,by assumption,rfl⟩
  ·cases hk
 obtain⟨dl,ho,rfl⟩:=hok
 obtain⟨e2,hs,kvs,hd,pr⟩:=m.S.obj _ _ _ ho hp
 refine wpAny_pyIter_dict hs hd ?_
 have o1:=o.go m
 have nn:=bG σ1.s.heap
 obtain⟨hm,g⟩:=ig (ex:=exL Γ) (tk:=σ1.s.toks) (ob:={cls:=.type "dict_keyiterator",data:=.fields #[.ref p.1,.int 0 0,.int kvs.length 0,.int kvs.length 0]}) o1.S rfl
 have ne:Γ.f.L≠σ1.s.heap.objs.size:=fun e=>by obtain⟨ob,hob⟩:=o1.S.live _ (.inr o1.L);rw[e,nn]at hob;cases hob
 refine rZ X ht hb (y3 X (d:=p.1) (a:=j) (ks:=dl.map (·.1)) (Nat.ne_of_lt hd.lt_size) ne) nn o1.S o1.L hm (mF o1 rfl) ⟨⟨_,g,rfl,?_⟩,p,hp,rfl⟩ (W.goS q m.weak)
 rw[Z9,aT.length pr];rfl
theorem Ft{p0 cpos:Pos}(hg:c.iu "range"=true)(ha:EG Γ w a):SH Γ (.For t (.Call (.Name "range" p0) [w] [] cpos) y [] pos) (.forR i a b):=fun l H σ Q Er o q=>by
 refine wpAny_For (PyProof.Rows.Call_ (mc X hg (by decide+kernel) X.FG o.S ?_)) (fun ζ=>rfl)
 rw[ha.2.se,c9]
 refine PySem.callWith_type rfl (evalArgs_plain (spliced_cons (ha.1 _ _ _ _ _ o (wb q fun u q mx σ1 m r=>spliced_nil (fV q fun n e q=>wif q fun hc q=>?_)))))
 rw[e]at r
 obtain⟨tk,rfl⟩:=r
 have hc:=Z3 hc
 have n0:=Z0 hc.1
 have n1:=Z0 hc.2
 refine call_range_1 ?_
 obtain⟨m2,g2,nh2⟩:=fR (tk:=σ1.s.toks+1+1) m.S {cls:=.type "range",data:=.fields #[.int 0 σ1.s.toks,.int n tk,.int 1 (σ1.s.toks+1)]} rfl
 refine wpAny_pyIter_range (IsRange.new ..) (small_one (by lia) (by lia) (by lia) (by lia)) ?_
 rw[show Builtin.Range.rangeSize 0 n 1=n by rw[rangeSize_one];split<;>lia]
 have o1:=(o.go m).go m2
 have nn:=bG (σ1.s.heap.push {cls:=.type "range",data:=.fields #[.int 0 σ1.s.toks,.int n tk,.int 1 (σ1.s.toks+1)]})
 obtain⟨hm,g⟩:=ig (ex:=exL Γ) (tk:=σ1.s.toks+1+1) (ob:={cls:=.type "range_iterator",data:=.fields #[rawInt 0,rawInt n,rawInt 1]}) o1.S rfl
 have ne:Γ.f.L≠ (σ1.s.heap.push {cls:=.type "range",data:=.fields #[.int 0 σ1.s.toks,.int n tk,.int 1 (σ1.s.toks+1)]}).objs.size:=fun e=>by obtain⟨ob,hob⟩:=o1.S.live _ (.inr o1.L);rw[e]at hob;rw[nn]at hob;cases hob
 refine rZ X ht hb (wz X (n:=n.toNat) ne) nn o1.S o1.L hm (mF o1 rfl) ?_ (W.goS q (m.trans m2).weak)
 show IsRangeIter _ _ ((0:Nat):Int) (((n.toNat:Nat):Int)-((0:Nat):Int)) 1
 rw[Int.toNat_of_nonneg n0,show n-((0:Nat):Int)=n by lia]
 exact g
end
set_option tactic.hygienic true in
theorem G2{rE:Expr→Option E}(iE:∀e,Al (rE e) (EG Γ e)){v:Expr}{a:E}{p:Pos}(ha:EG Γ v a)(t:Expr):Al (stT c rE v a t) (SH Γ (.Assign [t] v p)):=by
 cases t<;>first|exact trivial|skip
 case Name x p=>exact lp fun i hi=>Mz X hi ha
 case Subscript x y p=>exact (iE x).bind fun o ho=>(iE y).bind fun k hk=>zH X ha ho.1 hk.1
 case Attribute x nm p=>exact lp fun f hf=>(iE x).bind fun o ho=>w9 X hf ha ho.1
 case Tuple ts k1 p=>exact ng fun hv=>(E9 X ts).bind fun is T=>LI X T (fun env=>by cases v<;>first|rfl|exact absurd rfl hv) ha
set_option tactic.hygienic true in
theorem IM{rE:Expr→Option E}{rC:Expr→Option C}{rS:List Stmt→List S}(iE:∀e,Al (rE e) (EG Γ e))(iC:∀e,Al (rC e) (CH Γ e))(iS:∀ss,SsH Γ ss (rS ss))(st:Stmt):Al (stS c rE rC rS st) (SH Γ st):=by
 cases st<;>first|exact trivial|skip
 case Return x p=>induction x;exact Iu;exact (iE _).bind fun a ha=>Kc ha.1
 case Assign ts v p=>exact (iW ts).bind fun t ht=>(iE v).bind fun a ha=>ht▸G2 X iE ha t
 case AugAssign t o v p=>
  refine (Jn o).bind fun op ho=>(iE v).bind fun a ha=>?_
  rw[ho]
  cases t<;>first|exact trivial|skip
  case Name x p=>exact lp fun i hi=>Ls X hi ha.1
  case Subscript x y p=>exact (iE x).bind fun o ho=>(iE y).bind fun k hk=>zJ X ha.1 ho.1 hk
 case For t x y z p=>
  refine cQ fun hz=>mq fun i hi=>?_
  subst hz
  refine d9 (fun q hq=>gk (fun hr=>cQ fun hk=>cQ fun hg=>(iW q.2.1).bind fun u hu=>(iE u).bind fun a ha=>?_) fun ζ=>(iE _).bind fun a ha=>yw X hi (iS y) ha) ((iE _).bind fun a ha=>gk (fun ζ=>GZ X hi (iS y) ha) fun ζ=>yw X hi (iS y) ha)
  obtain⟨cp,hx⟩:=(Hx x).of hq
  obtain⟨p0,hg0⟩:=(tp q.1).of hr
  rw[hx,hg0,hk,hu]
  exact Ft X hi (iS y) hg ha
 case While x y z p=>exact cQ fun hz=>(iC x).bind fun t ht=>hz▸Ou ht (iS y)
 case If x y z p=>exact (iC x).bind fun t ht=>JS ht (iS y) (iS z)
 case Expr x p=>exact cQ fun ζ=>(iE x).bind fun a ha=>Qy X ha
omit X in
theorem Mc{st:Stmt}:SH Γ st .bad:=fun ζ ζ ζ ζ ζ ζ q=>q.elim
theorem vt:∀(n:Nat) (ss:List Stmt),SsH Γ ss (A4 c n ss)
 |0,ss=>fun l H σ Q Er o q=>q.elim
 |n+1,ss=>xQ (fun st=>by
  have h:=IM X (nF X 20).1 (nF X 20).2 (vt n) st
  revert h
  induction stS c (trE c 20) (trC c 20) (A4 c n) st with
  |none=>exact fun ζ=>Mc
  |some s=>exact fun h=>h) ss
end
theorem lN(C:Addr)(args:List Value):(Code.builtin "type.__call__" ⟨.ref C::args,[]⟩).weight=1:=by kernel_rfl
theorem nK(C:Addr)(args:List Value):(Code.builtin "type.__call__" ⟨.ref C::args,[]⟩).cUnits=1:=by kernel_rfl
theorem gd:∀{ns:List Str} {vs:List Value},ns.Nodup→vs.length=ns.length→∀(i:Nat) (x:Str) (v:Value),ns[i]?=some x→vs[i]?=some v→(ns.zip vs).lookup x=some v∧(ns.zip vs).reverse.lookup x=some v
 |[],_,_,_,_,_,_,h,_=>nomatch h
 |_::_,[],_,h,_,_,_,_,_=>nomatch h
 |n::ns,w::vs,hn,hl,i,x,v,hx,hv=>by
  have hn:=List.nodup_cons.mp hn
  rw[List.zip_cons_cons,List.lookup_cons,List.reverse_cons,List.lookup_append]
  induction i with
  |zero=>
   induction Zt hx;induction Zt hv
   have no:(ns.zip vs).reverse.lookup n=none:=by
    rw[List.lookup_eq_none_iff]
    exact fun p hp=>bne_iff_ne.mpr fun e=>hn.1 (by rw[show n=p.1 from e];exact (List.of_mem_zip (a:=p.1) (b:=p.2) (List.mem_reverse.mp hp)).1)
   rw[beq_self_eq_true,no]
   exact⟨rfl,by rw[Option.none_or,List.lookup_cons,beq_self_eq_true]⟩
  |succ i=>
   obtain⟨h1,h2⟩:=gd hn.2 (Nat.succ.inj hl) i x v hx hv
   rw[show (x==n)=false from beq_eq_false_iff_ne.mpr fun e=>hn.1 (e▸Zx hx),h2]
   exact⟨h1,rfl⟩
theorem Ap{ns:List Str}{vs:List Value}(hn:ns.Nodup)(hl:vs.length=ns.length):ns.filterMap (fun n=>((ns.zip vs).lookup n).map (n, ·))=ns.zip vs:=by
 have key:∀{ms:List Str} {ws:List Value},ws.length=ms.length→(∀(i:Nat) (x:Str) (v:Value),ms[i]?=some x→ws[i]?=some v→(ns.zip vs).lookup x=some v)→ms.filterMap (fun n=>((ns.zip vs).lookup n).map (n, ·))=ms.zip ws:=by
  intro ms
  induction ms with
  |nil=>intro ws _ _;rfl
  |cons m ms ih=>
   intro ws hl h
   induction ws with
   |nil=>cases hl
   |cons w ws=>
    rw[List.filterMap_cons,h 0 m w rfl rfl,List.zip_cons_cons]
    exact congrArg ((m,w):: ·) (ih (Nat.succ.inj hl) fun i=>h (i+1))
 exact key hl fun i x v hx hv=>(gd hn hl i x v hx hv).1
theorem vW{fd:FuncData}{mvs:List Value}{s:Shared}{ns:List Str}(h1:fd.params.posonlyargs=[])(h2:fd.params.vararg=none)(h3:fd.params.kwonlyargs=[])(h4:fd.params.kwarg=none)(h5:fd.params.args.map (·.arg)=ns)(h6:fd.defaults=.none)
  (hn:ns.Nodup) (hl:mvs.length=ns.length):BindsTo s fd ⟨mvs,[]⟩ (ns.zip mvs):=by
 refine BindsTo.of_eq ?_
 have miss:(ns.filter fun n=>((ns.zip mvs).lookup n).isNone)=[]:=List.filter_eq_nil_iff.mpr fun x hx=>by
  obtain⟨i,hi,rfl⟩:=List.mem_iff_getElem.mp hx
  rw[(gd hn hl i _ (mvs[i]'(by lia)) (Zo hi) (Zo (by lia))).1]
  exact Zc
 obtain⟨_,_,⟨_,_,_,_,_,_,_⟩,_,_,_,_,_,_,_,_,_,_,_,_⟩:=fd
 dsimp only at h1 h2 h3 h4 h5 h6
 subst h1 h2 h3 h4 h5 h6
 unfold bindArgs
 dsimp only
 generalize List.map (fun x:Arg=>x.arg) _=ns at hn hl miss
 refine Eq.trans (if_neg (c:=(decide (mvs.length > ns.length)&&true)=true) (by rw[hl];simp)) (Eq.trans (if_neg (c:=(!(List.filter (fun n=>(List.lookup n (ns.zip mvs)).isNone) (List.take (ns.length-(List.drop (0-ns.length) ([]:List Value)).length) ns)).isEmpty)=true) ?_) ?_)
 ·rw[List.drop_nil,List.length_nil,Nat.sub_zero,List.take_length,miss]
  exact Zc
 ·simp only[List.map_nil,List.nil_append,List.append_nil,Option.getD_none,Array.toList_empty,List.drop_nil,List.length_nil,Nat.sub_zero,List.drop_length,List.zip_nil_right,List.forIn_nil,pure_bind,List.isEmpty_nil,Bool.not_true,Bool.false_eq_true,if_false,Ap hn hl]
noncomputable def plainDef(fd:FuncData)(names:List Str)(np:Nat):Bool:=
 fd.params.posonlyargs.isEmpty&&fd.params.vararg.isNone&&fd.params.kwonlyargs.isEmpty&&fd.params.kwarg.isNone&&fd.params.args.map (·.arg) ==names.take np&&decide (fd.defaults=.none)&&
 !fd.scope.isCoroutine&& !fd.scope.isGenerator&&decide (fd.scope.kind=.function)&&fd.scope.names.all (fun x=>decide (x.2≠.cell))&&names.all (fun x=>fd.scope.names.lookup x==some .local)&&decide names.Nodup&&
 names.all (fun x=> !(x==("__debug__":Str)))&&decide (np≤names.length)
structure PD (fd:FuncData)(names:List Str)(np:Nat):Prop where
 p1:fd.params.posonlyargs=[]
 p2:fd.params.vararg=none
 p3:fd.params.kwonlyargs=[]
 p4:fd.params.kwarg=none
 p5:fd.params.args.map (·.arg)=names.take np
 p6:fd.defaults=.none
 p7:fd.scope.isCoroutine=false
 p8:fd.scope.isGenerator=false
 p9:fd.scope.kind=.function
 p10:∀x∈fd.scope.names,x.2≠.cell
 p11:∀x∈names,fd.scope.names.lookup x=some .local
 p12:names.Nodup
 p13:∀x∈names,(x==("__debug__":Str))=false
 p14:np≤names.length
theorem Fc{fd:FuncData}{names:List Str}{np:Nat}(h:plainDef fd names np=true):PD fd names np:=by
 unfold plainDef at h
 simp only[Bool.and_eq_true,List.isEmpty_iff,Option.isNone_iff_eq_none,beq_iff_eq,decide_eq_true_eq,Bool.not_eq_true',List.all_eq_true]at h
 obtain⟨⟨⟨⟨⟨⟨⟨⟨⟨⟨⟨⟨⟨p1,p2⟩,p3⟩,p4⟩,p5⟩,p6⟩,p7⟩,p8⟩,p9⟩,p10⟩,p11⟩,p12⟩,p13⟩,p14⟩:=h
 exact⟨p1,p2,p3,p4,p5,p6,p7,p8,p9,p10,p11,p12,p13,p14⟩
structure FnAt (k:Lk)(c:Ck)(base:Heap)(g:Nat)(Fn:Mini.Internal.Fn)(o:Obj)(fd:FuncData)(body:List Stmt)(names:List Str):Prop where
 get:base.get? (k.fa g)=some o
 func:o.data=.func fd
 bdy:fd.body=.stmts body
 code:base.CodeRec fd.code fd.qualname
 glob:fd.globals=mainGlobals
 blt:fd.builtins=builtinsNs
 len:names.length=Fn.nl
 plain:plainDef fd names Fn.np=true
 text:A4 {c with loc:=names,sc:=fd.scope} 20 body=Fn.body
structure tQ (A:Around)(n:Nat):Prop where
 h:A.handled=none
 d:A.depth+4*n<recursionLimit
 u:A.units+20*n+200<cLine
theorem tQ.deeper{A:Around}{n:Nat}(r:tQ A (n+1))(e:Env):tQ (A.deeper e) n:=
 ⟨r.h,by have:=r.d;show A.depth+1+4*n<recursionLimit;lia,by have:=r.u;show A.units+3+20*n+200<cLine;lia⟩
theorem tQ.jx{A:Around}{n:Nat}(r:tQ A (n+1))(e:Env)(C:Addr)(args:List Value):tQ (jx (A.deeper e) C args) n:=
 ⟨r.h,by have:=r.d;show A.depth+1+(Code.builtin "type.__call__" ⟨.ref C::args,[]⟩).weight+4*n<recursionLimit;rw[lN];lia,
  by have:=r.u;show A.units+3+(Code.builtin "type.__call__" ⟨.ref C::args,[]⟩).cUnits+20*n+200<cLine;rw[nK];lia⟩
section
variable{k:Lk}{c:Ck}{base:Heap}{mg mb:Str→Option Value}{H:Mini.Internal.H}{R:Ro}{F:List Addr}
theorem Hq{h₀:Heap}{f:Fm}{vs:List V}{mvs:List Value}{names:List Str}{np nl:Nat}(hf:f.names=names)(hn:names.Nodup)(hl:names.length=nl)(hp:np≤names.length)(hv:vs.length=np)(r:VRs k h₀ R F vs mvs)(ns:h₀.Ns f.L (fun x=>((names.take np).zip mvs).reverse.lookup x)):
  NB k h₀ R F f (vs.map some++List.replicate (nl-np) none):=by
 have ml:=VRs.length r
 refine ⟨by rw[Za,Z9,List.length_replicate,hf];lia,_,ns,fun i x u hx hu=>?_⟩
 rw[hf]at hx
 have hi:i<vs.length:=by
  rcases Nat.lt_or_ge i vs.length with h|h
  ·exact h
  ·rw[Zw (by rw[Z9];exact h)]at hu
   cases List.eq_of_mem_replicate (Zx hu)
 rw[Zj (by rw[Z9];exact hi),Zu]at hu
 obtain⟨u',hu',e'⟩:=Option.map_eq_some_iff.mp hu
 cases e'
 obtain⟨mv,em,r⟩:=VRs.get r hu'
 exact⟨mv,(gd (hn.sublist (List.take_sublist ..)) (by rw[List.length_take];lia) i x mv (by rw[List.getElem?_take_of_lt (by lia)];exact hx) em).2,r⟩
theorem BZ{h h₀ h':Heap}{R':Ro}{L:Addr}(hk:h.StaysIn h₀)(nn:h.get? L=none)(X:Ext (· =L) R h₀ R' h'):Ext noX R h R' h':=by
 have none_of:∀{a},h₀.get? a=none→h.get? a=none:=fun {a} z=>by
  induction e:h.get? a with
  |none=>rfl
  |some ob=>rw[hk _ _ e]at z;cases z
 exact⟨X.pre,fun b ob e n1 n2=>X.keep b ob (hk _ _ e) n1 (fun z=>by rw[z,nn]at e;cases e),fun b ob e=>X.live b ob (hk _ _ e),fun p hp=>(X.new p hp).imp id fun z=>⟨none_of z.1,none_of z.2⟩⟩
theorem pW(Gr:Ground k c base mg mb)(D:∀g Fn,k.P.fn g=some Fn→∃o fd body names,FnAt k c base g Fn o fd body names):∀(n:Nat) (A:Around) (f0:Fm),tQ A n→xx ⟨k,base,A,f0,aa k.P n⟩ A
 |0,_,_,_=>fun g vs H σ mvs Z S rv q=>q.elim
 |n+1,A,f0,rm=>fun g vs H σ mvs Z S rv q=>we q fun Fn eF q=>wif q fun hlen q=>by
  have ih:=pW Gr D n
  obtain⟨o,fd,body,names,d⟩:=D g Fn eF
  have p:=Fc d.plain
  have mlen:=VRs.length rv
  have p14:=p.p14
  have ml:mvs.length=(names.take Fn.np).length:=by rw[List.length_take];lia
  have tn:(names.take Fn.np).Nodup:=p.p12.sublist (List.take_sublist ..)
  refine codeAny_call_def (by have:=rm.d;lia) (S.dV _ _ d.get) d.func (Heap.NoLimit.keeps Gr.G.lim S.dV) (d.code.keeps S.dV) d.bdy (vW p.p1 p.p2 p.p3 p.p4 p.p5 p.p6 tn ml) p.p10 (fun x hx=>p.p11 _ (List.mem_of_mem_take (List.of_mem_zip (a:=x.1) (b:=x.2) hx).1)) (fun h₀ hns hk=>?_) p.p7 p.p8 p.p9
  have nn:=bG σ.s.heap
  have FK:Pp ⟨callEnv fd σ.s.heap.objs.size (k.fa g),names⟩:=⟨p.p9,d.glob,d.blt,fun x hx=>p.p11 x hx,p.p12,fun x hx=>p.p13 x hx⟩
  have X:Cx ⟨k,base,A.deeper (callEnv fd σ.s.heap.objs.size (k.fa g)),⟨callEnv fd σ.s.heap.objs.size (k.fa g),names⟩,aa k.P n⟩ {c with loc:=names,sc:=fd.scope} mg mb:=
   {P:=Gr.P,tx:=Gr.tx,T:=Gr.T,G:=Gr.G,cls:=Gr.cls,fn:=Gr.fn,blt:=Gr.blt,FG:=Gr.FG,Ic:=Gr.Ic,th:=Gr.th,nm:=Gr.nm,af:=Gr.af,new:=Gr.new,set:=Gr.set,K:=FK,loc:=rfl,sc:=rfl,hh:=rm.h,
    hu:=by have:=rm.u;show A.units+3+100<cLine;lia,call:=ih _ f0 (rm.deeper _),Ja:=fun C args=>ih _ f0 (rm.jx _ C args)}
  have hm:Hm ⟨k,base,A.deeper (callEnv fd σ.s.heap.objs.size (k.fa g)),⟨callEnv fd σ.s.heap.objs.size (k.fa g),names⟩,aa k.P n⟩ noX σ σ.s.heap.objs.size H ⟨σ.R,σ.s.heap.objs.size::σ.F,upd σ.s h₀ (σ.s.toks+((names.take Fn.np).zip mvs).length)⟩:=
   ⟨Ext.of_stays hk,S.push hk nn (let ⟨ob,_,_,e,_⟩:=hns;⟨ob,e⟩),rfl,rfl⟩
  have o0:At ⟨k,base,A.deeper (callEnv fd σ.s.heap.objs.size (k.fa g)),⟨callEnv fd σ.s.heap.objs.size (k.fa g),names⟩,aa k.P n⟩ (vs.map some++List.replicate (Fn.nl-Fn.np) none) H ⟨σ.R,σ.s.heap.objs.size::σ.F,upd σ.s h₀ (σ.s.toks+((names.take Fn.np).zip mvs).length)⟩:=
   ⟨hm.S,Hq rfl p.p12 d.len p14 hlen (VRs.mono hm.x (fun ζ z=>z.elim) (fun b z=>(Zm z).elim (fun e=>.inr (e▸nn)) .inl) rv) hns,Ze ..⟩
  have body_ok:=vt X 20 body
  rw[d.text]at body_ok
  refine body_ok _ _ _ _ _ o0 (wb q fun x q mf σ1 m1 o1 r1=>?_)
  have back:Mv ⟨k,base,A,f0,aa k.P n⟩ noX σ x.2.2 ⟨σ1.R,σ.F,σ1.s⟩:=by
   obtain⟨R1,F1,s1⟩:=σ1
   obtain rfl:F1=_:=m1.F
   exact⟨BZ hk nn m1.x,m1.S.pop,rfl,m1.e⟩
  obtain⟨f,l1,H1⟩:=x
  induction f with
  |next=>obtain rfl:mf=.next:=r1;exact q _ ⟨σ1.R,σ.F,σ1.s⟩ back rfl
  |ret v=>obtain⟨mv,rfl,r⟩:=r1;exact q _ ⟨σ1.R,σ.F,σ1.s⟩ back (VR.D6 (d:=σ.s.heap.objs.size) (by rw[←show σ1.F=σ.s.heap.objs.size::σ.F from m1.F];exact r))
end
mutual
noncomputable def thV:V→Option Int
 |.int i=>some (hashInt i)
 |.tup l=>(thL l).bind fun hs=>some (reduceHash (Builtin.Tuple.tupleHashOf hs))
 |_=>none
noncomputable def thL:List V→Option (List Int)
 |[]=>some []
 |v::l=>(thV v).bind fun h=>(thL l).bind fun hs=>some (h::hs)
end
noncomputable def th0(v:V):Option Int:=match v with
 |.tup l=>if V.flat (.tup l)&&decide (l.length≤1000)then thV (.tup l)else none
 |_=>none
structure TI (k:Lk)(R:Ro)(F:List Addr)(n:Nat)(hs:List Int)(s0:Shared)(rest:List Value)(b:Array Int)(s:Shared):Prop where
 ex:∃left hs' tk,VRs k s0.heap R F left rest∧(∀u∈left,iy n u=true)∧thL left=some hs'∧b.toList++hs'=hs∧s={s0 with toks:=tk}
section
variable{k:Lk}{base:Heap}{E:Value→Shared→Prop}{R:Ro}{F:List Addr}
theorem uv:∀(n:Nat) {v:V} {x:Int} {mv:Value} {A:Around} {s:Shared} {Q:Int→Shared→Prop},iy n v=true→thV v=some x→A.units+n<cLine→VR k s.heap R F v mv→(∀tk,Q x {s with toks:=tk})→wpAny (model k.pr k.w) A (pyHash mv) Q E s
 |n,.int i,x,mv,A,s,Q,hf,ht,hu,r,q=>by cases ht;obtain⟨t,rfl⟩:=r;exact wpAny_pyHash_int (q _)
 |n+1,.tup l,x,mv,A,s,Q,hf,ht,hu,r,q=>by
  obtain⟨hs,ehs,ht⟩:=Zd (show (thL l).bind _=_ from ht)
  obtain⟨a,items,rfl,_,tt,rr⟩:=r
  have hT:s.TypeIs (.ref a) "tuple":=IsTup.typeIs tt
  obtain⟨o,ho,_,nn,hd⟩:=id tt
  have hfl:∀u∈l,iy n u=true:=Zk hf
  unfold pyHash
  first|unfold pyHashByItsType|skip
  first|refine wpAny_bind (wpAny_cRoomFor_or (.inr (by lia)) ?_)|skip
  refine wpAny_bind (wpAny_specialOf hT PySem.F.slot_tuple_hash.lookup ?_)
  show wpAny _ _ (if (some (Value.builtin "tuple.__hash__") ==some Value.none)=true then _ else _) Q E s
  rw[if_neg (by rw[beq_builtin_none];exact Zc)]
  refine wpAny_bind (wpAny_specialOf hT PySem.F.slot_tuple_hash.lookup ?_)
  show wpAny _ _ (callSpecialIfBoundUnlessNone? (.ref a) "__hash__" _ >>= _) Q E s
  refine wpAny_bind (wpAny_callSpecialIfBoundUnlessNone?_slot hT PySem.F.slot_tuple_hash (wpAny_call_entry PySem.F.slot_tuple_hash hT PySem.F.entry_tuple_hash ?_ (PySem.F.args_tuple_hash_1 _)))
  show wpAny _ _ (Builtin.Tuple.tupleItemsOf (.ref a) >>= _) _ _ s
  refine wpAny_bind (wpAny_tupleItemsOf ho hd (wpAny_bind ?_))
  rw[←Array.forIn_toList]
  refine wpAny_forIn_list _ (TI k R F n hs s) _ (fun y rest b s' I=>hide fun G hG=>?_) (fun b s' I=>hide fun G hG=>?_) _ _ ⟨l,hs,s.toks,rr,hfl,ehs,rfl,rfl⟩
  ·obtain⟨left,hs',tk,hv,hfl,hth,hb,rfl⟩:=I
   cases left with
   |nil=>exact hv.elim
   |cons u left=>
    obtain⟨hx,e1,hth⟩:=Zd (show (thV u).bind _=_ from hth)
    obtain⟨hxs,e2,hth⟩:=Zd hth
    cases hth
    have fin:∀tk',TI k R F n hs s rest (b.push hx) {s with toks:=tk'}:=fun tk'=>⟨left,hxs,tk',hv.2,fun z hz=>hfl z (Zh _ hz),e2,by rw[Array.toList_push,List.append_assoc];exact hb,rfl⟩
    refine hG (wpAny_bind (uv n (s:={s with toks:=tk}) (hfl u (Ze ..)) e1 (by show A.units+1+n<cLine;lia) hv.1 fun tk'=>?_))
    first|exact wpAny_pure (fin tk')|exact wpAny_bind (wpAny_pure (wpAny_pure (fin tk')))
  ·obtain⟨left,hs',tk,hv,hfl,hth,hb,rfl⟩:=I
   induction left with
   |cons u left=>exact hv.elim
   |nil=>
    cases hth
    rw[List.append_nil]at hb
    refine hG (show wpAny _ _ (retInt (Builtin.Tuple.tupleHashOf b.toList)) _ _ _ from ?_)
    rw[hb]
    refine wpAny_ret_mkInt ?_
    show wpAny _ _ (if (decide (-(2:Int)^63≤Builtin.Tuple.tupleHashOf hs)&&decide (Builtin.Tuple.tupleHashOf hs<2^63))=true then _ else _) Q E _
    cases ht
    unfold reduceHash at q
    by_cases hr:(decide (-(2:Int)^63≤Builtin.Tuple.tupleHashOf hs)&&decide (Builtin.Tuple.tupleHashOf hs<2^63))=true
    ·rw[if_pos hr]
     rw[if_pos hr]at q
     exact wpAny_pure (q _)
    ·rw[if_neg hr]
     rw[if_neg hr]at q
     exact wpAny_bind (wpAny_rule (wpAny_pure (q _)))
 |0,.tup l,_,_,_,_,_,hf,_,_,_,_=>nomatch hf
 |_,.none,_,_,_,_,_,_,ht,_,_,_=>nomatch ht
 |_,.bool _,_,_,_,_,_,_,ht,_,_,_=>nomatch ht
 |_,.str _,_,_,_,_,_,_,ht,_,_,_=>nomatch ht
 |_,.fl _,_,_,_,_,_,_,ht,_,_,_=>nomatch ht
 |_,.cd _,_,_,_,_,_,_,ht,_,_,_=>nomatch ht
 |_,.ref _,_,_,_,_,_,_,ht,_,_,_=>nomatch ht
theorem vE{x:V}{n:Int}(e:th0 x=some n):∃l,x=.tup l∧V.flat x=true∧thV x=some n:=by
 cases x<;>first|(cases e;done)|skip
 obtain⟨h,e⟩:=tZ e
 exact⟨_,rfl,(Z3 h).1,e⟩
theorem RD(h:k.P.eH=th0):y6 k where
 tup:=fun x n e=>let ⟨l,e,_⟩:=vE (h▸e);⟨l,e⟩
 flat:=fun x n e=>(vE (h▸e)).elim fun l z=>z.2.1
 hash:=fun x n e A E s R F mv Q hu r q=>(vE (h▸e)).elim fun l z=>uv 4 z.2.1 z.2.2 (by lia) r q
end
end Mini.Internal
end
section
namespace Mini.Internal
namespace Q
noncomputable abbrev g0:E:=.gl 0
noncomputable abbrev g1:E:=.gl 1
noncomputable abbrev g40:E:=.gl 40
noncomputable abbrev g54:E:=.gl 54
noncomputable abbrev g58:E:=.gl 58
noncomputable abbrev i0:E:=.cst (.int 0)
noncomputable abbrev i1:E:=.cst (.int 1)
noncomputable abbrev i10:E:=.cst (.int 10)
noncomputable abbrev i11:E:=.cst (.int 11)
noncomputable abbrev i12:E:=.cst (.int 12)
noncomputable abbrev i13:E:=.cst (.int 13)
noncomputable abbrev i16:E:=.cst (.int 16)
noncomputable abbrev i17:E:=.cst (.int 17)
noncomputable abbrev i18:E:=.cst (.int 18)
noncomputable abbrev i19:E:=.cst (.int 19)
noncomputable abbrev i2:E:=.cst (.int 2)
noncomputable abbrev i20:E:=.cst (.int 20)
noncomputable abbrev i22:E:=.cst (.int 22)
noncomputable abbrev i25:E:=.cst (.int 25)
noncomputable abbrev i3:E:=.cst (.int 3)
noncomputable abbrev i32:E:=.cst (.int 32)
noncomputable abbrev i4:E:=.cst (.int 4)
noncomputable abbrev i5:E:=.cst (.int 5)
noncomputable abbrev i6:E:=.cst (.int 6)
noncomputable abbrev i64:E:=.cst (.int 64)
noncomputable abbrev i7:E:=.cst (.int 7)
noncomputable abbrev i8:E:=.cst (.int 8)
noncomputable abbrev i9:E:=.cst (.int 9)
noncomputable abbrev v0:E:=.loc 0
noncomputable abbrev v1:E:=.loc 1
noncomputable abbrev v11:E:=.loc 11
noncomputable abbrev v14:E:=.loc 14
noncomputable abbrev v2:E:=.loc 2
noncomputable abbrev v3:E:=.loc 3
noncomputable abbrev v4:E:=.loc 4
noncomputable abbrev v5:E:=.loc 5
noncomputable abbrev v6:E:=.loc 6
noncomputable abbrev v7:E:=.loc 7
noncomputable abbrev v8:E:=.loc 8
noncomputable abbrev v9:E:=.loc 9
noncomputable abbrev n0:E:=.cst .none
noncomputable abbrev t0:E:=.cst (.str 0)
noncomputable abbrev t11:E:=.cst (.str 11)
noncomputable abbrev t32:E:=.cst (.str 32)
noncomputable abbrev t34:E:=.cst (.str 34)
noncomputable abbrev t36:E:=.cst (.str 36)
noncomputable abbrev t37:E:=.cst (.str 37)
noncomputable abbrev t38:E:=.cst (.str 38)
noncomputable abbrev t40:E:=.cst (.str 40)
noncomputable abbrev t41:E:=.cst (.str 41)
noncomputable abbrev t44:E:=.cst (.str 44)
noncomputable abbrev t45:E:=.cst (.str 45)
noncomputable abbrev t46:E:=.cst (.str 46)
noncomputable abbrev t47:E:=.cst (.str 47)
noncomputable abbrev t48:E:=.cst (.str 48)
noncomputable abbrev t49:E:=.cst (.str 49)
noncomputable abbrev t50:E:=.cst (.str 50)
noncomputable abbrev t51:E:=.cst (.str 51)
noncomputable abbrev t52:E:=.cst (.str 52)
noncomputable abbrev t56:E:=.cst (.str 56)
noncomputable abbrev t57:E:=.cst (.str 57)
noncomputable abbrev t6:E:=.cst (.str 6)
noncomputable abbrev t60:E:=.cst (.str 60)
noncomputable abbrev t65:E:=.cst (.str 65)
noncomputable abbrev t66:E:=.cst (.str 66)
end Q
open Q
noncomputable def pe:List S:=[.asg 1 (.sub v0 i0),.ite (.bop false [.cmp .eq v1 g0,.cmp .eq v1 g1]) [.ret (.sub v0 i2)] [],.ite (.bop false [.cmp .eq v1 (.gl 2),.cmp .eq v1 (.gl 3),.cmp .eq v1 (.gl 4),.cmp .eq v1 (.gl 5),.cmp .eq v1 (.gl 6)]) [.ret (.tup [.sub v0 i1])] [],.ite (.cmp .eq v1 (.gl 7)) [.ret (.bin .add (.tup [.sub v0 i1]) (.sub v0 i3))] [],.ret (.tup [])]
noncomputable def t7:List S:=[.ite (.bop false [.cmp .eq v0 g0,.cmp .eq v0 g1,.cmp .eq v0 (.gl 2)]) [.ret i1] [],.ret i0]
noncomputable def sd:List S:=[.ite (.bop false [.cmp .eq v0 g0,.cmp .eq v0 g1]) [.ret i3] [],.ite (.cmp .eq v0 (.gl 7)) [.ret i4] [],.ret i2]
noncomputable def kM:List S:=[.ite (.bop false [.cmp .eq (.len v1) i0,.cmp .le (.sub v1 i0) (.gl 8),.cmp .gt (.sub v1 i0) (.gl 6)]) [.bad] [],.asg 2 (.sub v1 i0),.ite (.cmp .ne (.len v1) (.call 3 [v2])) [.bad] [],.oX 3 (.call 1 [v1]) [.ex (.af v0 1 [v3])],.ite (.bop false [.cmp .eq v2 g0,.cmp .eq v2 g1]) [.ex (.call 5 [v0,v1])] [.ite (.bop false [.cmp .eq v2 (.gl 9),.cmp .eq v2 (.gl 10)]) [.ite (.cmp .lt (.sub v1 i1) i0) [.bad] []] [.ite (.cmp .eq v2 (.gl 7)) [.ite (.bop false [.no (.e (.call 7 [v0,.sub v1 i1])),.cmp .lt (.sub v1 i2) i0]) [.bad] [],.ex (.call 6 [v0,.sub v1 i3])] [.ite (.cmp .eq v2 (.gl 4)) [.ite (.no (.bop false [.e (.call 11 [v0,.sub v1 i1]),.e (.call 13 [v0,.sub v1 i1])])) [.bad] []] [.ite (.no (.e (.call 7 [v0,.sub v1 i1]))) [.bad] []]]]]]
noncomputable def o9:List S:=[.ite (.bop false [.cmp .le (.sub v1 i1) i0,.cmp .inn (.sub v1 i1) (.gl 11)]) [.bad] [],.ex (.call 6 [v0,.sub v1 i2])]
noncomputable def qv:List S:=[.oX 2 v1 [.ite (.no (.e (.call 7 [v0,v2]))) [.bad] []]]
noncomputable def tU:List S:=[.ite (.bop false [.cmp .eq v1 (.gl 12),.cmp .eq v1 (.gl 13)]) [.ret (.cst (.bool false))] [],.asg 2 (.sub (.af v0 1 [v1]) i0),.ret (.bop false [.cmp .le v2 (.gl 2),.cmp .eq v2 (.gl 9),.cmp .eq v2 (.gl 10)])]
noncomputable def uf:List S:=[.ret (.sub (.af v0 1 [v1]) i0)]
noncomputable def DH:List S:=[.asg 2 (.af v0 1 [v1]),.ite (.bop false [.cmp .eq (.sub v2 i0) g0,.cmp .eq (.sub v2 i0) g1]) [.ret (.sub v2 i1)] [],.ite (.cmp .eq (.sub v2 i0) (.gl 8)) [.ret (.af (.gl 14) 2 [v1,i0])] [],.ite (.cmp .eq (.sub v2 i0) (.gl 2)) [.ret (.gl 15)] [],.ret i0]
noncomputable def zk:List S:=[.asg 2 (.af v0 1 [v1]),.ite (.bop false [.cmp .eq (.sub v2 i0) g0,.cmp .eq (.sub v2 i0) g1]) [.ret (.sub v2 i2)] [],.ret (.tup [])]
noncomputable def xd:List S:=[.ite (.bop true [.cmp .le (.gl 16) v1,.cmp .le v1 (.gl 17)]) [.ret (.cst (.bool true))] [],.ret (.cmp .eq (.sub (.af v0 1 [v1]) i0) g1)]
noncomputable def CC:List S:=[.ite (.bop false [.cmp .eq v1 (.gl 18),.cmp .eq v1 (.gl 19),.cmp .eq v1 (.gl 13)]) [.ret (.cst (.bool true))] [],.asg 2 (.sub (.af v0 1 [v1]) i0),.ret (.bop false [.cmp .eq v2 g0,.cmp .eq v2 (.gl 2),.cmp .eq v2 (.gl 4)])]
noncomputable def CT:List S:=[.asg 2 (.sub (.af v0 1 [v1]) i0),.ret (.bop false [.cmp .eq v2 (.gl 9),.cmp .eq v2 (.gl 10)])]
noncomputable def va:List S:=[.ite (.cmp .nin v0 (.gl 20)) [.bad] [],.ret (.sub (.gl 20) v0)]
noncomputable def DJ:List S:=[.ret (.bop true [.cmp .le (.gl 16) v0,.cmp .le v0 (.gl 17)])]
noncomputable def zV:List S:=[.asg 2 (.call 9 [.attr v0 3,v1]),.ite (.bop false [.cmp .le v2 i0,.cmp .ge v2 (.len (.attr v0 4))]) [.ret n0] [],.ret (.sub (.attr v0 4) v2)]
noncomputable def r9:List S:=[.ite (.cmp .ne (.call 8 [.attr v0 3,v1]) g1) [.ret v1] [],.asg 2 (.call 16 [v0,v1]),.ite (.cmp .isn v2 n0) [.bad] [],.ite (.cmp .ne (.attr v2 5) (.gl 21)) [.ret v1] [],.ite (.no (.e (.call 15 [.attr v2 6]))) [.bad] [],.ret (.attr v2 6)]
noncomputable def DK:List S:=[.asg 4 (.len (.attr v0 7)),.ex (.af (.attr v0 7) 8 [.new 5 [v4,v1,v2,v3]]),.ite (.e v1) [.aC (.attr v0 9) v1 v4] [],.ret v4]
noncomputable def y7:List S:=[.asg 5 (.len (.attr v0 10)),.ex (.af (.attr v0 10) 8 [.new 4 [v5,v2,v3,v4,v1]]),.ite (.e v1) [.ex (.af (.attr (.sub (.attr v0 7) v1) 11) 8 [v5])] [],.ret v5]
noncomputable abbrev qc:Nat:=19
noncomputable def sC:List S:=[.asg 2 (.af (.attr v0 12) 2 [v1]),.ite (.e v2) [.ret (.af v2 13 [])] [],.ex (.af (.attr v0 14) 8 [v1]),.ret (.bin .sub (.len (.attr v0 14)) i1)]
noncomputable def uP:List S:=[.asg 2 (.sub (.attr v0 14) v1),.asg 3 (.af (.attr v0 12) 2 [v2]),.ite (.cmp .isn v3 n0) [.asg 3 (.aX []),.aC (.attr v0 12) v2 v3] [],.ex (.af v3 8 [v1])]
noncomputable def uF:List S:=[.asg 2 (.af (.attr v0 15) 2 [.sub v1 i0]),.ite (.cmp .isn v2 n0) [.bad] [],.ex (.af v2 16 [v0,v1])]
noncomputable def oG:List S:=[.asg 2 (.af (.attr v0 17) 2 [.sub v1 i0]),.ite (.cmp .jh v2 n0) [.ex (.af v2 16 [v0,v1]),.iq] [],.ex (.call 22 [v0,v1]),.ite (.cmp .ne (.sub v1 i1) (.gl 12)) [.ex (.af v0 18 [.gl 22,i0])] []]
noncomputable def sX:List S:=[.asg 4 (.af (.attr v0 19) 2 [.sub v1 i0]),.ite (.cmp .jh v4 n0) [.ex (.af v4 20 [v0,v1,v2,v3]),.iq] [],.ex (.call 22 [v0,v1]),.ite (.e v2) [.ex (.af v0 18 [.gl 23,v3])] [.ex (.af v0 18 [.gl 24,v3])]]
noncomputable def wD:List S:=[.asg 2 (.af (.attr v0 21) 2 [v1]),.ite (.cmp .isn v2 n0) [.ex (.af (.attr v0 14) 8 [.attr (.sub (.attr (.attr v0 22) 10) v1) 23]),.asg 2 (.bin .sub (.len (.attr v0 14)) i1),.aC (.attr v0 21) v1 v2] [],.ret v2]
noncomputable def BV:List S:=[.asg 2 (.sub (.attr (.attr v0 22) 10) v1),.ret (.bop true [.cmp .ne (.bin .band (.attr v2 24) (.bin .bor (.gl 25) (.gl 26))) i0,.cmp .inn v1 (.attr v0 25)])]
noncomputable def kJ:List S:=[.ite (.bop true [.cmp .eq (.call 8 [v0,v1]) g1,.cmp .eq (.call 9 [v0,v1]) (.gl 27)]) [.ret (.sub (.call 10 [v0,v1]) i0)] [],.ret (.neg i1)]
noncomputable def AD:List S:=[.ite (.e (.call 13 [.attr v0 3,v1])) [.ex (.af v0 18 [.gl 28,v1])] []]
noncomputable def oM:List S:=[.asg 2 (.bin .shl i1 (.bin .sub v1 i1)),.ret (.bin .sub (.bin .mod (.bin .add v0 v2) (.bin .mul v2 i2)) v2)]
noncomputable def y5:List S:=[.ret (.bop false [.cmp .eq v0 (.gl 29),.cmp .eq v0 (.gl 30)])]
noncomputable def q9:List S:=[.asg 3 (.call 17 [.attr v0 26,v1]),.ite (.e (.call 32 [v3])) [.ex (.af v0 18 [.gl 31,.call 31 [v2,i64]])] [.ite (.e (.call 15 [v3])) [.ex (.af v0 18 [.gl 32,.call 31 [v2,i32]]),.ite (.cmp .eq v3 (.gl 17)) [.ex (.af v0 18 [.gl 33,i0])] []] [.ite (.cmp .jh v2 n0) [.ex (.af v0 18 [.gl 34,v2])] [.ex (.call 34 [v0,v1])]]]]
noncomputable def mP:List S:=[.asg 2 (.call 17 [.attr v0 26,v1]),.ite (.e (.call 15 [v2])) [.ex (.call 33 [v0,v2,i0])] [.ite (.e (.call 12 [.attr v0 3,v1])) [.ex (.af v0 18 [.gl 35,i0])] [.asg 3 (.af v0 27 [v1]),.ex (.af v0 18 [.gl 36,v3]),.ex (.af v0 18 [.gl 37,v1]),.ex (.af v0 18 [.gl 38,v3]),.ex (.af v0 28 [v3])]]]
noncomputable def oT:List S:=[.asg 2 (.call 17 [.attr v0 26,v1]),.ret (.bop true [.call 15 [v2],.cmp .eq (.sub (.call 14 [v2]) i0) i0])]
noncomputable def oV:List S:=[.ex (.af v0 18 [.gl 32,i0]),.ex (.af v0 18 [.gl 39,i0])]
noncomputable def rA:List S:=[.ex (.af v0 29 [.sub v1 i3]),.ex (.call 30 [v0,.sub (.sub v1 i3) i1]),.ex (.af v0 29 [.sub v1 i4]),.ex (.call 30 [v0,.sub (.sub v1 i4) i1])]
noncomputable def qg:List S:=[.asg 2 (.cst (.int 31)),.ite (.e (.call 32 [.call 17 [.attr v0 26,.sub (.sub v1 i3) i1]])) [.asg 2 (.cst (.int 63))] [],.ex (.af v0 29 [.sub v1 i3]),.ite (.cmp .eq (.sub (.sub v1 i4) i0) g40) [.ex (.af v0 18 [.gl 32,.bin .band (.sub (.sub v1 i4) i2) v2]),.iq] [],.ex (.af v0 29 [.sub v1 i4]),.ex (.af v0 18 [.gl 32,v2]),.ex (.af v0 18 [.gl 41,i0])]
noncomputable def sq:List S:=[.ite (.cmp .eq v3 v2) [.ex (.call 26 [v0,.sub v1 i2,v3,v4]),.ex (.call 26 [v0,.sub v1 i3,v3,v4]),.iq] [],.asg 5 (.af v0 30 []),.ex (.call 26 [v0,.sub v1 i2,v2,v5]),.ex (.call 26 [v0,.sub v1 i3,v3,v4]),.ex (.af v0 31 [v5])]
noncomputable def lJ:List S:=[.ite (.bop false [.no (.e (.call 12 [.attr v0 3,v1])),.cmp .eq v1 (.gl 18),.cmp .eq v1 (.gl 19)]) [.ret (.cst (.bool false))] [],.ite (.cmp .eq (.call 8 [.attr v0 3,v1]) (.gl 2)) [.ret (.cst (.bool true))] [],.asg 2 (.call 16 [.attr v0 26,v1]),.ret (.bop true [.cmp .jh v2 n0,.bop false [.cmp .eq (.attr v2 5) (.gl 42),.cmp .eq (.attr v2 5) (.gl 43)]])]
noncomputable def uu:List S:=[.ex (.af v0 29 [v1]),.ite (.cmp .ge v2 i0) [.ex (.af v0 18 [.gl 44,v2])] []]
noncomputable def oL:List S:=[.ite (.cmp .eq v1 v2) [.iq] [],.unp [6,7] (.call 14 [v1]),.unp [8,9] (.call 14 [v2]),.asg 4 (.bop true [.cmp .le v8 v6,.cmp .le v7 v9]),.asg 5 (.sub (.gl 45) v2),.ite (.bop true [.e v3,.no (.e v4)]) [.ex (.af v0 18 [.ife (.cmp .eq v6 i0) (.sub v5 i2) (.sub v5 i1),i0])] [.ite (.e (.call 32 [v2])) [.ite (.no (.e (.call 32 [v1]))) [.ex (.af v0 18 [.ife (.cmp .eq v6 i0) (.gl 46) (.gl 47),i0])] []] [.ite (.bop false [.cmp .eq v2 (.gl 48),.cmp .eq v2 (.gl 49)]) [.ite (.e (.call 32 [v1])) [.ex (.af v0 18 [.sub v5 i0,i0])] []] [.ite (.no (.e v4)) [.ex (.af v0 18 [.sub v5 i0,i0])] []]]]]
noncomputable def tD:List S:=[.ex (.af v0 29 [v1]),.ite (.bop false [.e (.call 11 [.attr v0 3,.sub v1 i1]),.e (.call 13 [.attr v0 3,.sub v1 i1])]) [.ex (.af v0 18 [.gl 28,.sub v1 i1])] [],.asg 3 (.call 29 [.attr v0 3,v2]),.ex (.af v0 18 [.gl 50,.ife (.cmp .lt v3 i0) v2 v3])]
noncomputable def iU:List S:=[.aC (.attr v0 15) g40 (.new 10 []),.aC (.attr v0 15) (.gl 51) (.new 11 []),.aC (.attr v0 15) (.gl 52) (.new 12 []),.aC (.attr v0 17) g40 (.new 13 []),.aC (.attr v0 19) g40 (.new 14 [])]
noncomputable def gB:List S:=[.aC (.attr v0 15) (.gl 53) (.new 15 []),.aC (.attr v0 15) g54 (.new 17 []),.aC (.attr v0 15) (.gl 55) (.new 19 []),.aC (.attr v0 15) (.gl 56) (.new 19 []),.aC (.attr v0 15) (.gl 57) (.new 22 []),.aC (.attr v0 17) (.gl 57) (.new 23 []),.aC (.attr v0 19) (.gl 53) (.new 16 []),.aC (.attr v0 19) g54 (.new 18 []),.aC (.attr v0 19) (.gl 55) (.new 20 []),.aC (.attr v0 19) (.gl 56) (.new 21 [])]
noncomputable def j0:List S:=[.aC (.attr v0 15) g58 (.new 24 []),.aC (.attr v0 15) (.gl 59) (.new 25 []),.aC (.attr v0 15) (.gl 60) (.new 27 []),.aC (.attr v0 19) (.gl 59) (.new 26 [])]
noncomputable def pn:List S:=[.ret (.lx 7)]
noncomputable def o8:List S:=[.ret (.lx 8)]
noncomputable def tu:List S:=[.asg 2 (.bin .mod (.sub v0 t32) v1),.gF v0 t32 .fdiv v1,.ret v2]
noncomputable abbrev dT:Nat:=49
noncomputable def uJ:List S:=[.aC v0 t32 i0,.ite (.e (.sub v0 (.cst (.str 33)))) [.aC v0 t32 (.bin .mod (.af (.sub v0 (.cst (.str 33))) 13 [i0]) (.bin .pow i2 (.cst (.int 30))))] []]
noncomputable abbrev de:Nat:=50
noncomputable def sU:List S:=[.ret (.ife (.cmp .eq v1 i19) (.sub v0 t34) v1)]
noncomputable abbrev gY:Nat:=51
noncomputable def rT:List S:=[.ret (.ife (.cmp .eq v1 i16) (.sub v0 t6) (.call 51 [v0,v1]))]
noncomputable abbrev jZ:Nat:=52
noncomputable def vk:List S:=[.asg 2 (.call 49 [v0,i3]),.asg 3 (.sub (.call 48 []) (.call 52 [v0,v1])),.asg 4 (.sub v3 (.call 49 [v0,.len v3])),.ite (.cmp .eq v2 i0) [.asg 5 (.call 19 [.sub v0 (.cst (.str 22)),i1,.cst (.str 35),v1,i0]),.aC (.sub v0 t36) v5 v4,.ret (.tup [.gl 61,v1,v5])] [],.ite (.bop true [.cmp .eq v2 i1,.bop false [.cmp .lt v1 i12,.cmp .eq v1 i16]]) [.ret (.tup [g40,v1,v4])] [],.ite (.bop true [.cmp .eq v2 i1,.cmp .eq v1 i13]) [.ret (.tup [g40,i13,.ife (.cmp .isn v4 n0) n0 (.sub v4 i1)])] [],.ite (.bop true [.cmp .eq v2 i1,.cmp .eq v1 i12]) [.ret (.tup [g40,i12,n0])] [],.ret (.tup [.gl 51,v1])]
noncomputable abbrev aH:Nat:=53
noncomputable def ua:List S:=[.ex (.call 50 [v0]),.gF v0 t37 .sub i1,.ite (.bop false [.cmp .lt (.sub v0 t37) i0,.cmp .gt v2 i3,.cmp .lt (.call 49 [v0,i6]) v2]) [.ret (.call 53 [v0,v1])] [],.ite (.cmp .eq v1 i1) [.ret (.call 57 [v0,.bin .add v2 i1])] [],.ite (.cmp .lt v1 i11) [.ret (.call 56 [v0,v1,.bin .add v2 i1])] [],.ret (.call 60 [v0,v1,.bin .add v2 i1])]
noncomputable abbrev aw:Nat:=54
noncomputable def oH:List S:=[.asg 3 (.call 54 [v0,i1,v2]),.asg 4 (.call 54 [v0,v1,v2]),.ret (.tup [.gl 57,v1,v3,v4,.call 54 [v0,v1,v2]])]
noncomputable abbrev fs:Nat:=55
noncomputable def fj:List S:=[.asg 3 (.call 49 [v0,i8]),.asg 4 (.call 49 [v0,i2]),.ite (.bop true [.cmp .lt v1 i7,.cmp .inn v3 (.tup [i0,i3,i4,i7])]) [.asg 3 i1] [],.ite (.cmp .eq v3 i1) [.ret (.tup [g58,v1,.call 54 [v0,.sub (.gl 62) (.call 49 [v0,i10]),v2],i1,v4])] [],.ite (.cmp .eq v3 i2) [.ret (.call 55 [v0,v1,v2])] [],.ite (.cmp .eq v3 i4) [.asg 5 (.ife (.bop true [.cmp .eq (.call 49 [v0,i2]) i0,.cmp .inn v1 (.tup [i7,i9])]) t38 (.cst (.str 39))),.ret (.tup [.gl 53,v1,v5,.call 54 [v0,v1,v2],v4])] [],.ite (.cmp .eq v3 i5) [.ret (.tup [g58,v1,.call 54 [v0,i12,v2],i5,i0])] [],.ite (.cmp .eq v3 i6) [.ret (.tup [g58,v1,.call 54 [v0,v1,v2],i10,i0])] [],.ite (.cmp .eq v3 i3) [.asg 5 (.sub (.tup [t40,t41]) (.call 49 [v0,i2])),.asg 6 (.call 54 [v0,v1,v2]),.ret (.tup [g54,v1,v5,v6,.call 54 [v0,i7,v2],v4])] [],.asg 5 (.sub (.tup [.cst (.str 42),t38,.cst (.str 43),t44,t45,t46,t47,t48]) (.call 49 [v0,i8])),.asg 6 (.call 54 [v0,v1,v2]),.ret (.tup [g54,v1,v5,v6,.call 54 [v0,v1,v2],v4])]
noncomputable abbrev av:Nat:=56
noncomputable def rL:List S:=[.asg 2 (.call 49 [v0,i9]),.ite (.cmp .eq v2 i1) [.ret (.tup [.gl 53,i1,t49,.call 54 [v0,i1,v1],i0])] [],.ite (.cmp .inn v2 (.tup [i2,i3])) [.asg 5 (.call 54 [v0,i1,v1]),.ret (.tup [.ife (.cmp .eq v2 i2) (.gl 55) (.gl 56),i1,v5,.call 54 [v0,i1,v1]])] [],.ite (.cmp .eq v2 i4) [.asg 4 (.sub (.tup [t46,t47,t48,t50,t51]) (.call 49 [v0,i5])),.asg 5 (.call 54 [v0,i1,v1]),.ret (.tup [g54,i1,v4,v5,.call 54 [v0,i1,v1],i0])] [],.ite (.cmp .eq v2 i5) [.ret (.call 58 [v0,v1])] [],.ite (.cmp .eq v2 i6) [.asg 6 (.sub (.tup [i12,i20,i7,i17,i19,i18,i16]) (.call 49 [v0,i7])),.asg 7 (.sub (.gl 63) (.call 49 [v0,i11])),.ret (.tup [.gl 59,i1,.call 54 [v0,v6,v1],v7,i0])] [],.ite (.cmp .eq v2 i8) [.ret (.call 55 [v0,i1,v1])] [],.asg 3 (.sub (.gl 62) (.call 49 [v0,i10])),.asg 4 (.sub (.gl 64) (.call 49 [v0,i6])),.asg 5 (.call 54 [v0,v3,v1]),.ret (.tup [g54,i1,v4,v5,.call 54 [v0,v3,v1],i0])]
noncomputable abbrev a6:Nat:=57
noncomputable def qM:List S:=[.asg 2 (.sub (.gl 64) (.call 49 [v0,i2])),.asg 3 (.sub (.tup [i12,i20,i19,i13,i19]) (.call 49 [v0,i5])),.asg 4 (.call 49 [v0,i2]),.asg 5 (.call 54 [v0,v3,v1]),.ite (.cmp .ne v3 i19) [.ret (.tup [g54,i1,v2,v5,.call 54 [v0,v3,v1],i0])] [],.ite (.e v4) [.ret (.tup [g54,i1,v2,.tup [g40,i12,n0],v5,i0])] [],.ret (.tup [g54,i1,v2,v5,.tup [g40,i12,n0],i0])]
noncomputable abbrev jY:Nat:=58
noncomputable def mL:List S:=[.ret (.tup [g58,v0,.tup [g40,.cst (.int 14),n0],i8,i0])]
noncomputable def qu:List S:=[.asg 3 (.call 49 [v0,i5]),.ite (.bop false [.cmp .eq v3 i0,.cmp .eq v1 i11]) [.ret (.call 55 [v0,v1,v2])] [],.ite (.cmp .eq v1 i12) [.ite (.cmp .eq v3 i1) [.ret (.tup [g58,i12,.call 54 [v0,.sub (.gl 65) (.call 49 [v0,i10]),v2],i4,i0])] [],.ite (.cmp .eq v3 i2) [.ret (.tup [g58,i12,.call 54 [v0,.sub (.tup [i13,i20,.cst (.int 21),i22,.cst (.int 23),.cst (.int 24)]) (.call 49 [v0,i6]),v2],i2,i0])] [],.ite (.cmp .eq v3 i3) [.ret (.tup [g58,i12,.tup [.gl 52,i25,.sub (.gl 63) (.call 49 [v0,i11])],i2,i0])] [],.ret (.call 59 [i12])] [],.ite (.cmp .eq v1 i16) [.asg 5 (.call 49 [v0,i2]),.ret (.tup [g58,i16,.call 54 [v0,.bin .add i2 (.call 49 [v0,i9]),v2],i1,v5])] [],.ite (.cmp .inn v1 (.tup [i17,i18,i19])) [.ite (.cmp .eq v3 i4) [.ret (.ife (.cmp .eq v1 i17) (.call 59 [i17]) (.tup [.gl 51,v1]))] [],.ite (.bop true [.cmp .eq v3 i3,.bop false [.cmp .eq v1 i17,.bop true [.cmp .eq v1 i19,.cmp .eq (.sub v0 t34) i20]]]) [.ret (.tup [.gl 60,v1,.call 54 [v0,i12,v2]])] [],.ret (.tup [g58,v1,.call 54 [v0,i12,v2],.ife (.bop true [.cmp .eq v1 i19,.cmp .eq v3 i2]) i3 i5,i0])] [],.ite (.cmp .eq v3 i4) [.ret (.call 59 [v1])] [],.ite (.cmp .eq v3 i3) [.ret (.ife (.cmp .inn v1 (.tup [i20,i22])) (.tup [g58,v1,.call 54 [v0,.cst (.int 21),v2],i2,i0]) (.call 59 [v1]))] [],.asg 4 (.ife (.bop true [.cmp .inn v1 (.tup [i20,i22]),.e (.call 49 [v0,i2])]) i19 i12),.ite (.cmp .eq v3 i1) [.ret (.tup [g58,v1,.call 54 [v0,v4,v2],i3,i0])] [],.ret (.tup [.gl 60,v1,.call 54 [v0,v4,v2]])]
noncomputable abbrev bF:Nat:=60
noncomputable def tr:List S:=[.ite (.cmp .eq (.sub v0 t52) t0) [.aC v0 t52 v1] [],.ret i0]
noncomputable abbrev g8:Nat:=61
noncomputable def AP:List S:=[.ret (.bop false [.cmp .eq v1 i12,.cmp .eq v1 v0,.bop true [.cmp .eq v0 (.cst (.int 21)),.cmp .inn v1 (.tup [i20,i22])]])]
noncomputable abbrev Ae:Nat:=62
noncomputable def rR:List S:=[.asg 1 (.call 51 [v0,v1]),.ret (.ife (.bop false [.cmp .lt v1 i12,.cmp .inn v1 (.tup [i16,i18])]) i0 n0)]
noncomputable abbrev jB:Nat:=63
noncomputable def vV:List S:=[.asg 1 (.call 51 [v0,v1]),.ite (.bop false [.bop true [.cmp .ge v1 i12,.cmp .nin v1 (.tup [i16,i17,i18])],.bop true [.cmp .eq v1 i17,.cmp .isn v2 n0]]) [.ret v2] [],.gF v0 (.cst (.str 53)) .sub i1,.ret (.tup [.ife (.cmp .eq v1 i17) i7 v1,v2,.sub v0 (.cst (.str 53))])]
noncomputable abbrev eL:Nat:=64
noncomputable def qY:List S:=[.asg 1 (.call 51 [v0,v1]),.ite (.cmp .isn v2 n0) [.ret (.ife (.bop false [.cmp .lt v1 i12,.cmp .inn v1 (.tup [i16,i18])]) (.call 61 [v0,.cst (.str 54)]) n0)] [],.ite (.bop false [.cmp .lt v1 i12,.cmp .inn v1 (.tup [i16,i17,i18])]) [.ret (.ife (.cmp .eq (.sub v2 i0) (.ife (.cmp .eq v1 i17) i7 v1)) (.sub v2 i1) (.call 61 [v0,.cst (.str 55)]))] [],.ret (.ife (.e (.call 62 [.sub v2 i0,v1])) v2 (.call 61 [v0,.cst (.str 55)]))]
noncomputable abbrev dY:Nat:=65
noncomputable def qZ:List S:=[.ite (.cmp .eq v0 (.cst (.str 42))) [.ret (.bin .add v1 v2)] [],.ite (.cmp .eq v0 t38) [.ret (.bin .sub v1 v2)] [],.ite (.cmp .eq v0 (.cst (.str 43))) [.ret (.bin .mul v1 v2)] [],.ite (.cmp .eq v0 t46) [.ret (.bin .band v1 v2)] [],.ite (.cmp .eq v0 t47) [.ret (.bin .bor v1 v2)] [],.ite (.cmp .eq v0 t48) [.ret (.bin .bxor v1 v2)] [],.asg 3 (.bin .fdiv (.abs v1) (.abs v2)),.ite (.cmp .ne (.cmp .lt v1 i0) (.cmp .lt v2 i0)) [.asg 3 (.neg v3)] [],.ret (.ife (.cmp .eq v0 t44) v3 (.bin .sub v1 (.bin .mul v3 v2)))]
noncomputable abbrev dZ:Nat:=66
noncomputable def wj:List S:=[.unp [4,5] (.sub (.call 47 []) (.call 52 [v0,v2])),.ite (.oQ .le .le v4 v1 v5) [.ret v1] [],.ite (.e v3) [.ret (.call 61 [v0,t56])] [],.ret (.bin .add v4 (.bin .mod (.bin .sub v1 v4) (.bin .add (.bin .sub v5 v4) i1)))]
noncomputable abbrev oe:Nat:=67
noncomputable def uI:List S:=[.asg 2 (.sub v1 i0),.ite (.cmp .ne (.sub v0 t52) t0) [.ret i0] [],.ite (.cmp .eq v2 (.gl 61)) [.ex (.af (.sub v0 t57) 8 [.sub v1 i2]),.ret (.sub (.sub v0 t36) (.sub v1 i2))] [],.ite (.cmp .eq v2 g40) [.ret (.ife (.bop true [.cmp .eq (.sub v1 i1) i13,.cmp .jh (.sub v1 i2) n0]) (.tup [i13,.sub v1 i2,i0]) (.sub v1 i2))] [],.ite (.cmp .eq v2 (.gl 51)) [.ret (.call 63 [v0,.sub v1 i1])] [],.ite (.cmp .eq v2 (.gl 52)) [.ret (.tup [i25,.call 51 [v0,.sub v1 i2],i0])] [],.ite (.cmp .eq v2 g54) [.asg 7 (.call 68 [v0,.sub v1 i3]),.asg 8 (.call 68 [v0,.sub v1 i4]),.ret (.ife (.cmp .ne (.sub v0 t52) t0) i0 (.call 69 [v0,v1,v7,v8]))] [],.ite (.cmp .eq v2 (.gl 53)) [.asg 9 (.call 68 [v0,.sub v1 i3]),.ite (.bop false [.cmp .ne (.sub v0 t52) t0,.cmp .eq (.sub v1 i2) t49]) [.ret (.bin .sub i1 v9)] [],.ret (.call 67 [v0,.ife (.cmp .eq (.sub v1 i2) t38) (.neg v9) (.bin .sub (.neg i1) v9),.sub v1 i1,.ife (.cmp .eq (.sub v1 i2) t38) (.sub v1 i4) i0])] [],.asg 3 (.ife (.bop false [.cmp .ne v2 g58,.cmp .ne (.sub v1 i3) i8]) (.call 68 [v0,.sub v1 i2]) n0),.ite (.cmp .ne (.sub v0 t52) t0) [.ret i0] [],.ite (.cmp .eq v2 (.gl 57)) [.ret (.call 68 [v0,.ife (.e v3) (.sub v1 i3) (.sub v1 i4)])] [],.ite (.cmp .eq v2 (.gl 55)) [.ret (.ife (.e v3) (.call 68 [v0,.sub v1 i3]) i0)] [],.ite (.cmp .eq v2 (.gl 56)) [.ret (.ife (.e v3) i1 (.call 68 [v0,.sub v1 i3]))] [],.ite (.cmp .eq v2 g58) [.ret (.call 70 [v0,v1,v3])] [],.asg 4 (.call 64 [v0,.sub (.sub v1 i2) i1,v3]),.asg 5 (.ife (.cmp .eq v2 (.gl 59)) (.sub v1 i3) (.sub v1 i1)),.asg 6 (.bop true [.cmp .jh v4 n0,.call 62 [.sub v4 i0,.ife (.cmp .eq v5 i17) i7 (.call 51 [v0,v5])]]),.ite (.cmp .eq v2 (.gl 59)) [.ret (.ife (.e v6) i1 i0)] [],.ite (.no (.e v6)) [.ret n0] [],.ret (.ife (.cmp .eq v5 i17) (.sub v4 i1) v4)]
noncomputable def fE:List S:=[.asg 4 (.sub v1 i2),.asg 5 (.sub (.sub v1 i3) i1),.ite (.bop false [.cmp .eq v5 i19,.cmp .eq (.sub (.sub v1 i4) i1) i19]) [.asg 2 (.call 64 [v0,v5,v2]),.asg 3 (.call 64 [v0,.sub (.sub v1 i4) i1,v3])] [],.ite (.bop false [.cmp .eq v4 t50,.cmp .eq v4 t51]) [.ret (.ife (.cmp .eq (.cmp .eq v2 v3) (.cmp .eq v4 t50)) i1 i0)] [],.ite (.cmp .inn v4 (.gl 64)) [.ite (.cmp .eq v2 v3) [.ret (.ife (.cmp .eq (.len v4) i2) i1 i0)] [],.ret (.ife (.cmp .eq (.cmp .lt v2 v3) (.cmp .eq (.sub v4 i0) (.cst (.str 58)))) i1 i0)] [],.ite (.bop false [.cmp .eq v4 t40,.cmp .eq v4 t41]) [.asg 6 (.bin .mod v3 (.ife (.cmp .gt v5 i8) i64 i32)),.ret (.ife (.cmp .eq v4 t40) (.call 67 [v0,.bin .mul v2 (.bin .pow i2 v6),v5,i0]) (.bin .fdiv v2 (.bin .pow i2 v6)))] [],.ite (.cmp .inn v4 (.tup [t44,t45])) [.ite (.cmp .eq v3 i0) [.ret (.call 61 [v0,.cst (.str 59)])] [],.ite (.bop true [.cmp .eq v3 (.neg i1),.cmp .eq v2 (.sub (.sub (.call 47 []) v5) i0)]) [.ret (.call 61 [v0,t56])] []] [],.ret (.call 67 [v0,.call 66 [v4,v2,v3],v5,.sub v1 i5])]
noncomputable def mQ:List S:=[.asg 3 (.sub v1 i3),.ite (.cmp .eq v3 i1) [.ret (.call 67 [v0,v2,.sub v1 i1,.sub v1 i4])] [],.ite (.cmp .eq v3 i8) [.ret (.call 63 [v0,.sub v1 i1])] [],.ite (.cmp .eq v3 i4) [.ret (.call 64 [v0,.sub (.sub v1 i2) i1,v2])] [],.ite (.bop false [.cmp .eq v3 i3,.cmp .eq v3 i5]) [.ret (.call 65 [v0,.sub v1 i1,.ife (.cmp .eq v3 i3) (.call 64 [v0,.sub (.sub v1 i2) i1,v2]) v2])] [],.ret v2]
noncomputable def ru:List S:=[.ret (.lx 9)]
noncomputable def qQ:List S:=[.ret (.lx 10)]
noncomputable def oZ:List S:=[.asg 0 (.bin .mod v0 (.bin .pow i2 v1)),.ret (.ife (.cmp .ge v0 (.bin .pow i2 (.bin .sub v1 i1))) (.bin .sub v0 (.bin .pow i2 v1)) v0)]
noncomputable abbrev fz:Nat:=73
noncomputable def tW:List S:=[.asg 3 (.call 52 [v0,v1]),.ite (.cmp .inn v3 (.tup [i9,i10])) [.ret (.tup [i2,.call 73 [v2,i64],v1])] [],.ite (.cmp .lt v3 i9) [.ret (.tup [i1,.call 73 [v2,i32],v1])] [],.ite (.cmp .eq v3 i11) [.ret (.tup [i3,v2,v1])] [],.ret (.tup [.ife (.cmp .inn v3 (.tup [i17,i18])) i5 i4,v2,v1])]
noncomputable abbrev uN:Nat:=74
noncomputable def tO:List S:=[.asg 3 (.call 52 [v0,v1]),.ite (.cmp .ne (.sub v2 i0) (.sub (.call 74 [v0,v1,.call 63 [v0,v1]]) i0)) [.ret (.call 61 [v0,t60])] [],.ite (.bop false [.cmp .eq v3 i8,.cmp .eq v3 i10]) [.ret (.bin .mod (.sub v2 i1) (.bin .pow i2 (.bin .mul i32 (.sub v2 i0))))] [],.ret (.sub v2 i1)]
noncomputable abbrev uW:Nat:=75
noncomputable def fX:List S:=[.asg 4 (.sub (.call 71 []) v1),.asg 5 (.sub v2 i1),.asg 6 (.sub v3 i1),.ite (.bop false [.cmp .ne (.sub v2 i0) (.sub v3 i0),.cmp .nin (.sub v2 i0) (.tup [i1,i2,i4])]) [.ret (.call 61 [v0,t60])] [],.ite (.cmp .eq (.sub v2 i0) i4) [.ite (.bop false [.cmp .eq v4 t50,.cmp .eq v4 t51]) [.ret (.ife (.cmp .eq (.cmp .eq v5 v6) (.cmp .eq v4 t50)) i1 i0)] [],.ite (.bop false [.cmp .ne v1 (.cst (.int 65027)),.cmp .jh v6 n0]) [.ret (.call 61 [v0,t60])] [],.ret (.ife (.cmp .isn v5 n0) i0 i1)] [],.ite (.cmp .inn v1 (.gl 66)) [.asg 5 (.bin .mod v5 (.bin .pow i2 (.bin .mul i32 (.sub v2 i0)))),.asg 6 (.bin .mod v6 (.bin .pow i2 (.bin .mul i32 (.sub v2 i0))))] [],.ite (.cmp .eq v5 v6) [.ret (.ife (.cmp .inn v4 (.tup [t50,.cst (.str 61),.cst (.str 62)])) i1 i0)] [],.ret (.ife (.cmp .inn v4 (.ife (.cmp .lt v5 v6) (.tup [t51,.cst (.str 58),.cst (.str 61)]) (.tup [t51,.cst (.str 63),.cst (.str 62)]))) i1 i0)]
noncomputable abbrev dh:Nat:=76
noncomputable def gh:List S:=[.asg 4 (.sub (.call 71 []) v1),.asg 5 (.bin .mul i32 (.sub v2 i0)),.asg 6 (.sub v2 i1),.asg 7 (.sub v3 i1),.ite (.cmp .inn v1 (.tup [.cst (.int 98),.cst (.int 99),.cst (.int 100)])) [.ite (.bop false [.cmp .nin (.sub v2 i0) (.tup [i1,i2]),.cmp .ne (.sub v3 i0) i1,.no (.oQ .le .lt i0 v7 v5)]) [.ex (.call 61 [v0,.cst (.str 64)]),.ret v2] [],.ite (.cmp .eq v1 (.cst (.int 100))) [.asg 6 (.bin .mod v6 (.bin .pow i2 v5))] [],.ret (.tup [.sub v2 i0,.call 73 [.ife (.cmp .eq v1 (.cst (.int 98))) (.bin .mul v6 (.bin .pow i2 v7)) (.bin .fdiv v6 (.bin .pow i2 v7)),v5],.sub v2 i2])] [],.ite (.bop false [.cmp .ne (.sub v2 i0) (.sub v3 i0),.cmp .nin (.sub v2 i0) (.tup [i1,i2])]) [.ex (.call 61 [v0,t60]),.ret v2] [],.ite (.cmp .inn v1 (.gl 66)) [.asg 6 (.bin .mod v6 (.bin .pow i2 v5)),.asg 7 (.bin .mod v7 (.bin .pow i2 v5))] [],.ite (.cmp .inn v4 (.tup [t44,t45])) [.ite (.bop false [.cmp .eq v7 i0,.bop true [.cmp .eq v7 (.neg i1),.cmp .eq v6 (.neg (.bin .pow i2 (.bin .sub v5 i1)))]]) [.ex (.call 61 [v0,.ife (.e v7) t56 (.cst (.str 59))]),.ret v2] []] [],.asg 8 (.call 66 [v4,v6,v7]),.ite (.cmp .ge v1 (.cst (.int 214))) [.asg 9 (.ife (.cmp .inn v1 (.gl 66)) i0 (.neg (.bin .pow i2 (.bin .sub v5 i1)))),.ite (.no (.oQ .le .lt v9 v8 (.bin .add v9 (.bin .pow i2 v5)))) [.ex (.call 61 [v0,t56])] []] [],.ret (.tup [.sub v2 i0,.call 73 [v8,v5],.sub v2 i2])]
noncomputable abbrev gp:Nat:=77
noncomputable def fe:List S:=[.unp [4,5,6] (.sub (.call 72 []) v1),.ite (.cmp .nin (.sub v2 i0) (.tup [i1,i2])) [.ex (.call 61 [v0,t60]),.ret v2] [],.asg 3 (.sub v2 i1),.ite (.bop false [.cmp .eq v6 i2,.bop true [.cmp .eq v6 i0,.cmp .eq v5 i0]]) [.asg 3 (.bin .mod v3 (.bin .pow i2 (.bin .mul i32 (.sub v2 i0))))] [],.ite (.cmp .gt v6 i0) [.asg 7 (.ife (.e v5) (.neg (.bin .pow i2 (.bin .sub v4 i1))) i0),.ite (.no (.oQ .le .lt v7 v3 (.bin .add v7 (.bin .pow i2 v4)))) [.ex (.call 61 [v0,t56])] []] [],.ite (.bop false [.e v5,.cmp .gt v4 i16]) [.ret (.tup [.ife (.cmp .eq v4 i64) i2 i1,.call 73 [v3,v4],i0])] [],.ret (.tup [i1,.bin .mod v3 (.bin .pow i2 v4),i0])]
noncomputable abbrev lj:Nat:=78
noncomputable def qn:List S:=[.ite (.cmp .eq v1 i20) [.ex (.af v3 8 [.tup [i4,n0,.cst (.int 14)]])] [.ite (.cmp .eq v1 (.cst (.int 114))) [.ex (.af v3 8 [.tup [i4,.tup [i13,v2,i0],i13]])] [.ite (.cmp .eq v1 (.cst (.int 208))) [.ex (.af v3 8 [.tup [i3,.tup [v2,.call 51 [v0,v2]],i11]])] [.ite (.cmp .eq v1 (.cst (.int 65037))) [.ex (.af v3 8 [.tup [i6,v2,i0]])] [.asg 4 (.af v3 13 []),.ite (.bop true [.cmp .eq v1 (.cst (.int 65045)),.cmp .eq (.sub v4 i0) i6,.cmp .eq (.sub (.sub v0 t65) (.sub v4 i1)) v2]) [.aC (.sub v0 t66) (.sub v4 i1) (.call 74 [v0,v2,.call 63 [v0,v2]])] [.ite (.cmp .eq v1 (.cst (.int 140))) [.ex (.af v3 8 [.tup [i4,.call 64 [v0,v2,.call 75 [v0,v2,v4]],v2]])] [.ite (.bop true [.cmp .eq v1 (.cst (.int 40)),.cmp .eq v2 (.tup [i25,.cst (.int 202),.tup []]),.cmp .eq (.sub v4 i0) i3]) [.ex (.af v3 8 [.tup [i4,.tup [i25,.sub (.sub v4 i1) i1,i0],i25]])] [.ite (.bop true [.cmp .eq v1 (.cst (.int 211)),.cmp .eq (.sub v4 i0) i1]) [.ex (.af v3 8 [.tup [i3,.sub v4 i1,i11]])] [.ite (.bop true [.cmp .eq v1 (.cst (.int 165)),.cmp .eq (.sub v4 i0) i4]) [.ex (.af v3 8 [.call 74 [v0,v2,.call 65 [v0,v2,.sub v4 i1]]])] [.ite (.bop true [.cmp .eq v1 (.cst (.int 116)),.cmp .eq (.sub v4 i0) i4,.cmp .gt v2 i11,.cmp .nin v2 (.tup [i16,i17,i18])]) [.ex (.af v3 8 [.tup [i4,.call 65 [v0,v2,.sub v4 i1],v2]])] [.ite (.bop true [.cmp .eq v1 (.cst (.int 117)),.cmp .eq (.sub v4 i0) i4,.cmp .ne v2 i17]) [.asg 5 (.bop true [.cmp .jh (.sub v4 i1) n0,.call 62 [.sub (.sub v4 i1) i0,.call 51 [v0,v2]]]),.ex (.af v3 8 [.tup [i4,.ife (.e v5) (.sub v4 i1) n0,v2]])] [.ex (.call 61 [v0,.cst (.str 67)])]]]]]]]]]]]]
noncomputable def uD:List S:=[.asg 3 (.sub (.sub v0 t66) v1),.ite (.cmp .isn v3 n0) [.ex (.call 61 [v0,.cst (.str 68)]),.iq] [],.ite (.cmp .inn v1 (.sub v0 t11)) [.ex (.af (.sub v0 t57) 8 [.sub (.sub v0 t11) v1])] [],.ex (.af v2 8 [.tup [.sub v3 i0,.sub v3 i1,.sub (.sub v0 t65) v1]])]
noncomputable def o7:List S:=[.asg 3 (.af v2 13 []),.ite (.cmp .gt v1 (.cst (.int 58))) [.ret (.cmp .eq (.call 76 [v0,v1,.af v2 13 [],v3]) i1)] [],.ite (.cmp .nin (.sub v3 i0) (.tup [i1,i4])) [.ex (.call 61 [v0,t60])] [],.asg 4 (.bop true [.cmp .jh (.sub v3 i1) n0,.cmp .ne (.sub v3 i1) i0]),.ret (.cmp .eq v4 (.cmp .eq v1 (.cst (.int 58))))]
noncomputable def eE:List S:=[.asg 3 (.aX []),.asg 4 i0,.wh (.bop true [.cmp .lt v4 (.len v1),.cmp .eq (.sub v0 t52) t0]) [.unp [5,6] (.sub v1 v4),.aug 4 .add i1,.ite (.cmp .eq v5 (.cst (.int 65036))) [.ex (.call 80 [v0,v6,v3])] [.ite (.bop false [.cmp .eq v5 i32,.cmp .eq v5 (.cst (.int 33))]) [.ex (.af v3 8 [.tup [.bin .sub v5 (.cst (.int 31)),v6,i0]])] [.ite (.oQ .le .le (.cst (.int 56)) v5 (.cst (.int 68))) [.ite (.bop false [.cmp .eq v5 (.cst (.int 56)),.e (.call 81 [v0,v5,v3])]) [.ite (.cmp .lt (.af v2 2 [v6,i0]) v4) [.ex (.call 61 [v0,.cst (.str 69)])] [],.asg 4 (.af v2 2 [v6,i0])] []] [.ite (.cmp .inn v5 (.call 71 [])) [.asg 7 (.af v3 13 []),.asg 8 (.af v3 13 []),.ite (.cmp .gt v5 (.cst (.int 65024))) [.ex (.af v3 8 [.tup [i1,.call 76 [v0,v5,v8,v7],i0]])] [.ex (.af v3 8 [.call 77 [v0,v5,v8,v7]])]] [.ite (.cmp .inn v5 (.call 72 [])) [.ex (.af v3 8 [.call 78 [v0,v5,.af v3 13 []]])] [.ite (.bop false [.cmp .eq v5 (.cst (.int 101)),.cmp .eq v5 (.cst (.int 102))]) [.asg 8 (.af v3 13 []),.ite (.cmp .nin (.sub v8 i0) (.tup [i1,i2])) [.ret v3] [],.ex (.af v3 8 [.tup [.sub v8 i0,.call 73 [.ife (.cmp .eq v5 (.cst (.int 101))) (.neg (.sub v8 i1)) (.bin .sub (.neg i1) (.sub v8 i1)),.bin .mul i32 (.sub v8 i0)],i0]])] [.ite (.cmp .eq v5 (.cst (.int 38))) [.ex (.af v3 13 [])] [.ite (.cmp .eq v5 (.cst (.int 65038))) [.asg 8 (.af v3 13 []),.ex (.call 75 [v0,.sub (.sub v0 t65) v6,v8]),.aC (.sub v0 t66) v6 v8] [.ex (.call 79 [v0,v5,v6,v3])]]]]]]]]],.ret v3]
noncomputable abbrev n4:Nat:=82
noncomputable def uo:List S:=[.ite (.bop false [.cmp .isn v0 n0,.cmp .isn v1 n0,.e (.isInt v0),.e (.isInt v1)]) [.ret (.cmp .eq v0 v1)] [],.ret (.bop true [.cmp .eq (.sub v0 i0) (.sub v1 i0),.cmp .eq (.sub v0 i1) (.sub v1 i1),.bop false [.cmp .eq (.sub v0 i2) (.sub v1 i2),.bop true [.cmp .lt (.sub v0 i2) i0,.cmp .lt (.sub v1 i2) i0]]])]
noncomputable def si:List S:=[.asg 0 (.new 2 []),.oX 1 (.gl 67) [.ex (.af (.attr v0 3) 70 [v1])],.ae v0 4 (.bin .add (.bin .add (.rep [n0] i8) (.aX [.new 1 [i8,.cst (.str 71),i2,i2,.neg i1,.tup [.cst (.str 72)],i0]])) (.rep [n0] (.cst (.int 55)))),.asg 2 (.tup [i5,i2,i1,i1,i3,i4]),.forR 3 i6 [.ex (.af (.attr v0 4) 8 [.new 1 [.bin .add i64 v3,.cst (.str 73),.sub v2 v3,i0,.neg i1,.tup [],i0]])],.ret v0]
noncomputable def dX:List S:=[.asg 1 (.call 84 []),.asg 2 (.new 6 [v1,i0]),.asg 3 (.sub (.attr v2 7) (.call 18 [v2,i0,i0,i0])),.asg 4 (.gG [33,32,37,22,36,57,52,53] [.slice v0 40,i0,i0,v2,.bE,.aX [],t0,i0]),.ex (.call 50 [v4]),.aC v4 t6 (.sub (.tup [i4,i3,i5,i6,i7,i8,i9,i10]) (.call 49 [v4,i8])),.aC v4 t34 (.sub (.tup [i7,i20,i18]) (.call 49 [v4,i3])),.ae (.sub (.attr v1 4) i64) 6 (.sub v4 t6),.asg 5 (.fl [.sub (.gl 68) (.call 49 [v4,i22]),.sub (.gl 68) (.call 49 [v4,i22])]),.asg 6 (.call 49 [v4,i2]),.asg 7 (.new 9 [v2,v3]),.aC (.attr v7 15) (.gl 61) (.new 28 []),.ex (.call 44 [v7]),.ex (.call 45 [v7]),.ex (.call 46 [v7]),.asg 8 n0,.forR 9 i2 [.aC v4 t37 i20,.asg 14 (.call 54 [v4,.sub v5 v9,i0]),.asg 15 (.call 68 [v4,v14]),.ite (.cmp .eq v9 v6) [.asg 8 (.tup [v14,.loc 15]),.ex (.af v7 29 [v14])] [.ex (.af v7 74 [v14])]],.asg 10 (.len (.attr v7 14)),.asg 11 (.gG [6,34,57,52,53,65,66,11] [.sub v4 t6,.sub v4 t34,.aX [],t0,i0,.attr v7 14,.rep [n0] (.loc 10),.bE]),.wW 12 (.sub v4 t36) [.ite (.cmp .inn (.loc 12) (.attr v7 21)) [.asg 16 (.sub (.attr v7 21) (.loc 12)),.aC (.sub v11 t11) (.loc 16) (.loc 12),.aC (.sub v11 t66) (.loc 16) (.call 74 [v11,.sub (.attr v7 14) (.loc 16),.sub (.sub v4 t36) (.loc 12)])] []],.asg 13 (.call 82 [v11,.attr v7 75,.attr v7 76]),.ite (.bop false [.cmp .ne (.sub v11 t52) (.sub v4 t52),.cmp .ne (.sub v11 t57) (.sub v4 t57)]) [.ret (.cst (.bool false))] [],.ite (.cmp .ne (.sub v4 t52) t0) [.ret (.cst (.bool true))] [],.ite (.cmp .ne (.len (.loc 13)) i1) [.ret (.cst (.bool false))] [],.unp [14,15] v8,.ite (.bop true [.cmp .eq (.sub v14 i0) (.gl 57),.cmp .inn (.sub v14 i1) (.tup [i22,.cst (.int 23),.cst (.int 24)]),.cmp .ne (.sub (.sub (.loc 13) i0) i2) (.sub v14 i1)]) [.ret (.cst (.bool false))] [],.ret (.bop true [.call 83 [.loc 15,.call 75 [v11,.sub v14 i1,.sub (.loc 13) i0]],.cmp .eq (.sub v11 t52) t0])]
noncomputable abbrev Je:Nat:=85
noncomputable def gJ:List S:=[.ae v0 77 (.aX []),.ae v0 78 .nO,.ae v0 79 (.aX []),.ae v0 80 (.aX []),.ae v0 81 (.aX []),.forR 1 (.gl 69) [.asg 2 (.tup [.gl 8,v1]),.ex (.af (.attr v0 77) 8 [v2]),.aC (.attr v0 78) v2 v1,.ex (.af (.attr v0 79) 8 [i1]),.ex (.af (.attr v0 80) 8 [i1]),.ex (.af (.attr v0 81) 8 [i0])]]
noncomputable def lM:List S:=[.ite (.bop false [.cmp .lt v1 i0,.cmp .ge v1 (.len (.attr v0 77))]) [.bad] [],.ret (.sub (.attr v0 77) v1)]
noncomputable def lL:List S:=[.asg 2 (.af (.attr v0 78) 2 [v1,.neg i1]),.ite (.cmp .ge v2 i0) [.ret v2] [],.ex (.call 4 [v0,v1]),.asg 3 i1,.asg 4 i1,.asg 5 i0,.ite (.bop false [.cmp .eq (.sub v1 i0) (.gl 9),.cmp .eq (.sub v1 i0) (.gl 10)]) [.asg 5 i1] [],.asg 6 (.call 2 [.sub v1 i0]),.oX 7 (.call 1 [v1]) [.ite (.cmp .gt (.bin .add (.sub (.attr v0 79) v7) v6) v3) [.asg 3 (.bin .add (.sub (.attr v0 79) v7) v6)] [],.aug 4 .add (.sub (.attr v0 80) v7),.ite (.cmp .eq (.sub (.attr v0 81) v7) i1) [.asg 5 i1] []],.ite (.cmp .gt v3 (.gl 70)) [.bad] [],.ite (.cmp .gt v4 (.gl 71)) [.bad] [],.asg 8 (.len (.attr v0 77)),.ex (.af (.attr v0 77) 8 [v1]),.aC (.attr v0 78) v1 v8,.ex (.af (.attr v0 79) 8 [v3]),.ex (.af (.attr v0 80) 8 [v4]),.ex (.af (.attr v0 81) 8 [v5]),.ret v8]
noncomputable def iK:List S:=[.ae v0 82 v1,.ae v0 83 v2,.ae v0 5 v3,.ae v0 24 v4,.ae v0 84 v5,.ae v0 85 (.aX []),.ae v0 86 (.aX []),.ae v0 87 (.aX []),.ae v0 88 (.aX []),.oX 8 v6 [.ex (.af (.attr v0 86) 8 [v8]),.ex (.af (.attr v0 87) 8 [.gl 72]),.ex (.af (.attr v0 88) 8 [.tup [i0,.tup []]])],.ae v0 89 (.aX []),.ae v0 90 (.aX []),.ae v0 91 v7,.ae v0 92 i0,.ae v0 6 (.neg i1),.ae v0 93 (.aX []),.ae v0 94 (.aX []),.ae v0 95 (.aX []),.ae v0 96 i0,.ae v0 97 i0]
noncomputable def ku:List S:=[.ae v0 3 (.new 0 []),.ae v0 4 (.aX [n0]),.ae v0 98 (.aX [n0]),.ae v0 90 (.aX [n0]),.ae v0 99 .bE,.ae v0 100 (.aX []),.ae v0 101 i0]
noncomputable def kF:List S:=[.ae v0 77 (.aX [])]
noncomputable def nP:List S:=[.ae v0 102 v1,.ae v0 83 v2,.ae v0 23 v3,.ae v0 24 v4,.ae v0 103 v5,.ae v0 104 (.neg i1),.ae v0 105 i0]
noncomputable def o6:List S:=[.ae v0 106 v1,.ae v0 107 v2,.ae v0 11 (.aX []),.ae v0 86 (.aX []),.ae v0 108 (.neg i1),.ae v0 109 i0,.ae v0 110 n0,.ae v0 111 v3,.ae v0 5 (.gl 73),.ae v0 112 (.neg i1),.ae v0 113 v4]
noncomputable def lH:List S:=[.ae v0 26 v1,.ae v0 91 v2,.ae v0 7 (.aX [n0]),.ae v0 10 (.aX [n0]),.ae v0 9 .bE,.ae v0 114 (.new 3 []),.ae v0 115 .bE,.ae v0 116 .bE,.ae v0 117 .bE]
noncomputable def ph:List S:=[.ae v0 22 v1,.ae v0 26 (.attr v1 26),.ae v0 3 (.attr (.attr v1 26) 3),.ae v0 118 v2,.ae v0 75 (.aX []),.ae v0 76 .bE,.ae v0 53 i0,.ae v0 14 (.aX []),.ae v0 21 .bE,.ae v0 25 .bE,.ae v0 12 .bE,.ae v0 119 (.aX []),.ae v0 120 (.aX []),.ae v0 121 i0,.ae v0 122 .bE,.ae v0 123 n0,.ae v0 124 (.neg i1),.ae v0 15 .bE,.ae v0 17 .bE,.ae v0 125 .bE,.ae v0 19 .bE,.ae v0 126 .bE]
noncomputable def Eb:List S:=[.ex (.af (.attr v0 75) 8 [.fl [v1,v2]])]
noncomputable def zC:List S:=[.ite (.cmp .inn v1 (.attr v0 76)) [.bad] [],.aC (.attr v0 76) v1 (.len (.attr v0 75))]
noncomputable def nV:List S:=[.ae v0 53 (.bin .sub (.attr v0 53) i1),.ret (.attr v0 53)]
noncomputable def AU:List S:=[.ret (.call 20 [v0,v1])]
noncomputable def Aa:List S:=[.ex (.call 21 [v0,v1])]
noncomputable def zR:List S:=[.ex (.call 22 [v0,v1])]
noncomputable def ud:List S:=[.ex (.call 23 [v0,v1])]
noncomputable def AO:List S:=[.ex (.call 26 [v0,v1,v2,v3])]
noncomputable def ko:List S:=[.ex (.call 33 [v1,.sub v2 i1,.sub v2 i2])]
noncomputable def iN:List S:=[.ex (.call 34 [v1,.sub v2 i1])]
noncomputable def j9:List S:=[.ex (.af v1 18 [.gl 74,.sub v2 i2]),.ex (.af v1 18 [.gl 75,.tup [.sub v2 i1,.gl 76,.tup []]])]
noncomputable def iP:List S:=[.iq]
noncomputable def kS:List S:=[.ite (.cmp .eq (.sub v2 i2) v3) [.ex (.af v1 18 [.gl 77,v4])] []]
noncomputable def kW:List S:=[.asg 3 (.sub v2 i2),.ite (.cmp .eq v3 t49) [.ex (.af v1 29 [.sub v2 i3]),.ex (.call 36 [v1])] [.ite (.cmp .eq v3 (.cst (.str 39))) [.ex (.af v1 29 [.sub v2 i3]),.ex (.af v1 18 [.gl 78,i0])] [.ite (.e (.sub v2 i4)) [.ex (.call 33 [v1,.sub v2 i1,i0]),.ex (.af v1 29 [.sub v2 i3]),.ex (.af v1 18 [.gl 79,i0])] [.ex (.af v1 29 [.sub v2 i3]),.ex (.af v1 18 [.gl 80,i0])]]]]
noncomputable def nH:List S:=[.ite (.cmp .eq (.sub v2 i2) t49) [.ex (.call 26 [v1,.sub v2 i3,.bin .sub i1 v3,v4])] [.ex (.af v1 29 [v2]),.ex (.af v1 18 [.ife (.e v3) (.gl 23) (.gl 24),v4])]]
noncomputable def jF:List S:=[.ite (.bop false [.cmp .eq (.sub v2 i2) t40,.cmp .eq (.sub v2 i2) t41]) [.ex (.call 38 [v1,v2])] [.ex (.call 37 [v1,v2])],.asg 3 (.call 35 [v1,.sub (.sub v2 i3) i1]),.asg 4 (.af (.gl 81) 2 [.sub v2 i2]),.ite (.cmp .jh v4 n0) [.ex (.af v1 18 [.ife (.e v3) (.sub v4 i1) (.sub v4 i0),i0]),.ite (.e (.sub v4 i2)) [.ex (.call 36 [v1])] [],.iq] [],.asg 5 (.ife (.e v3) i1 i0),.ite (.e (.sub v2 i5)) [.asg 5 (.bin .add v5 i2)] [],.ex (.af v1 18 [.sub (.sub (.gl 82) (.sub v2 i2)) v5,i0])]
noncomputable def j4:List S:=[.asg 5 (.af (.gl 83) 2 [.sub v2 i2]),.ite (.cmp .isn v5 n0) [.ex (.af v1 29 [v2]),.ex (.af v1 18 [.ife (.e v3) (.gl 23) (.gl 24),v4]),.iq] [],.ex (.call 37 [v1,v2]),.asg 6 (.ife (.e v3) i0 i2),.ite (.e (.call 35 [v1,.sub (.sub v2 i3) i1])) [.asg 6 (.bin .add v6 i1)] [],.ex (.af v1 18 [.sub v5 v6,v4])]
noncomputable def ky:List S:=[.asg 3 (.af v1 30 []),.asg 4 (.af v1 30 []),.ex (.call 26 [v1,v2,i0,v3]),.ex (.af v1 18 [.gl 32,i1]),.ex (.af v1 18 [.gl 77,v4]),.ex (.af v1 31 [v3]),.ex (.af v1 18 [.gl 32,i0]),.ex (.af v1 31 [v4])]
noncomputable def ou:List S:=[.ex (.call 39 [v1,v2,i0,v3,v4])]
noncomputable def oF:List S:=[.ex (.call 39 [v1,v2,i1,v3,v4])]
noncomputable def lI:List S:=[.asg 3 (.af v1 30 []),.asg 4 (.af v1 30 []),.asg 5 (.neg i1),.ite (.e (.call 40 [v1,.sub v2 i1])) [.asg 5 (.af v1 27 [.sub v2 i1])] [],.ex (.call 26 [v1,.sub v2 i2,i0,v3]),.ex (.call 41 [v1,.sub v2 i3,v5]),.ex (.af v1 18 [.gl 77,v4]),.ex (.af v1 31 [v3]),.ex (.call 41 [v1,.sub v2 i4,v5]),.ex (.af v1 31 [v4]),.ite (.cmp .ge v5 i0) [.ex (.af v1 18 [.gl 38,v5]),.ex (.af v1 28 [v5])] []]
noncomputable def jD:List S:=[.asg 3 (.af v1 30 []),.asg 4 (.af v1 30 []),.ex (.call 26 [v1,.sub v2 i2,i0,v3]),.ex (.af v1 74 [.sub v2 i3]),.ex (.af v1 18 [.gl 77,v4]),.ex (.af v1 31 [v3]),.ex (.af v1 74 [.sub v2 i4]),.ex (.af v1 31 [v4])]
noncomputable def lO:List S:=[.asg 3 (.sub v2 i2),.asg 4 (.sub v2 i3),.ite (.cmp .eq v4 (.gl 84)) [.ex (.call 34 [v1,.sub v2 i1]),.iq] [],.ex (.af v1 29 [v3]),.ite (.cmp .eq v4 (.gl 85)) [.ex (.call 42 [v1,.call 17 [.attr v1 26,.sub v3 i1],.call 17 [.attr v1 26,.sub v2 i1],.sub v2 i4])] [.ite (.cmp .eq v4 (.gl 86)) [.ex (.af v1 18 [.gl 28,.sub v3 i1])] [.ite (.cmp .eq v4 (.gl 87)) [.ex (.af v1 18 [.gl 88,.sub v2 i1])] [.ite (.cmp .eq v4 (.gl 89)) [.ex (.call 30 [v1,.sub v3 i1]),.ex (.af v1 18 [.ife (.e (.call 12 [.attr v1 3,.sub v2 i1])) (.gl 90) (.gl 88),.sub v2 i1])] [.ite (.bop true [.cmp .ne v4 (.gl 91),.cmp .ne v4 (.gl 92)]) [.bad] []]]]]]
noncomputable def oR:List S:=[.ex (.call 43 [v1,.sub v2 i2,.sub v2 i3]),.ex (.af v1 18 [.gl 35,i0]),.ex (.af v1 18 [.gl 93,i0])]
noncomputable def oO:List S:=[.ex (.call 43 [v1,.sub v2 i2,.sub v2 i3]),.ex (.af v1 18 [.ife (.e v3) (.gl 23) (.gl 24),v4])]
noncomputable def oY:List S:=[.ex (.call 43 [v1,.sub v2 i2,.sub v2 i1]),.ite (.no (.e (.call 12 [.attr v1 3,.sub v2 i1]))) [.ex (.af v1 18 [.gl 88,.sub v2 i1])] []]
noncomputable def kY:List S:=[.asg 3 (.sub v2 i2),.ite (.cmp .nin v3 (.attr v1 25)) [.ex (.af v1 18 [.gl 38,.call 27 [v1,v3]]),.iq] [],.ex (.af v1 18 [.gl 94,.sub (.attr v1 25) v3]),.ite (.e (.call 28 [v1,v3])) [.ex (.af v1 18 [.gl 95,.sub v2 i1])] []]
noncomputable def fnT:List (Option Fn):=[none,some ⟨1,2,pe⟩,some ⟨1,1,t7⟩,some ⟨1,1,sd⟩,some ⟨2,4,kM⟩,some ⟨2,2,o9⟩,some ⟨2,3,qv⟩,some ⟨2,3,tU⟩,some ⟨2,2,uf⟩,some ⟨2,3,DH⟩,some ⟨2,3,zk⟩,some ⟨2,2,xd⟩,some ⟨2,3,CC⟩,some ⟨2,3,CT⟩,some ⟨1,1,va⟩,some ⟨1,1,DJ⟩,some ⟨2,3,zV⟩,some ⟨2,3,r9⟩,some ⟨4,5,DK⟩,some ⟨5,6,y7⟩,some ⟨2,3,sC⟩,some ⟨2,4,uP⟩,some ⟨2,3,uF⟩,some ⟨2,3,oG⟩,none,none,some ⟨4,5,sX⟩,some ⟨2,3,wD⟩,some ⟨2,3,BV⟩,some ⟨2,2,kJ⟩,some ⟨2,2,AD⟩,some ⟨2,3,oM⟩,some ⟨1,1,y5⟩,some ⟨3,4,q9⟩,some ⟨2,4,mP⟩,some ⟨2,3,oT⟩,some ⟨1,1,oV⟩,some ⟨2,2,rA⟩,some ⟨2,3,qg⟩,some ⟨5,6,sq⟩,some ⟨2,3,lJ⟩,some ⟨3,3,uu⟩,some ⟨4,10,oL⟩,some ⟨3,4,tD⟩,some ⟨1,1,iU⟩,some ⟨1,1,gB⟩,some ⟨1,1,j0⟩,some ⟨0,0,pn⟩,some ⟨0,0,o8⟩,some ⟨2,3,tu⟩,some ⟨1,1,uJ⟩,some ⟨2,2,sU⟩,some ⟨2,2,rT⟩,some ⟨2,6,vk⟩,some ⟨3,3,ua⟩,some ⟨3,5,oH⟩,some ⟨3,7,fj⟩,some ⟨2,8,rL⟩,some ⟨2,6,qM⟩,some ⟨1,1,mL⟩,some ⟨3,6,qu⟩,some ⟨2,2,tr⟩,some ⟨2,2,AP⟩,some ⟨2,2,rR⟩,some ⟨3,3,vV⟩,some ⟨3,3,qY⟩,some ⟨3,4,qZ⟩,some ⟨4,6,wj⟩,some ⟨2,10,uI⟩,some ⟨4,7,fE⟩,some ⟨3,4,mQ⟩,some ⟨0,0,ru⟩,some ⟨0,0,qQ⟩,some ⟨2,2,oZ⟩,some ⟨3,4,tW⟩,some ⟨3,4,tO⟩,some ⟨4,7,fX⟩,some ⟨4,10,gh⟩,some ⟨3,8,fe⟩,some ⟨4,6,qn⟩,some ⟨3,4,uD⟩,some ⟨3,5,o7⟩,some ⟨3,9,eE⟩,some ⟨2,2,uo⟩,some ⟨0,4,si⟩,some ⟨1,17,dX⟩,some ⟨1,3,gJ⟩,some ⟨2,2,lM⟩,some ⟨2,9,lL⟩,some ⟨8,9,iK⟩,some ⟨1,1,ku⟩,some ⟨1,1,kF⟩,none,none,none,some ⟨6,6,nP⟩,some ⟨5,5,o6⟩,some ⟨3,3,lH⟩,none,none,some ⟨3,3,ph⟩,some ⟨3,3,Eb⟩,some ⟨2,2,zC⟩,some ⟨1,1,nV⟩,some ⟨2,2,AU⟩,some ⟨2,2,Aa⟩,some ⟨2,2,zR⟩,some ⟨2,2,ud⟩,none,none,some ⟨4,4,AO⟩,none,some ⟨3,3,ko⟩,some ⟨3,3,iN⟩,some ⟨3,3,j9⟩,some ⟨3,3,iP⟩,some ⟨5,5,kS⟩,some ⟨3,4,kW⟩,some ⟨5,5,nH⟩,some ⟨3,6,jF⟩,some ⟨5,7,j4⟩,some ⟨3,5,ky⟩,some ⟨5,5,ou⟩,some ⟨5,5,oF⟩,some ⟨3,6,lI⟩,some ⟨3,5,jD⟩,some ⟨3,5,lO⟩,some ⟨3,3,oR⟩,some ⟨5,5,oO⟩,some ⟨3,3,oY⟩,some ⟨3,4,kY⟩]
noncomputable def fnOf(g:Nat):Option Fn:=match fnT[g]? with
 |some x=>x
 |none=>none
noncomputable def I8:List (List (Nat×Nat)):=[[(70,88),(1,87)],[],[],[],[],[],[],[],[],[(74,107),(29,106),(28,105),(18,101),(20,110),(31,102),(30,103),(27,104)],[(16,112)],[(16,113)],[(16,114)],[(16,115)],[(20,116)],[(16,117)],[(20,118)],[(16,119)],[(20,120)],[(16,121)],[(20,122)],[(20,123)],[(16,124)],[(16,125)],[(16,126)],[(16,127)],[(20,128)],[(16,129)],[(16,130)]]
noncomputable def wR(d i:Nat):Option Nat:=match I8[d]? with
 |some l=>l.lookup i
 |none=>none
noncomputable def Mo:List (List Nat):=[[77,78,79,80,81],[82,83,5,24,84,85,86,87,88,89,90,91,92,6,93,94,95,96,97],[3,4,98,90,99,100,101],[77],[102,83,23,24,103,104,105],[106,107,11,86,108,109,110,111,5,112,113],[26,91,7,10,9,114,115,116,117],[],[],[22,26,3,118,75,76,53,14,21,25,12,119,120,121,122,123,124,15,17,125,19,126],[],[],[],[],[],[],[],[],[],[],[],[],[],[],[],[],[],[],[]]
noncomputable def Cq(d i:Nat):Bool:=match Mo[d]? with
 |some l=>l.contains i
 |none=>false
noncomputable def JG:List (Option Nat):=[some 86,some 89,some 90,some 91,some 95,some 96,some 97,none,none,some 100,none,none,none,none,none,none,none,none,none,none,none,none,none,none,none,none,none,none,none]
noncomputable def Kw(d:Nat):Option (Option Nat):=JG[d]?
noncomputable def Sm:List (V×V):=[((.int 0),(.int 20)),((.int 1),(.int 9)),((.int 2),(.int 10)),((.int 3),(.int 11)),((.int 4),(.int 12)),((.int 5),(.int 13)),((.int 6),(.int 14)),((.int 7),(.int 15)),((.int 8),(.int 16)),((.int 9),(.int 17)),((.int 10),(.int 18)),((.int 11),(.int 19)),((.int 12),(.int 1)),((.int 13),(.int 4))]
noncomputable def RN:List (V×V):=[((.int 20),(.int 0)),((.int 9),(.int 1)),((.int 10),(.int 2)),((.int 11),(.int 3)),((.int 12),(.int 4)),((.int 13),(.int 5)),((.int 14),(.int 6)),((.int 15),(.int 7)),((.int 16),(.int 8)),((.int 17),(.int 9)),((.int 18),(.int 10)),((.int 19),(.int 11)),((.int 1),(.int 12)),((.int 4),(.int 13))]
noncomputable def Se:List (V×V):=[((.int 1),(.tup [(.int 0),(.int 255)])),((.int 2),(.tup [(.int 0),(.int 65535)])),((.int 3),(.tup [(.int (-128)),(.int 127)])),((.int 4),(.tup [(.int 0),(.int 255)])),((.int 5),(.tup [(.int (-32768)),(.int 32767)])),((.int 6),(.tup [(.int 0),(.int 65535)])),((.int 7),(.tup [(.int (-2147483648)),(.int 2147483647)])),((.int 8),(.tup [(.int 0),(.int 4294967295)])),((.int 9),(.tup [(.int (-9223372036854775808)),(.int 9223372036854775807)])),((.int 10),(.tup [(.int 0),(.int 18446744073709551615)])),((.int 11),(.tup [(.int (-2147483648)),(.int 2147483647)]))]
noncomputable def Sh:List (V×V):=[((.str 42),(.tup [(.int 88),(.int 88),(.int 214),(.int 215)])),((.str 38),(.tup [(.int 89),(.int 89),(.int 218),(.int 219)])),((.str 43),(.tup [(.int 90),(.int 90),(.int 216),(.int 217)])),((.str 44),(.tup [(.int 91),(.int 92),(.int 91),(.int 92)])),((.str 45),(.tup [(.int 93),(.int 94),(.int 93),(.int 94)])),((.str 46),(.tup [(.int 95),(.int 95),(.int 95),(.int 95)])),((.str 47),(.tup [(.int 96),(.int 96),(.int 96),(.int 96)])),((.str 48),(.tup [(.int 97),(.int 97),(.int 97),(.int 97)])),((.str 40),(.tup [(.int 98),(.int 98),(.int 98),(.int 98)])),((.str 41),(.tup [(.int 99),(.int 100),(.int 99),(.int 100)]))]
noncomputable def RK:List (V×V):=[((.str 50),(.tup [(.int 65025),(.int 65025),(.int 0)])),((.str 51),(.tup [(.int 65025),(.int 65025),(.int 1)])),((.str 58),(.tup [(.int 65028),(.int 65029),(.int 0)])),((.str 63),(.tup [(.int 65026),(.int 65027),(.int 0)])),((.str 61),(.tup [(.int 65026),(.int 65027),(.int 1)])),((.str 62),(.tup [(.int 65028),(.int 65029),(.int 1)]))]
noncomputable def Rh:List (V×V):=[((.str 50),(.tup [(.int 59),(.int 59),(.int 64),(.int 64)])),((.str 51),(.tup [(.int 64),(.int 64),(.int 59),(.int 59)])),((.str 58),(.tup [(.int 63),(.int 68),(.int 60),(.int 65)])),((.str 61),(.tup [(.int 62),(.int 67),(.int 61),(.int 66)])),((.str 63),(.tup [(.int 61),(.int 66),(.int 62),(.int 67)])),((.str 62),(.tup [(.int 60),(.int 65),(.int 63),(.int 68)]))]
noncomputable def RZ:List (V×V):=[((.int 3),(.tup [(.int 103),(.int 179),(.int 130)])),((.int 4),(.tup [(.int 210),(.int 180),(.int 134)])),((.int 5),(.tup [(.int 104),(.int 181),(.int 131)])),((.int 6),(.tup [(.int 209),(.int 182),(.int 135)])),((.int 2),(.tup [(.int 209),(.int 182),(.int 135)])),((.int 7),(.tup [(.int 105),(.int 183),(.int 132)])),((.int 8),(.tup [(.int 109),(.int 184),(.int 136)])),((.int 9),(.tup [(.int 106),(.int 185),(.int 133)])),((.int 10),(.tup [(.int 110),(.int 186),(.int 137)]))]
noncomputable def Rt:List (V×V):=[((.int 1),(.tup [(.int 0),(.int 1)])),((.int 2),(.tup [(.int 0),(.int 65535)])),((.int 3),(.tup [(.int (-128)),(.int 127)])),((.int 4),(.tup [(.int 0),(.int 255)])),((.int 5),(.tup [(.int (-32768)),(.int 32767)])),((.int 6),(.tup [(.int 0),(.int 65535)])),((.int 7),(.tup [(.int (-2147483648)),(.int 2147483647)])),((.int 8),(.tup [(.int 0),(.int 4294967295)])),((.int 9),(.tup [(.int (-9223372036854775808)),(.int 9223372036854775807)])),((.int 10),(.tup [(.int 0),(.int 18446744073709551615)])),((.int 11),(.tup [(.int (-2147483648)),(.int 2147483647)]))]
noncomputable def So:List (V×V):=[((.int 1),(.tup [(.int 1),(.int 0)])),((.int 2),(.tup [(.int 65),(.int 65535),(.int 0),(.int 32768),(.int 1)])),((.int 3),(.tup [(.int (-1)),(.int (-128)),(.int 127),(.int 1),(.int 0)])),((.int 4),(.tup [(.int 200),(.int 255),(.int 0),(.int 128),(.int 1)])),((.int 5),(.tup [(.int (-32768)),(.int 32767),(.int (-1)),(.int 300),(.int 0)])),((.int 6),(.tup [(.int 65535),(.int 0),(.int 32768),(.int 1),(.int 255)])),((.int 7),(.tup [(.int (-1)),(.int 2147483647),(.int (-2147483648)),(.int 0),(.int 1),(.int 33),(.int 5),(.int (-128)),(.int 300),(.int 65536)])),((.int 8),(.tup [(.int 4294967295),(.int 0),(.int 2147483648),(.int 1),(.int 3),(.int 255),(.int 70000)])),((.int 9),(.tup [(.int (-1)),(.int 9223372036854775807),(.int (-9223372036854775808)),(.int 0),(.int 1),(.int 4294967296),(.int 2147483648),(.int (-2147483649)),(.int 255),(.int 7)])),((.int 10),(.tup [(.int 18446744073709551615),(.int 0),(.int 9223372036854775808),(.int 1),(.int 4294967295),(.int 4294967296),(.int 9)])),((.int 11),(.tup [(.int (-1)),(.int 7),(.int 0)])),((.int 12),(.tup [(.tup [(.int 20),(.int 0),(.int 1)]),.none,(.tup [(.int 7),(.int 5),(.int 1)]),(.tup [(.int 13),(.str 127),(.int 0)]),(.tup [(.int 21),(.int 0),(.int 1)]),(.tup [(.int 16),(.int 1),(.int 1)]),(.tup [(.int 18),(.int 7),(.int 1)]),(.tup [(.int 9),(.int 5),(.int 1)])])),((.int 13),(.tup [(.tup [(.int 13),(.str 127),(.int 0)]),.none,(.tup [(.int 13),(.str 0),(.int 0)])])),((.int 17),(.tup [(.int 5),.none,(.int (-3))])),((.int 18),(.tup [(.int 7),(.int 0)])),((.int 20),(.tup [(.tup [(.int 20),(.int 0),(.int 1)]),(.tup [(.int 21),(.int 0),(.int 1)]),.none])),((.int 21),(.tup [(.tup [(.int 21),(.int 0),(.int 1)]),.none,(.tup [(.int 21),(.int 0),(.int 2)])])),((.int 22),(.tup [(.tup [(.int 21),(.int 0),(.int 1)]),.none])),((.int 23),(.tup [(.tup [(.int 23),(.int 0),(.int 1)]),.none])),((.int 24),(.tup [(.tup [(.int 24),(.int 0),(.int 1)]),.none]))]
noncomputable def E4:List (V×V):=[((.int 59),(.str 50)),((.int 60),(.str 62)),((.int 61),(.str 63)),((.int 62),(.str 61)),((.int 63),(.str 58)),((.int 64),(.str 51)),((.int 65),(.str 62)),((.int 66),(.str 63)),((.int 67),(.str 61)),((.int 68),(.str 58)),((.int 65025),(.str 50)),((.int 65026),(.str 63)),((.int 65027),(.str 63)),((.int 65028),(.str 58)),((.int 65029),(.str 58)),((.int 88),(.str 42)),((.int 89),(.str 38)),((.int 90),(.str 43)),((.int 91),(.str 44)),((.int 92),(.str 44)),((.int 93),(.str 45)),((.int 94),(.str 45)),((.int 95),(.str 46)),((.int 96),(.str 47)),((.int 97),(.str 48)),((.int 98),(.str 40)),((.int 99),(.str 41)),((.int 100),(.str 41)),((.int 214),(.str 42)),((.int 215),(.str 42)),((.int 216),(.str 43)),((.int 217),(.str 43)),((.int 218),(.str 38)),((.int 219),(.str 38))]
noncomputable def Ei:List (V×V):=[((.int 103),(.tup [(.int 8),(.int 1),(.int 0)])),((.int 104),(.tup [(.int 16),(.int 1),(.int 0)])),((.int 105),(.tup [(.int 32),(.int 1),(.int 0)])),((.int 106),(.tup [(.int 64),(.int 1),(.int 0)])),((.int 109),(.tup [(.int 32),(.int 0),(.int 0)])),((.int 110),(.tup [(.int 64),(.int 0),(.int 0)])),((.int 209),(.tup [(.int 16),(.int 0),(.int 0)])),((.int 210),(.tup [(.int 8),(.int 0),(.int 0)])),((.int 179),(.tup [(.int 8),(.int 1),(.int 1)])),((.int 180),(.tup [(.int 8),(.int 0),(.int 1)])),((.int 181),(.tup [(.int 16),(.int 1),(.int 1)])),((.int 182),(.tup [(.int 16),(.int 0),(.int 1)])),((.int 183),(.tup [(.int 32),(.int 1),(.int 1)])),((.int 184),(.tup [(.int 32),(.int 0),(.int 1)])),((.int 185),(.tup [(.int 64),(.int 1),(.int 1)])),((.int 186),(.tup [(.int 64),(.int 0),(.int 1)])),((.int 130),(.tup [(.int 8),(.int 1),(.int 2)])),((.int 131),(.tup [(.int 16),(.int 1),(.int 2)])),((.int 132),(.tup [(.int 32),(.int 1),(.int 2)])),((.int 133),(.tup [(.int 64),(.int 1),(.int 2)])),((.int 134),(.tup [(.int 8),(.int 0),(.int 2)])),((.int 135),(.tup [(.int 16),(.int 0),(.int 2)])),((.int 136),(.tup [(.int 32),(.int 0),(.int 2)])),((.int 137),(.tup [(.int 64),(.int 0),(.int 2)]))]
noncomputable def cdT:List (List (V×V)):=[Sm,RN,Se,Sh,RK,Rh,RZ,Rt,So,E4,Ei]
noncomputable def n3(n:Nat):List (V×V):=match cdT[n]? with
 |some x=>x
 |none=>[]
noncomputable def R0:List Bool:=[true,true,true,false,false,false,true,true,true,true,true]
noncomputable def yK(n:Nat):Bool:=match R0[n]? with
 |some x=>x
 |none=>true
noncomputable def D1:List Nat:=[0,3,3,2,5,4,5,3,6,6,4,4,4,3,7,5,4,7,3,5,4,6,4,4,5,4,5,4,4,4,9,4,3,7,7,1,4,4,1,1,2,2,1,1,1,1,1,1,1,1,2,2,5,4,4,4,4,3,1,4,3,2,2,1,5,5,4,2,3,5,3,8,1,1,6,4,6,4,5,6,7,5,3,4,4,6,6,9,6,6,7,3,5,5,5,6,9,4,7,5,4,5,3,5,3,5,4,3,9,3,4,2,4,2,5,5,6,6,2,7,7,12,15,9,9,6,5,1]
noncomputable def Mq(n:Nat):Option Nat:=D1[n]?
noncomputable def Bt:List (Option Nat):=[none,none,none,none,some 73,none,none,none,some 127,none,some 35,none,none,none,none,none,none,none,none,none,none,none,none,none,none,some 127,none,some 73,none,none,none,none,none,none,none,some 35,some 35,none,some 38,some 39,some 58,some 63,some 42,some 43,some 44,some 45,some 46,some 47,some 48,some 49,none,some 49,none,none,none,none,none,none,some 58,none,some 73,some 58,some 63,some 63,none,none,none,none,none,none,none,none,some 72,some 73,none,none,none,none,none,none,none,none,some 73,none,none,none,none,some 35,none,none,none,some 127,none,none,none,none,none,none,none,none,some 127,none,none,none,some 127,none,none,none,some 73,none,none,none,none,some 127,none,none,none,none,none,none,none,none,none,none,none,none,none,some 127]
noncomputable def qG(n:Nat):Option Nat:=match Bt[n]? with
 |some x=>x
 |none=>none
noncomputable def glT:List V:=[(.int 2),(.int 3),(.int 4),(.int 5),(.int 8),(.int 9),(.int 11),(.int 10),(.int 1),(.int 6),(.int 7),.cd 1,(.int 0),(.int 14),.cd 0,(.int 5),(.int 1),(.int 11),(.int 12),(.int 13),.cd 2,(.int 5),(.int 38),(.int 58),(.int 57),(.int 2),(.int 4),(.int 8),(.int 140),(.int 9),(.int 10),(.int 33),(.int 32),(.int 211),(.int 114),(.int 20),(.int 65037),(.int 65045),(.int 65036),(.int 65025),(.int 1),(.int 95),(.int 3),(.int 4),(.int 65038),.cd 6,(.int 110),(.int 106),(.int 7),(.int 8),(.int 117),(.int 12),(.int 29),(.int 13),(.int 14),(.int 15),(.int 16),(.int 17),(.int 19),(.int 20),(.int 21),(.int 2),(.tup [(.int 7),(.int 8),(.int 9),(.int 10),(.int 2),(.int 3),(.int 4),(.int 5),(.int 6),(.int 16)]),(.tup [(.int 7),(.int 13),(.int 16),(.int 17),(.int 18),(.int 19),(.int 20),(.int 21),(.int 22),(.int 23),(.int 12)]),(.tup [(.str 50),(.str 51),(.str 58),(.str 63),(.str 61),(.str 62)]),(.tup [(.int 7),(.int 9),(.int 1),(.int 2),(.int 16),(.int 17),(.int 18),(.int 19),(.int 4),(.int 10)]),(.tup [(.int 65),(.int 66),(.int 67),(.int 68),(.int 65027),(.int 65029),(.int 92),(.int 94),(.int 100),(.int 215),(.int 217),(.int 219)]),(.tup [(.tup [(.int 3),(.int 64),(.tup [])]),(.tup [(.int 3),(.int 8),(.tup [(.int 7)])]),(.tup [(.int 3),(.int 65),(.tup [])]),(.tup [(.int 7),(.int 0)]),(.tup [(.int 2),(.int 66),(.tup [])]),(.tup [(.int 2),(.int 67),(.tup [])]),(.tup [(.int 2),(.int 68),(.tup [])]),(.tup [(.int 4),(.int 20)]),(.tup [(.int 2),(.int 69),(.tup [])]),(.tup [(.int 2),(.int 51),(.tup [])])]),(.tup [(.int 8),(.int 1),(.int 9),(.int 10),(.int 7),(.int 12),(.int 4),(.int 6),(.int 3),(.int 16),(.int 20),(.int 22),(.int 23),(.int 24),(.int 17),(.int 19),(.int 18),(.int 13),(.int 2),(.int 5),(.int 11),(.int 21)]),(.int 16),(.int 24),(.int 4096),(.int 0),(.int 0),(.int 208),(.int 40),(.int 202),(.int 56),(.int 102),(.int 218),(.int 101),.cd 4,.cd 3,.cd 5,(.int 8),(.int 1),(.int 4),(.int 5),(.int 165),(.int 3),(.int 116),(.int 2),(.int 10),(.int 65027),(.int 65033),(.int 113)]
noncomputable def Ek(j:Nat):V:=match glT[j]? with
 |some x=>x
 |none=>.none
noncomputable def Kl:List String:=["R_CLASS","R_VALUE","R_ARRAY","R_BYREF","R_BOXED","R_ROREF","R_RAW","R_FTN","R_PRIM","R_VAR","R_MVAR","TID_PRIM","VOID","NULLK","PRIM_TID","ARRAY_TID","BOOL","NINT","OBJECT","STRING","INT_RANGES","S_ENUM","OP_POP","OP_BRTRUE","OP_BRFALSE","VF_REF","VF_OUT","T_NULLABLE","OP_BOX","I8","U8","OP_LDC_I8","OP_LDC_I4","OP_CONV_I","OP_LDSTR","OP_LDNULL","OP_LDLOCA","OP_INITOBJ","OP_LDLOC","OP_CEQ","X_CONST","OP_AND","S_IFACE","S_DELEGATE","OP_STLOC","CONVS","OP_CONV_U8","OP_CONV_I8","I4","U4","OP_ISINST","X_DEFAULT","X_TYPEOF","X_UN","X_BIN","X_AND","X_OR","X_COND","X_CONV","X_IS","X_AS","X_LOCAL","_law_NUMBERS","_law_LOOKED","_law_TESTS","_law_BOXED","_law_UNSIGNED","_law_ROWS","_law_ROOTS","PRIM_END","DEEPEST_KIND","HEAVIEST_KIND","VA_NONE","FN_PLAIN","OP_LDTOKEN","OP_CALL","CM_TYPE_FROM","OP_BR","OP_NOT","OP_SUB_OVF","OP_NEG","COMPARE","ARITH","BRANCHES","CV_NULL","CV_NUM","CV_BOX","CV_UNBOX","OP_UNBOX_ANY","CV_CAST","OP_CASTCLASS","CV_REF","CV_SAME","OP_CGT_UN","OP_LDARG","OP_LDOBJ"]
noncomputable def texts:List String:=["","row","get","kt","types","sort","under","fns","append","of_mid","vars","lids","free","pop","locals_","exprs","emit","effects","ins","jumps","jump","of_lid","unit","kind","flags","args","store","temp","give","expr","new_label","mark","now","numbers","closing","v","vals","left","-","~","<<",">>","+","*","/","%","&","|","^","!","==","!=","fault","made","null","cast","over","log","<","zero","tag","<=",">=",">","shift","kinds","held","op","raw","label","put","Nullable","T","t","effect","code","labels","rows","index","depths","weights","opens","tid","name","base","ifaces","params","variances","bounds","fields","methods","asm","cctor","impls","props","events","finaliser","home","fields_","names","asms","entry","lid","owner","arg","block","fnid","mid","this_kind","ret","body","up","elem","at","diags","inits","sinits","consts","fn","clauses","regions","region_count","region_of_label","ret_label","ret_local","places","stmts","a"]
noncomputable def prog:Prog:=⟨fnOf,wR,Cq,Kw,n3,yK,Mq,qG,th0,Ek,8,13,2⟩
end Mini.Internal
end
section
open PySem PySem.W PyProof.Rows PySem.Calls Mine.Internal
namespace Mini.Internal
noncomputable def pairs(l:List (String×Nat)):List (Str×Nat):=l.map fun p=>(Str.ofString p.1,p.2)
noncomputable def QQ:List (Str×Nat):=pairs [("inner_kinds",1),("row_level",2),("row_length",3),("check_kind_row",4),("check_named",5),("check_args",6),("may_stand",7),("kind_sort",8),("tid_of",9),("args_of",10),("is_value",11),("is_ref",12),("is_var",13),("int_range",14),("is_int",15),("type_of",16),("plain_kind",17),("new_fn",18),("new_var",19),("take_temp",20),("give_temp",21),("emit_expr",22),("emit_effect",23),("emit_jump",26),("local_of",27),("by_ref",28),("inner_nullable",29),("box_var",30),("signed_bits",31),("is_wide",32),("emit_const",33),("emit_default",34),("is_unsigned",35),("emit_turned",36),("emit_sides",37),("emit_shift",38),("short_jump",39),("joins_loosely",40),("emit_side",41),("emit_number",42),("emit_test",43),("install_e_consts",44),("install_e_operators",45),("install_e_convs",46),("_law_RANGES",47),("_law_VALUES",48),("_law_pick",49),("_law_turn",50),("_law_shut",51),("_law_under",52),("_law_leaf",53),("_law_tree",54),("_law_choice",55),("_law_number",56),("_law_truth",57),("_law_alike",58),("_law_nothing",59),("_law_thing",60),("_law_stop",61),("_law_is",62),("_law_blank",63),("_law_box",64),("_law_unbox",65),("_law_exact",66),("_law_fit",67),("_law_mean",68),("_law_binary",69),("_law_brought",70),("_law_WORDS",71),("_law_CONVS",72),("_law_signed",73),("_law_cell",74),("_law_seen",75),("_law_holds",76),("_law_two",77),("_law_conv",78),("_law_other",79),("_law_load",80),("_law_branch",81),("_law_run",82),("_law_same",83),("_law_store",84),("law",85)]
noncomputable def Pb:List (Str×Nat):=pairs [("KindTable",0),("TypeDef",1),("Store",2),("Diags",3),("Var",4),("Fn",5),("Unit",6),("EmitRule",7),("JumpRule",8),("Em",9),("EmitConst",10),("EmitDefault",11),("EmitTypeof",12),("ConstEffect",13),("ConstJump",14),("EmitUnary",15),("NotJump",16),("EmitBinary",17),("BinaryJump",18),("EmitLogic",19),("AndJump",20),("OrJump",21),("EmitCond",22),("CondEffect",23),("EmitConv",24),("EmitIs",25),("IsJump",26),("EmitAs",27),("EmitLocal",28)]
noncomputable def P5(n:Nat):Nat:=([(139,2),(454,1),(850,17),(852,18),(1105,19),(1108,20),(1293,1),(1312,3)]:List (Nat×Nat)).lookup n|>.getD 0
noncomputable def tx0:List Str:=texts.map Str.ofString
noncomputable def gn0:List Str:=Kl.map Str.ofString
noncomputable def LC:List (List String):=[[],
 ["row","sort"],
 ["sort"],
 ["sort"],
 ["kt","row","sort","inner"],
 ["kt","row"],
 ["kt","args","arg"],
 ["kt","k","sort"],
 ["kt","k"],
 ["kt","k","row"],
 ["kt","k","row"],
 ["kt","k"],
 ["kt","k","sort"],
 ["kt","k","sort"],
 ["k"],
 ["k"],
 ["store","k","tid"],
 ["store","k","t"],
 ["unit","mid","up","at","fnid"],
 ["unit","fnid","name","kind","flags","lid"],
 ["em","kind","pool"],
 ["em","place","kind","pool"],
 ["em","e","rule"],
 ["em","e","rule"],
 [],
 [],
 ["em","e","when","label","rule"],
 ["em","lid","place"],
 ["em","lid","var"],
 ["kt","k"],
 ["em","k"],
 ["n","bits","half"],
 ["k"],
 ["em","k","value","pk"],
 ["em","k","pk","place"],
 ["em","k","pk"],
 ["em"],
 ["em","e"],
 ["em","e","most"],
 ["em","e","ending","when","label","skip"],
 ["em","k","td"],
 ["em","e","place"],
 ["em","source","aim","checked","goes_in","row","low","high","least","most"],
 ["em","e","k","inner"],
 ["em"],
 ["em"],
 ["em"],
 [],
 [],
 ["w","count","digit"],
 ["w"],
 ["w","k"],
 ["w","k"],
 ["w","k","sort","values","value","lid"],
 ["w","k","deep"],
 ["w","k","deep","test","first"],
 ["w","k","deep","form","checked","op","left"],
 ["w","deep","form","k","op","left","source","aim"],
 ["w","deep","op","k","turned","left"],
 ["k"],
 ["w","k","deep","form","source","checked"],
 ["w","word"],
 ["exact","k"],
 ["w","k"],
 ["w","k","value"],
 ["w","k","value"],
 ["op","x","y","times"],
 ["w","n","k","checked","low","high"],
 ["w","e","code","first","thing","aim","found","left","right","inner"],
 ["w","e","left","right","op","k","count"],
 ["w","e","value","way"],
 [],
 [],
 ["n","bits"],
 ["w","k","value","plain"],
 ["w","k","cell","plain"],
 ["w","op","a","b","word","x","y"],
 ["w","op","a","b","word","bits","x","y","n","low"],
 ["w","op","a","n","bits","sign","how","low"],
 ["m","op","arg","stack","a","found"],
 ["m","place","stack","cell"],
 ["m","op","stack","b","full"],
 ["m","code","labels","stack","at","op","arg","b","a"],
 ["x","y"],
 ["store","row","sorts","place"],
 ["script","store","unit","fn","w","aims","valued","em","wanted","turn","count","m","lid","stack","e","value","place"],
 ["self","number","row"],
 ["self","k"],
 ["self","row","found","depth","weight","opened","level","inner","k"],
 ["self","tid","name","sort","flags","base","params","asm","word"],
 ["self"],
 ["self"],
 [],
 [],
 [],
 ["self","lid","name","kind","flags","owner"],
 ["self","fnid","mid","up","at"],
 ["self","store","asm"],
 [],
 [],
 ["self","unit","fn"],
 ["self","op","operand"],
 ["self","n"],
 ["self"],
 ["self","kind"],
 ["self","place"],
 ["self","e"],
 ["self","e"],
 [],
 [],
 ["self","e","when","label"],
 [],
 ["self","em","e"],
 ["self","em","e"],
 ["self","em","e"],
 ["self","em","e"],
 ["self","em","e","when","label"],
 ["self","em","e","op"],
 ["self","em","e","when","label"],
 ["self","em","e","no_sign","row","place"],
 ["self","em","e","when","label","row","place"],
 ["self","em","e","no","end"],
 ["self","em","e","when","label"],
 ["self","em","e","when","label"],
 ["self","em","e","other","end","place"],
 ["self","em","e","other","end"],
 ["self","em","e","inner","cv"],
 ["self","em","e"],
 ["self","em","e","when","label"],
 ["self","em","e"],
 ["self","em","e","lid"]]
noncomputable def yH(g:Nat):List Str:=match LC[g]? with
 |some l=>l.map Str.ofString
 |none=>[]
noncomputable def OQ:List Nat:=[0,145,152,159,166,173,180,187,194,201,208,215,222,229,236,243,292,299,409,416,563,570,577,584,0,0,605,612,619,626,633,675,682,689,696,798,824,850,857,959,966,992,1018,1044,1108,1115,1122,1168,1175,1186,1193,1200,1207,1214,1221,1228,1235,1242,1249,1256,1263,1270,1277,1284,1291,1298,1305,1312,1319,1326,1333,1340,1348,1355,1362,1369,1376,1383,1390,1397,1404,1411,1418,1425,1432,1439,117,124,131,257,278,313,0,0,0,353,374,395,0,0,472,479,486,493,500,507,514,521,0,0,542,0,710,729,748,767,786,812,838,871,890,909,928,947,980,1006,1032,1058,1077,1096,1136]
noncomputable def gP(g:Nat):Nat:=match OQ[g]? with
 |some a=>a
 |none=>0
noncomputable def Np:List Nat:=[0,14,14,14,14,14,14,14,14,15,15,15,15,15,15,15,19,19,25,25,29,29,29,29,0,0,29,29,30,30,30,34,34,35,35,41,43,45,45,51,51,53,55,57,61,61,61,63,63,64,64,64,64,64,64,64,64,65,65,65,65,65,65,65,65,66,66,66,66,66,66,66,67,67,67,67,67,67,67,68,68,68,68,68,68,68,13,13,13,17,18,20,0,0,0,22,23,24,0,0,28,28,28,28,28,28,28,28,0,0,28,0,36,37,38,39,40,42,44,46,47,48,49,50,52,54,56,58,59,60,62]
noncomputable def vJ(g:Nat):Nat:=match Np[g]? with
 |some a=>a
 |none=>0
noncomputable def N1:List Nat:=[134,260,281,335,356,377,398,433,454,552,713,732,751,770,789,815,841,874,893,912,931,950,983,1009,1035,1061,1080,1099,1139]
noncomputable def je(d:Nat):Nat:=match N1[d]? with
 |some a=>a
 |none=>0
noncomputable def kL:List (Nat×Nat):=[(13,134),(13,133),(17,260),(17,259),(18,281),(18,280),(20,335),(20,334),(22,356),(22,355),(23,377),(23,376),(24,398),(24,397),(69,433),(69,432),(69,454),(69,453),(28,552),(28,551),(36,713),(36,712),(37,732),(37,731),(38,751),(38,750),(39,770),(39,769),(40,789),(40,788),(42,815),(42,814),(44,841),(44,840),(46,874),(46,873),(47,893),(47,892),(48,912),(48,911),(49,931),(49,930),(50,950),(50,949),(52,983),(52,982),(54,1009),(54,1008),(56,1035),(56,1034),(58,1061),(58,1060),(59,1080),(59,1079),(60,1099),(60,1098),(62,1139),(62,1138),(14,145),(14,152),(14,159),(14,166),(14,173),(14,180),(14,187),(14,194),(15,201),(15,208),(15,215),(15,222),(15,229),(15,236),(15,243),(19,292),(19,299),(25,409),(25,416),(29,563),(29,570),(29,577),(29,584),(29,605),(29,612),(30,619),(30,626),(30,633),(34,675),(34,682),(35,689),(35,696),(41,798),(43,824),(45,850),(45,857),(51,959),(51,966),(53,992),(55,1018),(57,1044),(61,1108),(61,1115),(61,1122),(63,1168),(63,1175),(64,1186),(64,1193),(64,1200),(64,1207),(64,1214),(64,1221),(64,1228),(64,1235),(65,1242),(65,1249),(65,1256),(65,1263),(65,1270),(65,1277),(65,1284),(65,1291),(66,1298),(66,1305),(66,1312),(66,1319),(66,1326),(66,1333),(66,1340),(67,1348),(67,1355),(67,1362),(67,1369),(67,1376),(67,1383),(67,1390),(68,1397),(68,1404),(68,1411),(68,1418),(68,1425),(68,1432),(68,1439),(13,117),(13,124),(13,131),(17,257),(18,278),(20,313),(22,353),(23,374),(24,395),(28,472),(28,479),(28,486),(28,493),(28,500),(28,507),(28,514),(28,521),(28,542),(36,710),(37,729),(38,748),(39,767),(40,786),(42,812),(44,838),(46,871),(47,890),(48,909),(49,928),(50,947),(52,980),(54,1006),(56,1032),(58,1058),(59,1077),(60,1096),(62,1136)]
noncomputable def gpT:List Nat:=[15,22,22,22,22,42,54,66,78,90,90,91,92,104,139,195,244,244,265,286,300,340,340,361,382,403,417,438,459,557,613,634,645,652,659,683,697,716,735,754,773,792,799,818,825,844,858,877,896,915,934,953,967,986,993,1012,1019,1038,1045,1064,1083,1102,1123,1142,1180,1236,1292,1342,1391]
noncomputable def oN(w:World)(p:Nat×Nat):Option Obj:=match Nat.beq p.1 69 with
 |true=>cH (kAt w 69) p.2
 |false=>cH (lP (nAt p.1) (rW w.params p.1) []) p.2
noncomputable def okP(p:Nat×Nat):Bool:=match Nat.beq p.1 69 with
 |true=>true
 |false=>Nat.blt p.1 69&& !among M0 p.2
noncomputable def KK(w:World):Frag:=kL.map fun p=>(p.2,(oN w p).getD default)
noncomputable def mgF(w:World):Str→Option Value:=(hS w).nsMap mainGlobals
theorem wI{o:Obj}(h:o.isFreed=false):alive o=some o:=by
 obtain⟨a,b,d,c⟩:=o
 cases d<;>first|rfl|(simp[Obj.isFreed]at h)
structure Bs (w:World)(h:Heap):Prop where
 obj:∀p o,okP p=true→oN w p=some o→o.isFreed=false→h.get? p.2=some o
 ns:h.Ns mainGlobals (mgF w)
 nb:∃mb,h.Ns builtinsNs mb∧∀x:Str,x≠"__name__"→mb x=bootBuiltins x
 lim:h.NoLimit
 sys:∃o,h.get? sysModules=some o
theorem zo(w:World):(hS w).isNs cStatics=true:=by kernel_rfl
theorem BO(w:World):(hS w).nsMap cStatics "sys.recursionlimit"=none:=by kernel_rfl
set_option tactic.hygienic true in
theorem Bs.of{w:World}{h h':Heap}(T:TF w h)(hs:∃o,h.get? sysModules=some o)(k:∀b o,h.get? b=some o→h'.get? b=some o):Bs w h' where
 obj:=fun p o ok e hf=>k _ _ (by
  unfold okP at ok
  unfold oN at e
  rw[←wI hf]
  split at ok
  ·rename_i q;rw[q]at e;exact T.K _ _ e
  ·rename_i q
   rw[q]at e
   rw[Bool.and_eq_true,Bool.not_eq_true']at ok
   exact T.F p.1 (Nat.blt_eq.mp ok.1) _ _ e ok.2)
 ns:=by
  have z:=Heap.Ns.of_isNs T.nG
  rw[b6 T.e3]at z
  exact z.keeps k
 nb:=⟨h.nsMap builtinsNs,(Heap.Ns.of_isNs T.CL).keeps k,fun x hx=>T.blt x hx⟩
 lim:=by
  have e:h.isNs cStatics=true:=(cZ T.e2).trans (zo w)
  exact⟨h.nsMap cStatics,(Heap.Ns.of_isNs e).keeps k,(congrFun (b6 T.e2) _).trans (BO w)⟩
 sys:=let ⟨o,ho⟩:=hs;⟨o,k _ _ ho⟩
theorem nW{α:Type}{f:Nat×Nat→α}:∀{l:List (Nat×Nat)} {a:Nat} {o:α},(l.map fun p=>(p.2,f p)).lookup a=some o→∃p∈l,p.2=a∧f p=o
 |[],_,_,h=>by simp at h
 |p::l,a,o,h=>by
  rw[List.map_cons,List.lookup_cons]at h
  by_cases e:a=p.2
  ·subst e
   rw[beq_self_eq_true]at h
   exact⟨p,Ze ..,rfl,Zt h⟩
  ·rw[beq_eq_false_iff_ne.mpr e]at h
   obtain⟨q,hq,z⟩:=nW h
   exact⟨q,Zh _ hq,z⟩
noncomputable def Dp(w:World)(p:Nat×Nat):Bool:=okP p&&(match oN w p with
 |some o=> !o.isFreed
 |none=>false)
set_option tactic.hygienic true in
theorem Ai{w:World}{h:Heap}(B:Bs w h){p:Nat×Nat}(e:Dp w p=true):h.get? p.2=some ((oN w p).getD default):=by
 unfold Dp at e
 rw[Bool.and_eq_true]at e
 obtain⟨e1,e2⟩:=e
 split at e2
 ·rename_i o ho
  rw[ho]
  exact B.obj p o e1 ho (by simpa using e2)
 ·cases e2
theorem C8(w:World):kL.all (Dp w)=true:=by kernel_rfl
theorem QM{w:World}{h:Heap}(B:Bs w h):(KK w).In h:=by
 intro a o e
 obtain⟨p,hp,rfl,rfl⟩:=nW e
 exact Ai B (Zk (C8 w) p hp)
noncomputable def kk(w:World):Lk:={P:=prog,tx:=tx0,pr:=pw,w:=w,ca:=je,K:=KK w,fa:=gP}
noncomputable def cc:Ck:={P:=prog,loc:=[],gn:=gn0,tx:=tx0,sc:=default,fnI:=fun x=>QQ.lookup x,cnI:=fun x=>Pb.lookup x,hint:=P5}
noncomputable def eqF(a b:Option (Option Value)):Bool:=decide (a=b)
noncomputable def qA(w:World)(d i:Nat):Bool:=match tx0[i]? with
 |some nm=>plainGet (KK w) (je d) nm&&hasDictIn (KK w) (je d)&&eqF (findIn (KK w) (.ref (je d)) nm) (some none)&&eqF (findIn (KK w) (.ref (je d)) "__setattr__") (some (some (.builtin "object.__setattr__")))&&plainOver (KK w) (je d)&&eqF (takerIn (KK w) (je d) nm) (some none)
 |none=>true
noncomputable def Ki(w:World):Bool:=Mo.zipIdx.all fun q=>q.1.all fun i=>qA w q.2 i
theorem Iy(w:World):Ki w=true:=by kernel_rfl
noncomputable def yS(w:World)(g:Nat):Bool:=match oN w (vJ g,gP g)with
 |some ⟨_,_,.func _,_⟩=>okP (vJ g,gP g)
 |_=>false
noncomputable def qE(w:World)(d i g:Nat):Bool:=match tx0[i]? with
 |some nm=>eqF (findIn (KK w) (.ref (je d)) "__getattribute__") (some (some (.builtin "object.__getattribute__")))&&eqF (findIn (KK w) (.ref (je d)) "__getattr__") (some none)&&
   eqF (findIn (KK w) (.ref (je d)) nm) (some (some (.ref (gP g))))&&decide (typeIn (KK w) (.ref (gP g))=some (.type "function"))&&yS w g
 |none=>true
noncomputable def GW(w:World):Bool:=I8.zipIdx.all fun q=>q.1.all fun e=>qE w q.2 e.1 e.2
theorem Bq(w:World):GW w=true:=by kernel_rfl
noncomputable def w8(w:World)(d:Nat)(x:Str):Bool:= !(x==("__debug__":Str))&&decide (mgF w x=some (.ref (je d)))&&keepIn (KK w) (.ref (je d))&&makesIn (KK w) (je d)
noncomputable def K7(w:World):Bool:=Pb.all fun p=>w8 w p.2 p.1
theorem Fz(w:World):K7 w=true:=by kernel_rfl
noncomputable def Fx(w:World)(d:Nat):Option Nat→Bool
 |some g=>eqF (findIn (KK w) (.ref (je d)) "__init__") (some (some (.ref (gP g))))&&decide (typeIn (KK w) (.ref (gP g))=some (.type "function"))
 |none=>eqF (findIn (KK w) (.ref (je d)) "__init__") (some (some (.builtin "object.__init__")))
noncomputable def Gw(w:World):Bool:=JG.zipIdx.all fun q=>Fx w q.2 q.1
theorem sJ(w:World):Gw w=true:=by kernel_rfl
noncomputable def Cz(w:World)(g:Nat)(x:Str):Bool:= !(x==("__debug__":Str))&&decide (mgF w x=some (.ref (gP g)))&&yS w g
noncomputable def LY(w:World):Bool:=QQ.all fun p=>Cz w p.2 p.1
theorem GN(w:World):LY w=true:=by kernel_rfl
theorem y0(w:World):(mgF w "len"=none∧bootBuiltins "len"=some (.builtin "len"))∧(mgF w "abs"=none∧bootBuiltins "abs"=some (.builtin "abs"))∧(mgF w "isinstance"=none∧bootBuiltins "isinstance"=some (.builtin "isinstance"))∧
  (mgF w "range"=none∧bootBuiltins "range"=some (.type "range"))∧(mgF w "int"=none∧bootBuiltins "int"=some (.type "int")):=
 ⟨⟨by kernel_rfl,by kernel_rfl⟩,⟨by kernel_rfl,by kernel_rfl⟩,⟨by kernel_rfl,by kernel_rfl⟩,⟨by kernel_rfl,by kernel_rfl⟩,⟨by kernel_rfl,by kernel_rfl⟩⟩
noncomputable def qf:List Str→Bool
 |[]=>true
 |x::l=>l.all (fun y=> !(y==x))&&qf l
theorem nZ:∀{l:List Str},qf l=true→∀(i j:Nat) (x:Str),l[i]?=some x→l[j]?=some x→i=j
 |[],_,i,j,x,h,_=>by simp at h
 |a::l,hn,i,j,x,hi,hj=>by
  rw[qf,Bool.and_eq_true]at hn
  have no:∀k,l[k]?=some a→False:=fun k h=>by
   have:=Zk hn.1 a (Zx h)
   simp at this
  cases i with
  |zero=>
   cases j with
   |zero=>rfl
   |succ j=>cases Zt hi;exact (no j (by simpa using hj)).elim
  |succ i=>
   cases j with
   |zero=>cases Zt hj;exact (no i (by simpa using hi)).elim
   |succ j=>exact congrArg (· +1) (nZ hn.2 i j x (by simpa using hi) (by simpa using hj))
theorem CO:qf tx0=true:=by kernel_rfl
noncomputable def KZ:Bool:=D1.zipIdx.all fun q=>match tx0[q.2]? with
 |some x=>decide (x.length=q.1)&&decide (q.1<1000)
 |none=>false
theorem G6:KZ=true:=by kernel_rfl
noncomputable def Fp:Bool:=Bt.zipIdx.all fun q=>match q.1 with
 |some d=>(match tx0[q.2]?,tx0[d]? with
  |some x,some y=>(match y.cps.toList with
   |[ch]=>decide (x.cps[0]?=some ch)
   |_=>false)
  |_,_=>false)
 |none=>true
theorem BB:Fp=true:=by kernel_rfl
theorem n6:tx0[prog.bR]?=some "append"∧tx0[prog.iQ]?=some "pop"∧tx0[prog.Ax]?=some "get":=⟨by kernel_rfl,by kernel_rfl,by kernel_rfl⟩
theorem ic{α:Type}{l:List α}{f:α×Nat→Bool}(h:l.zipIdx.all f=true){i:Nat}{x:α}(e:l[i]?=some x):f (x,i)=true:=by
 refine Zk h _ ?_
 rw[List.mem_zipIdx_iff_getElem?]
 exact e
theorem gW{a b:Option (Option Value)}(h:eqF a b=true):a=b:=Z0 h
set_option tactic.hygienic true in
theorem Ih{d i:Nat}(h:prog.att d i=true):∃l,Mo[d]?=some l∧i∈l:=by
 have h:Cq d i=true:=h
 unfold Cq at h
 split at h
 ·rename_i l e;exact⟨l,e,by simpa using h⟩
 ·cases h
theorem pC{w:World}{d i:Nat}{nm:Str}(h:prog.att d i=true)(hx:tx0[i]?=some nm):qA w d i=true:=by
 obtain⟨l,e,hi⟩:=Ih h
 exact Zk (ic (Iy w) e) i hi
theorem Ov(w:World):Jf (kk w) where
 get:=fun d i nm h hx=>by
  have z:=pC (w:=w) h hx
  unfold qA at z
  rw[show tx0[i]?=some nm from hx]at z
  simp only[Bool.and_eq_true]at z
  exact⟨z.1.1.1.1.1,z.1.1.1.1.2,gW z.1.1.1.2⟩
theorem setOk(w:World):I1 (kk w) where
 get:=fun d i nm h hx=>by
  have z:=pC (w:=w) h hx
  unfold qA at z
  rw[show tx0[i]?=some nm from hx]at z
  simp only[Bool.and_eq_true]at z
  refine ⟨gW z.1.1.2,z.1.2,gW z.2,?_⟩
  exact z.1.1.1.1.2
set_option tactic.hygienic true in
theorem te{w:World}{h:Heap}(B:Bs w h){g:Nat}(e:yS w g=true):∃o fd,h.get? (gP g)=some o∧o.data=.func fd:=by
 unfold yS at e
 split at e
 ·rename_i a b fd c ho
  exact⟨_,fd,B.obj _ _ e ho rfl,rfl⟩
 ·cases e
theorem lookup_mem{α β:Type}[BEq α][LawfulBEq α]:∀{l:List (α×β)} {x:α} {y:β},l.lookup x=some y→(x,y)∈l
 |[],_,_,h=>nomatch h
 |(a,b)::l,x,y,h=>by
  rw[List.lookup_cons]at h
  by_cases q:x=a
  ·subst q;rw[beq_self_eq_true]at h;cases h;exact Ze ..
  ·rw[beq_eq_false_iff_ne.mpr q]at h;exact Zh _ (lookup_mem h)
set_option tactic.hygienic true in
theorem ML{w:World}{h:Heap}(B:Bs w h):Ed (kk w) h where
 get:=fun d i g nm hm hx=>by
  have hm:wR d i=some g:=hm
  unfold wR at hm
  split at hm
  ·rename_i l e
   have z:qE w d i g=true:=Zk (ic (Bq w) e) _ (lookup_mem hm)
   unfold qE at z
   rw[show tx0[i]?=some nm from hx]at z
   simp only[Bool.and_eq_true]at z
   exact⟨gW z.1.1.1.1,gW z.1.1.1.2,gW z.1.1.2,Z0 z.1.2,te B z.2⟩
  ·cases hm
theorem newOk(w:World):Js (kk w) cc.cnI (mgF w) where
 get:=fun d x hn=>by
  have z:w8 w d x=true:=Zk (Fz w) _ (lookup_mem hn)
  unfold w8 at z
  simp only[Bool.and_eq_true,Bool.not_eq_true']at z
  exact⟨z.1.1.1,Z0 z.1.1.2,z.1.2,z.2⟩
 init:=fun d g h=>by
  have z:=Z3 (ic (sJ w) h)
  exact⟨gW z.1,Z0 z.2⟩
 none:=fun d h=>gW (ic (sJ w) h)
theorem RJ{w:World}{h:Heap}(B:Bs w h)(g:Nat)(x:Str)(hn:cc.fnI x=some g):(x==("__debug__":Str))=false∧mgF w x=some (.ref (gP g))∧∃o fd,h.get? (gP g)=some o∧o.data=.func fd:=by
 have z:Cz w g x=true:=Zk (GN w) _ (lookup_mem hn)
 unfold Cz at z
 simp only[Bool.and_eq_true,Bool.not_eq_true']at z
 exact⟨z.1.1,Z0 z.1.2,te B z.2⟩
set_option tactic.hygienic true in
theorem Km(w:World):ik (kk w) where
 inj:=fun i j x=>nZ CO i j x
 DZ:=fun c n h=>by
  have h:D1[c]?=some n:=h
  have z:=ic G6 h
  split at z
  ·rename_i x hx
   simp only[Bool.and_eq_true,decide_eq_true_eq]at z
   exact⟨x,hx,z.1,z.2⟩
  ·cases z
 ve:=fun c d h=>by
  have h:qG c=some d:=h
  unfold qG at h
  split at h
  ·rename_i x e
   subst h
   have z:=ic BB e
   dsimp only at z
   split at z
   ·rename_i x y h1 h2
    split at z
    ·rename_i ch h3
     refine ⟨x,ch,h1,?_,Z0 z⟩
     have:y=⟨#[ch]⟩:=by
      obtain⟨cps⟩:=y
      have:cps= #[ch]:=by
       apply Array.ext'
       exact h3
      rw[this]
     rw[←this];exact h2
    ·cases z
   ·cases z
  ·cases h
theorem RV(w:World):Qw (kk w):=⟨n6.1,n6.2.1,n6.2.2⟩
noncomputable def KX(a:Nat):Nat:=(gpT.takeWhile fun b=>Nat.ble b a).length-1
noncomputable def qK(w:World)(a:Nat):Option Obj:=oN w (KX a,a)
noncomputable def zS{α β:Type}(p:α→β→Bool):List α→List β→Bool
 |[],[]=>true
 |a::l,b::m=>p a b&&zS p l m
 |_,_=>false
noncomputable def og(w:World):Nat→V→Value→Bool
 |0,_,_=>false
 |n+1,v,mv=>match v,mv with
  |.none,.none=>true
  |.int i,.int j _=>decide (i=j)
  |.str c,.str x _=>(match tx0[c]? with
   |some y=>y==x
   |none=>false)
  |.tup l,.ref a=>okP (KX a,a)&&(match qK w a with
   |some ⟨c,_,.seq items _,_⟩=>decide (c=.type "tuple")&&zS (og w n) l items.toList
   |_=>false)
  |_,_=>false
theorem uQ{h:Heap}{cd:Nat→Heap→Ro→List Addr→Addr→Prop}{f:V→Value→Bool}(ih:∀v mv,f v mv=true→dv tx0 cd h [] [] v mv):∀{l:List V} {ms:List Value},zS f l ms=true→cI tx0 cd h [] [] l ms
 |[],[],_=>trivial
 |_::_,_::_,e=>⟨ih _ _ (Z3 e).1,uQ ih (Z3 e).2⟩
 |[],_::_,e=>nomatch e
 |_::_,[],e=>nomatch e
set_option tactic.hygienic true in
theorem iM{w:World}{h:Heap}(B:Bs w h)(cd:Nat→Heap→Ro→List Addr→Addr→Prop):∀(n:Nat) (v:V) (mv:Value),og w n v mv=true→dv tx0 cd h [] [] v mv
 |0,_,_,e=>nomatch e
 |n+1,v,mv,e=>by
  unfold og at e
  split at e
  ·rfl
  ·exact⟨_,by rw[Z0 e]⟩
  ·split at e
   ·rename_i y hy
    rw[beq_iff_eq.mp e]at hy
    exact⟨_,_,hy,rfl⟩
   ·cases e
  ·rename_i l a
   obtain⟨e1,e2⟩:=Z3 e
   split at e2
   ·rename_i c d items m sl ho
    obtain⟨e3,e4⟩:=Z3 e2
    have hc:=Z0 e3
    subst hc
    exact⟨a,items,rfl,fun q=>q.elim (jV a) fun q=>(nomatch q),⟨_,B.obj _ _ e1 ho rfl,rfl,m,rfl⟩,uQ (iM B cd n) e4⟩
   ·cases e2
  ·cases e
noncomputable def QO(v:V)(e:DictEntry):Bool:=(bc v).elim false fun i=>Value.isInt i e.key&&decide (e.hash=hashInt i)
noncomputable def NM(v:V)(e:DictEntry):Bool:=(pD v).elim false fun c=>(tx0[c]?).elim false fun x=>Value.isStrOf x e.key
noncomputable def ent(w:World)(kc:V→DictEntry→Bool)(p:V×V)(e:DictEntry):Bool:=kc p.1 e&&og w 4 p.2 e.val
noncomputable def qo(w:World)(n a:Nat):Bool:=okP (KX a,a)&& !(a==sysModules)&&(match qK w a with
 |some ⟨c,d,.dict es _,sl⟩=>decide (c=.type "dict")&&d.isNone&&sl.isEmpty&&(match yK n with
  |true=>zS (ent w QO) (n3 n) es.toList&&tA ((n3 n).map (·.1))&&(n3 n).all fun p=>fu p.1
  |false=>zS (ent w NM) (n3 n) es.toList)
 |_=>false)
theorem qJ{w:World}{h:Heap}(B:Bs w h){K:Type}[DecidableEq K]{knd:PySem.KeyKind pw w K}{kv:V→K→Prop}{kc:V→DictEntry→Bool}:∀{l:List (V×V)} {es:List DictEntry},zS (ent w kc) l es=true→(∀v,∀e∈es,kc v e=true→∃i,kv v i∧knd.is i e.key=true∧e.hash=knd.hash i)→
  ∃kvs,dC (kk w) h [] [] kv l kvs∧Pairs knd es kvs∧∀e∈es,∃i,knd.is i e.key=true∧e.hash=knd.hash i
 |[],[],_,_=>⟨[],trivial,.nil,fun e he=>nomatch he⟩
 |p::l,e::es,hm,hk=>by
  obtain⟨h1,h2⟩:=Z3 hm
  obtain⟨h3,h4⟩:=Z3 h1
  obtain⟨kvs,r,ps,z⟩:=qJ B h2 fun v e he=>hk v e (Zh _ he)
  obtain⟨i,a,b,c⟩:=hk p.1 e (Ze ..) h3
  exact⟨(i,e.val)::kvs,⟨⟨a,iM B EO 4 _ _ h4⟩,r⟩,.cons b rfl ps,fun e' he=>(Zm he).elim (fun q=>q▸ ⟨i,b,c⟩) (z e')⟩
 |[],_::_,h,_=>nomatch h
 |_::_,[],h,_=>nomatch h
theorem qW{α:Type}{m:Option α}{f:α→Bool}(h:m.elim false f=true):∃a,m=some a∧f a=true:=by
 cases m
 ·cases h
 ·exact⟨_,rfl,h⟩
theorem HW{v:V}{i:Int}(e:bc v=some i):v=.int i:=by cases v<;>first|(cases e;rfl)|cases e
theorem G4{v:V}{i:Nat}(e:pD v=some i):v=.str i:=by cases v<;>first|(cases e;rfl)|cases e
theorem Iv{w:World}{v:V}{e:DictEntry}(h:QO v e=true):∃i,zI v i∧(intKind pw w).is i e.key=true∧e.hash=(intKind pw w).hash i:=by
 obtain⟨i,e1,h⟩:=qW h
 obtain⟨h1,h2⟩:=Z3 h
 exact⟨i,HW e1,h1,Z0 h2⟩
def QX(v:V)(x:Str):Prop:=∃c,v=.str c∧tx0[c]?=some x
theorem IH{v:V}{e:DictEntry}(h:NM v e=true):∃x,QX v x∧Value.isStrOf x e.key=true:=by
 obtain⟨c,e1,h⟩:=qW h
 obtain⟨x,e2,h⟩:=qW h
 exact⟨x,⟨c,G4 e1,e2⟩,h⟩
set_option tactic.hygienic true in
theorem CP{w:World}{h:Heap}(B:Bs w h){n a:Nat}(e:qo w n a=true)(hs:yK n=false→((n3 n).map (·.1)).Nodup∧∀o es ep,qK w a=some o→o.data=.dict es ep→∀e∈es.toList,∀x t,e.key=.str x t→e.hash=hashStr w x):
  VR (kk w) h [] [] (.cd n) (.ref a):=by
 unfold qo at e
 simp only[Bool.and_eq_true,Bool.not_eq_true']at e
 obtain⟨⟨e1,e2⟩,e3⟩:=e
 split at e3
 ·rename_i c d es ep sl ho
  simp only[Bool.and_eq_true,decide_eq_true_eq]at e3
  obtain⟨⟨⟨rfl,e5⟩,e6⟩,e7⟩:=e3
  have hg:=B.obj _ _ e1 ho rfl
  refine ⟨a,rfl,fun q=>q.elim (jV a) fun q=>(nomatch q),e2,?_⟩
  have ex:(⟨.type "dict",d,.dict es ep,sl⟩:Obj).ExactDict:=⟨rfl,Option.isNone_iff_eq_none.mp e5,Array.isEmpty_iff.mp e6⟩
  have at_:∀{K:Type} [DecidableEq K] {knd:PySem.KeyKind pw w K} {kvs:List (K×Value)},Pairs knd es.toList kvs→(∀e∈es.toList,∃i,knd.is i e.key=true∧e.hash=knd.hash i)→(kvs.map (·.1)).Nodup→h.MapOf knd a (valueAt kvs):=fun ps hk nd=>
   Heap.DictOf.mapOf ⟨_,es,ep,hg,ex,rfl,fun e he=>hk e (Array.mem_toList_iff.mpr he),ps,nd⟩
  split at e7
  ·rename_i hc
   rw[show (kk w).P.cdi n=true from hc,if_pos rfl]
   simp only[Bool.and_eq_true]at e7
   obtain⟨kvs,r,ps,hk⟩:=qJ B (knd:=intKind pw w) (kv:=zI) e7.1.1 fun v e ζ=>Iv
   exact⟨valueAt kvs,at_ ps hk (r.nodup E3 (ja (by rw[List.all_map];exact e7.2) e7.1.2)),fun i=>r.find (Jt i)⟩
  ·rename_i hc
   rw[show (kk w).P.cdi n=false from hc,if_neg (by decide)]
   obtain⟨kvs,r,ps,hk⟩:=qJ B (knd:=PySem.strKind pw w) (kv:=QX) e7 fun v e he hk=>by
    obtain⟨x,h,hx⟩:=IH hk
    obtain⟨t,ek⟩:=Value.isStrOf_shape hx
    exact⟨x,h,hx,(hs hc).2 _ es ep ho rfl e he x t ek⟩
   exact⟨valueAt kvs,at_ ps hk (r.nodup (fun v v' x ⟨c,e1,e2⟩ ⟨c',e1',e2'⟩=>by rw[e1,e1',(Km w).inj _ _ _ e2 e2']) (hs hc).1),fun c x hx=>r.find fun v j ⟨c',ev,hj⟩=>by
    rw[ev]
    exact decide_eq_decide.mpr ⟨fun e=>Zt (hj.symm.trans (e▸hx)),fun e=>(Km w).inj _ _ _ hx (e▸hj)⟩⟩
 ·cases e3
theorem NF(w:World)(x:String)(t:Nat)(v:Value):∀y u,(en w.params x t v).key=.str y u→(en w.params x t v).hash=hashStr w y:=fun y u e=>by
 have e:Value.str (Str.ofString x) t=.str y u:=e
 cases e
 rfl
noncomputable abbrev enL(w:World)(l:List (String×Nat×Value)):List DictEntry:=l.map fun q=>en w.params q.1 q.2.1 q.2.2
theorem Mu(w:World)(l:List (String×Nat×Value)):∀e∈enL w l,∀y u,e.key=.str y u→e.hash=hashStr w y:=fun e he=>by
 obtain⟨q,_,rfl⟩:=List.mem_map.mp he
 exact NF w q.1 q.2.1 q.2.2
noncomputable def O6:List (String×Nat×Value):=[("+",1469,(.ref 635)),("-",1470,(.ref 636)),("*",1471,(.ref 637)),("/",1472,(.ref 638)),("%",1473,(.ref 639)),("&",1474,(.ref 640)),("|",1475,(.ref 641)),("^",1476,(.ref 642)),("<<",1477,(.ref 643)),(">>",1478,(.ref 644))]
theorem NU(w:World):qK w 634=some (dW (enL w O6) 10):=by kernel_rfl
noncomputable def Qj:List (String×Nat×Value):=[("==",1490,(.ref 646)),("!=",1492,(.ref 647)),("<",1494,(.ref 648)),(">",1496,(.ref 649)),("<=",1498,(.ref 650)),(">=",1500,(.ref 651))]
theorem Oa(w:World):qK w 645=some (dW (enL w Qj) 6):=by kernel_rfl
noncomputable def QR:List (String×Nat×Value):=[("==",1509,(.ref 653)),("!=",1510,(.ref 654)),("<",1511,(.ref 655)),("<=",1512,(.ref 656)),(">",1513,(.ref 657)),(">=",1514,(.ref 658))]
theorem Ol(w:World):qK w 652=some (dW (enL w QR) 6):=by kernel_rfl
noncomputable def MB:Nat→Option Nat
 |3=>some 634
 |4=>some 645
 |5=>some 652
 |_=>none
noncomputable def nc(n:Nat):Bool:=((n3 n).map (·.1)).all (fun v=>match v with|.str _=>true|_=>false)&&decide (((n3 n).map fun p=>match p.1 with|.str c=>c|_=>0).Nodup)
noncomputable def tJ(w:World)(x:Str)(v:V):Bool:= !(x==("__debug__":Str))&&(match mgF w x with
 |some mv=>(match v with
  |.cd n=>(match mv with
   |.ref a=>qo w n a&&(match yK n with
    |true=>true
    |false=>decide (MB n=some a))
   |_=>false)
  |v=>og w 4 v mv)
 |none=>false)
noncomputable def sE(w:World)(i j:Nat):Bool:=((gn0.zip glT).drop i).take j|>.all fun q=>tJ w q.1 q.2
theorem Rz(w:World):sE w 0 32=true:=by kernel_rfl
theorem Qc(w:World):sE w 32 32=true:=by kernel_rfl
theorem NN(w:World):sE w 64 32=true:=by kernel_rfl
theorem BE:(gn0.zip glT).length=96∧gn0.length=96∧glT.length=96:=⟨by kernel_rfl,by kernel_rfl,by kernel_rfl⟩
theorem kG:nc 3=true∧nc 4=true∧nc 5=true:=⟨by kernel_rfl,by kernel_rfl,by kernel_rfl⟩
theorem kH{n:Nat}(h:nc n=true):((n3 n).map (·.1)).Nodup:=by
 unfold nc at h
 rw[Bool.and_eq_true]at h
 have h2:=Z0 h.2
 have h1:=h.1
 generalize n3 n=l at h1 h2
 rw[List.all_map]at h1
 have key:∀l:List (V×V),(l.map fun p=>match p.1 with|.str c=>c|_=>0).Nodup→(l.all ((fun v=>match v with|V.str _=>true|_=>false) ∘ fun x=>x.1)=true)→(l.map (·.1)).Nodup:=by
  intro l
  induction l with
  |nil=>intro _ _;exact List.nodup_nil
  |cons p l ih=>
   intro h2 h1
   rw[List.all_cons,Bool.and_eq_true]at h1
   rw[List.map_cons,List.nodup_cons]at h2⊢
   refine ⟨fun z=>h2.1 ?_,ih h2.2 h1.2⟩
   obtain⟨q,hq,e⟩:=List.mem_map.mp z
   exact List.mem_map.mpr ⟨q,hq,by rw[e]⟩
 exact key l h2 h1
theorem vR(w:World){n a:Nat}(h:MB n=some a):((n3 n).map (·.1)).Nodup∧∀o es ep,qK w a=some o→o.data=.dict es ep→∀e∈es.toList,∀x t,e.key=.str x t→e.hash=hashStr w x:=by
 have fin:∀{l:List (String×Nat×Value)} {m:Nat},qK w a=some (dW (enL w l) m)→∀o es ep,qK w a=some o→o.data=.dict es ep→∀e∈es.toList,∀x t,e.key=.str x t→e.hash=hashStr w x:=by
  intro l m h0 o es ep ho hd e he x t hk
  rw[h0]at ho
  cases ho
  cases hd
  exact Mu w l e he x t hk
 unfold MB at h
 split at h
 ·cases h;exact⟨kH kG.1,fin (NU w)⟩
 ·cases h;exact⟨kH kG.2.1,fin (Oa w)⟩
 ·cases h;exact⟨kH kG.2.2,fin (Ol w)⟩
 ·cases h
set_option tactic.hygienic true in
theorem AF{w:World}{h:Heap}(B:Bs w h){x:Str}{v:V}(e:tJ w x v=true):(x==("__debug__":Str))=false∧∃mv,mgF w x=some mv∧VR (kk w) h [] [] v mv:=by
 unfold tJ at e
 rw[Bool.and_eq_true,Bool.not_eq_true']at e
 refine ⟨e.1,?_⟩
 have e2:=e.2
 split at e2
 ·rename_i mv hm
  refine ⟨mv,hm,?_⟩
  split at e2
  ·rename_i n
   split at e2
   ·rename_i a
    rw[Bool.and_eq_true]at e2
    refine CP B e2.1 fun hc=>?_
    have e3:=e2.2
    rw[hc]at e3
    exact vR w (Z0 e3)
   ·cases e2
  ·rename_i v hne
   exact pA (k:=kk w) (iM B EO 4 _ _ e2)
 ·cases e2
theorem Cy{w:World}{i j:Nat}(h:sE w i 32=true){n:Nat}{x:Str}(h1:i≤n)(h2:n<i+32)(hx:gn0[n]?=some x)(hn:n<glT.length):tJ w x (Ek n)=true:=by
 unfold sE at h
 have e:(gn0.zip glT)[n]?=some (x,glT[n]):=by rw[List.getElem?_zip_eq_some];exact⟨hx,Zo hn⟩
 have mem:(x,glT[n])∈ ((gn0.zip glT).drop i).take 32:=by
  refine Zx (i:=n-i) ?_
  rw[List.getElem?_take_of_lt (by omega),List.getElem?_drop]
  rw[show i+(n-i)=n by omega]
  exact e
 have z:=Zk h _ mem
 have eg:Ek n=glT[n]:=by unfold Ek;rw[Zo hn]
 rw[eg];exact z
theorem glb(w:World){h:Heap}(B:Bs w h){mb:Str→Option Value}(nb:h.Ns builtinsNs mb):Glb (kk w) gn0 h (mgF w) mb where
 ns:=B.ns
 nb:=nb
 K:=QM B
 lim:=B.lim
 sys:=B.sys
 con:=fun j x hx=>by
  have hj:=(Z6 hx).1
  rw[BE.2.1]at hj
  have hn:j<glT.length:=by rw[BE.2.2];exact hj
  have:tJ w x (Ek j)=true:=by
   rcases Nat.lt_or_ge j 32 with q|q
   ·exact Cy (j:=0) (Rz w) (Nat.zero_le _) q hx hn
   ·rcases Nat.lt_or_ge j 64 with q2|q2
    ·exact Cy (j:=0) (Qc w) q q2 hx hn
    ·exact Cy (j:=0) (NN w) q2 (by omega) hx hn
  exact AF B this
noncomputable def bodyOf(w:World)(g:Nat):List S:=match oN w (vJ g,gP g)with
 |some ⟨_,_,.func fd,_⟩=>(match fd.body with
  |.stmts body=>A4 {cc with loc:=yH g,sc:=fd.scope} 20 body
  |_=>[])
 |_=>[]
noncomputable def GS:FuncBody→Bool
 |.stmts _=>true
 |_=>false
noncomputable def nM(w:World)(g:Nat)(x:Option Fn):Bool:=match x with
 |none=>true
 |some Fn=>match oN w (vJ g,gP g),oN w (vJ g,gP g-1)with
  |some ⟨_,_,.func fd,_⟩,some ⟨_,_,.fields vs,_⟩=>okP (vJ g,gP g)&&okP (vJ g,gP g-1)&&decide (fd.code=.ref (gP g-1))&&(match (vs[1]? :Option Value)with
    |some (Value.str q _)=>q==fd.qualname
    |_=>false)&&decide (fd.globals=mainGlobals)&&decide (fd.builtins=builtinsNs)&&decide ((yH g).length=Fn.nl)&&plainDef fd (yH g) Fn.np&&GS fd.body
  |_,_=>false
set_option tactic.hygienic true in
theorem wQ{w:World}{h:Heap}(B:Bs w h){g:Nat}{Fn:Mini.Internal.Fn}(e:nM w g (some Fn)=true)(et:bodyOf w g=Fn.body):∃o fd body names,FnAt (kk w) cc h g Fn o fd body names:=by
 unfold nM at e
 dsimp only at e
 unfold bodyOf at et
 split at e
 ·rename_i c1 d1 fd s1 c2 d2 vs s2 h1 h2
  rw[h1]at et
  simp only[Bool.and_eq_true,decide_eq_true_eq]at e
  obtain⟨⟨⟨⟨⟨⟨⟨⟨e1,e2⟩,e3⟩,e4⟩,e5⟩,e6⟩,e7⟩,e8⟩,e9⟩:=e
  dsimp only at et
  split at e4
  ·rename_i q t hq
   rw[beq_iff_eq.mp e4]at hq
   cases hb:fd.body with
   |stmts body=>rw[hb]at et;exact⟨_,fd,body,yH g,B.obj _ _ e1 h1 rfl,rfl,hb,⟨_,_,vs,t,e3,B.obj _ _ e2 h2 rfl,rfl,hq⟩,e5,e6,e7,e8,et⟩
   |expr _=>rw[hb]at e9;cases e9
  ·cases e4
 ·cases e
noncomputable def gS(w:World)(i:Nat):Bool:=((fnT.zipIdx.drop i).take 20).all fun q=>nM w q.2 q.1
noncomputable def iB(w:World)(q:Option Fn×Nat):List S:=match q.1 with
 |some _=>bodyOf w q.2
 |none=>[]
noncomputable def iF(q:Option Fn×Nat):List S:=match q.1 with
 |some F=>F.body
 |none=>[]
def gK(w:World)(i:Nat):Prop:=((fnT.zipIdx.drop i).take 20).map (iB w)=((fnT.zipIdx.drop i).take 20).map iF
theorem NR(w:World):gS w 0=true:=by kernel_rfl
theorem ME(w:World):gK w 0:=(by kernel_rfl:((fnT.zipIdx.drop 0).take 20).map (iB w)=((fnT.zipIdx.drop 0).take 20).map iF)
theorem Lh(w:World):gS w 20=true:=by kernel_rfl
theorem HK(w:World):gK w 20:=(by kernel_rfl:((fnT.zipIdx.drop 20).take 20).map (iB w)=((fnT.zipIdx.drop 20).take 20).map iF)
theorem KO(w:World):gS w 40=true:=by kernel_rfl
theorem Fl(w:World):gK w 40:=(by kernel_rfl:((fnT.zipIdx.drop 40).take 20).map (iB w)=((fnT.zipIdx.drop 40).take 20).map iF)
theorem Kx(w:World):gS w 60=true:=by kernel_rfl
theorem ID(w:World):gK w 60:=(by kernel_rfl:((fnT.zipIdx.drop 60).take 20).map (iB w)=((fnT.zipIdx.drop 60).take 20).map iF)
theorem Md(w:World):gS w 80=true:=by kernel_rfl
theorem FZ(w:World):gK w 80:=(by kernel_rfl:((fnT.zipIdx.drop 80).take 20).map (iB w)=((fnT.zipIdx.drop 80).take 20).map iF)
theorem HY(w:World):gS w 100=true:=by kernel_rfl
theorem DD(w:World):gK w 100:=(by kernel_rfl:((fnT.zipIdx.drop 100).take 20).map (iB w)=((fnT.zipIdx.drop 100).take 20).map iF)
theorem Gu(w:World):gS w 120=true:=by kernel_rfl
theorem AX(w:World):gK w 120:=(by kernel_rfl:((fnT.zipIdx.drop 120).take 20).map (iB w)=((fnT.zipIdx.drop 120).take 20).map iF)
theorem jf{w:World}{i n:Nat}(h:gS w i=true)(ht:gK w i)(h1:i≤n)(h2:n<i+20){x:Option Fn}(e:fnT[n]?=some x):nM w n x=true∧iB w (x,n)=iF (x,n):=by
 have mem:(x,n)∈ (fnT.zipIdx.drop i).take 20:=by
  refine Zx (i:=n-i) ?_
  rw[List.getElem?_take_of_lt (by lia),List.getElem?_drop,List.getElem?_zipIdx,show i+(n-i)=n by lia,e,Nat.zero_add]
  rfl
 exact⟨Zk h _ mem,List.map_inj_left.mp ht _ mem⟩
theorem Kd:fnT.length=131:=by kernel_rfl
theorem L9(w:World)(n:Nat)(x:Option Fn)(e:fnT[n]?=some x):nM w n x=true∧iB w (x,n)=iF (x,n):=by
 have hg:=(Z6 e).1
 rw[Kd]at hg
 by_cases h1:n<20
 ·exact jf (NR w) (ME w) (Nat.zero_le _) h1 e
 by_cases h2:n<40
 ·exact jf (Lh w) (HK w) (Nat.le_of_not_lt h1) h2 e
 by_cases h3:n<60
 ·exact jf (KO w) (Fl w) (Nat.le_of_not_lt h2) h3 e
 by_cases h4:n<80
 ·exact jf (Kx w) (ID w) (Nat.le_of_not_lt h3) h4 e
 by_cases h5:n<100
 ·exact jf (Md w) (FZ w) (Nat.le_of_not_lt h4) h5 e
 by_cases h6:n<120
 ·exact jf (HY w) (DD w) (Nat.le_of_not_lt h5) h6 e
 ·exact jf (Gu w) (AX w) (Nat.le_of_not_lt h6) (ZA hg (by decide)) e
set_option tactic.hygienic true in
theorem QC{w:World}{h:Heap}(B:Bs w h)(g:Nat)(Fn:Mini.Internal.Fn)(e:prog.fn g=some Fn):∃o fd body names,FnAt (kk w) cc h g Fn o fd body names:=by
 have e:fnOf g=some Fn:=e
 unfold fnOf at e
 split at e
 ·rename_i x ex
  subst e
  obtain⟨a,b⟩:=L9 w g _ ex
  exact wQ B a b
 ·cases e
theorem ground{w:World}{h:Heap}(B:Bs w h):∃mb,Ground (kk w) cc h (mgF w) mb:=by
 obtain⟨mb,nb,hb⟩:=B.nb
 have bf:=y0 w
 have up:∀{x:Str} {v:Value},x≠"__name__"→mgF w x=none∧bootBuiltins x=some v→mgF w x=none∧mb x=some v:=fun n e=>⟨e.1,(hb _ n).trans e.2⟩
 refine ⟨mb,{P:=rfl,tx:=rfl,T:=Km w,G:=glb w B nb,cls:=Ov w,fn:=fun g x=>RJ B g x,blt:=fun x hx=>?_,FG:=up (by decide+kernel) bf.2.2.2.1,Ic:=up (by decide+kernel) bf.2.2.2.2,th:=RD rfl,nm:=RV w,af:=ML B,new:=newOk w,set:=setOk w}⟩
 rcases Zm hx with rfl|hx
 ·exact up (by decide+kernel) bf.1
 rcases Zm hx with rfl|hx
 ·exact up (by decide+kernel) bf.2.1
 ·rw[List.mem_singleton]at hx
  subst hx
  exact up (by decide+kernel) bf.2.2.1
theorem nt{R:WRecords}:∀{xs:List WData},WShape.hasItems R xs .int=true→∃ks:List Int,xs=ks.map WData.int
 |[],_=>⟨[],rfl⟩
 |x::xs,h=>by
  rw[WShape.hasItems,Bool.and_eq_true]at h
  obtain⟨ks,rfl⟩:=nt h.2
  cases x<;>first|exact⟨_::ks,rfl⟩|cases h.1
theorem mT{R:WRecords}{cl:Str→Option Addr}{h:Heap}{k:Lk}:∀{ks:List Int} {vs:List Value} {as:List Addr},ReadsAllW R cl h vs (ks.map WData.int) as→VRs k h [] [] (ks.map V.int) vs
 |[],vs,as,r=>by obtain⟨rfl,_⟩:=readsAllW_nil_inv r;trivial
 |i::ks,vs,as,r=>by
  obtain⟨v,vs',as1,as2,rfl,_,r1,r2⟩:=readsAllW_cons_inv r
  obtain⟨t,rfl,_⟩:=readsW_int_inv r1
  exact⟨⟨t,rfl⟩,mT r2⟩
def oC:Prop:=∀ks:List Int,ks.length≤1048576→∃H',aa prog 170 Je [.fl (ks.map V.int)] []=some (.bool true,H')
theorem qT{b:Addr}(h:hot [] [] b):False:=h.elim (jV b) fun q=>nomatch q
theorem Me{k:Lk}{h:Heap}{s₁:Shared}{H':Mini.Internal.H}{σ':Sg}{mv:Value}(hg:s₁.gens= #[])(m:MvS k h noX ⟨[],[],s₁⟩ H' σ')(rv:VR k σ'.s.heap σ'.R σ'.F (.bool true) mv):mv=.bool true∧OldK s₁.heap σ'.s.heap∧σ'.s.os=s₁.os∧AllBare σ'.s.gens:=
 ⟨rv,OldK.of_keep fun b o e=>m.x.keep b o e (jV b) (fun z=>z),by rw[m.e],by rw[m.e];exact AllBare.of_eq hg⟩
theorem call_of{k:Lk}{base:Heap}{A:Around}{f0:Fm}{call:Dg}{s:Shared}{g n:Nat}{vs:List V}{mvs:List Value}{v:V}{H':Mini.Internal.H}{Q:Value→Shared→Prop}{E:Value→Shared→Prop}(fa:k.fa g=n)(c:xx ⟨k,base,A,f0,call⟩ A)(S:St k base [] [] [] s.heap)(v0:VRs k s.heap [] [] vs mvs)(hc:call g vs []=some (v,H'))
  (h:∀mv σ',MvS k base noX ⟨[],[],s⟩ H' σ'→VR k σ'.s.heap σ'.R σ'.F v mv→Q mv σ'.s):wpAny (model k.pr k.w) A (PySem.call (.ref n) mvs) Q E s:=by
 subst fa
 exact wpAny_call (c g vs [] ⟨[],[],s⟩ mvs _ S v0 (RQ hc h))
theorem GJ(L:oC):Walk:=by
 intro w s₀ s₁ T hs keeps hg args vs as hpre hlay LL
 have B:Bs w s₁.heap:=Bs.of T hs keeps
 obtain⟨mb,G⟩:=ground B
 obtain⟨hsh,_⟩:=pre_splitW hpre
 obtain⟨d,r,rfl,h1,h2⟩:=hasAllW_cons hsh
 obtain rfl:r=[]:=by
  induction r with
  |nil=>rfl
  |cons a b=>cases h2
 have hl:=hasW_list h1
 obtain⟨xs,rfl,hi⟩:=hl
 obtain⟨ks,rfl⟩:=nt hi
 have lay1:(WData.list (ks.map WData.int)).layable=true:=by
  have:=hlay
  simp only[WData.layableAll,List.all_cons,List.all_nil,Bool.and_true]at this
  exact this
 have hlen:ks.length≤1048576:=by
  have:=length_le_of_layableW lay1
  rwa [Z9]at this
 obtain⟨v,vs',as1,as2,rfl,_,r1,r2⟩:=readsAllW_cons_inv LL.reads
 obtain⟨rfl,_⟩:=readsAllW_nil_inv r2
 obtain⟨a,items,as',rfl,il,ri,_⟩:=readsW_list_inv r1
 have S:St (kk w) s₁.heap [] [] [] s₁.heap:=
  ⟨fun b o e=>e,fun b hb=>(qT hb).elim,fun b hb=>(qT hb).elim,rfl,fun i o p hi=>(nomatch hi),fun i j p q hi=>(nomatch hi),fun b hb=>(jV b hb).elim⟩
 obtain⟨H',hc⟩:=L ks hlen
 have room:tQ callerA 170:=⟨rfl,by decide,by decide⟩
 have call:=pW G (QC B) 170 callerA ⟨default,[]⟩ room
 have fa:(kk w).fa Je=1439:=by kernel_rfl
 have v0:VRs (kk w) s₁.heap [] [] [.fl (ks.map V.int)] [.ref a]:=⟨⟨a,items,rfl,qT,il,mT ri⟩,trivial⟩
 exact call_of (k:=kk w) fa call S v0 hc fun mv σ' m rv=>Me hg m rv
theorem nE(L:oC):PySem.Challenge.rw_sj0013_01.Holds:=pf (GJ L)
end Mini.Internal
end
section
namespace Mini.Internal.Pl
structure Fq (α:Type) where
 q:Option α
 r:Option α
 e:q=r
structure Fr (α:Type) where
 q:Option α
 r:Option α
inductive Fa where
 |c (f:Fq (V×H))
 |b (f:Fq Bool)
 |v (f:Fq V)
 |h (f:Fq H)
 |n (f:Fq Nat)
 |s (f:Fq V)
 |i (f:Fq Int)
 |o (f:Fq (Option Nat))
 |oc|ob|ov|oh|il
inductive Fo where
 |c (f:Fr (V×H))
 |b (f:Fr Bool)
 |v (f:Fr V)
 |h (f:Fr H)
 |n (f:Fr Nat)
 |s (f:Fr V)
 |i (f:Fr Int)
 |o (f:Fr (Option Nat))
 |oc|ob|ov|oh|il
noncomputable def Fa.raw:Fa→Fo
 |.c f=>.c ⟨f.q,f.r⟩
 |.b f=>.b ⟨f.q,f.r⟩
 |.v f=>.v ⟨f.q,f.r⟩
 |.h f=>.h ⟨f.q,f.r⟩
 |.n f=>.n ⟨f.q,f.r⟩
 |.s f=>.s ⟨f.q,f.r⟩
 |.i f=>.i ⟨f.q,f.r⟩
 |.o f=>.o ⟨f.q,f.r⟩
 |.oc=>.oc
 |.ob=>.ob
 |.ov=>.ov
 |.oh=>.oh
 |.il=>.il
noncomputable abbrev Re(α:Type):=Option (α×List Fo×List Prop)
noncomputable def qO{α:Type}(Q:Option α)(as:List Fo):Re α:=match Q with|some r=>some (r,as,[])|none=>none
noncomputable def qF{α:Type}(f:Fr α)(Q:Option α)(as:List Fo):Re α:=match f.r with|some r=>some (r,as,[Q=f.r])|none=>none
noncomputable def qC(Q:Option (V×H)):List Fo→Re (V×H)
 |.c f::as=>qF f Q as
 |.oc::as=>qO Q as
 |as=>qO Q as
noncomputable def qB(Q:Option Bool):List Fo→Re Bool
 |.b f::as=>qF f Q as
 |.ob::as=>qO Q as
 |as=>qO Q as
noncomputable def qV(Q:Option V):List Fo→Re V
 |.v f::as=>qF f Q as
 |.ov::as=>qO Q as
 |as=>qO Q as
noncomputable def qH(Q:Option H):List Fo→Re H
 |.h f::as=>qF f Q as
 |.oh::as=>qO Q as
 |as=>qO Q as
noncomputable def qN(Q:Option Nat):List Fo→Re Nat
 |.n f::as=>qF f Q as
 |as=>qO Q as
noncomputable def qS(Q:Option V):List Fo→Re V
 |.s f::as=>qF f Q as
 |as=>qO Q as
noncomputable def qSo(Q:Option (Option Nat)):List Fo→Re (Option Nat)
 |.o f::as=>qF f Q as
 |as=>qO Q as
noncomputable def qI(o:Op)(Q:Option Int)(as:List Fo):Re Int:=match o,as with
 |.fdiv,.i f::as=>qF f Q as
 |_,as=>qO Q as
noncomputable def OX:List Fo→Option (List Fo)
 |.il::as=>some as
 |_=>none
noncomputable def qCl(k:List Fo→Re (V×H))(Q:Option (V×H))(as:List Fo):Re (V×H):=match OX as with
 |some r=>k r
 |none=>qC Q as
noncomputable def Mf(x:V)(Q:Option V)(as:List Fo):Re V:=match x with
 |.tup _=>qS Q as
 |.fl _=>qS Q as
 |_=>qV Q as
noncomputable def Kz(x:V)(Q:Option Bool)(as:List Fo):Re Bool:=match x with
 |.bool _=>qO Q as
 |.none=>qO Q as
 |_=>qB Q as
noncomputable def Cd(o:Cmp)(Q:Option Bool)(as:List Fo):Re Bool:=match o with
 |.isn=>qO Q as
 |.jh=>qO Q as
 |_=>qB Q as
noncomputable def Pq(o:Op)(Q:Option (V×H))(as:List Fo):Re (V×H):=match o with
 |.mul=>qC Q as
 |.fdiv=>qC Q as
 |.mod=>qC Q as
 |.pow=>qC Q as
 |.shl=>qC Q as
 |_=>qO Q as
noncomputable def LK(c:Nat)(Q:Option (V×H))(as:List Fo):Re (V×H):=if c=4 then qC Q as else qO Q as
noncomputable def aQ{α β:Type}(x:Re α)(k:α→List Fo→Re β):Re β:=match x with
 |some (a,as,ps)=>(match k a as with
  |some (b,bs,qs)=>some (b,bs,ps++qs)
  |none=>none)
 |none=>none
section
variable(P:Prog)(call:Nat→List V→H→Option (V×H))(wc:Nat→List V→H→List Fo→Re (V×H))
mutual
noncomputable def wE:E→Loc→H→List Fo→Re (V×H)
 |.cst v,_,h,as=>some ((v,h),as,[])
 |.gl j,_,h,as=>some ((P.gl j,h),as,[])
 |.bin op a b,l,h,as=>aQ (wE a l h as) fun x as=>aQ (wE b l x.2 as) fun y as=>Pq op (binop op x.1 y.1 y.2) as
 |.neg a,l,h,as=>aQ (wE a l h as) fun x as=>qO ((bc x.1).bind fun i=>some (.int (-i),x.2)) as
 |.bop t es,l,h,as=>wB t es l h as
 |.cmp op a b,l,h,as=>aQ (wE a l h as) fun x as=>aQ (wE b l x.2 as) fun y as=>aQ (Cd op (iz P op x.1 y.1 y.2) as) fun r as=>some ((.bool r,y.2),as,[])
 |.ife c a b,l,h,as=>aQ (wC c l h as) fun x as=>if x.1=true then wE a l x.2 as else wE b l x.2 as
 |.attr o f,l,h,as=>aQ (wE o l h as) fun x as=>aQ (qV (jR x.1 f x.2) as) fun v as=>some ((v,x.2),as,[])
 |.sub o i,l,h,as=>aQ (wE o l h as) fun x as=>aQ (wE i l x.2 as) fun k as=>aQ (Mf x.1 (aJ P x.1 k.1 k.2) as) fun v as=>some ((v,k.2),as,[])
 |.tup es,l,h,as=>aQ (wL es l h as) fun vs as=>some ((.tup vs.1,vs.2),as,[])
 |.fl es,l,h,as=>aQ (wL es l h as) fun vs as=>some ((.fl vs.1,vs.2),as,[])
 |.aX es,l,h,as=>aQ (wL es l h as) fun vs as=>some ((.ref vs.2.length,vs.2++[.list vs.1]),as,[])
 |.call f es,l,h,as=>aQ (wL es l h as) fun vs as=>qCl (wc f vs.1 vs.2) (call f vs.1 vs.2) as
 |.af o m es,l,h,as=>aQ (wE o l h as) fun x as=>aQ (qSo (fA P x.1 m x.2) as) fun s as=>match s with
  |some c=>aQ (qO (P.af c m) as) fun f as=>aQ (wL es l x.2 as) fun vs as=>qCl (wc f (x.1::vs.1) vs.2) (call f (x.1::vs.1) vs.2) as
  |none=>aQ (wL es l x.2 as) fun vs as=>qC (ah P x.1 m vs.1 vs.2) as
 |.len a,l,h,as=>aQ (wE a l h as) fun x as=>aQ (qN (lenOf P x.1 x.2) as) fun n as=>some ((.int n,x.2),as,[])
 |.new c es,l,h,as=>aQ (wL es l h as) fun vs as=>LK c (jG P call c vs.1 vs.2) as
 |.isInt a,l,h,as=>aQ (wE a l h as) fun x as=>qO ((xG x.1).bind fun b=>some (.bool b,x.2)) as
 |e,l,h,as=>qO (evE P call e l h) as
noncomputable def wL:List E→Loc→H→List Fo→Re (List V×H)
 |[],_,h,as=>some (([],h),as,[])
 |e::r,l,h,as=>aQ (wE e l h as) fun x as=>aQ (wL r l x.2 as) fun y as=>some ((x.1::y.1,y.2),as,[])
noncomputable def wB:Bool→List E→Loc→H→List Fo→Re (V×H)
 |_,[],_,_,_=>none
 |t,e::r,l,h,as=>aQ (wE e l h as) fun x as=>match r with
  |[]=>some (x,as,[])
  |_::_=>aQ (Kz x.1 (truthy x.1 x.2) as) fun b as=>if b=t then wB t r l x.2 as else some (x,as,[])
noncomputable def wC:C→Loc→H→List Fo→Re (Bool×H)
 |.e e,l,h,as=>aQ (wE e l h as) fun x as=>aQ (Kz x.1 (truthy x.1 x.2) as) fun b as=>some ((b,x.2),as,[])
 |.no a,l,h,as=>aQ (wC a l h as) fun x as=>some ((!x.1,x.2),as,[])
 |.bop t es,l,h,as=>wCs t es l h as
 |.cmp op a b,l,h,as=>aQ (wE a l h as) fun x as=>aQ (wE b l x.2 as) fun y as=>aQ (Cd op (iz P op x.1 y.1 y.2) as) fun r as=>some ((r,y.2),as,[])
 |.oQ op op2 a b c,l,h,as=>aQ (wE a l h as) fun x as=>aQ (wE b l x.2 as) fun y as=>aQ (Cd op (iz P op x.1 y.1 y.2) as) fun r as=>if r=true then aQ (wE c l y.2 as) fun z as=>aQ (Cd op2 (iz P op2 y.1 z.1 z.2) as) fun r as=>some ((r,z.2),as,[])else some ((false,y.2),as,[])
noncomputable def wCs:Bool→List C→Loc→H→List Fo→Re (Bool×H)
 |t,[],_,h,as=>some ((t,h),as,[])
 |t,e::r,l,h,as=>aQ (wC e l h as) fun x as=>if x.1=t then wCs t r l x.2 as else some (x,as,[])
end
mutual
noncomputable def wS:S→Loc→H→List Fo→Re (Flow×Loc×H)
 |.asg i e,l,h,as=>aQ (wE P call wc e l h as) fun x as=>some ((.next,l.set i (some x.1),x.2),as,[])
 |.aC o k e,l,h,as=>aQ (wE P call wc e l h as) fun v as=>aQ (wE P call wc o l v.2 as) fun x as=>aQ (wE P call wc k l x.2 as) fun i as=>aQ (qH (subset P x.1 i.1 v.1 i.2) as) fun h4 as=>some ((.next,l,h4),as,[])
 |.ae o f e,l,h,as=>aQ (wE P call wc e l h as) fun v as=>aQ (wE P call wc o l v.2 as) fun x as=>aQ (qH (lW P x.1 f v.1 x.2) as) fun h4 as=>some ((.next,l,h4),as,[])
 |.ex e,l,h,as=>aQ (wE P call wc e l h as) fun x as=>some ((.next,l,x.2),as,[])
 |.unp is e,l,h,as=>aQ (wE P call wc e l h as) fun x as=>qO ((sI x.1).bind fun vs=>(kP is vs l).bind fun l2=>some (.next,l2,x.2)) as
 |.gF o k op e,l,h,as=>aQ (wE P call wc o l h as) fun x as=>aQ (wE P call wc k l x.2 as) fun i as=>aQ (Mf x.1 (aJ P x.1 i.1 i.2) as) fun a as=>aQ (wE P call wc e l i.2 as) fun b as=>
   aQ (qO (bc a) as) fun y as=>aQ (qO (bc b.1) as) fun z as=>aQ (qI op (u7 op y z) as) fun c as=>aQ (qH (subset P x.1 i.1 (.int c) b.2) as) fun h4 as=>some ((.next,l,h4),as,[])
 |.ite c a b,l,h,as=>aQ (wC P call wc c l h as) fun x as=>if x.1=true then wSs a l x.2 as else wSs b l x.2 as
 |.ret e,l,h,as=>aQ (wE P call wc e l h as) fun x as=>some ((.ret x.1,l,x.2),as,[])
 |s,l,h,as=>qO (evS P call s l h) as
noncomputable def wSs:List S→Loc→H→List Fo→Re (Flow×Loc×H)
 |[],l,h,as=>some ((.next,l,h),as,[])
 |s::r,l,h,as=>aQ (wS s l h as) fun x as=>match x.1 with
  |.next=>wSs r x.2.1 x.2.2 as
  |.ret v=>some ((.ret v,x.2),as,[])
end
end
noncomputable def AllP:List Prop→Prop
 |[]=>True
 |p::r=>p∧AllP r
theorem l6:∀{a b:List Prop},AllP (a++b)→AllP a∧AllP b
 |[],_,h=>⟨trivial,h⟩
 |_::_,_,h=>⟨⟨h.1,(l6 h.2).1⟩,(l6 h.2).2⟩
def Snd{α:Type}(m:Re α)(x:Option α):Prop:=m.elim True fun r=>AllP r.2.2→x=some r.1
section
variable{α β:Type}{m:Re α}{x:Option α}{as:List Fo}
theorem snd_and{k:α→List Fo→Re β}{f:α→Option β}(hm:Snd m x)(hk:∀a as,Snd (k a as) (f a)):Snd (aQ m k) (x.bind f):=by
 induction m with
 |none=>exact trivial
 |some r=>
  obtain⟨a,as,ps⟩:=r
  have h:=hk a as
  unfold aQ
  dsimp only
  revert h
  induction k a as with
  |none=>exact fun ζ=>trivial
  |some r=>exact fun h hp=>(congrArg (·.bind f) (hm (l6 hp).1)).trans (h (l6 hp).2)
theorem aY{a:α}:Snd (some (a,as,[])) (some a):=fun ζ=>rfl
theorem CR:Snd (none:Re α) x:=trivial
theorem bh:Snd (qO x as) x:=by induction x;exact trivial;exact fun ζ=>rfl
theorem lA{f:Fr α}:Snd (qF f x as) x:=by
 obtain⟨q,r⟩:=f
 induction r
 ·exact trivial
 ·exact fun hp=>hp.1
theorem kU{c:Prop}[Decidable c]{n:Re α}{y:Option α}(h:Snd m x)(h2:Snd n y):Snd (if c then m else n) (if c then x else y):=by
 by_cases hc:c
 ·rw[if_pos hc,if_pos hc];exact h
 ·rw[if_neg hc,if_neg hc];exact h2
end
theorem yt{Q:Option (V×H)}:∀as:List Fo,Snd (qC Q as) Q
 |.c f::as=>lA
 |.oc::as|.ob::as|.ov::as|.oh::as|.il::as|[]|.b _::_|.v _::_|.h _::_|.n _::_|.s _::_|.i _::_|.o _::_=>bh
theorem Ej{k:List Fo→Re (V×H)}{Q:Option (V×H)}(hk:∀as,Snd (k as) Q)(as:List Fo):Snd (qCl k Q as) Q:=by
 unfold qCl
 induction OX as with
 |none=>exact yt as
 |some r=>exact hk r
theorem JN{Q:Option Bool}:∀as:List Fo,Snd (qB Q as) Q
 |.b f::as=>lA
 |.oc::as|.ob::as|.ov::as|.oh::as|.il::as|[]|.c _::_|.v _::_|.h _::_|.n _::_|.s _::_|.i _::_|.o _::_=>bh
theorem Jz{Q:Option V}:∀as:List Fo,Snd (qV Q as) Q
 |.v f::as=>lA
 |.oc::as|.ob::as|.ov::as|.oh::as|.il::as|[]|.b _::_|.c _::_|.h _::_|.n _::_|.s _::_|.i _::_|.o _::_=>bh
theorem CX{Q:Option H}:∀as:List Fo,Snd (qH Q as) Q
 |.h f::as=>lA
 |.oc::as|.ob::as|.ov::as|.oh::as|.il::as|[]|.b _::_|.v _::_|.c _::_|.n _::_|.s _::_|.i _::_|.o _::_=>bh
theorem JW{Q:Option Nat}:∀as:List Fo,Snd (qN Q as) Q
 |.n f::as=>lA
 |.oc::as|.ob::as|.ov::as|.oh::as|.il::as|[]|.b _::_|.v _::_|.h _::_|.c _::_|.s _::_|.i _::_|.o _::_=>bh
theorem Mx{Q:Option V}:∀as:List Fo,Snd (qS Q as) Q
 |.s f::as=>lA
 |.oc::as|.ob::as|.ov::as|.oh::as|.il::as|[]|.b _::_|.v _::_|.h _::_|.n _::_|.c _::_|.i _::_|.o _::_=>bh
theorem Mm{Q:Option (Option Nat)}:∀as:List Fo,Snd (qSo Q as) Q
 |.o f::as=>lA
 |.oc::as|.ob::as|.ov::as|.oh::as|.il::as|[]|.b _::_|.v _::_|.h _::_|.n _::_|.c _::_|.s _::_|.i _::_=>bh
theorem OG{Q:Option Int}(o:Op)(as:List Fo):Snd (qI o Q as) Q:=by
 induction o<;>first|exact bh|(induction as with
  |nil=>exact bh
  |cons a r=>induction a<;>first|exact bh|exact lA)
theorem yo{Q:Option V}{as:List Fo}(x:V):Snd (Mf x Q as) Q:=by
 cases x<;>first|exact Mx as|exact Jz as
theorem Hw{Q:Option (V×H)}{as:List Fo}(c:Nat):Snd (LK c Q as) Q:=by
 unfold LK;split;exact yt as;exact bh
theorem yI{Q:Option Bool}{as:List Fo}(x:V):Snd (Kz x Q as) Q:=by
 cases x<;>first|exact bh|exact JN as
theorem lS{Q:Option Bool}{as:List Fo}(o:Cmp):Snd (Cd o Q as) Q:=by
 induction o<;>first|exact bh|exact JN as
theorem HZ{Q:Option (V×H)}{as:List Fo}(o:Op):Snd (Pq o Q as) Q:=by
 induction o<;>first|exact yt as|exact bh
section
variable{P:Prog}{call:Nat→List V→H→Option (V×H)}{wc:Nat→List V→H→List Fo→Re (V×H)}(hw:∀f vs h as,Snd (wc f vs h as) (call f vs h))
include hw
mutual
theorem bA:∀(e:E) (l:Loc) (h:H) (as:List Fo),Snd (wE P call wc e l h as) (evE P call e l h)
 |.cst v,_,h,as=>aY
 |.gl j,_,h,as=>aY
 |.bin op a b,l,h,as=>snd_and (bA a l h as) fun x as=>snd_and (bA b l x.2 as) fun y as=>HZ op
 |.neg a,l,h,as=>snd_and (bA a l h as) fun x as=>bh
 |.bop t es,l,h,as=>Du t es l h as
 |.cmp op a b,l,h,as=>snd_and (bA a l h as) fun x as=>snd_and (bA b l x.2 as) fun y as=>snd_and (lS op) fun r as=>aY
 |.ife c a b,l,h,as=>snd_and (nT c l h as) fun x as=>kU (bA a l x.2 as) (bA b l x.2 as)
 |.attr o f,l,h,as=>snd_and (bA o l h as) fun x as=>snd_and (Jz as) fun v as=>aY
 |.sub o i,l,h,as=>snd_and (bA o l h as) fun x as=>snd_and (bA i l x.2 as) fun k as=>snd_and (yo x.1) fun v as=>aY
 |.tup es,l,h,as=>snd_and (lD es l h as) fun vs as=>aY
 |.fl es,l,h,as=>snd_and (lD es l h as) fun vs as=>aY
 |.aX es,l,h,as=>snd_and (lD es l h as) fun vs as=>aY
 |.call f es,l,h,as=>snd_and (lD es l h as) fun vs as=>Ej (hw _ _ _) as
 |.af o m es,l,h,as=>snd_and (bA o l h as) fun x as=>snd_and (Mm as) fun s as=>match s with
  |some c=>snd_and bh fun f as=>snd_and (lD es l x.2 as) fun vs as=>Ej (hw _ _ _) as
  |none=>snd_and (lD es l x.2 as) fun vs as=>yt as
 |.len a,l,h,as=>snd_and (bA a l h as) fun x as=>snd_and (JW as) fun n as=>aY
 |.isInt a,l,h,as=>snd_and (bA a l h as) fun x as=>bh
 |.loc ..,l,h,as=>bh
 |.rep ..,l,h,as=>bh
 |.bE,l,h,as=>bh
 |.nO,l,h,as=>bh
 |.gG ..,l,h,as=>bh
 |.lx ..,l,h,as=>bh
 |.new c es,l,h,as=>snd_and (lD es l h as) fun vs as=>Hw c
 |.abs ..,l,h,as=>bh
 |.slice ..,l,h,as=>bh
theorem lD:∀(es:List E) (l:Loc) (h:H) (as:List Fo),Snd (wL P call wc es l h as) (evL P call es l h)
 |[],l,h,as=>aY
 |e::r,l,h,as=>snd_and (bA e l h as) fun x as=>snd_and (lD r l x.2 as) fun y as=>aY
theorem Du:∀(t:Bool) (es:List E) (l:Loc) (h:H) (as:List Fo),Snd (wB P call wc t es l h as) (evB P call t es l h)
 |t,[],l,h,as=>CR
 |t,[e],l,h,as=>snd_and (bA e l h as) fun x as=>aY
 |t,e::f::r,l,h,as=>snd_and (bA e l h as) fun x as=>snd_and (yI x.1) fun b as=>kU (Du t (f::r) l x.2 as) aY
theorem nT:∀(c:C) (l:Loc) (h:H) (as:List Fo),Snd (wC P call wc c l h as) (evC P call c l h)
 |.e e,l,h,as=>snd_and (bA e l h as) fun x as=>snd_and (yI x.1) fun b as=>aY
 |.no a,l,h,as=>snd_and (nT a l h as) fun x as=>aY
 |.bop t es,l,h,as=>EU t es l h as
 |.cmp op a b,l,h,as=>snd_and (bA a l h as) fun x as=>snd_and (bA b l x.2 as) fun y as=>snd_and (lS op) fun r as=>aY
 |.oQ op op2 a b c,l,h,as=>snd_and (bA a l h as) fun x as=>snd_and (bA b l x.2 as) fun y as=>snd_and (lS op) fun r as=>kU (snd_and (bA c l y.2 as) fun z as=>snd_and (lS op2) fun r as=>aY) aY
theorem EU:∀(t:Bool) (es:List C) (l:Loc) (h:H) (as:List Fo),Snd (wCs P call wc t es l h as) (LJ P call t es l h)
 |t,[],l,h,as=>aY
 |t,e::r,l,h,as=>snd_and (nT e l h as) fun x as=>kU (EU t r l x.2 as) aY
end
mutual
theorem M1:∀(s:S) (l:Loc) (h:H) (as:List Fo),Snd (wS P call wc s l h as) (evS P call s l h)
 |.asg i e,l,h,as=>(show Snd (aQ (wE P call wc e l h as) fun x as=>some ((Flow.next,l.set i (some x.1),x.2),as,[])) ((evE P call e l h).bind fun x=>some (Flow.next,l.set i (some x.1),x.2))from snd_and (bA hw e l h as) fun x as=>aY)
 |.aC o k e,l,h,as=>snd_and (bA hw e l h as) fun v as=>snd_and (bA hw o l v.2 as) fun x as=>snd_and (bA hw k l x.2 as) fun i as=>snd_and (CX as) fun h4 as=>aY
 |.ae o f e,l,h,as=>snd_and (bA hw e l h as) fun v as=>snd_and (bA hw o l v.2 as) fun x as=>snd_and (CX as) fun h4 as=>aY
 |.ex e,l,h,as=>(show Snd (aQ (wE P call wc e l h as) fun x as=>some ((Flow.next,l,x.2),as,[])) ((evE P call e l h).bind fun x=>some (Flow.next,l,x.2))from snd_and (bA hw e l h as) fun x as=>aY)
 |.ite c a b,l,h,as=>snd_and (nT hw c l h as) fun x as=>kU (kQ a l x.2 as) (kQ b l x.2 as)
 |.ret e,l,h,as=>(show Snd (aQ (wE P call wc e l h as) fun x as=>some ((Flow.ret x.1,l,x.2),as,[])) ((evE P call e l h).bind fun x=>some (Flow.ret x.1,l,x.2))from snd_and (bA hw e l h as) fun x as=>aY)
 |.unp is e,l,h,as=>snd_and (bA hw e l h as) fun x as=>bh
 |.gF o k op e,l,h,as=>snd_and (bA hw o l h as) fun x as=>snd_and (bA hw k l x.2 as) fun i as=>snd_and (yo x.1) fun a as=>snd_and (bA hw e l i.2 as) fun b as=>snd_and bh fun y as=>snd_and bh fun z as=>snd_and (OG op as) fun c as=>snd_and (CX as) fun h4 as=>aY
 |.aug ..,l,h,as=>bh
 |.wh ..,l,h,as=>bh
 |.oX ..,l,h,as=>bh
 |.forR ..,l,h,as=>bh
 |.wW ..,l,h,as=>bh
 |.iq,l,h,as=>(show Snd (qO (evS P call .iq l h) as) _ from bh)
 |.bad,l,h,as=>(show Snd (qO (evS P call .bad l h) as) _ from bh)
theorem kQ:∀(b:List S) (l:Loc) (h:H) (as:List Fo),Snd (wSs P call wc b l h as) (bB P call b l h)
 |[],l,h,as=>aY
 |s::r,l,h,as=>snd_and (M1 s l h as) fun x as=>match x with
  |(.next,l1,h1)=>kQ r l1 h1 as
  |(.ret v,_,_)=>aY
end
end
noncomputable def cR(x:Option (Flow×Loc×H)):Option (V×H):=x.bind fun x=>some (x.1.v,x.2.2)
theorem vK{P:Prog}{n f:Nat}{vs:List V}{h:H}:aa P (n+1) f vs h=(P.fn f).bind fun F=>if vs.length=F.np then cR (bB P (aa P n) F.body (vs.map some++List.replicate (F.nl-F.np) none) h)else none:=rfl
theorem lh{P:Prog}{n f:Nat}{vs:List V}{h:H}{np nl:Nat}{b:List S}(e:P.fn f=some ⟨np,nl,b⟩)(hl:vs.length=np):aa P (n+1) f vs h=cR (bB P (aa P n) b (vs.map some++List.replicate (nl-np) none) h):=by
 rw[vK,e]
 exact if_pos hl
noncomputable def wT(P:Prog)(call:Nat→List V→H→Option (V×H))(wc:Nat→List V→H→List Fo→Re (V×H))(b:List S)(l:Loc)(h:H)(as:List Fo):Re (V×H):=aQ (wSs P call wc b l h as) fun x as=>some ((x.1.v,x.2.2),as,[])
noncomputable def wN(P:Prog):Nat→Nat→List V→H→List Fo→Re (V×H)
 |0,_,_,_,_=>none
 |n+1,f,vs,h,as=>aQ (qO (P.fn f) as) fun F as=>if vs.length=F.np then wT P (aa P n) (wN P n) F.body (vs.map some++List.replicate (F.nl-F.np) none) h as else none
theorem Hl{α:Type}{c:Prop}[Decidable c]{m:Re α}{x:Option α}(h:Snd m x):Snd (if c then m else none) (if c then x else none):=kU h trivial
noncomputable def psO:List Fo→List Prop
 |[]=>[]
 |.c ⟨q,a⟩::r=>(q=a)::psO r
 |.b ⟨q,a⟩::r=>(q=a)::psO r
 |.v ⟨q,a⟩::r=>(q=a)::psO r
 |.h ⟨q,a⟩::r=>(q=a)::psO r
 |.n ⟨q,a⟩::r=>(q=a)::psO r
 |.s ⟨q,a⟩::r=>(q=a)::psO r
 |.i ⟨q,a⟩::r=>(q=a)::psO r
 |.o ⟨q,a⟩::r=>(q=a)::psO r
 |_::r=>psO r
theorem dD:∀as:List Fa,AllP (psO (as.map Fa.raw))
 |[]=>trivial
 |.c f::r=>⟨f.e,dD r⟩
 |.b f::r=>⟨f.e,dD r⟩
 |.v f::r=>⟨f.e,dD r⟩
 |.h f::r=>⟨f.e,dD r⟩
 |.n f::r=>⟨f.e,dD r⟩
 |.s f::r=>⟨f.e,dD r⟩
 |.i f::r=>⟨f.e,dD r⟩
 |.o f::r=>⟨f.e,dD r⟩
 |.oc::r=>dD r
 |.ob::r=>dD r
 |.ov::r=>dD r
 |.oh::r=>dD r
 |.il::r=>dD r
noncomputable def qw{α:Type}(m:Re α):Option (α×List Prop):=m.elim none fun r=>some (r.1,r.2.2)
theorem jW{α:Type}{m:Re α}{x:Option α}{a:α}{ps:List Prop}(h:Snd m x)(e:qw m=some (a,ps))(hp:AllP ps):x=some a:=by
 induction m with
 |none=>cases e
 |some r=>cases e;exact h hp
theorem JD{P:Prog}{call:Nat→List V→H→Option (V×H)}{wc:Nat→List V→H→List Fo→Re (V×H)}(hw:∀f vs h as,Snd (wc f vs h as) (call f vs h)){b:List S}{l:Loc}{h:H}{as:List Fo}:Snd (wT P call wc b l h as) (cR (bB P call b l h)):=snd_and (kQ hw b l h as) fun x as=>aY
theorem pZ{P:Prog}:∀(n f:Nat) (vs:List V) (h:H) (as:List Fo),Snd (wN P n f vs h as) (aa P n f vs h)
 |0,_,_,_,_=>trivial
 |n+1,f,vs,h,as=>snd_and bh fun F as=>Hl (JD (pZ n))
section
variable{P:Prog}{n f:Nat}{vs:List V}{h h1:H}{l l1:Loc}{x:V×H}{y:Flow×Loc×H}{b:List S}
theorem fK(as:List Fo)(e:qw (wN P n f vs h as)=some (x,psO as))(hp:AllP (psO as)):aa P n f vs h=some x:=jW (pZ n f vs h as) e hp
theorem run(as:List Fa)(e:qw (wN P n f vs h (as.map Fa.raw))=some (x,psO (as.map Fa.raw))):aa P n f vs h=some x:=fK _ e (dD as)
theorem eU(as:List Fo)(e:qw (wT P (aa P n) (wN P n) b l h as)=some (x,psO as))(hp:AllP (psO as)):cR (bB P (aa P n) b l h)=some x:=jW (JD (pZ n)) e hp
theorem dz(as:List Fa)(e:qw (wT P (aa P n) (wN P n) b l h (as.map Fa.raw))=some (x,psO (as.map Fa.raw))):cR (bB P (aa P n) b l h)=some x:=eU _ e (dD as)
theorem dk{call:Nat→List V→H→Option (V×H)}{b:List S}:∀(a:List S) {l l1:Loc} {h h1:H},bB P call a l h=some (.next,l1,h1)→bB P call (a++b) l h=bB P call b l1 h1
 |[],_,_,_,_,e=>by cases e;rfl
 |s::r,l,l1,h,h1,e=>by
  obtain⟨⟨f,l2,h2⟩,e1,e2⟩:=Zd (show (evS P call s l h).bind _=_ from e)
  show (evS P call s l h).bind _=_
  rw[e1]
  induction f with
  |next=>exact dk r e2
  |ret v=>cases e2
theorem Bp(as:List Fa)(e:qw (wSs P (aa P n) (wN P n) b l h (as.map Fa.raw))=some (y,psO (as.map Fa.raw))):bB P (aa P n) b l h=some y:=jW (kQ (pZ n) b l h _) e (dD as)
theorem runC{c:C}{y:Bool×H}(as:List Fa)(e:qw (wC P (aa P n) (wN P n) c l h (as.map Fa.raw))=some (y,psO (as.map Fa.raw))):evC P (aa P n) c l h=some y:=jW (nT (pZ n) c l h _) e (dD as)
theorem dQ(j:Nat)(as:List Fa)(e:qw (wSs P (aa P n) (wN P n) (b.take j) l h (as.map Fa.raw))=some ((.next,l1,h1),psO (as.map Fa.raw))){X:Option (V×H)}(k:cR (bB P (aa P n) (b.drop j) l1 h1)=X):cR (bB P (aa P n) b l h)=X:=by
 rw[←k,←dk (b:=b.drop j) _ (Bp as e),List.take_append_drop]
noncomputable def DA(y:Flow×Loc×H):Flow×Loc×Nat×H:=(y.1,y.2.1.take 5,y.2.1.length,y.2.2)
theorem runK{y:Flow×Loc×Nat×H}(as:List Fa)(e:qw (aQ (wSs P (aa P n) (wN P n) b l h (as.map Fa.raw)) fun x as=>some (DA x,as,[]))=some (y,psO (as.map Fa.raw))):(bB P (aa P n) b l h).bind (fun x=>some (DA x))=some y:=jW (snd_and (kQ (pZ n) b l h _) fun ζ ζ=>aY) e (dD as)
end
noncomputable def fB{a b:Bool}(e:a=b):Fa:=.b ⟨some a,some b,congrArg some e⟩
set_option genCtorIdx true in
inductive K where
 |bool|chr|i1|u1|i2|u2|i4|u4|i8|u8|jk|obj|bj|nul|enm|nab|stc|var|cl0|cl1|ifc|arr|dlg|typ
 deriving DecidableEq
noncomputable def K.n:K→Int
 |.bool=>1|.chr=>2|.i1=>3|.u1=>4|.i2=>5|.u2=>6|.i4=>7|.u4=>8|.i8=>9|.u8=>10|.jk=>11|.obj=>12|.bj=>13|.nul=>14
 |.enm=>16|.nab=>17|.stc=>18|.var=>19|.cl0=>20|.cl1=>21|.ifc=>22|.arr=>23|.dlg=>24|.typ=>25
noncomputable def K.v(k:K):V:=.int k.n
set_option genCtorIdx true in
inductive U where
 |i1|u1|i2|u2|i4|u4|i8|u8
 deriving DecidableEq
noncomputable def U.k:U→K
 |.i1=>.i1|.u1=>.u1|.i2=>.i2|.u2=>.u2|.i4=>.i4|.u4=>.u4|.i8=>.i8|.u8=>.u8
set_option genCtorIdx true in
inductive Cl where
 |i4|cl0|stc
 deriving DecidableEq
noncomputable def Cl.k:Cl→K
 |.i4=>.i4|.cl0=>.cl0|.stc=>.stc
structure G where
 und:U
 clo:Cl
set_option genCtorIdx true in
inductive Flt where
 |no|null|cast|over|zero
 deriving DecidableEq
noncomputable def Flt.c:Flt→Nat
 |.no=>0|.null=>54|.cast=>55|.over=>56|.zero=>59
set_option genCtorIdx true in
inductive Pay where
 |i (x:Int)
 |s (c:Nat)
 deriving DecidableEq
noncomputable def Pay.v:Pay→V
 |.i x=>.int x
 |.s c=>.str c
set_option genCtorIdx true in
inductive Val where
 |none
 |int (x:Int)
 |ob (k:K) (p:Pay) (id:Int)
 |tok (a b:K)
 deriving DecidableEq
noncomputable def Val.v:Val→V
 |.none=>.none
 |.int x=>.int x
 |.ob k p id=>.tup [.int k.n,p.v,.int id]
 |.tok a b=>.tup [.int a.n,.int b.n]
inductive I where
 |op (o:Int)
 |num (o:Int) (x:Int)
 |kind (o:Int) (k:K)
 |str (c:Nat)
 |call
noncomputable def I.v:I→V
 |.op o=>.fl [.int o,.int 0]
 |.num o x=>.fl [.int o,.int x]
 |.kind o k=>.fl [.int o,.int k.n]
 |.str c=>.fl [.int 114,.str c]
 |.call=>.fl [.int 40,.tup [.int 25,.int 202,.tup []]]
inductive D where
 |var (lid:Int) (k:K)
 |bU (l:List Nat)
noncomputable def D.ctorIdx(x:D):Nat:=D.casesOn x (fun ζ ζ=>0) (fun ζ=>1)
noncomputable def D.o:D→O
 |.var lid k=>.inst 4 [(102,.int lid),(83,.str 35),(23,.int k.n),(24,.int 0),(103,.int 1),(104,.int (-1)),(105,.int 0)]
 |.bU l=>.list (l.map fun x=>V.int (x:Nat))
structure PS where
 g:G
 nums:List Int
 now:Int
 left:Int
 aF:List Nat
 eG:List Int
 vals:List (Int×Val)
 log:List Int
 fault:Flt
 made:Int
 code:List I
 aO:List (Int×Int)
 a9:Int
 locals:List K
 aK:List (Nat×Nat)
 free:List (K×Nat)
 dyn:List D
noncomputable def a7(l:List (Int×Val)):List (Int×V):=l.map fun p=>(p.1,p.2.v)
noncomputable def dE(l:List (Int×Int)):List (Int×V):=l.map fun p=>(p.1,.int p.2)
noncomputable def encOf(l:List (Nat×Nat)):List (Int×V):=l.map fun p=>((p.1:Int)+1,.int (p.2:Nat))
noncomputable def bV(l:List (K×Nat)):List (Int×V):=l.map fun p=>(p.1.n,.ref (138+p.2))
noncomputable def wd(st:PS):List (Nat×V):=[(33,.ref 99),(32,.int st.now),(37,.int st.left),(22,.ref 87),(36,.ref 100),(57,.ref 101),(52,.str st.fault.c),(53,.int st.made),(6,.int st.g.und.k.n),(34,.int st.g.clo.k.n)]
noncomputable def emd(st:PS):List (Nat×V):=[(22,(.ref 87)),(26,(.ref 0)),(3,(.ref 1)),(118,(.ref 96)),(75,(.ref 104)),(76,(.ref 105)),(53,.int st.a9),(14,(.ref 106)),(21,(.ref 107)),(25,(.ref 108)),(12,(.ref 109)),(119,(.ref 110)),(120,(.ref 111)),(121,(.int 0)),(122,(.ref 112)),(123,.none),(124,(.int (-1))),(15,(.ref 113)),(17,(.ref 114)),(125,(.ref 115)),(19,(.ref 116)),(126,(.ref 117))]
noncomputable def pre(st:PS):List O:=[.inst 2 [(3,(.ref 1)),(4,(.ref 26)),(98,(.ref 8)),(90,(.ref 9)),(99,(.ref 10)),(100,(.ref 11)),(101,(.int 0))],
 .inst 0 [(77,(.ref 2)),(78,(.ref 3)),(79,(.ref 4)),(80,(.ref 5)),(81,(.ref 6))],
 .list [(.tup [(.int 1),(.int 0)]),(.tup [(.int 1),(.int 1)]),(.tup [(.int 1),(.int 2)]),(.tup [(.int 1),(.int 3)]),(.tup [(.int 1),(.int 4)]),(.tup [(.int 1),(.int 5)]),(.tup [(.int 1),(.int 6)]),(.tup [(.int 1),(.int 7)]),(.tup [(.int 1),(.int 8)]),(.tup [(.int 1),(.int 9)]),(.tup [(.int 1),(.int 10)]),(.tup [(.int 1),(.int 11)]),(.tup [(.int 1),(.int 12)]),(.tup [(.int 1),(.int 13)]),(.tup [(.int 1),(.int 14)]),(.tup [(.int 1),(.int 15)]),(.tup [(.int 3),(.int 64),(.tup [])]),(.tup [(.int 3),(.int 8),(.tup [(.int 7)])]),(.tup [(.int 3),(.int 65),(.tup [])]),(.tup [(.int 7),(.int 0)]),(.tup [(.int 2),(.int 66),(.tup [])]),(.tup [(.int 2),(.int 67),(.tup [])]),(.tup [(.int 2),(.int 68),(.tup [])]),(.tup [(.int 4),(.int 20)]),(.tup [(.int 2),(.int 69),(.tup [])]),(.tup [(.int 2),(.int 51),(.tup [])])],
 .dS [((.tup [(.int 1),(.int 0)]),(.int 0)),((.tup [(.int 1),(.int 1)]),(.int 1)),((.tup [(.int 1),(.int 2)]),(.int 2)),((.tup [(.int 1),(.int 3)]),(.int 3)),((.tup [(.int 1),(.int 4)]),(.int 4)),((.tup [(.int 1),(.int 5)]),(.int 5)),((.tup [(.int 1),(.int 6)]),(.int 6)),((.tup [(.int 1),(.int 7)]),(.int 7)),((.tup [(.int 1),(.int 8)]),(.int 8)),((.tup [(.int 1),(.int 9)]),(.int 9)),((.tup [(.int 1),(.int 10)]),(.int 10)),((.tup [(.int 1),(.int 11)]),(.int 11)),((.tup [(.int 1),(.int 12)]),(.int 12)),((.tup [(.int 1),(.int 13)]),(.int 13)),((.tup [(.int 1),(.int 14)]),(.int 14)),((.tup [(.int 1),(.int 15)]),(.int 15)),((.tup [(.int 3),(.int 64),(.tup [])]),(.int 16)),((.tup [(.int 3),(.int 8),(.tup [(.int 7)])]),(.int 17)),((.tup [(.int 3),(.int 65),(.tup [])]),(.int 18)),((.tup [(.int 7),(.int 0)]),(.int 19)),((.tup [(.int 2),(.int 66),(.tup [])]),(.int 20)),((.tup [(.int 2),(.int 67),(.tup [])]),(.int 21)),((.tup [(.int 2),(.int 68),(.tup [])]),(.int 22)),((.tup [(.int 4),(.int 20)]),(.int 23)),((.tup [(.int 2),(.int 69),(.tup [])]),(.int 24)),((.tup [(.int 2),(.int 51),(.tup [])]),(.int 25))],
 .list [(.int 1),(.int 1),(.int 1),(.int 1),(.int 1),(.int 1),(.int 1),(.int 1),(.int 1),(.int 1),(.int 1),(.int 1),(.int 1),(.int 1),(.int 1),(.int 1),(.int 1),(.int 2),(.int 1),(.int 1),(.int 1),(.int 1),(.int 1),(.int 2),(.int 1),(.int 1)],
 .list [(.int 1),(.int 1),(.int 1),(.int 1),(.int 1),(.int 1),(.int 1),(.int 1),(.int 1),(.int 1),(.int 1),(.int 1),(.int 1),(.int 1),(.int 1),(.int 1),(.int 1),(.int 2),(.int 1),(.int 1),(.int 1),(.int 1),(.int 1),(.int 2),(.int 1),(.int 1)],
 .list [(.int 0),(.int 0),(.int 0),(.int 0),(.int 0),(.int 0),(.int 0),(.int 0),(.int 0),(.int 0),(.int 0),(.int 0),(.int 0),(.int 0),(.int 0),(.int 0),(.int 0),(.int 0),(.int 0),(.int 1),(.int 0),(.int 0),(.int 0),(.int 0),(.int 0),(.int 0)],
 .list [.none],
 .list [.none],
 .list [.none],
 .aM [],
 .list [],
 .list [.none,.none,.none,.none,.none,.none,.none,.none],
 .inst 1 [(82,(.int 8)),(83,(.str 71)),(5,(.int 2)),(24,(.int 2)),(84,(.int (-1))),(85,(.ref 14)),(86,(.ref 15)),(87,(.ref 16)),(88,(.ref 17)),(89,(.ref 18)),(90,(.ref 19)),(91,(.int 0)),(92,(.int 0)),(6,(.int (-1))),(93,(.ref 20)),(94,(.ref 21)),(95,(.ref 22)),(96,(.int 0)),(97,(.int 0))],
 .list [],
 .list [(.str 72)],
 .list [(.int 0)],
 .list [(.tup [(.int 0),(.tup [])])],
 .list [],
 .list [],
 .list [],
 .list [],
 .list [],
 .list [(.ref 13)],
 .list [.none,.none,.none,.none,.none,.none,.none,.none,(.ref 13)],
 .list [.none,.none,.none,.none,.none,.none,.none,.none,.none,.none,.none,.none,.none,.none,.none,.none,.none,.none,.none,.none,.none,.none,.none,.none,.none,.none,.none,.none,.none,.none,.none,.none,.none,.none,.none,.none,.none,.none,.none,.none,.none,.none,.none,.none,.none,.none,.none,.none,.none,.none,.none,.none,.none,.none,.none],
 .list [.none,.none,.none,.none,.none,.none,.none,.none,(.ref 13),.none,.none,.none,.none,.none,.none,.none,.none,.none,.none,.none,.none,.none,.none,.none,.none,.none,.none,.none,.none,.none,.none,.none,.none,.none,.none,.none,.none,.none,.none,.none,.none,.none,.none,.none,.none,.none,.none,.none,.none,.none,.none,.none,.none,.none,.none,.none,.none,.none,.none,.none,.none,.none,.none,.none,(.ref 27),(.ref 37),(.ref 47),(.ref 57),(.ref 67),(.ref 77)],
 .inst 1 [(82,(.int 64)),(83,(.str 73)),(5,(.int 5)),(24,(.int 0)),(84,(.int (-1))),(85,(.ref 28)),(86,(.ref 29)),(87,(.ref 30)),(88,(.ref 31)),(89,(.ref 32)),(90,(.ref 33)),(91,(.int 0)),(92,(.int 0)),(6,(.int st.g.und.k.n)),(93,(.ref 34)),(94,(.ref 35)),(95,(.ref 36)),(96,(.int 0)),(97,(.int 0))],
 .list [],
 .list [],
 .list [],
 .list [],
 .list [],
 .list [],
 .list [],
 .list [],
 .list [],
 .inst 1 [(82,(.int 65)),(83,(.str 73)),(5,(.int 2)),(24,(.int 0)),(84,(.int (-1))),(85,(.ref 38)),(86,(.ref 39)),(87,(.ref 40)),(88,(.ref 41)),(89,(.ref 42)),(90,(.ref 43)),(91,(.int 0)),(92,(.int 0)),(6,(.int (-1))),(93,(.ref 44)),(94,(.ref 45)),(95,(.ref 46)),(96,(.int 0)),(97,(.int 0))],
 .list [],
 .list [],
 .list [],
 .list [],
 .list [],
 .list [],
 .list [],
 .list [],
 .list [],
 .inst 1 [(82,(.int 66)),(83,(.str 73)),(5,(.int 1)),(24,(.int 0)),(84,(.int (-1))),(85,(.ref 48)),(86,(.ref 49)),(87,(.ref 50)),(88,(.ref 51)),(89,(.ref 52)),(90,(.ref 53)),(91,(.int 0)),(92,(.int 0)),(6,(.int (-1))),(93,(.ref 54)),(94,(.ref 55)),(95,(.ref 56)),(96,(.int 0)),(97,(.int 0))],
 .list [],
 .list [],
 .list [],
 .list [],
 .list [],
 .list [],
 .list [],
 .list [],
 .list [],
 .inst 1 [(82,(.int 67)),(83,(.str 73)),(5,(.int 1)),(24,(.int 0)),(84,(.int (-1))),(85,(.ref 58)),(86,(.ref 59)),(87,(.ref 60)),(88,(.ref 61)),(89,(.ref 62)),(90,(.ref 63)),(91,(.int 0)),(92,(.int 0)),(6,(.int (-1))),(93,(.ref 64)),(94,(.ref 65)),(95,(.ref 66)),(96,(.int 0)),(97,(.int 0))],
 .list [],
 .list [],
 .list [],
 .list [],
 .list [],
 .list [],
 .list [],
 .list [],
 .list [],
 .inst 1 [(82,(.int 68)),(83,(.str 73)),(5,(.int 3)),(24,(.int 0)),(84,(.int (-1))),(85,(.ref 68)),(86,(.ref 69)),(87,(.ref 70)),(88,(.ref 71)),(89,(.ref 72)),(90,(.ref 73)),(91,(.int 0)),(92,(.int 0)),(6,(.int (-1))),(93,(.ref 74)),(94,(.ref 75)),(95,(.ref 76)),(96,(.int 0)),(97,(.int 0))],
 .list [],
 .list [],
 .list [],
 .list [],
 .list [],
 .list [],
 .list [],
 .list [],
 .list [],
 .inst 1 [(82,(.int 69)),(83,(.str 73)),(5,(.int 4)),(24,(.int 0)),(84,(.int (-1))),(85,(.ref 78)),(86,(.ref 79)),(87,(.ref 80)),(88,(.ref 81)),(89,(.ref 82)),(90,(.ref 83)),(91,(.int 0)),(92,(.int 0)),(6,(.int (-1))),(93,(.ref 84)),(94,(.ref 85)),(95,(.ref 86)),(96,(.int 0)),(97,(.int 0))],
 .list [],
 .list [],
 .list [],
 .list [],
 .list [],
 .list [],
 .list [],
 .list [],
 .list [],
 .inst 6 [(26,(.ref 0)),(91,(.int 0)),(7,(.ref 88)),(10,(.ref 89)),(9,(.ref 90)),(114,(.ref 91)),(115,(.ref 93)),(116,(.ref 94)),(117,(.ref 95))],
 .list [.none,(.ref 96)],
 .list (.none::st.aF.map fun j=>V.ref (138+j)),
 .aM [],
 .inst 3 [(77,(.ref 92))],
 .list [],
 .aM [],
 .aM [],
 .aM [],
 .inst 5 [(106,(.int 1)),(107,(.int 0)),(11,(.ref 97)),(86,(.ref 98)),(108,(.int (-1))),(109,(.int 0)),(110,.none),(111,(.int 0)),(5,(.int 0)),(112,(.int (-1))),(113,(.int 0))],
 .list (st.eG.map V.int),
 .list [],
 .list (st.nums.map V.int),
 .aM (a7 st.vals),
 .list (st.log.map V.int),
 .aP (wd st),
 .inst 9 (emd st),
 .list (st.code.map I.v),
 .aM (dE st.aO),
 .list (st.locals.map K.v),
 .aM (encOf st.aK),
 .aM [],
 .aM (bV st.free),
 .list [],
 .list [],
 .aM [],
 .aM [(2,(.ref 118)),(1,(.ref 119)),(12,(.ref 120)),(29,(.ref 121)),(13,(.ref 124)),(14,(.ref 125)),(15,(.ref 126)),(16,(.ref 127)),(17,(.ref 128)),(19,(.ref 134)),(20,(.ref 135)),(21,(.ref 136))],
 .aM [(1,(.ref 122)),(17,(.ref 129))],
 .aM [],
 .aM [(1,(.ref 123)),(13,(.ref 130)),(14,(.ref 131)),(15,(.ref 132)),(16,(.ref 133)),(20,(.ref 137))],
 .aM [],
 .inst 28 [],
 .inst 10 [],
 .inst 11 [],
 .inst 12 [],
 .inst 13 [],
 .inst 14 [],
 .inst 15 [],
 .inst 17 [],
 .inst 19 [],
 .inst 19 [],
 .inst 22 [],
 .inst 23 [],
 .inst 16 [],
 .inst 18 [],
 .inst 20 [],
 .inst 21 [],
 .inst 24 [],
 .inst 25 [],
 .inst 27 [],
 .inst 26 []]
noncomputable def hp(st:PS):H:=pre st++st.dyn.map D.o
section
variable{n:Nat}{st st1:PS}
theorem hZ{a:Int}(h: -18446744073709551616<a∧a<18446744073709551616):small a=true:=Z1 h
noncomputable def K.of(x:Int):K:=([.bool,.bool,.chr,.i1,.u1,.i2,.u2,.i4,.u4,.i8,.u8,.jk,.obj,.bj,.nul,.nul,.enm,.nab,.stc,.var,.cl0,.cl1,.ifc,.arr,.dlg,.typ]:List K).getD x.toNat .bool
theorem K.OJ(k:K):K.of k.n=k:=by induction k<;>rfl
theorem K.eN{x y:K}(e:x.n=y.n):x=y:=by rw[←K.OJ x,e,K.OJ]
noncomputable def dR:List K:=[.bool,.chr,.i1,.u1,.i2,.u2,.i4,.u4,.i8,.u8,.jk,.obj,.bj,.nul,.enm,.nab,.stc,.var,.cl0,.cl1,.ifc,.arr,.dlg,.typ]
theorem K.mem(k:K):k∈dR:=by induction k<;>decide
theorem K.all{p:K→Bool}(h:dR.all p=true)(k:K):p k=true:=Zk h k k.mem
theorem K.imp{a b:K→Bool}(h:dR.all (fun k=> !a k||b k)=true)(k:K)(ha:a k=true):b k=true:=by
 have:=K.all h k
 rw[ha]at this;exact this
theorem K.imn{a b:K→Bool}(h:dR.all (fun k=> !a k|| !b k)=true)(k:K)(ha:a k=true):b k=false:=Bool.not_eq_true' _▸K.imp (b:=fun k=> !b k) h k ha
theorem K.on{α:Type}{f g:K→α}{c:K→Bool}(h:(dR.filter c).map f=(dR.filter c).map g):∀k,c k=true→f k=g k:=fun k hc=>List.map_inj_left.mp h k (List.mem_filter.mpr ⟨k.mem,hc⟩)
theorem K.off{α:Type}{f g:K→α}{c:K→Bool}(h:(dR.filter fun k=> !c k).map f=(dR.filter fun k=> !c k).map g):∀k,c k=false→f k=g k:=fun k hc=>K.on h k (by rw[hc];rfl)
theorem K.eqf{α:Type}{f g:K→α}(h:dR.map f=dR.map g):∀k,f k=g k:=fun k=>List.map_inj_left.mp h k k.mem
theorem K.Rw{α:Type}{f g:K→K→α}(h:(dR.map fun x=>dR.map (f x))=dR.map fun x=>dR.map (g x)):∀x k:K,f x k=g x k:=fun x=>K.eqf (K.eqf h x)
theorem K.at{α β:Type}[DecidableEq β]{f g:K→α}{c:K→β}{b:β}(h:(dR.filter fun k=>c k=b).map f=(dR.filter fun k=>c k=b).map g):∀k:K,c k=b→f k=g k:=fun k e=>K.on h k (Z1 e)
theorem K.at2{α β:Type}[DecidableEq β]{f g:K→K→α}{c:K→K→β}{b:β}(h:(dR.map fun x=>(dR.filter fun k=>c x k=b).map (f x))=dR.map fun x=>(dR.filter fun k=>c x k=b).map (g x)):∀x k:K,c x k=b→f x k=g x k:=fun x k e=>K.on (K.eqf h x) k (Z1 e)
noncomputable def inL(l:List K)(k:K):Bool:=l.any fun x=>Nat.beq x.ctorIdx k.ctorIdx
noncomputable def az(g:G):K→K
 |.var=>g.clo.k
 |k=>k
noncomputable def aj(g:G):K→K
 |.enm=>g.und.k
 |k=>az g k
theorem rH{a b:Int}{h:H}:eqv (.int a) (.int b) h=some (decide (a=b)):=rfl
theorem xv{a b:Nat}{h:H}:eqv (.str a) (.str b) h=some (decide (a=b)):=rfl
section
variable{H:H}{a:Nat}{d:List (Nat×V)}{g:G}
noncomputable abbrev hA(H:Mini.Internal.H)(a:Nat)(d:List (Nat×V))(c:Nat)(v:V):Mini.Internal.H:=H.set a (.aP (cg c v d))
theorem bp{P:Prog}{c:Nat}{v:V}(hH:H[a]?=some (.aP d))(hc:au c d=some v):aJ P (.ref a) (.str c) H=some v:=by
 show (H[a]?).bind _=_
 rw[hH];exact hc
theorem js{P:Prog}{c:Nat}{v:V}(hH:H[a]?=some (.aP d))(hl:d.length<LIM):subset P (.ref a) (.str c) v H=some (hA H a d c v):=by
 show (H[a]?).bind _=_
 rw[hH];exact if_pos (Z1 hl)
theorem dK{k:K}(hH:H[a]?=some (.aP d))(hc:au 34 d=some (.int g.clo.k.n)):aa prog (n+1) gY [.ref a,.int k.n] H=some (.int (az g k).n,H):=by
 induction h:decide (k=.var)
 ·refine run [] ?_;revert k;exact @(K.off (by kernel_rfl))
 ·cases Z0 h;exact run [.v ⟨_,_,bp (P:=prog) hH hc⟩] (by kernel_rfl)
theorem jo{k:K}(hH:H[a]?=some (.aP d))(hc:au 34 d=some (.int g.clo.k.n))(hu:au 6 d=some (.int g.und.k.n)):aa prog (n+2) jZ [.ref a,.int k.n] H=some (.int (aj g k).n,H):=by
 induction h:decide (k=.enm)
 ·refine run [.c ⟨_,_,dK (n:=n) (k:=k) hH hc⟩] ?_;revert k;exact @(K.off (by kernel_rfl))
 ·cases Z0 h;exact run [.v ⟨_,_,bp (P:=prog) hH hu⟩] (by kernel_rfl)
theorem gj{f c:Flt}(hH:H[a]?=some (.aP d))(h1:au 52 d=some (.str f.c))(hl:d.length<LIM):
  aa prog (n+1) g8 [.ref a,.str c.c] H=some (.int 0,match f with|.no=>H.set a (.aP (cg 52 (.str c.c) d))|_=>H):=by
 induction f
 ·exact run [.v ⟨_,_,bp (P:=prog) hH h1⟩,.h ⟨_,_,js (P:=prog) (c:=52) (v:=.str c.c) hH hl⟩] (by kernel_rfl)
 all_goals exact run [.v ⟨_,_,bp (P:=prog) hH h1⟩] (by kernel_rfl)
theorem nN{a b:Int}{h:Mini.Internal.H}(hs:(small a||small b)=true):binop .mul (.int a) (.int b) h=some (.int (a*b),h):=by
 show (if _ then some (a*b)else none).bind _=_
 rw[if_pos hs];rfl
theorem wZ{a c:Int}{h:Mini.Internal.H}(hc:c≠0):binop .mod (.int a) (.int c) h=some (.int (a.fmod c),h):=by
 show (if _ then none else some (a.fmod c)).bind _=_
 rw[if_neg (fun e=>hc (Z0 e))];rfl
theorem w6{a c:Int}{h:Mini.Internal.H}(hc:c≠0)(hs:small c=true):binop .fdiv (.int a) (.int c) h=some (.int (a.fdiv c),h):=by
 show (if _ then none else if small c=true then some (a.fdiv c)else none).bind _=_
 rw[if_neg (fun e=>hc (Z0 e)),hs];rfl
theorem BI{a b:Int}{h:Mini.Internal.H}(hs:small a=true)(h0:0≤b)(h1:b≤1048576):binop .pow (.int a) (.int b) h=some (.int (a^b.toNat),h):=by
 show (if _ then some (a^b.toNat)else none).bind _=_
 rw[hs,Z1 h0,Z1 h1];rfl
theorem jd{h:Mini.Internal.H}{a:Nat}{l:List V}(e:h[a]?=some (.list l)):lst h a=some l:=by unfold lst;rw[e]
theorem gm{h:Mini.Internal.H}{a:Nat}{l:List V}{v:V}(e:h[a]?=some (.list l))(hl:l.length<LIM):ah prog (.ref a) 8 [v] h=some (.none,h.set a (.list (l++[v]))):=by
 show (lst h a).bind (fun l=>if l.length<LIM then some (V.none,h.set a (.list (l++[v])))else none)=_
 rw[jd e]
 exact if_pos hl
theorem DU{h:Mini.Internal.H}{a:Nat}{x:V}{l:List V}(e:h[a]?=some (.list (x::l)))(hl:l.length+1≤LIM):ah prog (.ref a) 13 [.int 0] h=some (x,h.set a (.list l)):=by
 show (lst h a).bind (fun L=>(Cu [V.int 0] L).bind fun r=>if L.length≤LIM then some (r.1,h.set a (.list r.2))else none)=_
 rw[jd e]
 exact if_pos hl
theorem yr{h:Mini.Internal.H}{a:Nat}{x:V}{l:List V}(e:h[a]?=some (.list (l++[x])))(hl:(l++[x]).length≤LIM):ah prog (.ref a) 13 [] h=some (x,h.set a (.list l)):=by
 show (lst h a).bind (fun L=>(L.getLast?.bind fun v=>some (v,L.dropLast)).bind fun r=>if L.length≤LIM then some (r.1,h.set a (.list r.2))else none)=_
 rw[jd e]
 show ((l++[x]).getLast?.bind fun v=>some (v,(l++[x]).dropLast)).bind _=_
 rw[List.getLast?_concat,List.dropLast_concat]
 exact if_pos hl
theorem mZ{h:Mini.Internal.H}{a m:Nat}{l:List V}(e:h[a]?=some (.list l))(hm:(decide (m=8)||decide (m=13))=true):fA prog (.ref a) m h=some none:=by
 show (h[a]?).bind _=_
 rw[e]
 exact if_pos (((Bool.or_eq_true _ _).mp hm).imp Z0 Z0)
theorem wy{h:Mini.Internal.H}{a:Nat}{l:List (Int×V)}{i:Int}{d v:V}(e:h[a]?=some (.aM l))(hv:(au i l).getD d=v):ah prog (.ref a) 2 [.int i,d] h=some (v,h):=by
 show (h[a]?).bind _=_
 rw[e,←hv];rfl
theorem lQ{h:Mini.Internal.H}{a:Nat}{l:List V}(e:h[a]?=some (.list l))(hl:l.length≤LIM):truthy (.ref a) h=some (!l.isEmpty):=by
 show (lst h a).bind _=_
 rw[jd e]
 exact if_pos hl
theorem kg{P:Prog}{h:Mini.Internal.H}{a:Nat}{l:List V}(e:h[a]?=some (.list l))(hl:l.length≤LIM):lenOf P (.ref a) h=some l.length:=by
 show (lst h a).bind _=_
 rw[jd e]
 exact if_pos hl
theorem vY{P:Prog}{h:Mini.Internal.H}{i:Int}{l:List V}{v:V}(hi:idx i=true)(e:l[i.toNat]?=some v):aJ P (.tup l) (.int i) h=some v:=by
 show (if idx i=true then l[i.toNat]? else none)=_
 rw[if_pos hi,e]
theorem gr{P:Prog}{h:Mini.Internal.H}{a:Nat}{i:Int}{l:List V}{v:V}(ha:h[a]?=some (.list l))(hi:idx i=true)(e:l[i.toNat]?=some v):aJ P (.ref a) (.int i) h=some v:=by
 show (h[a]?).bind _=_
 rw[ha]
 show (if idx i=true then l[i.toNat]? else none)=_
 rw[if_pos hi,e]
theorem om{P:Prog}{h:Mini.Internal.H}{a:Nat}{l:List (Int×V)}{i:Int}{v:V}(e:h[a]?=some (.aM l))(hl:l.length<LIM):subset P (.ref a) (.int i) v h=some (h.set a (.aM (cg i v l))):=by
 show (h[a]?).bind _=_
 rw[e];exact if_pos (Z1 hl)
theorem xj{P:Prog}{h:Mini.Internal.H}{a:Nat}{l:List V}{i:Int}{v:V}(e:h[a]?=some (.list l))(hi:idx i=true)(hl:i.toNat<l.length):subset P (.ref a) (.int i) v h=some (h.set a (.list (l.set i.toNat v))):=by
 show (h[a]?).bind _=_
 rw[e];exact if_pos (by rw[hi,Z1 hl];rfl)
theorem BA{P:Prog}{h:Mini.Internal.H}{a:Nat}{l:List (Int×V)}{i:Int}(e:h[a]?=some (.aM l)):isIn P (.int i) (.ref a) h=some (au i l).isSome:=by
 show (h[a]?).bind _=_
 rw[e];rfl
theorem ot{P:Prog}{h:Mini.Internal.H}{a:Nat}{l:List (Int×V)}{i:Int}{v:V}(e:h[a]?=some (.aM l))(hv:au i l=some v):aJ P (.ref a) (.int i) h=some v:=by
 show (h[a]?).bind _=_
 rw[e];exact hv
theorem GY{P:Prog}{h:Mini.Internal.H}{l:List V}(hl:l.length≤LIM):lenOf P (.tup l) h=some l.length:=if_pos hl
theorem vX{a c:Int}{h:Mini.Internal.H}(hc:0<c):binop .mod (.int a) (.int c) h=some (.int (a.fmod c),h):=wZ fun e=>absurd (e▸hc) (by decide)
theorem Hu{c:Int}(a:Int)(hc:0<c)(hs:small c=true):u7 .fdiv a c=some (a.fdiv c):=by
 show (if _ then none else if small c=true then some (a.fdiv c)else none)=_
 rw[if_neg (fun e=>absurd (Z0 e▸hc) (by decide)),hs];rfl
theorem ye{now c:Int}(hH:H[a]?=some (.aP d))(h1:au 32 d=some (.int now))(hc:0<c)(hs:c<1000)(hl:d.length<LIM):
  aa prog (n+1) dT [.ref a,.int c] H=some (.int (now.fmod c),H.set a (.aP (cg 32 (.int (now.fdiv c)) d))):=by
 have h2:small c=true:=hZ ⟨Int.lt_trans (by decide) hc,Int.lt_trans hs (by decide)⟩
 exact run [.v ⟨_,_,bp (P:=prog) hH h1⟩,.c ⟨_,_,vX (a:=now) (h:=H) hc⟩,.v ⟨_,_,bp (P:=prog) hH h1⟩,.i ⟨_,_,Hu now hc h2⟩,.h ⟨_,_,js (P:=prog) (c:=32) (v:=.int (now.fdiv c)) hH hl⟩] (by kernel_rfl)
end
end
section
variable{n:Nat}{st st1:PS}
noncomputable def isK(x k:K):Bool:=match k with
 |.obj=>true
 |k=>decide (k=x)||(decide (x=.cl1)&&(decide (k=.cl0)||decide (k=.ifc)))
theorem pQ{x k:K}{H:H}:aa prog (n+1) Ae [.int x.n,.int k.n] H=some (.bool (isK x k),H):=by
 revert x k;exact @(K.Rw (by kernel_rfl))
theorem jm{p q:Prop}[Decidable p][Decidable q](h:p→q)(k:q→p):decide p=decide q:=decide_eq_decide.mpr ⟨h,k⟩
noncomputable def fD(k:K):Bool:= !inL [.obj,.bj,.nul,.nab,.var,.cl0,.cl1,.ifc,.arr,.dlg,.typ] k
noncomputable def aW(k:K):Bool:=fD k||decide (k=.nab)
noncomputable def cE(g:G)(k:K):Val:=if fD (az g k)then .int 0 else .none
noncomputable def unb(r:K):K:=if r=.nab then .i4 else r
noncomputable def Iw(r:K)(v:Val)(made:Int):Val×Int:=match v with
 |.int x=>if aW r then (.ob (unb r) (.i x) (made-1),made-1)else (v,made)
 |_=>(v,made)
noncomputable def bH(g:G)(k:K)(v:Val)(made:Int):Val×Int:=Iw (az g k) v made
noncomputable def unB(r x:K):Bool:=if aW r then decide (x=unb r)else isK x r
noncomputable def Pay.val:Pay→Val
 |.i y=>.int y
 |.s _=>.int 0
noncomputable def c6(r:K)(v:Val):Val×Flt:=match v with
 |.none=>if fD r then (.int 0,.null)else (.none,.no)
 |.ob x p id=>if unB r x then (if aW r then p.val else .ob x p id,.no)else (.int 0,.cast)
 |v=>(v,.no)
noncomputable def aG(g:G)(k:K)(v:Val):Val×Flt:=c6 (az g k) v
section
variable{H:H}{a:Nat}{d:List (Nat×V)}{g:G}
theorem mO{k:K}(hH:H[a]?=some (.aP d))(hc:au 34 d=some (.int g.clo.k.n)):aa prog (n+2) jB [.ref a,.int k.n] H=some ((cE g k).v,H):=by
 have hs:=dK (n:=n) (k:=k) hH hc
 unfold cE
 generalize az g k=r at hs⊢
 refine fK [.c ⟨_,_⟩] ?_ ⟨hs,trivial⟩
 clear hs;revert r;exact K.eqf (by kernel_rfl)
theorem mA{k:K}{v:V}(hH:H[a]?=some (.aP d))(hc:au 34 d=some (.int g.clo.k.n))(hk:aW (az g k)=false):aa prog (n+2) eL [.ref a,.int k.n,v] H=some (v,H):=by
 have hs:=dK (n:=n) (k:=k) hH hc
 generalize az g k=r at hs hk⊢
 refine fK [.c ⟨_,_⟩] ?_ ⟨hs,trivial⟩
 clear hs;revert r;exact K.off (by kernel_rfl)
theorem ur{k:K}(hH:H[a]?=some (.aP d))(hc:au 34 d=some (.int g.clo.k.n))(hk:az g k=.nab):aa prog (n+2) eL [.ref a,.int k.n,.none] H=some (.none,H):=
 run [.c ⟨_,_,(hk▸dK (n:=n) (k:=k) hH hc:aa prog (n+1) gY [.ref a,.int k.n] H=some (.int K.nab.n,H))⟩] (by kernel_rfl)
theorem xl{k:K}{x made:Int}(hH:H[a]?=some (.aP d))(ha:a<H.length)(hc:au 34 d=some (.int g.clo.k.n))(hm:au 53 d=some (.int made))(hm2:au 53 (cg 53 (.int (made-1)) d)=some (.int (made-1)))(hl:d.length<LIM)(hk:aW (az g k)=true):
  aa prog (n+2) eL [.ref a,.int k.n,.int x] H=some ((Val.ob (unb (az g k)) (.i x) (made-1)).v,hA H a d 53 (.int (made-1))):=by
 have hs:=dK (n:=n) (k:=k) hH hc
 have g2:(hA H a d 53 (.int (made-1)))[a]?=some (.aP (cg 53 (.int (made-1)) d)):=List.getElem?_set_self ha
 generalize az g k=r at hs hk⊢
 refine fK [.c ⟨_,_⟩,.v ⟨_,_⟩,.h ⟨_,_⟩,.v ⟨_,_⟩] ?_ ⟨hs,bp (P:=prog) hH hm,js (P:=prog) (c:=53) (v:=.int (made-1)) hH hl,bp (P:=prog) g2 hm2,trivial⟩
 clear hs;revert r;exact K.on (by kernel_rfl)
noncomputable def fw(H:Mini.Internal.H)(a:Nat)(d:List (Nat×V)):Flt→Mini.Internal.H
 |.no=>H
 |f=>hA H a d 52 (.str f.c)
theorem nj{k:K}(hH:H[a]?=some (.aP d))(hc:au 34 d=some (.int g.clo.k.n))(h1:au 52 d=some (.str 0))(hl:d.length<LIM):
  aa prog (n+3) dY [.ref a,.int k.n,.none] H=some ((aG g k .none).1.v,fw H a d (aG g k .none).2):=by
 have hs:=dK (n:=n+1) (k:=k) hH hc
 unfold aG
 generalize az g k=r at hs⊢
 induction hr:fD r
 ·refine fK [.c ⟨_,_⟩] ?_ ⟨hs,trivial⟩
  clear hs;revert r;exact K.off (by kernel_rfl)
 ·refine fK [.c ⟨_,_⟩,.c ⟨_,_⟩] ?_ ⟨hs,gj (n:=n+1) (f:=.no) (c:=.null) hH h1 hl,trivial⟩
  clear hs;revert r;exact K.on (by kernel_rfl)
theorem tM{k x:K}{p:Pay}{id:Int}(hH:H[a]?=some (.aP d))(hc:au 34 d=some (.int g.clo.k.n))(h1:au 52 d=some (.str 0))(hl:d.length<LIM)(hp:unB (az g k) x=true→aW (az g k)=true→p.val.v=p.v):
  aa prog (n+3) dY [.ref a,.int k.n,(Val.ob x p id).v] H=some ((aG g k (.ob x p id)).1.v,fw H a d (aG g k (.ob x p id)).2):=by
 have hs:=dK (n:=n+1) (k:=k) hH hc
 have s55:=gj (n:=n+1) (f:=.no) (c:=.cast) hH h1 hl
 unfold aG c6
 generalize az g k=r at hs hp⊢
 have iso:= @pQ (n+1) x r H
 have e:∀b,unB r x=b→aW r=true→decide (x.n=(unb r).n)=b:=fun b h hf=>by
  rw[unB,if_pos hf]at h;rw[←h];exact jm K.eN (congrArg _)
 have e2:∀b,unB r x=b→aW r=false→isK x r=b:=fun b h hf=>by rw[unB,hf]at h;exact h
 have s0:aJ prog (.tup [.int x.n,p.v,.int id]) (.int 0) H=some (.int x.n):=rfl
 dsimp only
 induction hu:unB r x<;>induction hf:aW r
 ·rw[e2 _ hu hf]at iso
  refine fK [.c ⟨_,_⟩,.c ⟨_,_⟩,.c ⟨_,_⟩] ?_ ⟨hs,iso,s55,trivial⟩
  clear iso hs s0 e e2 hp hu;revert r;exact K.off (by kernel_rfl)
 ·have e3:=e _ hu hf
  refine fK [.c ⟨_,_⟩,.s ⟨_,_⟩,.ob,.b ⟨_,_⟩,.c ⟨_,_⟩] ?_ ⟨hs,s0,congrArg some e3,s55,trivial⟩
  clear iso hs s0 e e2 e3 hp hu;revert r;exact K.on (by kernel_rfl)
 ·rw[e2 _ hu hf]at iso
  refine fK [.c ⟨_,_⟩,.c ⟨_,_⟩] ?_ ⟨hs,iso,trivial⟩
  clear iso hs s0 e e2 hp hu;revert r;exact K.off (by kernel_rfl)
 ·have e3:=e _ hu hf
  show _=some (p.val.v,_)
  rw[hp hu hf]
  refine fK [.c ⟨_,_⟩,.s ⟨_,_⟩,.ob,.b ⟨_,_⟩] ?_ ⟨hs,s0,congrArg some e3,trivial⟩
  clear iso hs s0 e e2 e3 hp hu;revert r;exact K.on (by kernel_rfl)
end
end
section
variable{n:Nat}{st st1:PS}
set_option genCtorIdx true in
inductive BOp where
 |add|sub|mul|div|rem|and|or|xor|shl|shr|eq|ne|lt|gt|le|ge
 deriving DecidableEq
noncomputable def BOp.c:BOp→Nat
 |.add=>42|.sub=>38|.mul=>43|.div=>44|.rem=>45|.and=>46|.or=>47|.xor=>48|.shl=>40|.shr=>41|.eq=>50|.ne=>51|.lt=>58|.gt=>63|.le=>61|.ge=>62
noncomputable def BOp.ar:BOp→Bool
 |.add|.sub|.mul|.div|.rem|.and|.or|.xor=>true
 |_=>false
noncomputable def BOp.bL:BOp→Bool
 |.div|.rem=>true
 |_=>false
noncomputable def g9(x:Int):Int:=if x<0 then-x else x
noncomputable def tq(x y:Int):Int:=if (decide (x<0) ==decide (y<0))=true then (g9 x).fdiv (g9 y)else-(g9 x).fdiv (g9 y)
noncomputable def aZ(op:BOp)(x y:Int):Int:=match op with
 |.add=>x+y
 |.sub=>x-y
 |.mul=>x*y
 |.and=>bitAnd x y
 |.or=>bitOr x y
 |.xor=>bitXor x y
 |.div=>tq x y
 |_=>x-tq x y*y
set_option tactic.hygienic true in
theorem tI{op:BOp}{x y:Int}{H:H}(ho:op.ar=true)(hx:small x=true)(hy:small y=true)(hd:op.bL=true→y≠0):
  aa prog (n+1) dZ [.str op.c,.int x,.int y] H=some (.int (aZ op x y),H):=by
 have hs:small (g9 y)=true:=by
  have:=Z0 hy
  refine hZ ⟨?_,?_⟩<;>unfold g9<;>split<;>lia
 have h0:y≠0→g9 y≠0:=by intro h;unfold g9;split<;>lia
 have ht:op.bL=true→aa prog (n+1) dZ [.str op.c,.int x,.int y] H=some (.int (aZ op x y),H):=fun hd0=>by
  have hq:=fun z=>w6 (a:=z) (h:=H) (h0 (hd hd0)) hs
  unfold aZ tq
  induction hb:decide (x<0) ==decide (y<0)<;>induction op<;>first|exact absurd hd0 Zc|skip
  ·exact run [.ob,.ob,.ob,.ob,.ob,.ob,.c ⟨_,_,hq (g9 x)⟩,.ob,.ob,fB (congrArg (!·) hb),.ob] (by kernel_rfl)
  ·exact run [.ob,.ob,.ob,.ob,.ob,.ob,.c ⟨_,_,hq (g9 x)⟩,.ob,.ob,fB (congrArg (!·) hb),.ob,.c ⟨_,_,nN (a:= -(g9 x).fdiv (g9 y)) (b:=y) (h:=H) (by rw[hy,Bool.or_true])⟩] (by kernel_rfl)
  ·exact run [.ob,.ob,.ob,.ob,.ob,.ob,.c ⟨_,_,hq (g9 x)⟩,.ob,.ob,fB (congrArg (!·) hb),.ob] (by kernel_rfl)
  ·exact run [.ob,.ob,.ob,.ob,.ob,.ob,.c ⟨_,_,hq (g9 x)⟩,.ob,.ob,fB (congrArg (!·) hb),.ob,.c ⟨_,_,nN (a:=(g9 x).fdiv (g9 y)) (b:=y) (h:=H) (by rw[hy,Bool.or_true])⟩] (by kernel_rfl)
 induction op
 case mul=>exact run [.ob,.ob,.ob,.c ⟨_,_,nN (a:=x) (b:=y) (h:=H) (by rw[hx];rfl)⟩] (by kernel_rfl)
 all_goals first|exact absurd ho Zc|exact ht rfl|exact run [] (by kernel_rfl)
noncomputable def n11:K→Bool:=inL [.bool,.chr,.i1,.u1,.i2,.u2,.i4,.u4,.i8,.u8,.jk]
noncomputable def loK:K→Int
 |.i1=> -128|.i2=> -32768|.i4=> -2147483648|.i8=> -9223372036854775808|.jk=> -2147483648
 |_=>0
noncomputable def hiK:K→Int
 |.bool=>1|.chr=>65535|.i1=>127|.u1=>255|.i2=>32767|.u2=>65535|.i4=>2147483647|.u4=>4294967295|.i8=>9223372036854775807|.u8=>18446744073709551615|.jk=>2147483647
 |_=>0
theorem xU{k:K}{H:H}(h:n11 k=true):aJ prog (.cd 7) (.int k.n) H=some (.tup [.int (loK k),.int (hiK k)]):=by
 revert k;exact @(K.on (by kernel_rfl))
noncomputable def cX(lo hi x:Int)(c:Bool):Int×Flt:=if lo≤x∧x≤hi then (x,.no)else if c then (0,.over)else (lo+(x-lo).fmod (hi-lo+1),.no)
noncomputable def ag(c:Bool):Int:=if c then 1 else 0
section
variable{H:H}{a:Nat}{d:List (Nat×V)}{g:G}
theorem H8(k:K):hiK k-loK k+1≠0:=Z0 (K.all (p:=fun k=>decide (hiK k-loK k+1≠0)) (by kernel_rfl) k)
theorem MG{k:K}{x:Int}{c:Bool}(hH:H[a]?=some (.aP d))(hc:au 34 d=some (.int g.clo.k.n))(hu:au 6 d=some (.int g.und.k.n))(h1:au 52 d=some (.str 0))(hl:d.length<LIM)(hk:n11 (aj g k)=true):
  aa prog (n+3) oe [.ref a,.int x,.int k.n,.int (ag c)] H=some (.int (cX (loK (aj g k)) (hiK (aj g k)) x c).1,fw H a d (cX (loK (aj g k)) (hiK (aj g k)) x c).2):=by
 have s56:=gj (n:=n+1) (f:=.no) (c:=.over) hH h1 hl
 have rp:=H8 (aj g k)
 have rg:=xU (H:=H) hk
 have u:=jo (n:=n) (k:=k) hH hc hu
 generalize aj g k=r at*
 generalize loK r=lo at*
 generalize hiK r=hi at*
 by_cases h:lo≤x∧x≤hi
 ·rw[cX,if_pos h]
  exact run [.oc,.c ⟨_,_,u⟩,.v ⟨_,_,rg⟩,fB (Z1 h.1),fB (Z1 h.2)] (by kernel_rfl)
 ·rw[cX,if_neg h]
  by_cases h2:lo≤x
  ·have h3:decide (x≤hi)=false:=Z2 fun e=>h ⟨h2,e⟩
   induction c
   ·exact run [.oc,.c ⟨_,_,u⟩,.v ⟨_,_,rg⟩,fB (Z1 h2),fB h3,.ob,.c ⟨_,_,wZ (a:=x-lo) (h:=H) rp⟩] (by kernel_rfl)
   ·exact run [.oc,.c ⟨_,_,u⟩,.v ⟨_,_,rg⟩,fB (Z1 h2),fB h3,.ob,.c ⟨_,_,s56⟩] (by kernel_rfl)
  ·induction c
   ·exact run [.oc,.c ⟨_,_,u⟩,.v ⟨_,_,rg⟩,fB (Z2 h2),.ob,.c ⟨_,_,wZ (a:=x-lo) (h:=H) rp⟩] (by kernel_rfl)
   ·exact run [.oc,.c ⟨_,_,u⟩,.v ⟨_,_,rg⟩,fB (Z2 h2),.ob,.c ⟨_,_,s56⟩] (by kernel_rfl)
end
end
section
variable{n:Nat}{st st1:PS}
theorem kq:(hp st)[102]?=some (.aP (wd st)):=rfl
theorem iw:au 34 (wd st)=some (.int st.g.clo.k.n):=rfl
theorem Jv:au 6 (wd st)=some (.int st.g.und.k.n):=rfl
theorem NI:au 32 (wd st)=some (.int st.now):=rfl
theorem JI:au 52 (wd st)=some (.str st.fault.c):=rfl
theorem Kj:au 53 (wd st)=some (.int st.made):=rfl
theorem nC:(wd st).length<LIM:=by show 10<1048576;decide
theorem w_lt:102<(hp st).length:=by
 show 102<(pre st++st.dyn.map D.o).length
 rw[Za]
 have:(pre st).length=138:=rfl
 lia
theorem EJ{m:Int}:hA (hp st) 102 (wd st) 53 (.int m)=hp {st with made:=m}:=rfl
theorem BN{m:Int}:hA (hp st) 102 (wd st) 37 (.int m)=hp {st with left:=m}:=rfl
theorem Mk:(hp st)[101]?=some (.list (st.log.map V.int)):=rfl
theorem Fs{x:Int}:(hp st).set 101 (.list (st.log.map V.int++[.int x]))=hp {st with log:=st.log++[x]}:=by
 have:st.log.map V.int++[.int x]=(st.log++[x]).map V.int:=by simp
 rw[this];rfl
noncomputable abbrev PS.flt(st:PS)(f:Flt):PS:={st with fault:=f}
theorem kO{f:Flt}(h:st.fault=.no):fw (hp st) 102 (wd st) f=hp (st.flt f):=by
 induction f with
 |no=>obtain⟨⟩:=st;cases h;rfl
 |_=>rfl
theorem wA(h:st.fault=.no):au 52 (wd st)=some (.str 0):=by rw[JI,h];rfl
theorem xr{f:Flt}(h:st.fault=.no):aa prog (n+1) g8 [.ref 102,.str f.c] (hp st)=some (.int 0,hp (st.flt f)):=by
 rw[gj (f:=.no) kq (by rw[JI,h]) nC]
 rfl
theorem nD{k:K}{x:Int}{c:Bool}(h:st.fault=.no)(hk:n11 (aj st.g k)=true):
  aa prog (n+3) oe [.ref 102,.int x,.int k.n,.int (ag c)] (hp st)=some (.int (cX (loK (aj st.g k)) (hiK (aj st.g k)) x c).1,hp (st.flt (cX (loK (aj st.g k)) (hiK (aj st.g k)) x c).2)):=by
 rw[MG kq iw Jv (wA h) nC hk,kO h]
theorem t8{k:K}:aa prog (n+2) jB [.ref 102,.int k.n] (hp st)=some ((cE st.g k).v,hp st):=mO kq iw
theorem qi{k:K}:aa prog (n+1) gY [.ref 102,.int k.n] (hp st)=some (.int (az st.g k).n,hp st):=dK kq iw
def inR(g:G)(k:K)(x:Int):Prop:=loK (aj g k)≤x∧x≤hiK (aj g k)
def pI(g:G)(k:K)(x:Int):Prop:=n11 (aj g k)=true→inR g k x
def LZ(g:G)(x:K)(p:Pay):Prop:=match p with
 |.s _=>x=.bj
 |.i y=>x≠.bj∧pI g x y
def zT(g:G)(r:K)(v:Val):Prop:=match v with
 |.int x=>aW r=true∧pI g (unb r) x
 |.none=>fD r=false
 |.ob x p _=>aW r=false∧isK x r=true∧LZ g x p
 |.tok _ _=>False
def aE(g:G)(k:K)(v:Val):Prop:=zT g (az g k) v
theorem ox{k:K}{v:Val}(hv:aE st.g k v):aa prog (n+2) eL [.ref 102,.int k.n,v.v] (hp st)=some ((bH st.g k v st.made).1.v,hp {st with made:=(bH st.g k v st.made).2}):=
 match v,hv with
 |.tok a b,hv=>hv.elim
 |.int x,hv=>(xl kq w_lt iw Kj rfl nC hv.1).trans (by rw[EJ,show bH st.g k (.int x) st.made=_ from if_pos hv.1])
 |.none,hv=>by
  by_cases hf:az st.g k=.nab
  ·exact ur kq iw hf
  ·exact mA kq iw (by unfold aW;rw[show fD _=false from hv,Z2 hf];rfl)
 |.ob x p id,hv=>mA kq iw hv.1
theorem xK{g:G}{r x:K}{p:Pay}(ho:LZ g x p)(hu:unB r x=true)(hf:aW r=true):p.val.v=p.v:=
 match p,ho with
 |.i _,_=>rfl
 |.s _,ho=>absurd (K.imp (a:=aW) (b:=fun r=> !unB r .bj) rfl r hf) (by rw[show x=.bj from ho]at hu;rw[hu];decide)
theorem uA{k:K}{v:Val}(h:st.fault=.no)(hv:aE st.g .obj v):aa prog (n+3) dY [.ref 102,.int k.n,v.v] (hp st)=some ((aG st.g k v).1.v,hp (st.flt (aG st.g k v).2)):=
 match v,hv with
 |.tok a b,hv=>hv.elim
 |.int x,hv=>absurd (show aW .obj=true from hv.1) (by decide)
 |.none,_=>(nj kq iw (wA h) nC).trans (by rw[kO h])
 |.ob x p id,hv=>(tM kq iw (wA h) nC (xK hv.2.2)).trans (by rw[kO h])
end
section
variable{n:Nat}{st st1:PS}
theorem yv{p a b:Prop}[Decidable p][Decidable a][Decidable b](h:a→b→p)(h1:p→a)(h2:p→b){x:Bool}(e:x=decide b):(decide a&&x)=decide p:=by
 rw[e,←Bool.decide_and];exact jm (fun z=>h z.1 z.2) (fun z=>⟨h1 z,h2 z⟩)
theorem Val.obj{a b:K}{p q:Pay}{i j:Int}(e:Val.ob a p i=.ob b q j):a=b∧p=q∧i=j:=by cases e;exact⟨rfl,rfl,rfl⟩
theorem FO:∀p q:Pay,V.beq p.v q.v=decide (p=q)
 |.i x,.i y=>jm (congrArg _) fun e=>Pay.i.noConfusion e id
 |.s x,.s y=>jm (congrArg _) fun e=>Pay.s.noConfusion e id
 |.i _,.s _|.s _,.i _=>rfl
theorem HE:∀v w:Val,V.beq v.v w.v=decide (v=w)
 |.none,.none=>rfl
 |.int x,.int y=>jm (congrArg _) fun e=>Val.int.noConfusion e id
 |.tok a b,.tok c d=>yv (a:=a.n=c.n) (b:=b.n=d.n) (fun x y=>by rw[K.eN x,K.eN y]) (fun e=>by cases e;rfl) (fun e=>by cases e;rfl) (Bool.and_true _)
 |.ob a p i,.ob b q j=>yv (a:=a.n=b.n) (b:=p=q∧i=j) (fun x y=>by rw[K.eN x,y.1,y.2]) (fun e=>congrArg K.n (Val.obj e).1) (fun e=>(Val.obj e).2) (by
   show (V.beq p.v q.v&&(decide (i=j)&&true))=_
   rw[FO,Bool.and_true,←Bool.decide_and])
 |.none,.int _|.none,.ob .. |.none,.tok .. |.int _,.none|.int _,.ob .. |.int _,.tok .. |.ob ..,.none|.ob ..,.int _|.tok ..,.none|.tok ..,.int _=>rfl
 |.ob a (.i _) i,.tok .. |.tok ..,.ob a (.i _) i=>(congrArg _ (Bool.and_false _)).trans (Bool.and_false _)
 |.ob a (.s _) i,.tok .. |.tok ..,.ob a (.s _) i=>Bool.and_false _
theorem uR:∀v:Val,V.flat v.v=true
 |.none|.int _|.tok .. |.ob _ (.i _) _|.ob _ (.s _) _=>rfl
theorem jr{v w:Val}{h:H}:eqv v.v w.v h=some (decide (v=w)):=by
 have e:eqv v.v w.v h=if V.flat v.v&&V.flat w.v then some (V.beq v.v w.v)else none:=by induction v<;>rfl
 rw[e,uR,uR,HE];rfl
set_option genCtorIdx true in
inductive UOp where
 |not|neg|inv
noncomputable def UOp.c:UOp→Nat
 |.not=>49|.neg=>38|.inv=>39
set_option genCtorIdx true in
inductive Way where
 |num|ref|cast|box|unbox|same
noncomputable def Way.c:Way→Int
 |.num=>1|.ref=>2|.cast=>3|.box=>4|.unbox=>5|.same=>10
inductive gc where
 |loc (k:K) (lid:Int)
 |const (k:K) (p:Option Pay)
 |cK (k:K)
 |fY (k:K)
 |nul (k:K)
inductive One where
 |un (k:K) (op:UOp) (c:Bool)
 |conv (k:K) (w:Way) (c:Bool)
 |is (aim:K)
 |as (k:K)
inductive Tr where
 |leaf (l:gc)
 |one (o:One) (e:Tr)
 |bin (k:K) (op:BOp) (l r:Tr) (c:Bool)
 |bz (a:Bool) (l r:Tr)
 |cond (k:K) (t a b:Tr)
noncomputable abbrev Tr.loc(k:K)(lid:Int):Tr:=.leaf (.loc k lid)
noncomputable abbrev Tr.const(k:K)(p:Option Pay):Tr:=.leaf (.const k p)
noncomputable abbrev Tr.cK(k:K):Tr:=.leaf (.cK k)
noncomputable abbrev Tr.fY(k:K):Tr:=.leaf (.fY k)
noncomputable abbrev Tr.nul(k:K):Tr:=.leaf (.nul k)
noncomputable abbrev Tr.un(k:K)(op:UOp)(e:Tr)(c:Bool):Tr:=.one (.un k op c) e
noncomputable abbrev Tr.conv(k:K)(w:Way)(e:Tr)(c:Bool):Tr:=.one (.conv k w c) e
noncomputable abbrev Tr.is(e:Tr)(aim:K):Tr:=.one (.is aim) e
noncomputable abbrev Tr.as(k:K)(e:Tr):Tr:=.one (.as k) e
noncomputable def gc.kind:gc→K
 |.loc k _|.const k _|.cK k|.nul k=>k
 |.fY _=>.typ
noncomputable def One.kind:One→K
 |.un k _ _|.conv k _ _|.as k=>k
 |.is _=>.bool
noncomputable def Tr.kind:Tr→K
 |.leaf l=>l.kind
 |.one o _=>o.kind
 |.bin k _ _ _ _|.cond k _ _ _=>k
 |.bz _ _ _=>.bool
noncomputable def Rl:Option Pay→V
 |none=>.none
 |some p=>p.v
noncomputable def gc.v:gc→V
 |.loc k lid=>.tup [.int 2,.int k.n,.int lid]
 |.const k p=>.tup [.int 1,.int k.n,Rl p]
 |.cK k=>.tup [.int 12,.int k.n]
 |.fY k=>.tup [.int 29,.int 25,.int k.n]
 |.nul k=>.tup [.int 19,.int k.n,.tup [.int 1,.int 14,.none],.int 8,.int 0]
noncomputable def One.v(e:V):One→V
 |.un k op c=>.tup [.int 13,.int k.n,.str op.c,e,.int (ag c)]
 |.conv k w c=>.tup [.int 19,.int k.n,e,.int w.c,.int (ag c)]
 |.is aim=>.tup [.int 20,.int 1,e,.int aim.n,.int 0]
 |.as k=>.tup [.int 21,.int k.n,e]
noncomputable def Tr.v:Tr→V
 |.leaf l=>l.v
 |.one o e=>o.v e.v
 |.bin k op l r c=>.tup [.int 14,.int k.n,.str op.c,l.v,r.v,.int (ag c)]
 |.bz a l r=>.tup [.int (if a then 15 else 16),.int 1,l.v,r.v]
 |.cond k t a b=>.tup [.int 17,.int k.n,t.v,a.v,b.v]
noncomputable def gc.code:gc→Int
 |.loc _ _=>2|.const _ _=>1|.cK _=>12|.fY _=>29|.nul _=>19
noncomputable def One.code:One→Int
 |.un _ _ _=>13|.conv _ _ _=>19|.is _=>20|.as _=>21
noncomputable def Tr.code:Tr→Int
 |.leaf l=>l.code
 |.one o _=>o.code
 |.bin _ _ _ _ _=>14
 |.bz a _ _=>if a then 15 else 16
 |.cond _ _ _ _=>17
theorem Tr.n8(t:Tr):∃r,t.v=.tup (.int t.code::.int t.kind.n::r):=by
 rcases t with ⟨_|_|_|_|_⟩|⟨_|_|_|_,_⟩|_|_|_<;>exact⟨_,rfl⟩
theorem Tr.shape(t:Tr):∃c r,t.v=.tup (.int c::.int t.kind.n::r):=⟨_,t.n8⟩
noncomputable def Tr.sz:Tr→Nat
 |.leaf _=>1
 |.bin _ _ l r _|.bz _ l r=>l.sz+r.sz+1
 |.one _ e=>e.sz+1
 |.cond _ t a b=>t.sz+a.sz+b.sz+1
noncomputable def Tr.dp:Tr→Nat
 |.leaf _=>0
 |.bin _ _ l r _|.bz _ l r=>max l.dp r.dp+1
 |.one _ e=>e.dp+1
 |.cond _ t a b=>max t.dp (max a.dp b.dp)+1
structure WS where
 log:List Int
 fault:Flt
 made:Int
noncomputable def C0(k:K)(p:Option Pay):Val:=match p with
 |none=>.none
 |some (.i x)=>.int x
 |some (.s c)=>if k=.bj then .ob .bj (.s c) 0 else .none
noncomputable def J0(op:BOp)(p q:Bool):Bool:=match op with
 |.lt=>p
 |.gt=>q
 |.le=> !q
 |_=> !p
noncomputable def vG(op:BOp)(x y:Int):Bool:=J0 op (decide (x<y)) (decide (y<x))
noncomputable def Val.toI:Val→Int
 |.int x=>x
 |_=>0
noncomputable def y9(b:Bool):Int:=if b then 64 else 32
noncomputable def fm(k:K)(y:Int):Int:=y.fmod (y9 (decide (8<k.n)))
noncomputable def dj(g:G)(k:K)(x:Int)(c:Bool):Int×Flt:=cX (loK (aj g k)) (hiK (aj g k)) x c
noncomputable def dI(g:G)(k:K)(op:BOp)(c:Bool)(x y:Int):Int×Flt:=match op with
 |.shl=>dj g k (x*2^(fm k y).toNat) false
 |.shr=>(x.fdiv (2^(fm k y).toNat),.no)
 |.div|.rem=>if y=0 then (0,.zero)else if y= -1∧x=loK k then (0,.over)else dj g k (aZ op x y) c
 |op=>if op.ar then dj g k (aZ op x y) c else (ag (vG op x y),.no)
noncomputable abbrev RM:=Val×Flt×Int
noncomputable def w5(z:Int×Flt)(m:Int):RM:=(.int z.1,z.2,m)
noncomputable def B3:List BOp:=[.add,.sub,.mul,.div,.rem,.and,.or,.xor,.shl,.shr,.eq,.ne,.lt,.gt,.le,.ge]
theorem BOp.mem(o:BOp):o∈B3:=by induction o<;>decide
theorem BOp.on{α:Type}{f g:BOp→α}{c:BOp→Bool}(h:(B3.filter c).map f=(B3.filter c).map g):∀k,c k=true→f k=g k:=fun k hc=>List.map_inj_left.mp h k (List.mem_filter.mpr ⟨k.mem,hc⟩)
theorem BOp.imp{a b:BOp→Bool}(h:B3.all (fun o=> !a o||b o)=true)(o:BOp)(ha:a o=true):b o=true:=by
 have:=Zk h o o.mem
 rwa [ha]at this
noncomputable def BOp.en(o:BOp):Bool:=decide (o=.eq)||decide (o=.ne)
noncomputable def dq(g:G)(k kr:K)(op:BOp)(c:Bool)(a b:Val)(m:Int):RM:=
 if op.en then
  (if k=.var∨kr=.var then
   (.int (ag (decide ((bH g k a m).1=(bH g kr b (bH g k a m).2).1) ==decide (op=.eq))),.no,(bH g kr b (bH g k a m).2).2)
  else (.int (ag (decide (a=b) ==decide (op=.eq))),.no,m))
 else w5 (dI g k op c a.toI b.toI) m
noncomputable def brV(g:G)(k ki:K)(w:Way)(c:Bool)(v:Val)(m:Int):RM:=match w with
 |.num=>w5 (dj g k v.toI c) m
 |.box=>((bH g ki v m).1,.no,(bH g ki v m).2)
 |.cast=>((aG g k (bH g ki v m).1).1,(aG g k (bH g ki v m).1).2,(bH g ki v m).2)
 |.unbox=>((aG g k v).1,(aG g k v).2,m)
 |.ref|.same=>(v,.no,m)
noncomputable def isV(g:G)(aim:K)(v:Val):Bool:=match v with
 |.ob x _ _=>isK x (if aim=.nab then .i4 else az g aim)
 |_=>false
noncomputable def asV(g:G)(k:K)(v:Val):Val:=if isV g k v then (match v with
 |.ob x (.i y) id=>if k=.nab then .int y else .ob x (.i y) id
 |v=>v)else .none
noncomputable def unV(g:G)(k:K)(op:UOp)(c:Bool)(x m:Int):RM:=match op with
 |.not=>(.int (1-x),.no,m)
 |.neg=>w5 (dj g k (-x) c) m
 |.inv=>w5 (dj g k (-1-x) false) m
noncomputable def gA(g:G)(ke:K)(v:Val)(m:Int):One→RM
 |.un k op c=>unV g k op c v.toI m
 |.conv k w c=>brV g k ke w c v m
 |.is aim=>(.int (ag (isV g aim (bH g ke v m).1)),.no,(bH g ke v m).2)
 |.as k=>(asV g k (bH g ke v m).1,.no,(bH g ke v m).2)
noncomputable def pU(g:G)(vf:Int→Val):gc→Val
 |.loc _ lid=>vf lid
 |.const k p=>C0 k p
 |.cK k|.nul k=>cE g k
 |.fY k=>.ob .typ (.i (az g k).n) 0
noncomputable def D0(ws:WS):gc→WS
 |.loc _ lid=> {ws with log:=ws.log++[lid]}
 |_=>ws
noncomputable abbrev WS.to(ws:WS)(f:Flt)(m:Int):WS:={ws with fault:=f,made:=m}
noncomputable def andM(x:Val×WS)(f:Val→WS→Val×WS):Val×WS:=if x.2.fault=.no then f x.1 x.2 else (.int 0,x.2)
noncomputable def dU(ws:WS)(z:RM):Val×WS:=(z.1,ws.to z.2.1 z.2.2)
noncomputable def aN(g:G)(vf:Int→Val):Tr→WS→Val×WS
 |.leaf l,ws=>(pU g vf l,D0 ws l)
 |.one o e,ws=>andM (aN g vf e ws) fun a w=>dU w (gA g e.kind a w.made o)
 |.bin k op l r c,ws=>andM (aN g vf l ws) fun a w=>andM (aN g vf r w) fun b w=>dU w (dq g l.kind r.kind op c a b w.made)
 |.bz a l r,ws=>andM (aN g vf l ws) fun x w=>if decide (x.toI=0)=a then (.int (ag (!a)),w)else aN g vf r w
 |.cond k t a b,ws=>andM (aN g vf t ws) fun x w=>if x.toI=0 then aN g vf b w else aN g vf a w
section
variable{x:Val×WS}{f:Val→WS→Val×WS}{P:Val×WS→Prop}
theorem hX(h:x.2.fault=.no):andM x f=f x.1 x.2:=if_pos h
theorem ma(h:x.2.fault≠.no):andM x f=(.int 0,x.2):=if_neg h
theorem jX(h:(andM x f).2.fault=.no)(k:x.2.fault=.no→(f x.1 x.2).2.fault=.no→P (f x.1 x.2)):P (andM x f):=by
 by_cases hx:x.2.fault=.no
 ·rw[hX hx]at h⊢;exact k hx h
 ·rw[ma hx]at h;exact absurd h hx
theorem CG(h:x.2.fault≠.no→P (.int 0,x.2))(k:x.2.fault=.no→P (f x.1 x.2)):P (andM x f):=by
 by_cases hx:x.2.fault=.no
 ·rw[hX hx];exact k hx
 ·rw[ma hx];exact h hx
end
end
noncomputable def a4:K→Bool:=inL [.i4,.u4,.i8,.u8]
noncomputable def nk:K→Bool:=inL [.chr,.i1,.u1,.i2,.u2,.i4,.u4,.i8,.u8]
noncomputable def nke(k:K):Bool:=nk k||decide (k=.enm)
noncomputable def nue(k:K):Bool:=n11 k||decide (k=.enm)
noncomputable def BOp.log:BOp→Bool
 |.and|.or|.xor=>true
 |_=>false
noncomputable def BOp.cmp:BOp→Bool
 |.eq|.ne|.lt|.gt|.le|.ge=>true
 |_=>false
noncomputable def rk:K→Bool:=inL [.bj,.cl0,.cl1,.ifc,.arr,.dlg]
noncomputable def bxk:K→Bool:=inL [.i4,.i8,.bool,.chr,.enm,.nab,.stc,.var,.u1,.u8]
noncomputable def xn:K→Bool:=inL [.obj,.cl0,.i4,.nab,.var,.stc,.enm]
noncomputable def lok:K→Bool:=inL [.i4,.bj,.enm,.nab,.stc,.var,.cl0,.cl1,.ifc,.arr,.obj]
noncomputable def dfk(k:K):Bool:= !inL [.nul,.typ] k
noncomputable def alk(k:K):Bool:=decide (k=.bool)||(decide (k=.obj)||(decide (k=.cl0)||decide (k=.bj)))
inductive fG:K→K→K→BOp→Bool→Bool→Prop
 |ar {k op nl nr}:op.ar=true→a4 k=true→fG k k k op nl nr
 |lg {op nl nr}:op.log=true→fG .bool .bool .bool op nl nr
 |sh {k op nl nr}:(decide (op=.shl)||decide (op=.shr))=true→a4 k=true→fG k k .i4 op nl nr
 |cm {k op nl nr}:op.cmp=true→nke k=true→fG .bool k k op nl nr
 |eq {k op nl nr}:op.en=true→alk k=true→fG .bool k k op nl nr
 |vo {op nl}:op.en=true→fG .bool .var .obj op nl true
 |ov {op nr}:op.en=true→fG .bool .obj .var op true nr
noncomputable def Tr.isNul:Tr→Bool
 |.leaf (.const k p)=>decide (k=.obj)&&p.isNone
 |_=>false
noncomputable def dm(k ke:K)(w:Way):Bool:=match w with
 |.num=>nke k&&nke ke
 |.same=>nk k&&decide (ke=k)
 |.unbox=>decide (ke=.obj)&&(nk k||decide (k=.nab)||decide (k=.stc)||decide (k=.var))
 |.box=>decide (k=.obj)&&bxk ke
 |.ref=>(decide (k=.obj)&&(rk ke||decide (ke=.typ)))||((decide (k=.cl0)||decide (k=.ifc))&&decide (ke=.cl1))
 |.cast=>(decide (k=.var)&&decide (ke=.obj))||(rk k&&(decide (ke=.obj)||(decide (ke=.var)&&(decide (k=.cl0)||decide (k=.ifc)))))
noncomputable def u5(g:G)(k ke:K):Bool:=(decide (k=.nab)&&decide (ke=.obj))||(decide (k=.var)&&decide (ke=.obj)&&decide (g.clo=.cl0))||(rk k&&(decide (ke=.obj)||(decide (ke=.var)&&(decide (k=.cl0)||decide (k=.ifc)))))
def constOk(g:G)(k:K)(p:Option Pay):Prop:=match p with
 |some (.i x)=>nue k=true∧inR g k x
 |some (.s c)=>k=.bj
 |none=>k=.bj∨k=.obj
noncomputable def gc.ok(g:G)(Γ:List (K×Val)):gc→Prop
 |.loc k lid=>∃i:Nat,lid=(i:Int)+1∧∃v,Γ[i]?=some (k,v)∧aE g k v
 |.const k p=>constOk g k p
 |.cK k=>dfk k=true
 |.fY k=>lok k=true
 |.nul k=>(decide (k=.obj)||(decide (k=.nab)||rk k))=true
noncomputable def tc(k:K):UOp→Bool
 |.not=>decide (k=.bool)
 |.neg=>decide (k=.i4)||decide (k=.i8)
 |.inv=>a4 k
noncomputable def One.ok(g:G)(ke:K):One→Prop
 |.un k op _=>ke=k∧tc k op=true
 |.conv k w _=>dm k ke w=true
 |.is aim=>xn ke=true∧lok aim=true
 |.as k=>u5 g k ke=true
noncomputable def WT(g:G)(Γ:List (K×Val)):Tr→Prop
 |.leaf l=>l.ok g Γ
 |.one o e=>WT g Γ e∧o.ok g e.kind
 |.bin k op l r _=>WT g Γ l∧WT g Γ r∧fG k l.kind r.kind op l.isNul r.isNul
 |.bz a l r=>WT g Γ l∧WT g Γ r∧l.kind=.bool∧r.kind=.bool
 |.cond k t a b=>WT g Γ t∧WT g Γ a∧WT g Γ b∧t.kind=.bool∧a.kind=k∧b.kind=k∧dfk k=true
theorem gc.mono{g:G}{Γ Δ:List (K×Val)}(h:Γ<+:Δ):∀{l:gc},l.ok g Γ→l.ok g Δ
 |.loc _ _,⟨i,e,v,hv,hk⟩=>⟨i,e,v,h.elim fun l e=>by rw[←e,Zj (Z6 hv).1];exact hv,hk⟩
 |.const ..,w|.cK ..,w|.fY ..,w|.nul ..,w=>w
theorem WT.mono{g:G}{Γ Δ:List (K×Val)}(h:Γ<+:Δ):∀{t:Tr},WT g Γ t→WT g Δ t
 |.leaf _,w=>gc.mono h w
 |.one _ _,w=>⟨WT.mono h w.1,w.2⟩
 |.bin ..,w|.bz ..,w=>⟨WT.mono h w.1,WT.mono h w.2.1,w.2.2⟩
 |.cond ..,w=>⟨WT.mono h w.1,WT.mono h w.2.1,WT.mono h w.2.2.1,w.2.2.2⟩
noncomputable def aI(Γ:List (K×Val))(lid:Int):Val:=match Γ[(lid-1).toNat]? with
 |some p=>p.2
 |none=>.none
theorem yf{lo hi x:Int}{c:Bool}(p:0<hi-lo+1):(cX lo hi x c).2=.no→lo≤(cX lo hi x c).1∧(cX lo hi x c).1≤hi:=by
 unfold cX
 split
 ·exact fun ζ=> ‹_›
 ·induction c
  ·exact fun ζ=>⟨Int.le_add_of_nonneg_right (Zy _ p),Int.add_le_of_le_sub_left (Int.le_of_lt_add_one (Int.fmod_lt_of_pos _ p))⟩
  ·exact Flt.noConfusion
theorem km{g:G}{k:K}{x:Int}{c:Bool}(h:(dj g k x c).2=.no):inR g k (dj g k x c).1:=
 yf (Z0 (K.all (p:=fun k=>decide (0<hiK k-loK k+1)) rfl (aj g k))) h
noncomputable def R5:List U:=[.i1,.u1,.i2,.u2,.i4,.u4,.i8,.u8]
noncomputable def R2:List Cl:=[.i4,.cl0,.stc]
theorem G.imp{a:K→Bool}{b:G→K→Bool}(h:(R5.all fun u=>R2.all fun c=>dR.all fun k=> !a k||b ⟨u,c⟩ k)=true)(g:G)(k:K):a k=true→b g k=true:=
 K.imp (Zk (Zk h g.und (by induction g.und<;>decide)) g.clo (by induction g.clo<;>decide)) k
theorem gg(g:G){k:K}:nue k=true→n11 (aj g k)=true:=G.imp (b:=fun g k=>n11 (aj g k)) (by kernel_rfl) g k
theorem iY{k:K}:nke k=true→nue k=true:=K.imp rfl k
theorem fH{k:K}:a4 k=true→nue k=true:=K.imp rfl k
theorem sD(g:G){k:K}(h:nue k=true):az g k=k:=K.on (f:=az g) (g:=id) (c:=nue) rfl k h
theorem mR{k:K}(h:nue k=true):aW k=true∧fD k=true:=Z3 (K.imp (b:=fun k=>aW k&&fD k) rfl k h)
theorem q7{k:K}(h:nue k=true):unb k=k:=K.on (f:=unb) (g:=id) (c:=nue) rfl k h
theorem has_int{g:G}{k:K}{x:Int}(h:nue k=true)(hr:inR g k x):aE g k (.int x):=by
 unfold aE;rw[sD g h]
 exact⟨(mR h).1,by rw[q7 h];exact fun ζ=>hr⟩
theorem has_bool{g:G}:∀b:Bool,aE g .bool (.int (ag b))
 |true=>has_int rfl (show (0:Int)≤1∧(1:Int)≤1 by decide)
 |false=>has_int rfl (show (0:Int)≤0∧(0:Int)≤1 by decide)
theorem bq{g:G}{k:K}{v:Val}(h:nue k=true)(hv:aE g k v){C:Prop}(f:∀x,v=.int x→inR g k x→C):C:=by
 unfold aE at hv;rw[sD g h]at hv
 match v,hv with
 |.int x,hv=>exact f x rfl (q7 h▸hv.2 (by rw[q7 h];exact gg g h))
 |.none,hv=>exact absurd (hv.symm.trans (mR h).2) Zc
 |.ob _ _ _,hv=>exact absurd (hv.1.symm.trans (mR h).1) Zc
 |.tok _ _,hv=>exact hv.elim
section
variable{g:G}{k ke r:K}{v:Val}{m:Int}
theorem uy(g:G)(k:K):aj g (az g k)=aj g k:=by
 obtain⟨u,c⟩:=g
 induction c<;>exact K.eqf (f:=fun k=>aj _ (az _ k)) (g:=aj _) rfl k
theorem l4(h:fD (az g k)=false):n11 (aj g k)=false:=by
 obtain⟨u,c⟩:=g
 induction c<;>exact K.off (f:=fun k=>n11 (aj _ k)) (g:=fun ζ=>false) (c:=fun k=>fD (az _ k)) rfl k h
theorem Fb(hv:zT g r v):zT g .obj (Iw r v m).1:=
 match v,hv with
 |.none,_=>rfl
 |.int x,hv=>by
  rw[show Iw r (.int x) m=_ from if_pos hv.1]
  exact⟨rfl,rfl,Z0 (K.imp (b:=fun r=>decide (unb r≠.bj)) rfl r hv.1),hv.2⟩
 |.ob x p id,hv=>⟨rfl,rfl,hv.2.2⟩
 |.tok a b,hv=>hv.elim
theorem yU{x:Int}(h:pI g (unb (az g k)) x)(hn:n11 (aj g k)=true):inR g k x:=by
 rw[show unb (az g k)=az g k from if_neg fun e=>by rw[←uy,e]at hn;cases hn]at h
 unfold pI inR at h
 rw[uy]at h
 exact h hn
theorem d8(hv:aE g k v):aE g .obj (bH g k v m).1:=Fb hv
theorem Pay.IG:∀p:Pay,∃y,p.val=.int y
 |.i y=>⟨y,rfl⟩
 |.s _=>⟨0,rfl⟩
theorem FY{x:Int}(hf:aW r=true)(h:pI g (unb r) x):zT g r (.int x):=⟨hf,h⟩
theorem K0{x:K}(h:unB r x=true)(hf:aW r=true):x=unb r:=by
 rw[unB,if_pos hf]at h;exact Z0 h
theorem wq(hv:zT g .obj v)(hf:(c6 r v).2=.no):zT g r (c6 r v).1:=
 match v,hv with
 |.none,_=>by
  induction h:fD r
  ·rw[show c6 r .none=_ from if_neg (by rw[h];decide)];exact h
  ·rw[show c6 r .none=_ from if_pos h]at hf;cases hf
 |.int x,hv=>absurd (show aW .obj=true from hv.1) (by decide)
 |.tok a b,hv=>hv.elim
 |.ob x p id,hv=>by
  induction hu:unB r x
  ·rw[show c6 r (.ob x p id)=_ from if_neg (by rw[hu];decide)]at hf;cases hf
  ·rw[show c6 r (.ob x p id)=_ from if_pos hu]
   induction h:aW r
   ·exact⟨h,by rw[unB,h]at hu;exact hu,hv.2.2⟩
   ·match p,hv.2.2 with
    |.i y,ho=>exact FY h (K0 hu h▸ho.2)
    |.s _,ho=>exact absurd (K.imp (a:=aW) (b:=fun r=> !unB r .bj) rfl r h) (by rw[show x=.bj from ho]at hu;rw[hu];decide)
theorem qa(hv:aE g .obj v)(hf:(aG g k v).2=.no):aE g k (aG g k v).1:=wq hv hf
theorem B7(h:(c6 r v).2≠.no):(c6 r v).1=.int 0:=
 match v with
 |.int x|.tok a b=>absurd rfl h
 |.none=>by
  induction hn:fD r
  ·rw[show c6 r .none=_ from if_neg (by rw[hn];decide)]at h;exact absurd rfl h
  ·exact congrArg Prod.fst (show c6 r .none=_ from if_pos hn)
 |.ob x p id=>by
  induction hu:unB r x
  ·exact congrArg Prod.fst (show c6 r (.ob x p id)=_ from if_neg (by rw[hu];decide))
  ·rw[show c6 r (.ob x p id)=_ from if_pos hu]at h;exact absurd rfl h
theorem pJ(g:G)(k:K):aE g k (cE g k):=by
 unfold cE aE
 generalize hr:az g k=r
 induction h:fD r
 ·exact h
 ·have key:=K.imp (a:=fD) (b:=fun k=>aW k&&decide (unb k=k)) rfl r h
  rw[Bool.and_eq_true]at key
  exact⟨key.1,by rw[Z0 key.2];exact fun ζ=>Z0 (p:=loK (aj g r)≤0∧0≤hiK (aj g r)) (K.all (p:=fun k=>decide (loK k≤0∧0≤hiK k)) rfl (aj g r))⟩
theorem Hy{lo hi x:Int}{c:Nat}(h1:lo≤0)(h2:0≤hi)(hx:lo≤x∧x≤hi):lo≤x.fdiv (2^c)∧x.fdiv (2^c)≤hi:=by
 have p:(0:Int)<2^c:=Int.pow_pos (by decide)
 rw[Int.fdiv_eq_ediv_of_nonneg _ (Zp p)]
 refine ⟨?_,?_⟩
 ·rw[Int.le_ediv_iff_mul_le p]
  exact Zg (Zg (Int.mul_le_mul_of_nonpos_left h1 (Int.add_one_le_of_lt p)) (Int.le_of_eq (Int.mul_one lo))) hx.1
 ·by_cases hn:0≤x
  ·exact Zg (Int.ediv_le_self _ hn) hx.2
  ·exact Zg (Zp (Int.ediv_neg_of_neg_of_pos (Int.not_le.mp hn) p)) h2
theorem E8(hv:aE g .cl1 v)(hk:(decide (k=.cl0)||decide (k=.ifc))=true):aE g k v:=by
 have h:∀x,isK x .cl1=true→isK x k=true:=K.imp (Zk (show (dR.filter fun k=>decide (k=.cl0)||decide (k=.ifc)).all (fun k=>dR.all fun x=> !isK x .cl1||isK x k)=true from rfl) k (List.mem_filter.mpr ⟨k.mem,hk⟩))
 have e:aW k=false∧fD k=false∧az g k=k:=by
  rcases (Bool.or_eq_true _ _).mp hk with h|h<;>(cases Z0 h;exact⟨rfl,rfl,rfl⟩)
 unfold aE;rw[e.2.2]
 match v,hv with
 |.none,_=>exact e.2.1
 |.int x,hv=>exact absurd (show aW .cl1=true from hv.1) (by decide)
 |.tok a b,hv=>exact hv.elim
 |.ob x p id,hv=>exact⟨e.1,h x hv.2.1,hv.2.2⟩
theorem rN{x:K}{p:Pay}{id:Int}(hk:k≠.nab):asV g k (.ob x p id)=if isK x (az g k)then .ob x p id else .none:=by
 show (if isK x (if k=.nab then .i4 else az g k)=true then _ else _)=_
 rw[if_neg hk]
 induction isK x (az g k)
 ·rfl
 ·induction p
  ·exact if_neg hk
  ·rfl
theorem Mn{v:Val}(hv:aE g .obj v)(hk:k=.nab∨aW (az g k)=false):aE g k (asV g k v):=by
 have n0:aE g k .none:=by
  rcases hk with rfl|h
  ·exact rfl
  ·exact (Bool.or_eq_false_iff.mp h).1
 match v,hv with
 |.none,_=>exact n0
 |.int x,hv=>exact absurd (show aW .obj=true from hv.1) (by decide)
 |.tok a b,hv=>exact hv.elim
 |.ob x p id,hv=>
  by_cases hn:k=.nab
  ·subst hn
   unfold asV
   split
   ·have hx:x=.i4:=Z0 (K.imp (a:=fun x=>isK x .i4) (b:=fun x=>decide (x=.i4)) rfl x ‹_›)
    subst hx
    match p,hv.2.2 with
    |.i y,ho=>exact⟨rfl,ho.2⟩
    |.s c,ho=>cases ho
   ·exact n0
  ·rw[rN hn]
   induction h:isK x (az g k)
   ·exact n0
   ·exact⟨hk.resolve_left hn,h,hv.2.2⟩
end
section
variable{n:Nat}{st s:PS}{g:G}
theorem oA{k:K}(h:a4 k=true):aj g k=k:=K.on (f:=aj g) (g:=id) (c:=a4) rfl k h
theorem qb{k:K}{x:Int}(h:inR g k x):small x=true:=
 have l:=Z0 (K.all (p:=fun k=>decide (-18446744073709551616<loK k∧hiK k<18446744073709551616)) rfl (aj g k))
 hZ ⟨Zr l.1 h.1,Zz h.2 l.2⟩
noncomputable abbrev PS.to(st:PS)(f:Flt)(m:Int):PS:={st with fault:=f,made:=m}
theorem PS.mB(h:st.fault=.no):st.to .no st.made=st:=by obtain⟨⟩:=st;cases h;rfl
theorem n19{k:K}(h:k≠.var):decide (k.n=19)=false:=Z2 (fun e=>h (K.eN (y:=.var) e))
theorem BOp.IY{op:BOp}(h:op.en=true){P:BOp→Prop}(h1:P .eq)(h2:P .ne):P op:=by
 rcases (Bool.or_eq_true _ _).mp h with h|h<;>(cases Z0 h;assumption)
section
variable{k kl kr:K}{op:BOp}{c:Bool}{a b:Val}{c1 c2 x y:Int}{r1 r2:List V}{v w:V}{X:Option (V×H)}
abbrev ze(n:Nat)(st:PS)(k kl kr:K)(op:BOp)(c:Bool)(c1 c2:Int)(r1 r2:List V)(v w:V)(X:Option (V×H)):Prop:=
 aa prog (n+5) 69 [.ref 102,.tup [.int 14,.int k.n,.str op.c,.tup (.int c1::.int kl.n::r1),.tup (.int c2::.int kr.n::r2),.int (ag c)],v,w] (hp st)=X
abbrev oW(n:Nat)(s:PS)(k kl kr:K)(op:BOp)(c:Bool)(c1 c2:Int)(r1 r2:List V)(v w:V)(X:Option (V×H)):Prop:=
 cR (bB prog (aa prog (n+4)) (fE.drop 3) [some (.ref 102),some (.tup [.int 14,.int k.n,.str op.c,.tup (.int c1::.int kl.n::r1),.tup (.int c2::.int kr.n::r2),.int (ag c)]),some v,some w,some (.str op.c),some (.int kl.n),none] (hp s))=X
theorem pz:prog.fn 69=some ⟨4,7,fE⟩:=rfl
theorem jt(hl:kl≠.var)(hr:kr≠.var)(h:oW n st k kl kr op c c1 c2 r1 r2 v w X):ze n st k kl kr op c c1 c2 r1 r2 v w X:=
 (lh pz rfl).trans (dQ 3 [fB (n19 hl),fB (n19 hr)] (by kernel_rfl) h)
theorem Ky{v' w':V}{s1:PS}(hv:kl=.var∨kr=.var)(e1:aa prog (n+4) 64 [.ref 102,.int kl.n,v] (hp st)=some (v',hp s1))(e2:aa prog (n+4) 64 [.ref 102,.int kr.n,w] (hp s1)=some (w',hp s))(h:oW n s k kl kr op c c1 c2 r1 r2 v' w' X):ze n st k kl kr op c c1 c2 r1 r2 v w X:=by
 refine (lh pz rfl).trans ?_
 induction l19:decide (kl.n=19)
 ·have r19:decide (kr.n=19)=true:=Z1 (by rcases hv with rfl|rfl;cases l19;rfl)
  exact dQ 3 [fB l19,fB r19,.c ⟨_,_,e1⟩,.c ⟨_,_,e2⟩] (by kernel_rfl) h
 ·exact dQ 3 [fB l19,.c ⟨_,_,e1⟩,.c ⟨_,_,e2⟩] (by kernel_rfl) h
theorem xi(ho:op.en=true):oW n s k kl kr op c c1 c2 r1 r2 a.v b.v (some (.int (ag (decide (a=b) ==decide (op=.eq))),hp s)):=by
 have e:=jr (v:=a) (w:=b) (h:=hp s)
 induction hd:decide (a=b)<;>rw[hd]at e
 ·exact BOp.IY (P:=fun op=>oW n s k kl kr op c c1 c2 r1 r2 a.v b.v (some (.int (ag (false==decide (op=.eq))),hp s))) ho (dz [.ob,.b ⟨_,_,e⟩] (by kernel_rfl)) (dz [.ob,.ob,.b ⟨_,_,e⟩] (by kernel_rfl))
 ·exact BOp.IY (P:=fun op=>oW n s k kl kr op c c1 c2 r1 r2 a.v b.v (some (.int (ag (true==decide (op=.eq))),hp s))) ho (dz [.ob,.b ⟨_,_,e⟩] (by kernel_rfl)) (dz [.ob,.ob,.b ⟨_,_,e⟩] (by kernel_rfl))
theorem DC(hf:st.fault=.no)(ho:op.en=true)(hl:kl≠.var)(hr:kr≠.var):ze n st k kl kr op c c1 c2 r1 r2 a.v b.v (some ((dq st.g kl kr op c a b st.made).1.v,hp (st.to (dq st.g kl kr op c a b st.made).2.1 (dq st.g kl kr op c a b st.made).2.2))):=by
 rw[show dq st.g kl kr op c a b st.made=(.int (ag (decide (a=b) ==decide (op=.eq))),.no,st.made)from (if_pos ho).trans (if_neg fun h=>h.elim hl hr),PS.mB hf]
 exact jt hl hr (xi ho)
theorem xg(hf:st.fault=.no)(ho:op.en=true)(hv:kl=.var∨kr=.var)(ha:aE st.g kl a)(hb:aE st.g kr b):ze n st k kl kr op c c1 c2 r1 r2 a.v b.v (some ((dq st.g kl kr op c a b st.made).1.v,hp (st.to (dq st.g kl kr op c a b st.made).2.1 (dq st.g kl kr op c a b st.made).2.2))):=by
 rw[show dq st.g kl kr op c a b st.made=_ from (if_pos ho).trans (if_pos hv),show (st.to .no _)={st with made:=_}from by rw[←hf]]
 exact Ky hv (ox (n:=n+2) ha) (ox (n:=n+2) (st:={st with made:=_}) hb) (xi ho)
noncomputable def BOp.FN(o:BOp):Bool:=(decide (o=.lt)||decide (o=.gt))||(decide (o=.le)||decide (o=.ge))
theorem C6(ho:op.FN=true):oW n s k kl kr op c c1 c2 r1 r2 (.int x) (.int y) (some (.int (ag (vG op x y)),hp s)):=by
 unfold vG
 rcases Int.lt_trichotomy x y with h|h|h
 ·have z:=Z2 (Int.ne_of_lt h)
  have p:=Z1 h
  rw[p,Z2 (Int.not_lt.mpr (Zp h))]
  refine eU [.ob,.ob,.ob,.b ⟨_,_⟩,.b ⟨_,_⟩] ?_ ⟨congrArg some z,congrArg some p,trivial⟩
  clear z p h;revert op;exact @(BOp.on (by kernel_rfl))
 ·have z:=Z1 h
  rw[h,Z2 (Int.lt_irrefl y)]
  refine eU [.ob,.ob,.ob,.b ⟨_,_⟩] ?_ ⟨congrArg some (h▸z),trivial⟩
  clear z h;revert op;exact @(BOp.on (by kernel_rfl))
 ·have z:=Z2 (Int.ne_of_gt h)
  have p:=Z2 (Int.not_lt.mpr (Zp h))
  rw[p,Z1 h]
  refine eU [.ob,.ob,.ob,.b ⟨_,_⟩,.b ⟨_,_⟩] ?_ ⟨congrArg some z,congrArg some p,trivial⟩
  clear z p h;revert op;exact @(BOp.on (by kernel_rfl))
end
end
section
variable{n:Nat}{st s:PS}{g:G}
variable{k kl kr:K}{op:BOp}{c:Bool}{a b:Val}{c1 c2 x y:Int}{r1 r2:List V}{v w:V}{X:V×H}
theorem hV:∀b,0<y9 b∧y9 b≤64
 |true=>by decide
 |false=>by decide
theorem lU(y:Int)(k:K):0≤fm k y∧fm k y<64:=⟨Zy _ (hV _).1,Zr (Int.fmod_lt_of_pos _ (hV _).1) (hV _).2⟩
theorem dH{m:Nat}(h:m<64):small ((2:Int)^m)=true∧(2:Int)^m≠0:=
 have p:(0:Int)<2^m:=Int.pow_pos (by decide)
 ⟨hZ ⟨Int.lt_trans (by decide) p,Zr (Int.pow_lt_pow_of_lt (a:=2) (by decide) h) (show (2:Int)^64≤18446744073709551616 by decide)⟩,fun e=>absurd (e▸p) (by decide)⟩
theorem AW(k:K)(y:Int)(h:H):binop .pow (.int 2) (.int (fm k y)) h=some (.int (2^(fm k y).toNat),h):=BI rfl (lU y k).1 (Zp (Int.lt_trans (lU y k).2 (by decide)))
noncomputable def BOp.shf(o:BOp):Bool:=decide (o=.shl)||decide (o=.shr)
section
variable{q:Int}{z:Int×Flt}{b:Bool}
theorem NX(hb:decide (8<k.n)=b)(md:binop .mod (.int y) (.int (y9 b)) (hp s)=some (.int q,hp s))(pw:binop .pow (.int 2) (.int q) (hp s)=some (.int (2^q.toNat),hp s))(ml:binop .mul (.int x) (.int (2^q.toNat)) (hp s)=some (.int (x*2^q.toNat),hp s))
  (f1:aa prog (n+4) 67 [.ref 102,.int (x*2^q.toNat),.int k.n,.int 0] (hp s)=some X):oW n s k k kr .shl c c1 c2 r1 r2 (.int x) (.int y) (some X):=by
 induction b<;>exact dz [.ob,.ob,.ob,.ob,fB hb,.c ⟨_,_,md⟩,.ob,.c ⟨_,_,pw⟩,.c ⟨_,_,ml⟩,.c ⟨_,_,f1⟩] (by kernel_rfl)
theorem Nj(hb:decide (8<k.n)=b)(md:binop .mod (.int y) (.int (y9 b)) (hp s)=some (.int q,hp s))(pw:binop .pow (.int 2) (.int q) (hp s)=some (.int (2^q.toNat),hp s))(fd:binop .fdiv (.int x) (.int (2^q.toNat)) (hp s)=some X):oW n s k k kr .shr c c1 c2 r1 r2 (.int x) (.int y) (some X):=by
 induction b<;>exact dz [.ob,.ob,.ob,.ob,.ob,fB hb,.c ⟨_,_,md⟩,.ob,.c ⟨_,_,pw⟩,.c ⟨_,_,fd⟩] (by kernel_rfl)
end
theorem tK(h:st.fault=.no):st.flt .no=st:=by obtain⟨⟩:=st;cases h;rfl
theorem JQ(hf:st.fault=.no)(ho:op.shf=true)(h4:a4 k=true):oW n st k k kr op c c1 c2 r1 r2 (.int x) (.int y) (some (.int (dI st.g k op c x y).1,hp (st.flt (dI st.g k op c x y).2))):=by
 have md:=vX (a:=y) (h:=hp st) (hV (decide (8<k.n))).1
 have p:=dH ((Int.toNat_lt (lU y k).1).mpr (lU y k).2)
 rcases (Bool.or_eq_true _ _).mp ho with h|h<;>cases Z0 h
 ·exact NX rfl md (AW k y _) (nN (a:=x) (b:=2^(fm k y).toNat) (by rw[p.1,Bool.or_true])) (nD (n:=n+1) (c:=false) hf (gg st.g (fH h4)))
 ·refine (Nj rfl md (AW k y _) (w6 p.2 p.1)).trans ?_
  show some (V.int _,hp st)=some (V.int _,hp (st.flt .no))
  rw[tK hf];rfl
theorem rt{op:BOp}(h:op.log=true):op.ar=true∧op.bL=false:=by
 have:=BOp.imp (b:=fun o=>o.ar&& !o.bL) rfl op h
 simpa using this
theorem Bl(hf:st.fault=.no)(ho:op.ar=true)(hk:nue k=true)(hd:op.bL=true→a4 k=true)(hx:inR st.g k x)(hy:inR st.g k y):oW n st k k kr op c c1 c2 r1 r2 (.int x) (.int y) (some (.int (dI st.g k op c x y).1,hp (st.flt (dI st.g k op c x y).2))):=by
 have f1:=nD (n:=n+1) (st:=st) (k:=k) (x:=aZ op x y) (c:=c) hf (gg st.g hk)
 have ex:=fun h=>tI (n:=n+3) (op:=op) (x:=x) (y:=y) (H:=hp st) ho (qb hx) (qb hy) h
 induction hv:op.bL
 ·rw[BOp.on (f:=fun op=>dI st.g k op c x y) (g:=fun op=>dj st.g k (aZ op x y) c) (c:=fun o=>o.ar&& !o.bL) rfl op (by rw[ho,hv];rfl)]
  have e:=ex fun h=>absurd (hv▸h) Zc
  refine eU [.ob,.ob,.ob,.ob,.ob,.ob,.c ⟨_,_⟩,.c ⟨_,_⟩] ?_ ⟨e,f1,trivial⟩
  have hc:(op.ar&& !op.bL)=true:=by rw[ho,hv];rfl
  clear e ex f1 hv ho hd;revert op;exact @(BOp.on (by kernel_rfl))
 ·rw[BOp.on (f:=fun op=>dI st.g k op c x y) (g:=fun op=>if y=0 then (0,.zero)else if y= -1∧x=loK k then (0,.over)else dj st.g k (aZ op x y) c) (c:=BOp.bL) rfl op hv]
  have rg:=xU (H:=hp st) (oA (g:=st.g) (hd hv)▸gg st.g hk)
  have s1:=xr (n:=n+3) (f:=.zero) hf
  have s2:=xr (n:=n+3) (f:=.over) hf
  clear hd ho
  by_cases h0:y=0
  ·rw[if_pos h0]
   have h0:=Z1 h0
   refine eU [.ob,.ob,.ob,.ob,.ob,.ob,.b ⟨_,_⟩,.c ⟨_,_⟩] ?_ ⟨congrArg some h0,s1,trivial⟩
   clear ex f1 s1 s2 rg h0;revert op;exact @(BOp.on (by kernel_rfl))
  ·rw[if_neg h0]
   have e:=ex fun ζ=>h0
   have h0:=Z2 h0
   by_cases h1:y= -1
   ·have h1':=Z1 h1
    by_cases h2:x=loK k
    ·rw[if_pos ⟨h1,h2⟩]
     have h2:=Z1 h2
     refine eU [.ob,.ob,.ob,.ob,.ob,.ob,.b ⟨_,_⟩,.b ⟨_,_⟩,.oc,.v ⟨_,_⟩,.b ⟨_,_⟩,.c ⟨_,_⟩] ?_ ⟨congrArg some h0,congrArg some h1',rg,congrArg some h2,s2,trivial⟩
     clear e ex f1 s1 s2 rg h0 h1' h2;revert op;exact @(BOp.on (by kernel_rfl))
    ·rw[if_neg fun h=>h2 h.2]
     have h2:=Z2 h2
     refine eU [.ob,.ob,.ob,.ob,.ob,.ob,.b ⟨_,_⟩,.b ⟨_,_⟩,.oc,.v ⟨_,_⟩,.b ⟨_,_⟩,.c ⟨_,_⟩,.c ⟨_,_⟩] ?_ ⟨congrArg some h0,congrArg some h1',rg,congrArg some h2,e,f1,trivial⟩
     clear e ex f1 s1 s2 rg h0 h1' h2;revert op;exact @(BOp.on (by kernel_rfl))
   ·rw[if_neg fun h=>h1 h.1]
    have h1:=Z2 h1
    refine eU [.ob,.ob,.ob,.ob,.ob,.ob,.b ⟨_,_⟩,.b ⟨_,_⟩,.c ⟨_,_⟩,.c ⟨_,_⟩] ?_ ⟨congrArg some h0,congrArg some h1,e,f1,trivial⟩
    clear e ex f1 s1 s2 rg h0 h1;revert op;exact @(BOp.on (by kernel_rfl))
end
section
variable{n:Nat}{st s:PS}{g:G}
variable{k kl kr ke:K}{op:BOp}{nl nr c:Bool}{a b v:Val}{c1 c2 m:Int}{r1 r2:List V}{x y:Int}
theorem qU{p:K→Bool}(h:dR.all (fun k=> !p k|| !decide (k=.var))=true)(hk:p k=true):k≠.var:=of_decide_eq_false (K.imn h k hk)
theorem eM(h:op.en=false):dq g kl kr op c a b m=w5 (dI g kl op c a.toI b.toI) m:=if_neg (by rw[h];decide)
theorem pK{p:BOp→Bool}(h:B3.all (fun o=> !p o|| !o.en)=true)(hp':p op=true):op.en=false:=by
 have:=BOp.imp (b:=fun o=> !o.en) h op hp'
 rwa [Bool.not_eq_true']at this
theorem ui(h:op.FN=true):dI g k op c x y=(ag (vG op x y),.no):=BOp.on (f:=fun op=>dI g k op c x y) (g:=fun op=>(ag (vG op x y),.no)) rfl op h
theorem mC(h:(op.ar&& !op.bL)=true):dI g k op c x y=dj g k (aZ op x y) c:=BOp.on (f:=fun op=>dI g k op c x y) (g:=fun op=>dj g k (aZ op x y) c) (c:=fun o=>o.ar&& !o.bL) rfl op h
theorem tX(h:op.bL=true):dI g k op c x y=if y=0 then (0,.zero)else if y= -1∧x=loK k then (0,.over)else dj g k (aZ op x y) c:=BOp.on (f:=fun op=>dI g k op c x y) (g:=fun op=>if y=0 then (0,.zero)else if y= -1∧x=loK k then (0,.over)else dj g k (aZ op x y) c) rfl op h
noncomputable abbrev AA(st:PS)(z:RM):Option (V×H):=some (z.1.v,hp (st.to z.2.1 z.2.2))
theorem mG{X:Option (V×H)}(he:op.en=false)(h:X=some (.int (dI st.g kl op c x y).1,hp (st.flt (dI st.g kl op c x y).2))):X=AA st (dq st.g kl kr op c (.int x) (.int y) st.made):=by
 rw[eM he];exact h
theorem Ew(h:op.cmp=true):op.en=true∨op.FN=true∧op.en=false:=by
 have:=BOp.imp (b:=fun o=>o.en||(o.FN&& !o.en)) rfl op h
 simpa using this
theorem zW(hf:st.fault=.no)(hb:fG k kl kr op nl nr)(ha:aE st.g kl a)(hv:aE st.g kr b):ze n st k kl kr op c c1 c2 r1 r2 a.v b.v (AA st (dq st.g kl kr op c a b st.made)):=by
 induction hb with
 |ar ho h4=>
  refine bq (fH h4) ha fun x ex hx=>bq (fH h4) hv fun y ey hy=>?_
  subst ex ey
  exact mG (pK rfl ho) (jt (qU rfl h4) (qU rfl h4) (Bl hf ho (fH h4) (fun ζ=>h4) hx hy))
 |lg ho=>
  refine bq rfl ha fun x ex hx=>bq rfl hv fun y ey hy=>?_
  subst ex ey
  exact mG (pK rfl ho) (jt (by decide) (by decide) (Bl hf (rt ho).1 rfl (fun h=>absurd ((rt ho).2.symm.trans h) Zc) hx hy))
 |sh ho h4=>
  refine bq (fH h4) ha fun x ex hx=>bq rfl hv fun y ey hy=>?_
  subst ex ey
  exact mG (pK (p:=BOp.shf) rfl ho) (jt (qU rfl h4) (by decide) (JQ hf ho h4))
 |cm ho hk=>
  rcases Ew ho with h|h
  ·exact DC hf h (qU rfl hk) (qU rfl hk)
  ·refine bq (iY hk) ha fun x ex hx=>bq (iY hk) hv fun y ey hy=>?_
   subst ex ey
   refine mG h.2 ((jt (qU rfl hk) (qU rfl hk) (C6 h.1)).trans ?_)
   rw[ui h.1,tK hf]
 |eq ho hk=>exact DC hf ho (qU rfl hk) (qU rfl hk)
 |vo ho=>exact xg hf ho (.inl rfl) ha hv
 |ov ho=>exact xg hf ho (.inr rfl) ha hv
abbrev BrC(n:Nat)(st:PS)(k ke:K)(w:Way)(c:Bool)(c1:Int)(r1:List V)(v:V)(z:RM):Prop:=
 aa prog (n+5) 70 [.ref 102,.tup [.int 19,.int k.n,.tup (.int c1::.int ke.n::r1),.int w.c,.int (ag c)],v] (hp st)=AA st z
theorem xc{w:Way}(hf:st.fault=.no)(hc:dm k ke w=true)(hv:aE st.g ke v):BrC n st k ke w c c1 r1 v.v (brV st.g k ke w c v st.made):=by
 induction w with
 |num=>
  have hc:=Z3 hc
  refine bq (iY hc.2) hv fun x ex hx=>?_
  subst ex
  exact run [.c ⟨_,_,nD (n:=n+1) (x:=x) (c:=c) hf (gg st.g (iY hc.1))⟩] (by kernel_rfl)
 |box=>
  show _=some ((bH st.g ke v st.made).1.v,hp (st.to .no (bH st.g ke v st.made).2))
  rw[←hf]
  exact run [.c ⟨_,_,ox (n:=n+2) hv⟩] (by kernel_rfl)
 |unbox=>
  have hk:ke=.obj:=Z0 (Z3 hc).1
  subst hk
  exact run [.c ⟨_,_,uA (n:=n+1) (k:=k) hf hv⟩] (by kernel_rfl)
 |cast=>exact run [.c ⟨_,_,ox (n:=n+2) hv⟩,.c ⟨_,_,uA (n:=n+1) (k:=k) (st:={st with made:=(bH st.g ke v st.made).2}) hf (d8 (m:=st.made) hv)⟩] (by kernel_rfl)
 |ref=>exact (run [] (by kernel_rfl)).trans (by rw[show brV st.g k ke .ref c v st.made=(v,.no,st.made)from rfl,AA,PS.mB hf])
 |same=>exact (run [] (by kernel_rfl)).trans (by rw[show brV st.g k ke .same c v st.made=(v,.no,st.made)from rfl,AA,PS.mB hf])
theorem Em:∃x,(dq g kl kr op c a b m).1=.int x:=by
 unfold dq
 split
 ·split<;>exact⟨_,rfl⟩
 ·exact⟨_,rfl⟩
theorem mD(ho:op.en=true):aE g .bool (dq g kl kr op c a b m).1:=by
 unfold dq;rw[if_pos ho]
 split<;>exact has_bool _
theorem xO(ho:op.ar=true)(h:(dI g k op c x y).2=.no):inR g k (dI g k op c x y).1:=by
 induction hd:op.bL
 ·rw[mC (by rw[ho,hd];rfl)]at h⊢;exact km h
 ·rw[tX hd]at h⊢
  by_cases h0:y=0
  ·rw[if_pos h0]at h;cases h
  ·rw[if_neg h0]at h⊢
   by_cases h1:y= -1∧x=loK k
   ·rw[if_pos h1]at h;cases h
   ·rw[if_neg h1]at h⊢;exact km h
theorem LV(hb:fG k kl kr op nl nr)(ha:aE g kl a)(h:(dq g kl kr op c a b m).2.1=.no):aE g k (dq g kl kr op c a b m).1:=by
 cases hb with
 |ar ho h4=>rw[eM (pK rfl ho)]at h⊢;exact has_int (fH h4) (xO ho h)
 |lg ho=>rw[eM (pK rfl ho)]at h⊢;exact has_int rfl (xO (rt ho).1 h)
 |sh ho h4=>
  refine bq (fH h4) ha fun x ex hx=>?_
  subst ex
  rw[eM (pK (p:=BOp.shf) rfl ho)]at h⊢
  refine has_int (fH h4) ?_
  rcases (Bool.or_eq_true _ _).mp ho with h|h<;>cases Z0 h
  ·exact km (c:=false) ‹_›
  ·have l:=Z0 (K.all (p:=fun k=>decide (loK k≤0∧0≤hiK k)) rfl (aj g k))
   exact Hy l.1 l.2 hx
 |cm ho hk=>
  rcases Ew ho with h|h
  ·exact mD h
  ·rw[eM h.2,ui h.1];exact has_bool _
 |eq ho hk=>exact mD ho
 |vo ho=>exact mD ho
 |ov ho=>exact mD ho
theorem Fw(h:(rk ke||decide (ke=.typ))=true)(hv:aE g ke v):aE g .obj v:=by
 have e:=K.on (f:=az g) (g:=id) (c:=fun ke=>rk ke||decide (ke=.typ)) rfl ke h
 have f:=K.imp (a:=fun ke=>rk ke||decide (ke=.typ)) (b:=fun k=> !aW k) rfl ke h
 unfold aE at hv;rw[e]at hv
 match v,hv with
 |.none,_=>exact rfl
 |.int x,hv=>exact absurd (hv.1.symm.trans ((Bool.not_eq_true' _).mp f)) Bool.noConfusion
 |.ob x p id,hv=>exact⟨rfl,rfl,hv.2.2⟩
 |.tok a b,hv=>exact hv.elim
theorem NO{w:Way}(hc:dm k ke w=true)(hv:aE g ke v)(h:(brV g k ke w c v m).2.1=.no):aE g k (brV g k ke w c v m).1:=by
 induction w with
 |num=>exact has_int (iY (Z3 hc).1) (km h)
 |box=>cases Z0 (Z3 hc).1;exact d8 hv
 |unbox=>cases Z0 (Z3 hc).1;exact qa hv h
 |cast=>exact qa (d8 hv) h
 |ref=>
  rcases (Bool.or_eq_true _ _).mp hc with hc|hc<;>have hc:=Z3 hc
  ·cases Z0 hc.1;exact Fw hc.2 hv
  ·cases Z0 hc.2;exact E8 hv hc.1
 |same=>induction Z0 (Z3 hc).2;exact hv
end
section
variable{n:Nat}{st st1:PS}{g:G}{Γ:List (K×Val)}
variable{k kl kr ke:K}{op:BOp}{nl nr c:Bool}{a b v:Val}{m:Int}
theorem AM{p:Option Pay}(h:constOk g k p):aE g k (C0 k p):=
 match p,h with
 |some (.i x),h=>has_int h.1 h.2
 |some (.s c),h=>by cases (show k=.bj from h);exact⟨rfl,rfl,rfl⟩
 |none,h=>by rcases h with rfl|rfl<;>exact rfl
theorem vc{i:Nat}{p:K×Val}(h:Γ[i]?=some p):aI Γ ((i:Int)+1)=p.2:=by
 unfold aI
 rw[show ((i:Int)+1-1).toNat=i from congrArg Int.toNat (Int.add_sub_cancel (i:Int) 1),h]
theorem Gb:∀{l:gc},l.ok g Γ→aE g l.kind (pU g (aI Γ) l)
 |.loc _ _,⟨i,e,v,hv,hk⟩=>by subst e;show aE g _ (aI Γ _);rw[vc hv];exact hk
 |.const _ _,h=>AM h
 |.cK k,_=>pJ g k
 |.nul k,_=>pJ g k
 |.fY k,_=>⟨rfl,rfl,by decide,fun h=>absurd (show false=true from h) Zc⟩
theorem yq(h:u5 g k ke=true):k=.nab∨aW (az g k)=false:=by
 rcases (Bool.or_eq_true _ _).mp h with h|h
 ·rcases (Bool.or_eq_true _ _).mp h with h|h
  ·exact .inl (Z0 (Z3 h).1)
  ·have h:=Z3 h
   cases Z0 (Z3 h.1).1
   right;show aW g.clo.k=false;rw[Z0 h.2];rfl
 ·have h:=(Z3 h).1
  right;rw[K.on (f:=az g) (g:=id) (c:=rk) rfl k h];exact K.imn (b:=aW) rfl k h
theorem hU(hv:aE g .bool v){C:Prop}(f:∀b,v=.int (ag b)→C):C:=
 bq rfl hv fun x e h=>by
  have h:0≤x∧x≤1:=h
  by_cases h0:x=0
  ·exact f false (e.trans (congrArg _ h0))
  ·exact f true (e.trans (congrArg _ (Int.le_antisymm h.2 (Int.add_one_le_of_lt (Int.lt_iff_le_and_ne.mpr ⟨h.1,fun e=>h0 e.symm⟩)))))
theorem Lq:∀{o:One},o.ok g ke→aE g ke v→(gA g ke v m o).2.1=.no→aE g o.kind (gA g ke v m o).1
 |.un k .not c,⟨e,h⟩,hv,_=>by
  cases Z0 h
  exact hU (e▸hv) fun b e=>by subst e;induction b<;>exact has_int rfl (show (0:Int)≤_∧_≤(1:Int)by decide)
 |.un k .neg c,⟨_,h⟩,hv,hf=>has_int (K.imp (a:=fun k=>tc k .neg) (b:=nue) rfl k h) (km hf)
 |.un k .inv c,⟨_,h⟩,hv,hf=>has_int (fH h) (km hf)
 |.conv k w c,h,hv,hf=>NO h hv hf
 |.is aim,_,_,_=>has_bool _
 |.as k,h,hv,_=>Mn (d8 hv) (yq h)
theorem Gl:∀{o:One},(gA g ke v m o).2.1≠.no→∃x,(gA g ke v m o).1=.int x
 |.un _ .not _,h|.is _,h|.as _,h=>absurd rfl h
 |.un _ .neg _,_|.un _ .inv _,_|.conv _ .num _,_=>⟨_,rfl⟩
 |.conv _ .unbox _,h|.conv _ .cast _,h=>⟨0,B7 h⟩
 |.conv _ .box _,h|.conv _ .ref _,h|.conv _ .same _,h=>absurd rfl h
theorem aR:∀(t:Tr) (ws:WS),WT g Γ t→(aN g (aI Γ) t ws).2.fault=.no→aE g t.kind (aN g (aI Γ) t ws).1
 |.leaf l,_,w,_=>Gb w
 |.one o e,ws,w,h=>jX (P:=fun r=>aE g o.kind r.1) h fun h1 h=>Lq w.2 (aR e ws w.1 h1) h
 |.bin k op l r c,ws,w,h=>jX (P:=fun r=>aE g k r.1) h fun h1 h=>jX (P:=fun r=>aE g k r.1) h fun h2 h=>LV w.2.2 (aR l ws w.1 h1) h
 |.bz a l r,ws,w,h=>jX (P:=fun r=>aE g .bool r.1) h fun h1 h=>by
  revert h
  split
  ·exact fun ζ=>has_bool _
  ·exact fun h=>w.2.2.2▸aR r _ w.2.1 h
 |.cond k t a b,ws,w,h=>jX (P:=fun r=>aE g k r.1) h fun h1 h=>by
  revert h
  split
  ·exact fun h=>w.2.2.2.2.2.1▸aR b _ w.2.2.1 h
  ·exact fun h=>w.2.2.2.2.1▸aR a _ w.2.1 h
noncomputable abbrev PS.ws(st:PS):WS:=⟨st.log,st.fault,st.made⟩
noncomputable abbrev PS.wt(st:PS)(ws:WS):PS:={st with log:=ws.log,fault:=ws.fault,made:=ws.made}
theorem Ea{f:Flt}(h:f≠.no):decide (f.c=0)=false:=by induction f<;>first|rfl|exact absurd rfl h
def VOk(st:PS)(Γ:List (K×Val)):Prop:=∀(i:Nat) (p:K×Val),Γ[i]?=some p→au ((i:Int)+1) (a7 st.vals)=some p.2.v
theorem jU{x:Val×WS}{f:Val→WS→Val×WS}{a b:Nat}(h:x.2.log.length≤a)(hf:(f x.1 x.2).2.log.length≤x.2.log.length+b):(andM x f).2.log.length≤a+b:=
 CG (P:=fun r=>r.2.log.length≤a+b) (fun ζ=>Z4 h (Z8 _ _)) fun ζ=>Z4 hf (Nat.add_le_add_right h b)
theorem cw{vf:Int→Val}:∀(t:Tr) (ws:WS),(aN g vf t ws).2.log.length≤ws.log.length+t.sz
 |.leaf (.loc _ _),ws=>Zi (Za ..)
 |.leaf (.const ..),ws|.leaf (.cK ..),ws|.leaf (.nul ..),ws|.leaf (.fY ..),ws=>Z7 _
 |.one o e,ws=>Z4 (jU (b:=0) (cw e ws) (Z5 _)) (Z7 _)
 |.bin k op l r c,ws=>Z4 (jU (b:=r.sz) (cw l ws) (jU (b:=0) (cw r _) (Z5 _))) (Z4 (Zi (Nat.add_assoc ..)) (Z7 _))
 |.bz a l r,ws=>Z4 (jU (cw l ws) (by split;exact Z8 _ _;exact cw r _)) (Z4 (Zi (Nat.add_assoc ..)) (Z7 _))
 |.cond k t a b,ws=>Z4 (jU (b:=a.sz+b.sz) (cw t ws) (by split;exact Z4 (cw b _) (Zf (Nat.le_add_left _ _) _);exact Z4 (cw a _) (Zf (Z8 _ _) _))) (Z4 (Zi ((Nat.add_assoc ..).trans (congrArg _ (Nat.add_assoc ..).symm))) (Z7 _))
end
section
variable{n:Nat}{st st1:PS}
theorem VOk.wt{Γ:List (K×Val)}{ws:WS}(h:VOk st Γ):VOk (st.wt ws) Γ:=h
theorem nf{s:PS}(h:s.fault=.no):(!decide (s.fault.c=0))=false:=by rw[h];rfl
theorem ff{s:PS}(h:s.fault≠.no):(!decide (s.fault.c=0))=true:=by rw[Ea h];rfl
section
variable{s0 s1 s2 s3:PS}{c k lid x:Int}{v v2 v3 v4 v5 a b:V}{r:List V}
abbrev Cm(n f:Nat)(vs:List V)(s:PS)(v:V)(s':PS):Prop:=aa prog n f vs (hp s)=some (v,hp s')
noncomputable def fM{f:Nat}{vs:List V}(h:Cm n f vs s0 v s1):Fa:=.c ⟨_,_,h⟩
theorem KQ(h:s0.fault≠.no):Cm (n+1) 68 [.ref 102,.tup (.int c::r)] s0 (.int 0) s0:=run [fB (ff h)] (by kernel_rfl)
theorem Qp(hf:s0.fault=.no)(h1:ah prog (.ref 101) 8 [.int lid] (hp s0)=some (.none,hp s1))(h2:aJ prog (.ref 100) (.int lid) (hp s1)=some v):Cm (n+1) 68 [.ref 102,.tup [.int 2,.int k,.int lid]] s0 v s1:=run [fB (nf hf),.c ⟨_,_,h1⟩,.ov,.v ⟨_,_,h2⟩] (by kernel_rfl)
theorem xD(hf:s0.fault=.no)(h13:decide (k=13)=false):Cm (n+1) 68 [.ref 102,.tup [.int 1,.int k,v]] s0 v s0:=run [fB (nf hf),.ob,.ob,fB h13] (by kernel_rfl)
theorem Q7{t:Nat}(hf:s0.fault=.no):Cm (n+1) 68 [.ref 102,.tup [.int 1,.int 13,.str t]] s0 (.tup [.int 13,.str t,.int 0]) s0:=run [fB (nf hf)] (by kernel_rfl)
theorem LW(hf:s0.fault=.no):Cm (n+1) 68 [.ref 102,.tup [.int 1,.int 13,.none]] s0 .none s0:=run [fB (nf hf)] (by kernel_rfl)
theorem H9(hf:s0.fault=.no)(h:Cm n 63 [.ref 102,.int k] s0 v s0):Cm (n+1) 68 [.ref 102,.tup [.int 12,.int k]] s0 v s0:=run [fB (nf hf),fM h] (by kernel_rfl)
theorem Lu(hf:s0.fault=.no)(h:Cm n 51 [.ref 102,.int k] s0 v s0):Cm (n+1) 68 [.ref 102,.tup [.int 29,.int 25,.int k]] s0 (.tup [.int 25,v,.int 0]) s0:=run [fB (nf hf),fM h] (by kernel_rfl)
theorem PW(hf:s0.fault=.no)(h:Cm n 63 [.ref 102,.int k] s0 v s0):Cm (n+2) 68 [.ref 102,.tup [.int 19,.int k,v2,.int 8,.int 0]] s0 v s0:=
 run [fB (nf hf),.ob,.ob,.ob,.ob,.ob,.ob,.ob,.ob,fB (nf hf),fM (show Cm (n+1) 70 [.ref 102,.tup [.int 19,.int k,v2,.int 8,.int 0],.none] s0 v s0 from run [fM h] (by kernel_rfl))] (by kernel_rfl)
theorem Q3(hf:s0.fault=.no)(h1:Cm n 68 [.ref 102,v3] s0 a s1)(h2:Cm n 68 [.ref 102,v4] s1 b s2)(hf2:s2.fault=.no)(h3:Cm n 69 [.ref 102,.tup [.int 14,.int k,v2,v3,v4,v5],a,b] s2 v s3):Cm (n+1) 68 [.ref 102,.tup [.int 14,.int k,v2,v3,v4,v5]] s0 v s3:=run [fB (nf hf),fM h1,fM h2,fB (nf hf2),fM h3] (by kernel_rfl)
theorem yB(hf:s0.fault=.no)(h1:Cm n 68 [.ref 102,v3] s0 a s1)(h2:Cm n 68 [.ref 102,v4] s1 b s2)(hf2:s2.fault≠.no):Cm (n+1) 68 [.ref 102,.tup [.int 14,.int k,v2,v3,v4,v5]] s0 (.int 0) s2:=run [fB (nf hf),fM h1,fM h2,fB (ff hf2)] (by kernel_rfl)
theorem Qv(hf:s0.fault=.no)(h1:Cm n 68 [.ref 102,v3] s0 (.int x) s1)(hf2:s1.fault=.no):Cm (n+1) 68 [.ref 102,.tup [.int 13,.int k,.str 49,v3,v4]] s0 (.int (1-x)) s1:=run [fB (nf hf),fM h1,fB (nf hf2)] (by kernel_rfl)
theorem Lg(hf:s0.fault=.no)(h1:Cm n 68 [.ref 102,v3] s0 (.int x) s1)(hf2:s1.fault≠.no):Cm (n+1) 68 [.ref 102,.tup [.int 13,.int k,v2,v3,v4]] s0 (.int (1-x)) s1:=run [fB (nf hf),fM h1,fB (ff hf2)] (by kernel_rfl)
theorem NQ(hf:s0.fault=.no)(h1:Cm n 68 [.ref 102,v3] s0 (.int x) s1)(hf2:s1.fault=.no)(h2:Cm n 67 [.ref 102,.int (-x),.int k,v4] s1 v s2):Cm (n+1) 68 [.ref 102,.tup [.int 13,.int k,.str 38,v3,v4]] s0 v s2:=run [fB (nf hf),fM h1,fB (nf hf2),fM h2] (by kernel_rfl)
theorem Px(hf:s0.fault=.no)(h1:Cm n 68 [.ref 102,v3] s0 (.int x) s1)(hf2:s1.fault=.no)(h2:Cm n 67 [.ref 102,.int (-1-x),.int k,.int 0] s1 v s2):Cm (n+1) 68 [.ref 102,.tup [.int 13,.int k,.str 39,v3,v4]] s0 v s2:=run [fB (nf hf),fM h1,fB (nf hf2),fM h2] (by kernel_rfl)
theorem HO{w:Bool}(hf:s0.fault=.no)(h1:Cm n 68 [.ref 102,v2] s0 a s1)(hf2:s1.fault≠.no):Cm (n+1) 68 [.ref 102,.tup [.int (if w then 15 else 16),.int k,v2,v3]] s0 (.int 0) s1:=by induction w<;>exact run [fB (nf hf),fM h1,fB (ff hf2)] (by kernel_rfl)
theorem HV{w:Bool}(hf:s0.fault=.no)(h1:Cm n 68 [.ref 102,v2] s0 (.int x) s1)(hf2:s1.fault=.no)(hx:decide (x=0)=w):Cm (n+1) 68 [.ref 102,.tup [.int (if w then 15 else 16),.int k,v2,v3]] s0 (.int (ag (!w))) s1:=by
 induction w
 ·exact run [fB (nf hf),fM h1,fB (nf hf2),.ob,.ob,.ob,fB (show (!decide (x=0))=true by rw[hx];rfl)] (by kernel_rfl)
 ·exact run [fB (nf hf),fM h1,fB (nf hf2),.ob,.ob,fB (show (!decide (x=0))=false by rw[hx];rfl)] (by kernel_rfl)
theorem HA{w:Bool}(hf:s0.fault=.no)(h1:Cm n 68 [.ref 102,v2] s0 (.int x) s1)(hf2:s1.fault=.no)(hx:decide (x=0)= !w)(h2:Cm n 68 [.ref 102,v3] s1 v s2):Cm (n+1) 68 [.ref 102,.tup [.int (if w then 15 else 16),.int k,v2,v3]] s0 v s2:=by
 induction w
 ·exact run [fB (nf hf),fM h1,fB (nf hf2),.ob,.ob,.ob,fB (show (!decide (x=0))=false by rw[hx];rfl),fM h2] (by kernel_rfl)
 ·exact run [fB (nf hf),fM h1,fB (nf hf2),.ob,.ob,fB (show (!decide (x=0))=true by rw[hx];rfl),fM h2] (by kernel_rfl)
theorem Ec{w:Bool}(hf:s0.fault=.no)(h1:Cm n 68 [.ref 102,v2] s0 (.int x) s1)(hf2:s1.fault=.no)(hx:(!decide (x=0))=w)(h2:Cm n 68 [.ref 102,if w then v3 else v4] s1 v s2):Cm (n+1) 68 [.ref 102,.tup [.int 17,.int k,v2,v3,v4]] s0 v s2:=by
 induction w<;>exact run [fB (nf hf),fM h1,fB (nf hf2),.ob,fB hx,fM h2] (by kernel_rfl)
theorem Dv(hf:s0.fault=.no)(h1:Cm n 68 [.ref 102,v2] s0 a s1)(hf2:s1.fault≠.no):Cm (n+1) 68 [.ref 102,.tup [.int 17,.int k,v2,v3,v4]] s0 (.int 0) s1:=run [fB (nf hf),fM h1,fB (ff hf2)] (by kernel_rfl)
theorem LQ{w:Int}(hw:(!decide (w=8))=true)(hf:s0.fault=.no)(h1:Cm n 68 [.ref 102,v2] s0 a s1)(hf2:s1.fault=.no)(h2:Cm n 70 [.ref 102,.tup [.int 19,.int k,v2,.int w,v4],a] s1 v s2):Cm (n+1) 68 [.ref 102,.tup [.int 19,.int k,v2,.int w,v4]] s0 v s2:=run [fB (nf hf),.ob,.ob,.ob,.ob,.ob,.ob,.ob,fB hw,fM h1,fB (nf hf2),fM h2] (by kernel_rfl)
theorem E0{w:Int}(hw:(!decide (w=8))=true)(hf:s0.fault=.no)(h1:Cm n 68 [.ref 102,v2] s0 a s1)(hf2:s1.fault≠.no):Cm (n+1) 68 [.ref 102,.tup [.int 19,.int k,v2,.int w,v4]] s0 (.int 0) s1:=run [fB (nf hf),.ob,.ob,.ob,.ob,.ob,.ob,.ob,fB hw,fM h1,fB (ff hf2)] (by kernel_rfl)
variable{kk aim:Int}{ce:Int}{re:List V}
theorem Kq(hf:s0.fault=.no)(h1:Cm n 68 [.ref 102,v2] s0 a s1)(hf2:s1.fault≠.no):Cm (n+1) 68 [.ref 102,.tup [.int 20,.int k,v2,v3,v4]] s0 (.int 0) s1:=run [fB (nf hf),fM h1,fB (ff hf2)] (by kernel_rfl)
theorem JR(hf:s0.fault=.no)(h1:Cm n 68 [.ref 102,v2] s0 a s1)(hf2:s1.fault≠.no):Cm (n+1) 68 [.ref 102,.tup [.int 21,.int k,v2]] s0 (.int 0) s1:=run [fB (nf hf),fM h1,fB (ff hf2)] (by kernel_rfl)
theorem J4(hf:s0.fault=.no)(h1:Cm n 68 [.ref 102,.tup (.int ce::.int kk::re)] s0 a s1)(hf2:s1.fault=.no)(h2:Cm n 64 [.ref 102,.int kk,a] s1 .none s2):Cm (n+1) 68 [.ref 102,.tup [.int 20,.int k,.tup (.int ce::.int kk::re),.int aim,v4]] s0 (.int 0) s2:=run [fB (nf hf),fM h1,fB (nf hf2),fM h2] (by kernel_rfl)
theorem MP(hf:s0.fault=.no)(h1:Cm n 68 [.ref 102,.tup (.int ce::.int kk::re)] s0 a s1)(hf2:s1.fault=.no)(h2:Cm n 64 [.ref 102,.int kk,a] s1 .none s2):Cm (n+1) 68 [.ref 102,.tup [.int 21,.int k,.tup (.int ce::.int kk::re)]] s0 .none s2:=run [fB (nf hf),fM h1,fB (nf hf2),fM h2] (by kernel_rfl)
theorem ET{xk q:Int}{n17 d:Bool}{p id:V}(hf:s0.fault=.no)(h1:Cm n 68 [.ref 102,.tup (.int ce::.int kk::re)] s0 a s1)(hf2:s1.fault=.no)(h2:Cm n 64 [.ref 102,.int kk,a] s1 (.tup [.int xk,p,id]) s2)(h17:decide (aim=17)=n17)(hq:if n17 then q=7 else Cm n 51 [.ref 102,.int aim] s2 (.int q) s2)(h3:Cm n 62 [.int xk,.int q] s2 (.bool d) s2):
  Cm (n+1) 68 [.ref 102,.tup [.int 20,.int k,.tup (.int ce::.int kk::re),.int aim,v4]] s0 (.int (ag d)) s2:=by
 induction n17
 ·have hq:Cm n 51 [.ref 102,.int aim] s2 (.int q) s2:=hq
  induction d<;>exact run [fB (nf hf),fM h1,fB (nf hf2),fM h2,.ob,fB h17,fM hq,fM h3] (by kernel_rfl)
 ·obtain rfl:q=7:=hq
  induction d<;>exact run [fB (nf hf),fM h1,fB (nf hf2),fM h2,.ob,fB h17,fM h3] (by kernel_rfl)
theorem D4{xk q:Int}{n17 d:Bool}{p id:V}(hf:s0.fault=.no)(h1:Cm n 68 [.ref 102,.tup (.int ce::.int kk::re)] s0 a s1)(hf2:s1.fault=.no)(h2:Cm n 64 [.ref 102,.int kk,a] s1 (.tup [.int xk,p,id]) s2)(h17:decide (k=17)=n17)(hq:if n17 then q=7 else Cm n 51 [.ref 102,.int k] s2 (.int q) s2)(h3:Cm n 62 [.int xk,.int q] s2 (.bool d) s2):
  Cm (n+1) 68 [.ref 102,.tup [.int 21,.int k,.tup (.int ce::.int kk::re)]] s0 (if d then (if n17 then p else .tup [.int xk,p,id])else .none) s2:=by
 induction n17
 ·have hq:Cm n 51 [.ref 102,.int k] s2 (.int q) s2:=hq
  induction d
  ·exact run [fB (nf hf),fM h1,fB (nf hf2),fM h2,.ob,fB h17,fM hq,fM h3] (by kernel_rfl)
  ·exact run [fB (nf hf),fM h1,fB (nf hf2),fM h2,.ob,fB h17,fM hq,fM h3,.ob,fB h17] (by kernel_rfl)
 ·obtain rfl:q=7:=hq
  induction d
  ·exact run [fB (nf hf),fM h1,fB (nf hf2),fM h2,.ob,fB h17,fM h3] (by kernel_rfl)
  ·exact run [fB (nf hf),fM h1,fB (nf hf2),fM h2,.ob,fB h17,fM h3,.ob,fB h17] (by kernel_rfl)
end
end
section
variable{n:Nat}{st s:PS}{Γ:List (K×Val)}
def Out(st:PS)(r:Val×WS)(X:Option (V×H)):Prop:=∃v,X=some (v,hp (st.wt r.2))∧(r.2.fault=.no→v=r.1.v)∧(r.2.fault≠.no→∃x,v=.int x)
theorem pM{r:Val×WS}{X:Option (V×H)}(hf:r.2.fault=.no)(e:X=some (r.1.v,hp (st.wt r.2))):Out st r X:=⟨_,e,fun ζ=>rfl,fun h=>absurd hf h⟩
theorem IX{w:WS}{z:RM}{X:Option (V×H)}(hi:z.2.1≠.no→∃x,z.1=.int x)(e:X=AA (st.wt w) z):Out st (dU w z) X:=⟨_,e,fun ζ=>rfl,fun h=>(hi h).elim fun x e=>⟨x,congrArg Val.v e⟩⟩
theorem jM{x:Val×WS}{f:Val→WS→Val×WS}{X Y:Option (V×H)}(h:Out st x X)(hF:x.2.fault≠.no→∀i,X=some (.int i,hp (st.wt x.2))→∃j,Y=some (.int j,hp (st.wt x.2)))(hK:x.2.fault=.no→X=some (x.1.v,hp (st.wt x.2))→Out st (f x.1 x.2) Y):Out st (andM x f) Y:=by
 obtain⟨v,e,h1,h2⟩:=h
 by_cases hx:x.2.fault=.no
 ·rw[hX hx];exact hK hx (h1 hx▸e)
 ·rw[ma hx]
  obtain⟨i,rfl⟩:=h2 hx
  obtain⟨j,ej⟩:=hF hx i e
  exact⟨_,ej,fun h=>absurd h hx,fun ζ=>⟨j,rfl⟩⟩
def fb(Γ:List (K×Val))(t:Tr):Prop:=∀(n:Nat) (st:PS),t.dp≤n→st.fault=.no→WT st.g Γ t→VOk st Γ→st.log.length+t.sz<LIM→Out st (aN st.g (aI Γ) t st.ws) (aa prog (n+8) 68 [.ref 102,t.v] (hp st))
theorem Hc:∀l:gc,fb Γ (.leaf l)
 |.loc k lid,n,st,_,hf,⟨i,e,v,hi,hk⟩,hv,hl=>by
  subst e
  refine pM hf ?_
  show _=some ((aI Γ _).v,_)
  rw[vc hi]
  exact Qp hf ((gm (l:=st.log.map V.int) Mk (by rw[Z9];exact Nat.lt_of_succ_lt hl)).trans (by rw[Fs];rfl)) (hv i (k,v) hi)
 |.const k p,n,st,_,hf,hw,hv,hl=>by
  refine pM hf ?_
  by_cases h13:k=.bj
  ·subst h13
   match p,hw with
   |none,_=>exact LW hf
   |some (.i x),hw=>exact absurd hw.1 (by decide)
   |some (.s c),_=>exact Q7 hf
  ·have k13:decide (k.n=13)=false:=Z2 (fun e=>h13 (K.eN (y:=.bj) e))
   match p,hw with
   |none,_=>exact xD hf k13
   |some (.i x),_=>exact xD hf k13
   |some (.s c),hw=>exact absurd hw h13
 |.cK k,n,st,_,hf,_,_,_=>pM hf (H9 hf (t8 (n:=n+5)))
 |.nul k,n,st,_,hf,_,_,_=>pM hf (PW (n:=n+6) hf (t8 (n:=n+4)))
 |.fY k,n,st,_,hf,_,_,_=>pM hf (Lu hf (qi (n:=n+6)))
theorem Jd{s0:PS}(t:Tr)(h:s0.fault≠.no):Cm (n+1) 68 [.ref 102,t.v] s0 (.int 0) s0:=by
 obtain⟨c,r,e⟩:=t.shape
 rw[e];exact KQ h
theorem vC{l L s a:Nat}(h:l≤L+a)(hl:L+(a+s+1)<LIM):l+s<LIM:=
 Zl (Z4 (Nat.add_le_add_right h s) (Z4 (Zi (Nat.add_assoc ..)) (Zf (Z7 _) L))) hl
theorem By{L s a:Nat}(hl:L+(a+s+1)<LIM):L+a<LIM:=Zl (Zf (Z4 (Z8 a s) (Z7 _)) L) hl
theorem Ke{a b n:Nat}(h:max a b+1≤n+1):a≤n:=Z4 (Nat.le_max_left a b) (Nat.le_of_succ_le_succ h)
theorem Ir{a b n:Nat}(h:max a b+1≤n+1):b≤n:=Z4 (Nat.le_max_right a b) (Nat.le_of_succ_le_succ h)
theorem Iq{a n:Nat}{P:Nat→Prop}(h:a+1≤n)(f:∀m,a+1≤m+1→P (m+1)):P n:=by
 induction n with
 |zero=>cases h
 |succ n=>exact f n h
theorem MU{k:K}{op:BOp}{l r:Tr}{c:Bool}(il:fb Γ l)(ir:fb Γ r):fb Γ (.bin k op l r c):=fun n st hd hf hw hv hl=>
 Iq (P:=fun n=>Out st _ (aa prog (n+8) 68 [.ref 102,(Tr.bin k op l r c).v] (hp st))) hd fun n hd=>
 jM (il n st (Ke hd) hf hw.1 hv (By hl)) (fun h ζ e=>⟨0,yB hf e (Jd r h) h⟩) fun h1 e1=>
 jM (st:=st) (ir n (st.wt (aN st.g (aI Γ) l st.ws).2) (Ir hd) h1 hw.2.1 hv.wt (vC (cw l st.ws) hl)) (fun h ζ e=>⟨0,yB hf e1 e h⟩) fun h2 e2=>by
  obtain⟨cl,rl,sl⟩:=l.shape
  obtain⟨cr,rr,sr⟩:=r.shape
  have e3:=zW (n:=n+3) (c:=c) (c1:=cl) (r1:=rl) (c2:=cr) (r2:=rr) (st:=st.wt (aN st.g (aI Γ) r (aN st.g (aI Γ) l st.ws).2).2) h2 hw.2.2 (aR l st.ws hw.1 h1) (aR r _ hw.2.1 h2)
  unfold ze at e3
  rw[←sl,←sr]at e3
  exact IX (fun ζ=>Em) (Q3 hf e1 e2 h2 e3)
theorem EX{a:Bool}{l r:Tr}(il:fb Γ l)(ir:fb Γ r):fb Γ (.bz a l r):=fun n st hd hf hw hv hl=>
 Iq (P:=fun n=>Out st _ (aa prog (n+8) 68 [.ref 102,(Tr.bz a l r).v] (hp st))) hd fun n hd=>
 jM (il n st (Ke hd) hf hw.1 hv (By hl)) (fun h ζ e=>⟨0,HO hf e h⟩) fun h1 e1=>
 bq (k:=.bool) rfl (hw.2.2.1▸aR l st.ws hw.1 h1) fun x ex ζ=>by
  rw[ex]at e1⊢
  induction hx:decide (x=0) ==a
  ·have hx:decide (x=0)= !a:=by cases a<;>induction h:decide (x=0)<;>rw[h]at hx<;>first|rfl|cases hx
   rw[if_neg (show ¬decide ((Val.int x).toI=0)=a by show ¬decide (x=0)=a;rw[hx];induction a<;>decide)]
   obtain⟨v,e2,k1,k2⟩:=ir n (st.wt (aN st.g (aI Γ) l st.ws).2) (Ir hd) h1 hw.2.1 hv.wt (vC (cw l st.ws) hl)
   exact⟨v,HA hf e1 h1 hx e2,k1,k2⟩
  ·have hx:decide (x=0)=a:=eq_of_beq hx
   rw[if_pos (show decide ((Val.int x).toI=0)=a from hx)]
   exact pM h1 (HV hf e1 h1 hx)
theorem HU{k:K}{t a b:Tr}(it:fb Γ t)(ia:fb Γ a)(ib:fb Γ b):fb Γ (.cond k t a b):=fun n st hd hf hw hv hl=>
 Iq (P:=fun n=>Out st _ (aa prog (n+8) 68 [.ref 102,(Tr.cond k t a b).v] (hp st))) hd fun n hd=>
 have hl':st.log.length+(t.sz+(a.sz+b.sz)+1)<LIM:=Nat.add_assoc t.sz a.sz b.sz▸hl
 jM (it n st (Ke hd) hf hw.1 hv (By hl')) (fun h ζ e=>⟨0,Dv hf e h⟩) fun h1 e1=>
 bq (k:=.bool) rfl (hw.2.2.2.1▸aR t st.ws hw.1 h1) fun x ex ζ=>by
  have lg:=vC (cw (g:=st.g) (vf:=aI Γ) t st.ws) hl'
  rw[ex]at e1⊢
  by_cases hx:x=0
  ·rw[if_pos (show (Val.int x).toI=0 from hx)]
   obtain⟨v,e2,k⟩:=ib n (st.wt (aN st.g (aI Γ) t st.ws).2) (Z4 (Nat.le_max_right _ _) (Ir hd)) h1 hw.2.2.1 hv.wt (Zl (Zf (Nat.le_add_left _ _) _) lg)
   exact⟨v,Ec (w:=false) hf e1 h1 (by rw[Z1 hx];rfl) e2,k⟩
  ·rw[if_neg (show ¬(Val.int x).toI=0 from hx)]
   obtain⟨v,e2,k⟩:=ia n (st.wt (aN st.g (aI Γ) t st.ws).2) (Z4 (Nat.le_max_left _ _) (Ir hd)) h1 hw.2.1 hv.wt (Zl (Zf (Z8 _ _) _) lg)
   exact⟨v,Ec (w:=true) hf e1 h1 (by rw[Z2 hx];rfl) e2,k⟩
theorem k17(k:K):decide (k.n=17)=decide (k=.nab):=K.eqf (f:=fun k=>decide (k.n=17)) (g:=fun k=>decide (k=.nab)) rfl k
section
variable{s0 s1:PS}{e:Tr}{v w:Val}{m:Int}{a:V}
theorem xZ(h1:s1.fault=.no)(hv:aE s1.g e.kind v):Cm (n+7) 64 [.ref 102,.int e.kind.n,v.v] s1 (bH s1.g e.kind v s1.made).1.v (s1.to .no (bH s1.g e.kind v s1.made).2):=by
 rw[←h1];exact ox (n:=n+5) hv
theorem JX{aim:K}(hf:s0.fault=.no)(h1:s1.fault=.no)(e1:Cm (n+7) 68 [.ref 102,e.v] s0 a s1)(hb:aE s1.g .obj w)(e2:Cm (n+7) 64 [.ref 102,.int e.kind.n,a] s1 w.v s)(hg:s.g=s1.g):Cm (n+8) 68 [.ref 102,(Tr.is e aim).v] s0 (.int (ag (isV s1.g aim w))) s:=by
 obtain⟨ce,re,se⟩:=e.shape
 show Cm (n+8) 68 [.ref 102,.tup [.int 20,.int 1,e.v,.int aim.n,.int 0]] s0 _ s
 rw[se]at e1⊢
 match w,hb,e2 with
 |.int x,hb,_=>exact absurd (show aW .obj=true from hb.1) (by decide)
 |.tok a b,hb,_=>exact hb.elim
 |.none,_,e2=>exact J4 hf e1 h1 e2
 |.ob x p id,hb,e2=>
  show Cm _ _ _ _ (.int (ag (isK x (if aim=.nab then .i4 else az s1.g aim)))) s
  by_cases hn:aim=.nab
  ·rw[if_pos hn];subst hn
   exact ET (n17:=true) (q:=7) hf e1 h1 e2 rfl rfl (pQ (k:=.i4))
  ·rw[if_neg hn,←hg]
   exact ET (n17:=false) hf e1 h1 e2 ((k17 aim).trans (Z2 hn)) (qi (n:=n+6)) pQ
theorem L3{k:K}(hf:s0.fault=.no)(h1:s1.fault=.no)(e1:Cm (n+7) 68 [.ref 102,e.v] s0 a s1)(hb:aE s1.g .obj w)(e2:Cm (n+7) 64 [.ref 102,.int e.kind.n,a] s1 w.v s)(hg:s.g=s1.g):Cm (n+8) 68 [.ref 102,(Tr.as k e).v] s0 (asV s1.g k w).v s:=by
 obtain⟨ce,re,se⟩:=e.shape
 show Cm (n+8) 68 [.ref 102,.tup [.int 21,.int k.n,e.v]] s0 _ s
 rw[se]at e1⊢
 match w,hb,e2 with
 |.int x,hb,_=>exact absurd (show aW .obj=true from hb.1) (by decide)
 |.tok a b,hb,_=>exact hb.elim
 |.none,_,e2=>exact MP hf e1 h1 e2
 |.ob x p id,hb,e2=>
  by_cases hn:k=.nab
  ·subst hn
   have e3:=D4 (n17:=true) (q:=7) (k:=17) hf e1 h1 e2 rfl rfl (pQ (k:=.i4))
   rw[show (asV s1.g .nab (.ob x p id)).v=if isK x .i4=true then p.v else V.none from ?_]
   ·exact e3
   ·show (if isK x .i4=true then _ else _:Val).v=_
    induction hx:isK x .i4
    ·rfl
    ·match p,hb.2.2 with
     |.i y,_=>rfl
     |.s c,ho=>rw[show x=.bj from ho]at hx;cases hx
  ·have e3:=D4 (n17:=false) hf e1 h1 e2 ((k17 k).trans (Z2 hn)) (qi (n:=n+6)) pQ
   rw[hg]at e3
   rw[rN hn]
   induction hx:isK x (az s1.g k)<;>rw[hx]at e3<;>exact e3
end
theorem Lo{e:Tr}(ie:fb Γ e):∀o:One,fb Γ (.one o e):=fun o n st hd hf hw hv hl=>
 Iq (P:=fun n=>Out st _ (aa prog (n+8) 68 [.ref 102,(Tr.one o e).v] (hp st))) hd fun n hd=>by
 have ie:=ie n st (Nat.le_of_succ_le_succ hd) hf hw.1 hv (Nat.lt_of_succ_lt hl)
 have ty:=aR e st.ws hw.1
 show Out st (andM (aN st.g (aI Γ) e st.ws) _) _
 generalize aN st.g (aI Γ) e st.ws=r at ie ty⊢
 refine jM ie ?_ fun h1 e1=>IX Gl ?_
 ·intro h i e1
  match o with
  |.un k op c=>exact⟨_,Lg hf e1 h⟩
  |.conv k w c=>exact⟨_,E0 (by induction w<;>rfl) hf e1 h⟩
  |.is aim=>exact⟨_,Kq hf e1 h⟩
  |.as k=>exact⟨_,JR hf e1 h⟩
 ·have ty:=ty h1
  have ho:o.ok st.g e.kind:=hw.2
  match o,ho with
  |.un k .not c,⟨ek,ho⟩=>
   refine bq (k:=.bool) rfl (Z0 ho▸ek▸ty) fun x ex ζ=>?_
   rw[ex]at e1⊢
   show _=some (V.int (1-x),hp ((st.wt r.2).to .no (st.wt r.2).made))
   rw[PS.mB (st:=st.wt r.2) h1]
   exact Qv hf e1 h1
  |.un k .neg c,⟨ek,ho⟩=>
   have hk:nue k=true:=K.imp (a:=fun k=>tc k .neg) (b:=nue) rfl k ho
   refine bq hk (ek▸ty) fun x ex ζ=>?_
   rw[ex]at e1⊢
   exact NQ hf e1 h1 (nD (n:=n+5) (st:=st.wt r.2) h1 (gg st.g hk))
  |.un k .inv c,⟨ek,ho⟩=>
   refine bq (fH ho) (ek▸ty) fun x ex ζ=>?_
   rw[ex]at e1⊢
   exact Px hf e1 h1 (nD (n:=n+5) (st:=st.wt r.2) (c:=false) h1 (gg st.g (fH ho)))
  |.conv k w c,ho=>
   obtain⟨ce,re,se⟩:=e.shape
   have e3:=xc (n:=n+3) (st:=st.wt r.2) (c:=c) (c1:=ce) (r1:=re) h1 ho ty
   unfold BrC at e3
   rw[←se]at e3
   exact LQ (by induction w<;>rfl) hf e1 h1 e3
  |.is aim,_=>exact JX (s1:=st.wt r.2) (s:=(st.wt r.2).to .no _) (n:=n+1) hf h1 e1 (d8 (m:=r.2.made) ty) (xZ (s1:=st.wt r.2) (n:=n+1) h1 ty) rfl
  |.as k,_=>exact L3 (s1:=st.wt r.2) (s:=(st.wt r.2).to .no _) (n:=n+1) hf h1 e1 (d8 (m:=r.2.made) ty) (xZ (s1:=st.wt r.2) (n:=n+1) h1 ty) rfl
theorem d6:∀t,fb Γ t
 |.leaf l=>Hc l
 |.one o e=>Lo (d6 e) o
 |.bin _ _ l r _=>MU (d6 l) (d6 r)
 |.bz _ l r=>EX (d6 l) (d6 r)
 |.cond _ t a b=>HU (d6 t) (d6 a) (d6 b)
end
section
variable{n:Nat}{st st1:PS}
theorem Gs{H:H}{o:O}:(H++[o])[H.length]?=some o:=by simp
theorem FD{H:H}{o o':O}:(H++[o]).set H.length o'=H++[o']:=by simp
theorem w0:(hp st).length=138+st.dyn.length:=by
 show (pre st++st.dyn.map D.o).length=_
 rw[Za,Z9];rfl
theorem Dr{d:D}:hp st++[d.o]=hp {st with dyn:=st.dyn++[d]}:=by
 show pre st++st.dyn.map D.o++[d.o]=pre st++(st.dyn++[d]).map D.o
 rw[List.map_append,List.append_assoc];rfl
noncomputable abbrev PS.pk(st:PS)(c:Int):PS:={st with now:=st.now.fdiv c}
theorem rQ{c:Int}(hc:0<c)(hs:c<1000):aa prog (n+1) dT [.ref 102,.int c] (hp st)=some (.int (st.now.fmod c),hp (st.pk c)):=by
 rw[ye kq NI hc hs nC];rfl
theorem fN(st:PS){c:Int}(hc:0<c):0≤st.now.fmod c∧st.now.fmod c<c:=⟨Zy _ hc,Int.fmod_lt_of_pos _ hc⟩
noncomputable def turned(st:PS):PS:=match st.nums with
 |[]=> {st with now:=0}
 |x::r=> {st with now:=x.fmod (2^30),nums:=r}
theorem HR:(hp st)[99]?=some (.list (st.nums.map V.int)):=rfl
theorem HM(hl:st.nums.length≤40):aa prog (n+1) de [.ref 102] (hp st)=some (.none,hp (turned st)):=by
 obtain⟨g,nums,now,left,aF,eG,vals,log,fault,made,code,aO,a9,locals,aK,free,dyn⟩:=st
 induction nums with
 |nil=>exact run [] (by kernel_rfl)
 |cons x r=>
  have l1:(r.map V.int).length+1≤LIM:=by
   rw[Z9];exact Z4 hl (by decide)
  have e:=HR (st:=⟨g,x::r,0,left,aF,eG,vals,log,fault,made,code,aO,a9,locals,aK,free,dyn⟩)
  exact run [.b ⟨_,_,lQ e l1⟩,.c ⟨_,_,DU e l1⟩] (by kernel_rfl)
end
section
variable{n:Nat}{st st1:PS}
noncomputable def bC(i:Nat):List (K×Val)→List (Int×Val)
 |[]=>[]
 |p::r=>((i:Int)+1,p.2)::bC (i+1) r
theorem jO(p:K×Val):∀(Γ:List (K×Val)) (i:Nat),bC i (Γ++[p])=bC i Γ++[(((i+Γ.length:Nat):Int)+1,p.2)]
 |[],i=>by simp[bC]
 |q::r,i=>by
  simp only[bC,List.cons_append,jO p r (i+1),List.length_cons]
  have:i+1+r.length=i+(r.length+1):=by lia
  rw[this]
theorem jJ:∀(Γ:List (K×Val)) (i j:Nat) (p:K×Val),Γ[j]?=some p→au (((i+j:Nat):Int)+1) (a7 (bC i Γ))=some p.2.v
 |[],i,j,p,h=>by simp at h
 |q::r,i,0,p,h=>by
  simp only[List.getElem?_cons_zero,Option.some.injEq]at h
  subst h
  simp[bC,a7,au]
 |q::r,i,j+1,p,h=>by
  simp only[List.getElem?_cons_succ]at h
  have:=jJ r (i+1) j p h
  have e:i+1+j=i+(j+1):=by lia
  rw[e]at this
  have ne:¬(((i+(j+1):Nat):Int)+1=(i:Int)+1):=by lia
  simp only[bC,a7,List.map_cons,au,ne,if_false]
  exact this
theorem jP(v:V):∀(Γ:List (K×Val)) (i j:Nat),Γ.length≤j→cg (((i+j:Nat):Int)+1) v (a7 (bC i Γ))=a7 (bC i Γ)++[(((i+j:Nat):Int)+1,v)]
 |[],i,j,h=>rfl
 |q::r,i,j,h=>by
  have h:r.length+1≤j:=h
  obtain⟨j,rfl⟩:∃m,j=m+1:=⟨j-1,by lia⟩
  have:=jP v r (i+1) j (by lia)
  have e:i+1+j=i+(j+1):=by lia
  rw[e]at this
  have ne:¬(((i+(j+1):Nat):Int)+1=(i:Int)+1):=by lia
  simp only[bC,a7,List.map_cons,cg,ne,if_false,List.cons_append]
  exact congrArg _ this
theorem wV{m:Nat}(h:m<1048576):m<LIM:=h
structure cP (st:PS)(Γ:List (K×Val)):Prop where
 vals:st.vals=bC 0 Γ
 vr:st.aF.length=Γ.length
 ld:st.eG.length=Γ.length
 dy:∀(i:Nat) (p:K×Val),Γ[i]?=some p→∃j,st.aF[i]?=some j∧st.dyn[j]?=some (.var ((i:Int)+1) p.1)
 nums:st.nums.length≤40
 cnt:(Γ.length:Int)+st.left≤100
 has:∀(i:Nat) (p:K×Val),Γ[i]?=some p→aE st.g p.1 p.2
theorem cP.vok{Γ:List (K×Val)}(h:cP st Γ):VOk st Γ:=by
 intro i p hp
 have:=jJ Γ 0 i p hp
 rw[h.vals]
 simpa using this
theorem K3{H:H}{c:Nat}{f:Nat}{v:V}{l:List (Nat×V)}(h:(prog.att c f&&decide (l.length<LIM))=true):lW prog (.ref H.length) f v (H++[.inst c l])=some (H++[.inst c (cg f v l)]):=by
 have e:ins (H++[O.inst c l]) H.length=some (c,l):=by unfold ins;rw[Gs]
 show (ins (H++[O.inst c l]) H.length).bind _=_
 rw[e]
 exact (if_pos h).trans (by rw[FD])
noncomputable def JM(H:H)(c:Nat):List (Nat×V)→List (Nat×V)→List Fa
 |_,[]=>[]
 |l,(f,v)::r=>(if h:(prog.att c f&&decide (l.length<LIM))=true then .h ⟨_,_,K3 (v:=v) (H:=H) h⟩else .oh)::JM H c (cg f v l) r
theorem J9{P:Prog}{call:Nat→List V→H→Option (V×H)}{c f:Nat}{vs:List V}{h x:H}(hi:P.init c=some (some f))(hr:call f (.ref h.length::vs) (h++[.inst c []])=some (.none,x)):jG P call c vs h=some (.ref h.length,x):=by
 unfold jG
 rw[hi]
 show (call f (.ref h.length::vs) (h++[.inst c []])).bind _=_
 rw[hr];rfl
theorem Aj{H:H}{i:Int}{k:K}:aa prog (n+1) 95 [.ref H.length,.int i,.str 35,.int k.n,.int 0,.int 1] (H++[.inst 4 []])=some (.none,H++[(D.var i k).o]):=
 run (JM H 4 [] [(102,.int i),(83,.str 35),(23,.int k.n),(24,.int 0),(103,.int 1),(104,.int (-1)),(105,.int 0)]) (by kernel_rfl)
theorem vM{k:K}(h1:st.aF.length<1000)(h2:st.eG.length<1000):
  aa prog (n+2) qc [.ref 87,.int 1,.str 35,.int k.n,.int 0] (hp st)=some (.int ((st.aF.length:Int)+1),
   hp {st with aF:=st.aF++[st.dyn.length],eG:=st.eG++[(st.aF.length:Int)+1],dyn:=st.dyn++[.var ((st.aF.length:Int)+1) k]}):=by
 have g89:∀s:PS,(hp s)[89]?=some (.list (.none::s.aF.map fun j=>V.ref (138+j))):=fun ζ=>rfl
 have l9:(V.none::st.aF.map fun j=>V.ref (138+j)).length<1001:=by rw[List.length_cons,Z9];exact Nat.succ_lt_succ h1
 have l8:=kg (P:=prog) (g89 st) (Z4 (Nat.le_of_lt l9) (by decide))
 rw[List.length_cons,Z9]at l8
 have nw:jG prog (aa prog (n+1)) 4 [.int ((st.aF.length:Int)+1),.str 35,.int k.n,.int 0,.int 1] (hp st)=some (.ref (hp st).length,hp {st with dyn:=st.dyn++[.var ((st.aF.length:Int)+1) k]}):=J9 (show prog.init 4=some (some 95)from rfl) (by rw[Aj,Dr])
 have b1:=gm (v:=.ref (hp st).length) (g89 {st with dyn:=st.dyn++[.var ((st.aF.length:Int)+1) k]}) (ZA l9 (by decide))
 have b2:=gm (v:=.int ((st.aF.length:Int)+1)) (show (hp {st with aF:=st.aF++[st.dyn.length],dyn:=st.dyn++[.var ((st.aF.length:Int)+1) k]})[97]?=some (.list (st.eG.map V.int))from rfl) (by rw[Z9];exact ZA h2 (by decide))
 rw[List.cons_append,w0,show (st.aF.map fun j=>V.ref (138+j))++[.ref (138+st.dyn.length)]=(st.aF++[st.dyn.length]).map fun j=>V.ref (138+j)by rw[List.map_append];rfl]at b1
 rw[show st.eG.map V.int++[.int ((st.aF.length:Int)+1)]=(st.eG++[(st.aF.length:Int)+1]).map V.int by rw[List.map_append];rfl]at b2
 rw[w0]at nw
 exact run [.n ⟨_,_,l8⟩,.c ⟨_,_,nw⟩,.c ⟨_,_,b1⟩,.c ⟨_,_,b2⟩] (by kernel_rfl)
end
section
variable{n:Nat}{st st1:PS}
noncomputable def lk(k:K):Bool:= !inL [.nul,.typ] k
noncomputable def dc:K→List Val
 |.bool=>[.int 1,.int 0]
 |.chr=>[.int 65,.int 65535,.int 0,.int 32768,.int 1]
 |.i1=>[.int (-1),.int (-128),.int 127,.int 1,.int 0]
 |.u1=>[.int 200,.int 255,.int 0,.int 128,.int 1]
 |.i2=>[.int (-32768),.int 32767,.int (-1),.int 300,.int 0]
 |.u2=>[.int 65535,.int 0,.int 32768,.int 1,.int 255]
 |.i4=>[.int (-1),.int 2147483647,.int (-2147483648),.int 0,.int 1,.int 33,.int 5,.int (-128),.int 300,.int 65536]
 |.u4=>[.int 4294967295,.int 0,.int 2147483648,.int 1,.int 3,.int 255,.int 70000]
 |.i8=>[.int (-1),.int 9223372036854775807,.int (-9223372036854775808),.int 0,.int 1,.int 4294967296,.int 2147483648,.int (-2147483649),.int 255,.int 7]
 |.u8=>[.int 18446744073709551615,.int 0,.int 9223372036854775808,.int 1,.int 4294967295,.int 4294967296,.int 9]
 |.jk=>[.int (-1),.int 7,.int 0]
 |.obj=>[.ob .cl0 (.i 0) 1,.none,.ob .i4 (.i 5) 1,.ob .bj (.s 127) 0,.ob .cl1 (.i 0) 1,.ob .enm (.i 1) 1,.ob .stc (.i 7) 1,.ob .i8 (.i 5) 1]
 |.bj=>[.ob .bj (.s 127) 0,.none,.ob .bj (.s 0) 0]
 |.nab=>[.int 5,.none,.int (-3)]
 |.stc=>[.int 7,.int 0]
 |.cl0=>[.ob .cl0 (.i 0) 1,.ob .cl1 (.i 0) 1,.none]
 |.cl1=>[.ob .cl1 (.i 0) 1,.none,.ob .cl1 (.i 0) 2]
 |.ifc=>[.ob .cl1 (.i 0) 1,.none]
 |.arr=>[.ob .arr (.i 0) 1,.none]
 |.dlg=>[.ob .dlg (.i 0) 1,.none]
 |_=>[]
theorem JF{g:G}{k:K}(h:lk k=true):(!(dc (aj g k)).isEmpty)=true:=G.imp (b:=fun g k=> !(dc (aj g k)).isEmpty) (by kernel_rfl) g k h
theorem BS{g:G}{k:K}{H:H}(h:lk k=true):aJ prog (.cd 8) (.int (aj g k).n) H=some (.tup ((dc (aj g k)).map Val.v)):=by
 have h:=JF (g:=g) h
 generalize aj g k=r at h⊢
 revert r;exact K.on (by kernel_rfl)
theorem tw{g:G}{k:K}(h:lk k=true):0<(dc (aj g k)).length∧(dc (aj g k)).length≤10:=by
 have h:=JF (g:=g) h
 generalize aj g k=r at h⊢
 have:=K.imp (a:=fun r=> !(dc r).isEmpty) (b:=fun r=>decide (0<(dc r).length∧(dc r).length≤10)) (by kernel_rfl) r h
 exact Z0 this
noncomputable def Ij(g:G)(k:K)(x:Int):Bool:= !n11 (aj g k)||(decide (loK (aj g k)≤x)&&decide (x≤hiK (aj g k)))
noncomputable def obB(g:G)(x:K)(p:Pay):Bool:=match p with
 |.s _=>decide (x=.bj)
 |.i y=> !decide (x=.bj)&&Ij g x y
noncomputable def hasB(g:G)(r:K)(v:Val):Bool:=match v with
 |.int x=>aW r&&Ij g (unb r) x
 |.none=> !fD r
 |.ob x p _=> !aW r&&(isK x r&&obB g x p)
 |.tok _ _=>false
theorem band{a b:Bool}(h:(a&&b)=true):a=true∧b=true:=Z3 h
theorem GD{a:Bool}(h:(!a)=true):a=false:=(Bool.not_eq_true' a).mp h
theorem yF{g:G}{k:K}{x:Int}(h:Ij g k x=true):pI g k x:=fun hn=>by
 unfold Ij at h;rw[hn]at h
 exact⟨Z0 (band h).1,Z0 (band h).2⟩
theorem J8{g:G}{x:K}:∀{p:Pay},obB g x p=true→LZ g x p
 |.s _,h=>Z0 (p:=x=.bj) h
 |.i _,h=>⟨of_decide_eq_false (GD (band h).1),yF (band h).2⟩
theorem F3{g:G}{k:K}(v:Val):hasB g (az g k) v=true→aE g k v:=match v with
 |.int _=>fun h=>⟨(band h).1,yF (band h).2⟩
 |.none=>GD
 |.ob _ _ _=>fun h=>⟨GD (band h).1,(band (band h).2).1,J8 (band (band h).2).2⟩
 |.tok _ _=>fun h=>absurd h Zc
theorem CE{g:G}{k:K}(h:lk k=true):∀v∈dc (aj g k),aE g k v:=fun v hv=>
 F3 v (Zk (G.imp (b:=fun g k=>(dc (aj g k)).all (hasB g (az g k))) (by kernel_rfl) g k h) v hv)
theorem Ac{g:G}{k:K}{i:Int}{H:H}(h:lk k=true)(h0:0≤i)(h1:i<((dc (aj g k)).length:Int)):
  ∃v,aE g k v∧aJ prog (.tup ((dc (aj g k)).map Val.v)) (.int i) H=some v.v:=by
 have hl:=(tw (g:=g) h).2
 have e:i.toNat<(dc (aj g k)).length:=by lia
 refine ⟨(dc (aj g k))[i.toNat],CE h _ (List.getElem_mem e),?_⟩
 have hi:idx i=true:=by
  unfold idx
  rw[Z1 h0,Z1 (show i<4611686018427387904 by lia)];rfl
 exact vY hi (by rw[Zu,Zo e];rfl)
structure eV (st st':PS):Prop where
 g:st'.g=st.g
 log:st'.log=st.log
 fault:st'.fault=st.fault
 made:st'.made=st.made
 code:st'.code=st.code
 aO:st'.aO=st.aO
 a9:st'.a9=st.a9
 locals:st'.locals=st.locals
 aK:st'.aK=st.aK
 free:st'.free=st.free
 dyn:st.dyn<+:st'.dyn
 vr:st.aF<+:st'.aF
theorem eV.Dj:eV st st:=⟨rfl,rfl,rfl,rfl,rfl,rfl,rfl,rfl,rfl,rfl,Zb,Zb⟩
theorem eV.trans{a b c:PS}(h:eV a b)(k:eV b c):eV a c:=
 ⟨k.g.trans h.g,k.log.trans h.log,k.fault.trans h.fault,k.made.trans h.made,k.code.trans h.code,k.aO.trans h.aO,k.a9.trans h.a9,k.locals.trans h.locals,k.aK.trans h.aK,k.free.trans h.free,h.dyn.trans k.dyn,h.vr.trans k.vr⟩
noncomputable def gc.lc:gc→Nat
 |.const _ _|.fY _=>0
 |_=>1
noncomputable def Tr.lc:Tr→Nat
 |.leaf l=>l.lc
 |.one _ e=>e.lc
 |.bin _ _ l r _|.bz _ l r=>l.lc+r.lc
 |.cond _ t a b=>t.lc+a.lc+b.lc+1
structure Bm (st:PS)(Γ:List (K×Val))(k:K)(m:Nat)(L B:Int)(t:Tr)(st':PS)(Γ':List (K×Val)):Prop where
 wt:WT st.g Γ' t
 kind:t.kind=k
 dp:t.dp≤m
 pre:Γ<+:Γ'
 inv:cP st' Γ'
 same:eV st st'
 lo:B≤st'.left
 cnt:(t.lc:Int)+st'.left≤L∧(Γ'.length:Int)+st'.left≤(Γ.length:Int)+L
 size:(t.sz:Int)+2*st'.left≤2*L
theorem cP.pk{Γ:List (K×Val)}{c:Int}(h:cP st Γ):cP (st.pk c) Γ:=⟨h.vals,h.vr,h.ld,h.dy,h.nums,h.cnt,h.has⟩
theorem rz{c:Int}:eV st (st.pk c):=⟨rfl,rfl,rfl,rfl,rfl,rfl,rfl,rfl,rfl,rfl,Zb,Zb⟩
def Made(N f:Nat)(vs:List V)(st:PS)(Γ:List (K×Val))(k:K)(m:Nat)(L B:Int):Prop:=∃t st' Γ',aa prog N f vs (hp st)=some (t.v,hp st')∧Bm st Γ k m L B t st' Γ'
def Pk(st:PS)(c d:Int)(s:PS):Prop:=∀n,aa prog (n+1) dT [.ref 102,.int c] (hp st)=some (.int d,hp s)
theorem I4{c:Int}(hc:(decide (0<c)&&decide (c<1000))=true):Pk st c (st.now.fmod c) (st.pk c):=fun n=>rQ (Z0 (Z3 hc).1) (Z0 (Z3 hc).2)
theorem lt2{P:Int→Prop}{d:Int}(h0:0≤d)(h:d<2)(p0:P 0)(p1:P 1):P d:=by
 rcases (by lia:d=0∨d=1)with rfl|rfl<;>assumption
theorem lt3{P:Int→Prop}{d:Int}(h0:0≤d)(h:d<3)(p0:P 0)(p1:P 1)(p2:P 2):P d:=by
 rcases (by lia:d=0∨d=1∨d=2)with rfl|rfl|rfl<;>assumption
theorem lt8{P:Int→Prop}{d:Int}(h0:0≤d)(h:d<8)(p0:P 0)(p1:P 1)(p2:P 2)(p3:P 3)(p4:P 4)(p5:P 5)(p6:P 6)(p7:P 7):P d:=by
 obtain⟨n,rfl⟩:=Int.eq_ofNat_of_zero_le h0
 match n with
 |0=>exact p0
 |1=>exact p1
 |2=>exact p2
 |3=>exact p3
 |4=>exact p4
 |5=>exact p5
 |6=>exact p6
 |7=>exact p7
 |n+8=>exact absurd h (by lia)
theorem lt9{P:Int→Prop}{d:Int}(h0:0≤d)(h:d<9)(p0:P 0)(p1:P 1)(p2:P 2)(p3:P 3)(p4:P 4)(p5:P 5)(p6:P 6)(p7:P 7)(p8:P 8):P d:=by
 by_cases h8:d=8
 ·subst h8;exact p8
 ·exact lt8 h0 (by lia) p0 p1 p2 p3 p4 p5 p6 p7
end
section
variable{n:Nat}{st st1:PS}
noncomputable def PS.nv(st:PS)(k:K)(v:Val):PS:={st with aF:=st.aF++[st.dyn.length],eG:=st.eG++[(st.aF.length:Int)+1],dyn:=st.dyn++[.var ((st.aF.length:Int)+1) k],vals:=st.vals++[((st.aF.length:Int)+1,v)]}
theorem vx{l:List (Int×Val)}{i:Int}{v:Val}:a7 (l++[(i,v)])=a7 l++[(i,v.v)]:=by simp[a7]
theorem F5{k:K}{v:Val}{Γ:List (K×Val)}(h:cP st Γ)(hl:Γ.length<1000):
  subset prog (.ref 100) (.int ((st.aF.length:Int)+1)) v.v (hp {st with aF:=st.aF++[st.dyn.length],eG:=st.eG++[(st.aF.length:Int)+1],dyn:=st.dyn++[.var ((st.aF.length:Int)+1) k]})=some (hp (st.nv k v)):=by
 have e:=jP v.v Γ 0 Γ.length (Z5 _)
 rw[Nat.zero_add,←h.vr,←h.vals]at e
 have g:∀s:PS,(hp s)[100]?=some (.aM (a7 s.vals)):=fun ζ=>rfl
 have ll:(a7 st.vals).length<LIM:=by
  have:∀(Γ:List (K×Val)) i,(bC i Γ).length=Γ.length:=by
   intro Γ;induction Γ with
   |nil=>intro i;rfl
   |cons a r ih=>intro i;simp only[bC,List.length_cons,ih]
  rw[a7,Z9,h.vals,this];exact wV (by lia)
 refine (om (g {st with aF:=st.aF++[st.dyn.length],eG:=st.eG++[(st.aF.length:Int)+1],dyn:=st.dyn++[.var ((st.aF.length:Int)+1) k]}) ll).trans ?_
 show some ((hp {st with aF:=st.aF++[st.dyn.length],eG:=st.eG++[(st.aF.length:Int)+1],dyn:=st.dyn++[.var ((st.aF.length:Int)+1) k]}).set 100 (.aM (cg ((st.aF.length:Int)+1) v.v (a7 st.vals))))=_
 rw[e,←vx];rfl
set_option tactic.hygienic true in
theorem MC{k:K}{v:Val}{Γ:List (K×Val)}(h:cP st Γ)(hc:(Γ.length:Int)+st.left≤99)(hv:aE st.g k v):cP (st.nv k v) (Γ++[(k,v)]) where
 vals:=by
  have:=jO (k,v) Γ 0
  rw[this,Nat.zero_add,←h.vals,←h.vr];rfl
 vr:=by show (st.aF++[_]).length=_;rw[Za,Za,h.vr];rfl
 ld:=by show (st.eG++[_]).length=_;rw[Za,Za,h.ld];rfl
 dy:=by
  intro i p hp
  rw[List.getElem?_append]at hp
  split at hp
  ·rename_i hi
   obtain⟨j,h1,h2⟩:=h.dy i p hp
   refine ⟨j,?_,?_⟩
   ·show (st.aF++[_])[i]?=_
    rw[Zj (Z6 h1).1];exact h1
   ·show (st.dyn++[_])[j]?=_
    rw[Zj (Z6 h2).1];exact h2
  ·rename_i hi
   have hi2:i=Γ.length:=by
    have:=(Z6 hp).1
    simp only[List.length_singleton]at this
    lia
   subst hi2
   simp only[Nat.sub_self,List.getElem?_cons_zero,Option.some.injEq]at hp
   subst hp
   refine ⟨st.dyn.length,?_,?_⟩
   ·show (st.aF++[_])[Γ.length]?=_
    rw[←h.vr];simp
   ·show (st.dyn++[_])[st.dyn.length]?=_
    rw[h.vr];simp
 nums:=h.nums
 cnt:=by
  show ((Γ++[(k,v)]).length:Int)+st.left≤100
  simp only[Za,List.length_singleton]
  lia
 has:=by
  intro i p hp
  rw[List.getElem?_append]at hp
  split at hp
  ·exact h.has i p hp
  ·rename_i hi
   have:=(Z6 hp).1
   have hi2:i-Γ.length=0:=by simp only[List.length_singleton]at this;lia
   rw[hi2]at hp
   simp only[List.getElem?_cons_zero,Option.some.injEq]at hp
   subst hp;exact hv
structure Lf (n:Nat)(st:PS)(k:K)(d:Int)(s1 s2:PS)(u i:Int)(vs:List V)(m:Nat)(v:Val):Prop where
 p1:aa prog (n+3) dT [.ref 102,.int 3] (hp st)=some (.int d,hp s1)
 u1:aa prog (n+3) jZ [.ref 102,.int k.n] (hp s1)=some (.int u,hp s1)
 vg:aJ prog (.cd 8) (.int u) (hp s1)=some (.tup vs)
 ll:lenOf prog (.tup vs) (hp s1)=some m
 p2:aa prog (n+3) dT [.ref 102,.int m] (hp s1)=some (.int i,hp s2)
 ev:aJ prog (.tup vs) (.int i) (hp s2)=some v.v
theorem IP{k:K}{Γ:List (K×Val)}(hk:lk k=true)(hi:cP st Γ){C:Prop}(f:∀d s1 s2 u i vs m v,0≤d→d<3→Lf n st k d s1 s2 u i vs m v→aE s2.g k v→eV st s2→cP s2 Γ→s2.left=st.left→C):C:=by
 have vl:=tw (g:=st.g) hk
 obtain⟨v,hv,ev⟩:=Ac (H:=hp ((st.pk 3).pk (dc (aj st.g k)).length)) (g:=st.g) hk (fN (st.pk 3) (c:=(dc (aj st.g k)).length) (by lia)).1 (fN (st.pk 3) (c:=(dc (aj st.g k)).length) (by lia)).2
 have ll:lenOf prog (.tup ((dc (aj st.g k)).map Val.v)) (hp (st.pk 3))=some (dc (aj st.g k)).length:=by
  have:(dc (aj st.g k)).length≤LIM:=Nat.le_of_lt (wV (by lia))
  rw[GY (by rwa [Z9]),Z9]
 exact f _ _ _ _ _ _ _ v (fN st (c:=3) (by decide)).1 (fN st (c:=3) (by decide)).2 ⟨rQ (by decide) (by decide),jo (n:=n+1) (kq (st:=st.pk 3)) (iw (st:=st.pk 3)) (Jv (st:=st.pk 3)),BS hk,ll,rQ (by lia) (by lia),ev⟩ hv (rz.trans rz) hi.pk.pk rfl
section
variable{k:K}{d u i:Int}{s1 s2 s3:PS}{vs:List V}{m:Nat}{v:Val}{w:V}
theorem Kg{j:Int}(L:Lf n st k 0 s1 s2 u i vs m v)(nv:aa prog (n+3) qc [.ref 87,.int 1,.str 35,.int k.n,.int 0] (hp s2)=some (.int j,hp s3)){s4:PS}(sv:subset prog (.ref 100) (.int j) v.v (hp s3)=some (hp s4)):
  aa prog (n+4) aH [.ref 102,.int k.n] (hp st)=some ((Tr.loc k j).v,hp s4):=run [.c ⟨_,_,L.p1⟩,.oc,.c ⟨_,_,L.u1⟩,.v ⟨_,_,L.vg⟩,.n ⟨_,_,L.ll⟩,.c ⟨_,_,L.p2⟩,.s ⟨_,_,L.ev⟩,.c ⟨_,_,nv⟩,.h ⟨_,_,sv⟩] (by kernel_rfl)
theorem K9(L:Lf n st k 1 s1 s2 u i vs m v){b:Bool}(h3:decide (k.n<12)=b)(h4:(b||decide (k.n=16))=true):aa prog (n+4) aH [.ref 102,.int k.n] (hp st)=some (.tup [.int 1,.int k.n,v.v],hp s2):=by
 induction b
 ·exact run [.c ⟨_,_,L.p1⟩,.oc,.c ⟨_,_,L.u1⟩,.v ⟨_,_,L.vg⟩,.n ⟨_,_,L.ll⟩,.c ⟨_,_,L.p2⟩,.s ⟨_,_,L.ev⟩,.ob,.ob,fB h3,fB (show decide (k.n=16)=true from h4)] (by kernel_rfl)
 ·exact run [.c ⟨_,_,L.p1⟩,.oc,.c ⟨_,_,L.u1⟩,.v ⟨_,_,L.vg⟩,.n ⟨_,_,L.ll⟩,.c ⟨_,_,L.p2⟩,.s ⟨_,_,L.ev⟩,.ob,.ob,fB h3] (by kernel_rfl)
theorem FF(L:Lf n st .bj 1 s1 s2 u i vs m .none):aa prog (n+4) aH [.ref 102,.int K.bj.n] (hp st)=some ((Tr.const .bj none).v,hp s2):=run [.c ⟨_,_,L.p1⟩,.oc,.c ⟨_,_,L.u1⟩,.v ⟨_,_,L.vg⟩,.n ⟨_,_,L.ll⟩,.c ⟨_,_,L.p2⟩,.s ⟨_,_,L.ev⟩] (by kernel_rfl)
theorem JZ{c:Nat}{id:Int}(L:Lf n st .bj 1 s1 s2 u i vs m (.ob .bj (.s c) id)):aa prog (n+4) aH [.ref 102,.int K.bj.n] (hp st)=some ((Tr.const .bj (some (.s c))).v,hp s2):=run [.c ⟨_,_,L.p1⟩,.oc,.c ⟨_,_,L.u1⟩,.v ⟨_,_,L.vg⟩,.n ⟨_,_,L.ll⟩,.c ⟨_,_,L.p2⟩,.s ⟨_,_,L.ev⟩] (by kernel_rfl)
theorem LO(L:Lf n st .obj 1 s1 s2 u i vs m v):aa prog (n+4) aH [.ref 102,.int K.obj.n] (hp st)=some ((Tr.const .obj none).v,hp s2):=run [.c ⟨_,_,L.p1⟩,.oc,.c ⟨_,_,L.u1⟩,.v ⟨_,_,L.vg⟩,.n ⟨_,_,L.ll⟩,.c ⟨_,_,L.p2⟩,.s ⟨_,_,L.ev⟩] (by kernel_rfl)
theorem Ly(L:Lf n st k 1 s1 s2 u i vs m v)(h3:decide (k.n<12)=false)(h4:decide (k.n=16)=false)(h5:decide (k.n=13)=false)(h6:decide (k.n=12)=false):aa prog (n+4) aH [.ref 102,.int k.n] (hp st)=some ((Tr.cK k).v,hp s2):=run [.c ⟨_,_,L.p1⟩,.oc,.c ⟨_,_,L.u1⟩,.v ⟨_,_,L.vg⟩,.n ⟨_,_,L.ll⟩,.c ⟨_,_,L.p2⟩,.s ⟨_,_,L.ev⟩,.ob,.ob,fB h3,fB h4,.ob,fB h5,.ob,fB h6] (by kernel_rfl)
theorem K5(L:Lf n st k 2 s1 s2 u i vs m v):aa prog (n+4) aH [.ref 102,.int k.n] (hp st)=some ((Tr.cK k).v,hp s2):=run [.c ⟨_,_,L.p1⟩,.oc,.c ⟨_,_,L.u1⟩,.v ⟨_,_,L.vg⟩,.n ⟨_,_,L.ll⟩,.c ⟨_,_,L.p2⟩,.s ⟨_,_,L.ev⟩] (by kernel_rfl)
theorem AJ{Γ:List (K×Val)}(hi:cP s2 Γ)(hc:(Γ.length:Int)+st.left≤99)(L:Lf n st k 0 s1 s2 u i vs m v)(hv:aE s2.g k v)(sm:eV st s2)(hl:s2.left=st.left)(h100: -100≤st.left):
  Made (n+4) aH [.ref 102,.int k.n] st Γ k 0 (st.left+1) st.left:=by
 have h1:=hi.vr
 have h2:=hi.ld
 refine ⟨.loc k ((s2.aF.length:Int)+1),s2.nv k v,Γ++[(k,v)],Kg L (vM (n:=n+1) (by lia) (by lia)) (F5 hi (by lia)),⟨Γ.length,by rw[h1],v,by simp,by rw[←sm.g];exact hv⟩,rfl,Z5 _,⟨[(k,v)],rfl⟩,MC hi (by rw[hl];exact hc) hv,sm.trans ⟨rfl,rfl,rfl,rfl,rfl,rfl,rfl,rfl,rfl,rfl,⟨[_],rfl⟩,⟨[_],rfl⟩⟩,?_,⟨?_,?_⟩,?_⟩
 ·exact Int.le_of_eq hl.symm
 ·show ((1:Nat):Int)+s2.left≤st.left+1;lia
 ·show (((Γ++[(k,v)]).length:Nat):Int)+s2.left≤_;rw[Za,List.length_singleton];lia
 ·show ((1:Nat):Int)+2*s2.left≤2*(st.left+1);lia
theorem hY{Γ:List (K×Val)}{t:Tr}(hi:cP s2 Γ)(e:aa prog (n+4) aH [.ref 102,.int k.n] (hp st)=some (t.v,hp s2))(sm:eV st s2)(hl:s2.left=st.left)(hw:WT st.g Γ t)(hk:t.kind=k)(hd:t.dp=0)(hc:t.lc≤1)(hs:t.sz=1):Made (n+4) aH [.ref 102,.int k.n] st Γ k 0 (st.left+1) st.left:=
 ⟨t,s2,Γ,e,hw,hk,Zi hd,Zb,hi,sm,by lia,by lia,by lia⟩
theorem RC{Γ:List (K×Val)}(hk:lk k=true)(hi:cP s2 Γ)(L:Lf n st k 1 s1 s2 u i vs m v)(hv:aE s2.g k v)(sm:eV st s2)(hl:s2.left=st.left):Made (n+4) aH [.ref 102,.int k.n] st Γ k 0 (st.left+1) st.left:=by
 induction hki:nue k
 ·by_cases h13:k=.bj
  ·subst h13
   induction v with
   |none=>exact hY hi (FF L) sm hl (.inl rfl) rfl rfl (Nat.zero_le _) rfl
   |int x=>cases hv.1
   |tok a b=>exact hv.elim
   |ob x p id=>
    have hx:x=.bj:=Z0 (K.imp (a:=fun x=>isK x .bj) (b:=fun x=>decide (x=.bj)) rfl x hv.2.1)
    subst hx
    induction p with
    |i y=>exact absurd rfl hv.2.2.1
    |s c=>exact hY (t:=.const .bj (some (.s c))) hi (JZ L) sm hl rfl rfl rfl (Nat.zero_le _) rfl
  ·by_cases h12:k=.obj
   ·subst h12
    exact hY hi (LO L) sm hl (.inr rfl) rfl rfl (Nat.zero_le _) rfl
   ·have h:=K.imp (a:=fun k=>lk k&& !nue k) (b:=fun k=> !decide (k.n<12)&& !decide (k.n=16)&&dfk k) rfl k (by rw[hk,hki];rfl)
    simp only[Bool.and_eq_true,Bool.not_eq_true']at h
    exact hY (t:=.cK k) hi (Ly L h.1.1 h.1.2 (Z2 fun e=>h13 (K.eN (y:=.bj) e)) (Z2 fun e=>h12 (K.eN (y:=.obj) e))) sm hl h.2 rfl rfl (Z5 _) rfl
 ·refine bq hki hv fun x ex hx=>?_
  subst ex
  exact hY (t:=.const k (some (.i x))) hi (K9 L rfl (K.imp (b:=fun k=>decide (k.n<12)||decide (k.n=16)) rfl k hki)) sm hl ⟨hki,by rw[←sm.g];exact hx⟩ rfl rfl (Nat.zero_le _) rfl
end
theorem IV{k:K}{Γ:List (K×Val)}(hk:lk k=true)(hi:cP st Γ)(hc:(Γ.length:Int)+st.left≤99)(hL: -100≤st.left):Made (n+4) aH [.ref 102,.int k.n] st Γ k 0 (st.left+1) st.left:=
 IP (n:=n) hk hi fun d s1 s2 u i vs m v d0 d1 L hv sm hi2 hl=>lt3 (d:=d) (P:=fun d=>Lf n st k d s1 s2 u i vs m v→Made (n+4) aH [.ref 102,.int k.n] st Γ k 0 (st.left+1) st.left) d0 d1 (fun L=>AJ hi2 hc L hv sm hl hL) (fun L=>RC hk hi2 L hv sm hl)
  (fun L=>hY (t:=.cK k) hi2 (K5 L) sm hl (K.imp (a:=lk) (b:=dfk) rfl k hk) rfl rfl (Z5 _) rfl) L
end
section
variable{n:Nat}{st st1:PS}
def bD(deep:Nat):Prop:=∀(N:Nat) (st:PS) (Γ:List (K×Val)) (k:K),4*(4-deep)+8≤N→lk k=true→cP st Γ→ -30≤st.left→
 Made N aw [.ref 102,.int k.n,.int deep] st Γ k (4-deep) st.left (min (st.left-1) (2*deep-9))
def cG(deep N f:Nat)(vs:List V)(st:PS)(Γ:List (K×Val))(k:K):Prop:=Made N f vs st Γ k (5-deep) (st.left+1) (2*deep-11)
def pG(c0:Nat)(f:Nat)(deep:Nat)(args:K→List V)(ok:K→Bool):Prop:=∀(N:Nat) (st:PS) (Γ:List (K×Val)) (k:K),4*(4-deep)+c0≤N→ok k=true→cP st Γ→0≤st.left→
 cG deep N f (.ref 102::args k) st Γ k
structure Ch (st s:PS):Prop where
 inv:∀Γ,cP st Γ→cP s Γ
 same:eV st s
 left:s.left=st.left
theorem Ch.Dj:Ch st st:=⟨fun ζ h=>h,eV.Dj,rfl⟩
theorem I3{c:Int}:Ch st (st.pk c):=⟨fun Γ h=>h.pk,rz,rfl⟩
noncomputable def dpL:List Tr→Nat
 |[]=>0
 |[a]=>a.dp
 |a::r=>max a.dp (dpL r)
noncomputable def lcG(n:Nat):List Tr→Nat
 |[]=>n
 |a::r=>lcG (n+a.lc) r
noncomputable def lcL:List Tr→Nat
 |[]=>0
 |a::r=>lcG a.lc r
noncomputable def szG(n:Nat):List Tr→Nat
 |[]=>n
 |a::r=>szG (n+a.sz) r
noncomputable def szL:List Tr→Nat
 |[]=>0
 |a::r=>szG a.sz r
theorem DX{t:Tr}:∀ts,dpL (ts++[t])≤max (dpL ts) t.dp
 |[]=>Nat.le_max_right _ _
 |[a]=>Z5 _
 |a::b::r=>by
  exact Z4 (Nat.max_le.mpr ⟨Nat.le_max_left _ _,Z4 (DX (t:=t) (b::r)) (Nat.le_max_right _ _)⟩) (Zi (Nat.max_assoc a.dp (dpL (b::r)) t.dp).symm)
theorem xo{t:Tr}:∀ts n,lcG n (ts++[t])=lcG n ts+t.lc
 |[],n=>rfl
 |a::r,n=>xo r (n+a.lc)
theorem yD{t:Tr}:∀ts n,szG n (ts++[t])=szG n ts+t.sz
 |[],n=>rfl
 |a::r,n=>yD r (n+a.sz)
theorem JU{t:Tr}:∀ts,lcL (ts++[t])=lcL ts+t.lc
 |[]=>(Nat.zero_add _).symm
 |a::r=>xo r a.lc
theorem Lb{t:Tr}:∀ts,szL (ts++[t])=szL ts+t.sz
 |[]=>(Nat.zero_add _).symm
 |a::r=>yD r a.sz
structure Mkd (st:PS)(Γ:List (K×Val))(deep:Nat)(ts:List Tr)(s:PS)(Γ':List (K×Val)):Prop where
 wt:∀t∈ts,WT st.g Γ' t
 dp:dpL ts≤4-deep
 pre:Γ<+:Γ'
 inv:cP s Γ'
 same:eV st s
 hd:deep≤4
 lo:2*(deep:Int)-8≤s.left+ts.length
 lc:(lcL ts:Int)+s.left≤st.left
 gl:(Γ'.length:Int)+s.left≤Γ.length+st.left
 sz:(szL ts:Int)+2*s.left≤2*st.left
 l0:ts=[]→s.left=st.left
section
variable{Γ Γ':List (K×Val)}{deep:Nat}{ts:List Tr}{s:PS}{C:Prop}
theorem Mkd.start(hd:deep≤4)(hi:cP st Γ)(hL:0≤st.left):Mkd st Γ deep [] st Γ:=
 ⟨fun ζ h=>(nomatch h),Nat.zero_le _,Zb,hi,eV.Dj,hd,by show 2*(deep:Int)-8≤st.left+((0:Nat):Int);lia,by show ((0:Nat):Int)+st.left≤_;lia,Int.le_refl _,by show ((0:Nat):Int)+2*st.left≤_;lia,fun ζ=>rfl⟩
theorem Mkd.ch{s2:PS}(M:Mkd st Γ deep ts s Γ')(c:Ch s s2):Mkd st Γ deep ts s2 Γ':=
 ⟨M.wt,M.dp,M.pre,c.inv _ M.inv,M.same.trans c.same,M.hd,by rw[c.left];exact M.lo,by rw[c.left];exact M.lc,by rw[c.left];exact M.gl,by rw[c.left];exact M.sz,by rw[c.left];exact M.l0⟩
theorem Mkd.pick(M:Mkd st Γ deep ts s Γ')(c:Int)(hc:(decide (0<c)&&decide (c<1000))=true)(f:∀d s2,0≤d→d<c→Pk s c d s2→Mkd st Γ deep ts s2 Γ'→C):C:=
 f _ _ (fN s (Z0 (Z3 hc).1)).1 (fN s (Z0 (Z3 hc).1)).2 (I4 hc) (M.ch I3)
theorem Mkd.u9(M:Mkd st Γ deep ts s Γ')(f:∀(c:Bool) s2,Pk s 2 (ag c) s2→Mkd st Γ deep ts s2 Γ'→C):C:=
 M.pick 2 rfl fun d s2 h0 h1 p M=>lt2 (d:=d) (P:=fun d=>Pk s 2 d s2→C) h0 h1 (fun p=>f false s2 p M) (fun p=>f true s2 p M) p
theorem GO{α:Type}{g:α→V}{p:α→Bool}{l:List α}{c:Nat}(hl:((l.take c).all p&&(Nat.ble c l.length&&Nat.ble l.length 99))=true){d:Int}(h0:0≤d)(h1:d<c)(H:H):∃k,p k=true∧aJ prog (.tup (l.map g)) (.int d) H=some (g k):=by
 have h:=Z3 hl
 have h2:=Z3 h.2
 have h8:=Nat.le_of_ble_eq_true h2.1
 have h9:=Nat.le_of_ble_eq_true h2.2
 obtain⟨i,rfl⟩:=Int.eq_ofNat_of_zero_le h0
 have hc:i<c:=Int.ofNat_lt.mp h1
 have e:i<l.length:=ZA hc h8
 refine ⟨l[i],Zk h.1 _ (List.mem_take_iff_getElem.mpr ⟨i,Nat.lt_min.mpr ⟨hc,e⟩,rfl⟩),?_⟩
 have hi:idx (i:Int)=true:=by
  unfold idx
  rw[Z1 h0,Z1 (show (i:Int)<4611686018427387904 by lia)];rfl
 exact vY hi (by rw[Int.toNat_natCast,Zu,Zo e];rfl)
theorem Mkd.row{α:Type}(g:α→V)(p:α→Bool)(l:List α)(c:Nat)(M:Mkd st Γ deep ts s Γ')(hl:((l.take c).all p&&(Nat.ble c l.length&&Nat.ble l.length 99))=true)(hc:(decide (0<(c:Int))&&decide ((c:Int)<1000))=true)(f:∀k d s2,p k=true→Pk s c d s2→aJ prog (.tup (l.map g)) (.int d) (hp s2)=some (g k)→Mkd st Γ deep ts s2 Γ'→C):C:=
 M.pick _ hc fun d s2 h0 h1 q M=>(GO (g:=g) hl h0 h1 (hp s2)).elim fun k h=>f k d s2 h.1 q h.2 M
noncomputable abbrev kI(k:K):V:=.int k.n
noncomputable abbrev oS(o:BOp):V:=.str o.c
theorem Mkd.sub(M:Mkd st Γ deep ts s Γ')(hT:bD deep)(hn:4*(4-deep)+8≤n)(k:K)(hk:lk k=true)(hj:Nat.ble ts.length 8=true)(f:∀t s2 Γ2,aa prog n aw [.ref 102,.int k.n,.int deep] (hp s)=some (t.v,hp s2)→t.kind=k→Mkd st Γ deep (ts++[t]) s2 Γ2→C):C:=by
 have hj:=Nat.le_of_ble_eq_true hj
 have lo:=M.lo
 obtain⟨t,s2,Γ2,e,r⟩:=hT n s Γ' k hn hk M.inv (by clear hn;lia)
 refine f t s2 Γ2 e r.kind ⟨?_,Z4 (DX ts) (Nat.max_le.mpr ⟨M.dp,r.dp⟩),M.pre.trans r.pre,r.inv,M.same.trans r.same,M.hd,?_,?_,?_,?_,fun h=>absurd h (by simp)⟩
 ·intro x hx
  rcases Zv hx with h|h
  ·exact (M.wt x h).mono r.pre
  ·rw[Zs h,←M.same.g];exact r.wt
 ·have:=r.lo;rw[Za,List.length_singleton];lia
 ·have:=r.cnt.1;have:=M.lc;rw[JU];lia
 ·have:=r.cnt.2;have:=M.gl;lia
 ·have:=r.size;have:=M.sz;rw[Lb];lia
theorem Mkd.gen{k:K}{t:Tr}(M:Mkd st Γ deep ts s Γ')(hw:WT st.g Γ' t)(hk:t.kind=k)(hj:Nat.ble ts.length 3=true)(h1:t.dp≤dpL ts+1)(h2:t.lc≤lcL ts+1)(h3:t.sz≤szL ts+2):Bm st Γ k (5-deep) (st.left+1) (2*deep-11) t s Γ':=by
 have hj:=Nat.le_of_ble_eq_true hj
 obtain⟨-,dp,pre,inv,same,hd,lo,lc,gl,sz, -⟩:=M
 exact⟨hw,hk,by lia,pre,inv,same,by lia,⟨by lia,by lia⟩,by lia⟩
theorem Mkd.made{k:K}{t:Tr}{N f:Nat}{vs:List V}(M:Mkd st Γ deep ts s Γ')(e:aa prog N f vs (hp st)=some (t.v,hp s))(hw:WT st.g Γ' t)(hk:t.kind=k)(hj:Nat.ble ts.length 3=true)(h1:t.dp≤dpL ts+1)(h2:t.lc≤lcL ts+1)(h3:t.sz≤szL ts+2):cG deep N f vs st Γ k:=
 ⟨t,s,Γ',e,M.gen hw hk hj h1 h2 h3⟩
theorem Mkd.part{k:K}{c0 f N g:Nat}{args:K→List V}{ok:K→Bool}{vs:List V}(M:Mkd st Γ deep [] s Γ)(hL:0≤st.left)(hP:pG c0 f deep args ok)(hn:4*(4-deep)+c0≤n)(hk:ok k=true)(e:∀v s2,aa prog n f (.ref 102::args k) (hp s)=some (v,hp s2)→aa prog N g vs (hp st)=some (v,hp s2)):cG deep N g vs st Γ k:=by
 have hl:=M.l0 rfl
 obtain⟨t,s2,Γ2,e1,r⟩:=hP n s Γ k hn hk M.inv (by rw[hl];exact hL)
 refine ⟨t,s2,Γ2,e _ _ e1,by rw[←M.same.g];exact r.wt,r.kind,r.dp,r.pre,r.inv,M.same.trans r.same,r.lo,?_,?_⟩
 ·rw[←hl];exact r.cnt
 ·rw[←hl];exact r.size
theorem fuel{P:Nat→Prop}{a c N:Nat}(h:a+(c+2)≤N)(f:∀m,a+(c+1)≤m+1→P (m+2)):P N:=by
 obtain⟨m,rfl⟩:∃m,N=m+2:=⟨N-2,by lia⟩
 exact f m (by lia)
end
theorem kz{P:Prog}{call:Nat→List V→H→Option (V×H)}{s:S}{r:List S}{l l1:Loc}{h h1:H}{X:Option (V×H)}(a:evS P call s l h=some (.next,l1,h1))(b:cR (bB P call r l1 h1)=X):cR (bB P call (s::r) l h)=X:=by
 rw[←b]
 show cR ((evS P call s l h).bind _)=_
 rw[a];rfl
theorem kp{deep:Nat}(hd:deep≤4)(hT:bD deep):pG 9 fs deep (fun k=>[.int k.n,.int deep]) lk:=fun N st Γ k hN hk hi hL=>
 fuel (P:=fun N=>cG deep N fs [.ref 102,.int k.n,.int deep] st Γ k) hN fun m hm=>
  (Mkd.start hd hi hL).sub hT hm .bool rfl rfl fun t1 s1 Γ1 e1 k1 M=>M.sub hT hm k hk rfl fun t2 s2 Γ2 e2 k2 M=>M.sub hT hm k hk rfl fun t3 s3 Γ3 e3 k3 M=>
   M.made (t:=.cond k t1 t2 t3) (run [.c ⟨_,_,e1⟩,.c ⟨_,_,e2⟩,.c ⟨_,_,e3⟩] (by kernel_rfl)) ⟨M.wt _ (.head _),M.wt _ (.tail _ (.head _)),M.wt _ (.tail _ (.tail _ (.head _))),k1,k2,k3,K.imp (a:=lk) (b:=dfk) rfl k hk⟩ rfl rfl (Z5 _) (Z5 _) (Z7 _)
end
section
variable{n:Nat}{st st1:PS}
theorem zg:prog.fn av=some ⟨3,7,fj⟩:=rfl
theorem q6{a b:Bool}(h:a=true)(k:b=true):(a&&b)=true:=by rw[h,k];rfl
section
variable{m:Nat}{k:K}{deep:Nat}{c:Bool}{d f:Int}{sa sb:PS}
def rh(m:Nat)(k:K)(deep:Nat)(f:Int)(c:Bool)(s:PS)(v:V)(s':PS):Prop:=cR (bB prog (aa prog (m+1)) (fj.drop 3) [some (.ref 102),some (.int k.n),some (.int deep),some (.int f),some (.int (ag c)),none,none] (hp s))=some (v,hp s')
theorem Iz(pa:Pk st 8 d sa)(pb:Pk sa 2 (ag c) sb){v:V}{s':PS}(h:(decide (k.n<7)=false∧f=d)∨(decide (k.n<7)=true∧∃b,(decide (d=0)||(decide (d=3)||(decide (d=4)||(decide (d=7)||false))))=b∧f=if b then 1 else d))(e:rh m k deep f c sb v s'):
  aa prog (m+2) av [.ref 102,.int k.n,.int deep] (hp st)=some (v,hp s'):=by
 rw[lh zg rfl]
 rcases h with ⟨h,rfl⟩|⟨h,b,hb,rfl⟩
 ·exact dQ 3 [.c ⟨_,_,pa m⟩,.c ⟨_,_,pb m⟩,fB h] (by kernel_rfl) e
 ·induction b
  ·exact dQ 3 [.c ⟨_,_,pa m⟩,.c ⟨_,_,pb m⟩,fB h,fB hb] (by kernel_rfl) e
  ·exact dQ 3 [.c ⟨_,_,pa m⟩,.c ⟨_,_,pb m⟩,fB h,fB hb] (by kernel_rfl) e
theorem Ey(h0:0≤d)(h8:d<8){P:Int→Prop}(hP:(f=0∨f=3∨f=4∨f=7→decide (k.n<7)=false)→P f)(h:(decide (k.n<7)=false∧f=d)∨(decide (k.n<7)=true∧∃b,(decide (d=0)||(decide (d=3)||(decide (d=4)||(decide (d=7)||false))))=b∧f=if b then 1 else d)):0≤f∧f<8∧P f:=by
 rcases h with ⟨h,rfl⟩|⟨h,b,hb,rfl⟩
 ·exact⟨h0,by lia,hP fun ζ=>h⟩
 ·induction b
  ·refine ⟨h0,(by show d<8;lia),hP fun g=>?_⟩
   rcases g with g|g|g|g<;>subst g<;>cases hb
  ·exact⟨(show (0:Int)≤1 by decide),(show (1:Int)<8 by decide),hP fun g=>by rcases g with g|g|g|g<;>cases g⟩
theorem Mg(hk:nk k=true)(h:decide (k.n<7)=false):a4 k=true:=K.imp (a:=fun k=>nk k&& !decide (k.n<7)) (b:=a4) rfl k (q6 hk (by rw[h];rfl))
variable{Γ:List (K×Val)}{C:Prop}
noncomputable abbrev Bf:List K:=[.i4,.u4,.i8,.u8,.chr,.i1,.u1,.i2,.u2,.enm]
noncomputable abbrev MY:List BOp:=[.add,.sub,.mul,.div,.rem,.and,.or,.xor]
theorem tT{a b:Bool}(h:(a&&b)=true):a=true:=(Z3 h).1
theorem uB{a b:Bool}(h:(a&&b)=true):b=true:=(Z3 h).2
theorem wcv{g:G}{k1:K}{t:Tr}{w:Way}{c:Bool}(h:WT g Γ t)(e:t.kind=k1)(hc:dm k k1 w=true):WT g Γ (.conv k w t c):=⟨h,by rw[e];exact hc⟩
theorem Cg{g:G}{k1 k2:K}{op:BOp}{t1 t2:Tr}{c:Bool}(h1:WT g Γ t1)(h2:WT g Γ t2)(e1:t1.kind=k1)(e2:t2.kind=k2)(hc:∀a b,fG k k1 k2 op a b):WT g Γ (.bin k op t1 t2 c):=⟨h1,h2,by rw[e1,e2];exact hc _ _⟩
theorem Ci{op:BOp}{t1 t2:Tr}{s s1 s2:PS}(hf:f=0∨f=7)(pd:Pk sb 8 d s)(eo:aJ prog (.tup (MY.map fun o=>.str o.c)) (.int d) (hp s)=some (.str op.c))(e1:aa prog (m+1) aw [.ref 102,.int k.n,.int deep] (hp s)=some (t1.v,hp s1))(e2:aa prog (m+1) aw [.ref 102,.int k.n,.int deep] (hp s1)=some (t2.v,hp s2)):rh m k deep f c sb (Tr.bin k op t1 t2 c).v s2:=by
 rcases hf with rfl|rfl<;>exact dz [.c ⟨_,_,pd m⟩,.s ⟨_,_,eo⟩,.c ⟨_,_,e1⟩,.c ⟨_,_,e2⟩] (by kernel_rfl)
theorem EF(hd:deep≤4)(hT:bD deep)(hm:4*(4-deep)+8≤m+1)(M:Mkd st Γ deep [] sb Γ)(hk:lk k=true)(ha:a4 k=true)(F:∀v s',rh m k deep f c sb v s'→aa prog (m+2) av [.ref 102,.int k.n,.int deep] (hp st)=some (v,hp s'))(hf:f=0∨f=7):cG deep (m+2) av [.ref 102,.int k.n,.int deep] st Γ k:=
 M.row oS BOp.ar MY 8 rfl rfl fun op d s ho pd eo M=>M.sub hT hm k hk rfl fun t1 s1 Γ1 e1 k1 M=>M.sub hT hm k hk rfl fun t2 s2 Γ2 e2 k2 M=>
  M.made (t:=.bin k op t1 t2 c) (F _ _ (Ci hf pd eo e1 e2)) (Cg (M.wt _ (.head _)) (M.wt _ (.tail _ (.head _))) k1 k2 fun ζ ζ=>.ar ho ha) rfl rfl (Z5 _) (Z7 _) (Z7 _)
theorem L7(hd:deep≤4)(hT:bD deep)(hm:4*(4-deep)+8≤m+1)(M:Mkd st Γ deep [] sb Γ)(hk:nke k=true)(F:∀v s',rh m k deep 1 c sb v s'→aa prog (m+2) av [.ref 102,.int k.n,.int deep] (hp st)=some (v,hp s')):cG deep (m+2) av [.ref 102,.int k.n,.int deep] st Γ k:=
 M.row kI (fun k=>nke k&&lk k) Bf 10 rfl rfl fun k1 d s h1 pd ek M=>M.sub hT hm k1 (uB h1) rfl fun t1 s1 Γ1 e1 k1 M=>
  M.made (t:=.conv k .num t1 c) (F _ _ (dz [.c ⟨_,_,pd m⟩,.s ⟨_,_,ek⟩,.c ⟨_,_,e1⟩] (by kernel_rfl))) (wcv (M.wt _ (.head _)) k1 (q6 hk (tT h1))) rfl rfl (Z5 _) (Z7 _) (Z7 _)
theorem MF(hd:deep≤4)(hT:bD deep)(hm:4*(4-deep)+8≤m+1)(M:Mkd st Γ deep [] sb Γ)(hk:lk k=true)(ha:a4 k=true)(F:∀v s',rh m k deep 3 c sb v s'→aa prog (m+2) av [.ref 102,.int k.n,.int deep] (hp st)=some (v,hp s')):cG deep (m+2) av [.ref 102,.int k.n,.int deep] st Γ k:=
 M.row oS (fun op=>decide (op=.shl)||decide (op=.shr)) [.shl,.shr] 2 rfl rfl fun op d s ho pd eo M=>M.sub hT hm k hk rfl fun t1 s1 Γ1 e1 k1 M=>M.sub hT hm .i4 rfl rfl fun t2 s2 Γ2 e2 k2 M=>
  M.made (t:=.bin k op t1 t2 c) (F _ _ (dz [.c ⟨_,_,pd m⟩,.s ⟨_,_,eo⟩,.c ⟨_,_,e1⟩,.c ⟨_,_,e2⟩] (by kernel_rfl))) (Cg (M.wt _ (.head _)) (M.wt _ (.tail _ (.head _))) k1 k2 fun ζ ζ=>.sh ho ha) rfl rfl (Z5 _) (Z7 _) (Z7 _)
theorem MO(hd:deep≤4)(hT:bD deep)(hm:4*(4-deep)+8≤m+1)(M:Mkd st Γ deep [] sb Γ)(hk:lk k=true)(ha:a4 k=true)(F:∀v s',rh m k deep 4 c sb v s'→aa prog (m+2) av [.ref 102,.int k.n,.int deep] (hp st)=some (v,hp s')):cG deep (m+2) av [.ref 102,.int k.n,.int deep] st Γ k:=
 M.u9 fun y s pd M=>M.sub hT hm k hk rfl fun t1 s1 Γ1 e1 k1 M=>by
  induction y
  ·induction hb:decide (k.n=7)||(decide (k.n=9)||false)
   ·exact M.made (t:=.un k .inv t1 c) (F _ _ (dz [.c ⟨_,_,pd m⟩,.ob,fB hb,.c ⟨_,_,e1⟩] (by kernel_rfl))) ⟨M.wt _ (.head _),k1,ha⟩ rfl rfl (Z5 _) (Z7 _) (Z7 _)
   ·have hs:=K.imp (a:=fun k=>decide (k.n=7)||(decide (k.n=9)||false)) (b:=fun k=>tc k .neg) rfl k hb
    exact M.made (t:=.un k .neg t1 c) (F _ _ (dz [.c ⟨_,_,pd m⟩,.ob,fB hb,.c ⟨_,_,e1⟩] (by kernel_rfl))) ⟨M.wt _ (.head _),k1,hs⟩ rfl rfl (Z5 _) (Z7 _) (Z7 _)
  ·exact M.made (t:=.un k .inv t1 c) (F _ _ (dz [.c ⟨_,_,pd m⟩,.c ⟨_,_,e1⟩] (by kernel_rfl))) ⟨M.wt _ (.head _),k1,ha⟩ rfl rfl (Z5 _) (Z7 _) (Z7 _)
theorem Mkd.eP{N f:Nat}{vs:List V}(M:Mkd st Γ deep [] sb Γ)(hT:bD deep)(hm:4*(4-deep)+8≤m+1)(k1:K)(w:Way)(hl:lk k1=true)(hw:dm k k1 w=true)(F:∀t1 s1,aa prog (m+1) aw [.ref 102,.int k1.n,.int deep] (hp sb)=some (Tr.v t1,hp s1)→aa prog N f vs (hp st)=some ((Tr.conv k w t1 c).v,hp s1)):cG deep N f vs st Γ k:=
 M.sub hT hm k1 hl rfl fun t1 s1 Γ1 e1 k1 M=>M.made (F t1 s1 e1) (wcv (M.wt _ (.head _)) k1 hw) rfl rfl (Z5 _) (Z7 _) (Z7 _)
theorem Mkd.as1{N f:Nat}{vs:List V}(M:Mkd st Γ deep [] sb Γ)(hT:bD deep)(hm:4*(4-deep)+8≤m+1)(k1:K)(hl:lk k1=true)(hw:u5 st.g k k1=true)(F:∀t1 s1,aa prog (m+1) aw [.ref 102,.int k1.n,.int deep] (hp sb)=some (Tr.v t1,hp s1)→aa prog N f vs (hp st)=some ((Tr.as k t1).v,hp s1)):cG deep N f vs st Γ k:=
 M.sub hT hm k1 hl rfl fun t1 s1 Γ1 e1 k1 M=>M.made (F t1 s1 e1) ⟨M.wt _ (.head _),by rw[k1];exact hw⟩ rfl rfl (Z5 _) (Z7 _) (Z7 _)
theorem y8(hd:deep≤4)(hT:bD deep)(hm9:4*(4-deep)+9≤m+1)(hm:4*(4-deep)+8≤m+1)(hL:0≤st.left)(M:Mkd st Γ deep [] sb Γ)(hk:nk k=true)(hlk:lk k=true)(f0:0≤f)(f8:f<8)(h4:f=0∨f=3∨f=4∨f=7→a4 k=true)
  (F:∀v s',rh m k deep f c sb v s'→aa prog (m+2) av [.ref 102,.int k.n,.int deep] (hp st)=some (v,hp s')):cG deep (m+2) av [.ref 102,.int k.n,.int deep] st Γ k:=
 lt8 (d:=f) (P:=fun f=>(f=0∨f=3∨f=4∨f=7→a4 k=true)→(∀v s',rh m k deep f c sb v s'→aa prog (m+2) av [.ref 102,.int k.n,.int deep] (hp st)=some (v,hp s'))→cG deep (m+2) av [.ref 102,.int k.n,.int deep] st Γ k) f0 f8
  (fun h4 F=>EF hd hT hm M hlk (h4 (.inl rfl)) F (.inl rfl))
  (fun ζ F=>L7 hd hT hm M (by unfold nke;rw[hk];rfl) F)
  (fun ζ F=>M.part hL (kp hd hT) hm9 hlk fun v s2 e=>F v s2 (dz [.c ⟨_,_,e⟩] (by kernel_rfl)))
  (fun h4 F=>MF hd hT hm M hlk (h4 (.inr (.inl rfl))) F)
  (fun h4 F=>MO hd hT hm M hlk (h4 (.inr (.inr (.inl rfl)))) F)
  (fun ζ F=>M.eP hT hm .obj .unbox rfl (K.imp (a:=nk) (b:=fun k=>dm k .obj .unbox) rfl k hk) (c:=false) fun t1 s1 e1=>F _ _ (dz [.c ⟨_,_,e1⟩] (by kernel_rfl)))
  (fun ζ F=>M.eP hT hm k .same hlk (K.imp (a:=nk) (b:=fun k=>dm k k .same) rfl k hk) (c:=false) fun t1 s1 e1=>F _ _ (dz [.c ⟨_,_,e1⟩] (by kernel_rfl)))
  (fun h4 F=>EF hd hT hm M hlk (h4 (.inr (.inr (.inr rfl)))) F (.inr rfl)) h4 F
theorem zt{deep:Nat}(hd:deep≤4)(hT:bD deep):pG 10 av deep (fun k=>[.int k.n,.int deep]) nk:=fun N st Γ k hN hk hi hL=>
 fuel (P:=fun N=>cG deep N av [.ref 102,.int k.n,.int deep] st Γ k) hN fun m hm=>
 have hlk:lk k=true:=K.imp (b:=lk) rfl k hk
 have hm8:4*(4-deep)+8≤m+1:=Nat.le_of_succ_le hm
 (Mkd.start hd hi hL).pick 8 rfl fun d sa d0 d1 pa M=>M.u9 fun c sb pb M=>by
  obtain⟨f,hf⟩:∃f:Int,(decide (k.n<7)=false∧f=d)∨(decide (k.n<7)=true∧∃b,(decide (d=0)||(decide (d=3)||(decide (d=4)||(decide (d=7)||false))))=b∧f=if b then 1 else d):=by
   induction decide (k.n<7)
   ·exact⟨d,.inl ⟨rfl,rfl⟩⟩
   ·exact⟨_,.inr ⟨rfl,_,rfl,rfl⟩⟩
  have ⟨f0,f8,h4⟩:=Ey (P:=fun f=>f=0∨f=3∨f=4∨f=7→a4 k=true) d0 d1 (fun h g=>Mg hk (h g)) hf
  have F:∀v s',rh m k deep f c sb v s'→aa prog (m+2) av [.ref 102,.int k.n,.int deep] (hp st)=some (v,hp s'):=fun v s'=>Iz pa pb hf
  clear hf
  exact y8 hd hT hm hm8 hL M hk hlk f0 f8 h4 F
end
end
section
variable{n:Nat}{st st1:PS}
noncomputable abbrev CW:List BOp:=[.eq,.ne,.lt,.gt,.le,.ge]
noncomputable abbrev I2:List K:=[.i4,.bj,.enm,.nab,.stc,.var,.cl0,.cl1,.ifc,.arr,.obj]
theorem Et{deep:Nat}(hd:deep≤4)(hT:bD deep):pG 9 jY deep (fun ζ=>[.int deep]) (fun k=>decide (k=.bool)):=fun N st Γ k hN hk hi hL=>
 have hk:k=.bool:=Z0 hk
 hk▸fuel (P:=fun N=>cG deep N jY [.ref 102,.int deep] st Γ .bool) hN fun m hm=>
 (Mkd.start hd hi hL).row oS BOp.en CW 2 rfl rfl fun op d sa ho pa eo M=>
 M.row kI (fun k=>lk k&&(alk k||decide (k=.var))) [.obj,.cl0,.var,.bj,.var] 5 rfl rfl fun k1 x sb h1 pb ek M=>
 M.u9 fun c sc pc M=>M.sub hT hm k1 (tT h1) rfl fun t1 s1 Γ1 e1 hk1 M=>by
  by_cases hv:k1=.var
  ·subst hv
   induction c
   ·exact M.made (t:=.bin .bool op t1 (.const .obj none) false) (run [.c ⟨_,_,pa m⟩,.s ⟨_,_,eo⟩,.c ⟨_,_,pb m⟩,.s ⟨_,_,ek⟩,.c ⟨_,_,pc m⟩,.c ⟨_,_,e1⟩] (by kernel_rfl)) ⟨M.wt _ (.head _),.inr rfl,by rw[hk1];exact .vo ho⟩ rfl rfl (Nat.succ_le_succ (Zi (Nat.max_zero _))) (Z7 _) (Z5 _)
   ·exact M.made (t:=.bin .bool op (.const .obj none) t1 false) (run [.c ⟨_,_,pa m⟩,.s ⟨_,_,eo⟩,.c ⟨_,_,pb m⟩,.s ⟨_,_,ek⟩,.c ⟨_,_,pc m⟩,.c ⟨_,_,e1⟩] (by kernel_rfl)) ⟨.inr rfl,M.wt _ (.head _),by rw[hk1];exact .ov ho⟩ rfl rfl (Nat.succ_le_succ (Zi (Nat.zero_max _))) (Z4 (Zi (Nat.zero_add _)) (Z7 _)) (Zi (congrArg (· +1) (Nat.add_comm 1 t1.sz)))
  ·have k19:(!decide (k1.n=19))=true:=by rw[show decide (k1.n=19)=false from Z2 fun e=>hv (K.eN (y:=.var) e)];rfl
   have ha:alk k1=true:=by have:=uB h1;rwa [Z2 hv,Bool.or_false]at this
   exact M.sub hT hm k1 (tT h1) rfl fun t2 s2 Γ2 e2 hk2 M=>M.made (t:=.bin .bool op t1 t2 false) (run [.c ⟨_,_,pa m⟩,.s ⟨_,_,eo⟩,.c ⟨_,_,pb m⟩,.s ⟨_,_,ek⟩,.c ⟨_,_,pc m⟩,.c ⟨_,_,e1⟩,fB k19,.c ⟨_,_,e2⟩] (by kernel_rfl)) (Cg (M.wt _ (.head _)) (M.wt _ (.tail _ (.head _))) hk1 hk2 (fun ζ ζ=>.eq ho ha)) rfl rfl (Z5 _) (Z7 _) (Z7 _)
end
section
variable{n:Nat}{st st1:PS}
section
variable{m:Nat}{deep:Nat}{d:Int}{sa:PS}{Γ:List (K×Val)}
theorem Dt{k:K}{op:BOp}{t1 t2:Tr}{x y:Int}{sb sc s1 s2:PS}(hd0:d=0∨d=7)(pa:Pk st 9 d sa)(pb:Pk sa 10 x sb)(ek:aJ prog (.tup (Bf.map kI)) (.int x) (hp sb)=some (.int k.n))(pc:Pk sb 6 y sc)(eo:aJ prog (.tup (CW.map oS)) (.int y) (hp sc)=some (.str op.c))(e1:aa prog (m+1) aw [.ref 102,.int k.n,.int deep] (hp sc)=some (t1.v,hp s1))(e2:aa prog (m+1) aw [.ref 102,.int k.n,.int deep] (hp s1)=some (t2.v,hp s2)):
  aa prog (m+2) a6 [.ref 102,.int deep] (hp st)=some ((Tr.bin .bool op t1 t2 false).v,hp s2):=by
 rcases hd0 with rfl|rfl<;>exact run [.c ⟨_,_,pa m⟩,.c ⟨_,_,pb m⟩,.s ⟨_,_,ek⟩,.c ⟨_,_,pc m⟩,.s ⟨_,_,eo⟩,.c ⟨_,_,e1⟩,.c ⟨_,_,e2⟩] (by kernel_rfl)
theorem CU{w:Bool}{t1 t2:Tr}{s1 s2:PS}(pa:Pk st 9 (if w then 2 else 3) sa)(e1:aa prog (m+1) aw [.ref 102,.int K.bool.n,.int deep] (hp sa)=some (t1.v,hp s1))(e2:aa prog (m+1) aw [.ref 102,.int K.bool.n,.int deep] (hp s1)=some (t2.v,hp s2)):
  aa prog (m+2) a6 [.ref 102,.int deep] (hp st)=some ((Tr.bz w t1 t2).v,hp s2):=by
 induction w<;>exact run [.c ⟨_,_,pa m⟩,.c ⟨_,_,e1⟩,.c ⟨_,_,e2⟩] (by kernel_rfl)
theorem A3(hd:deep≤4)(hT:bD deep)(hm:4*(4-deep)+8≤m+1)(M:Mkd st Γ deep [] sa Γ)(hd0:d=0∨d=7)(pa:Pk st 9 d sa):cG deep (m+2) a6 [.ref 102,.int deep] st Γ .bool:=
 M.row kI (fun k=>nke k&&lk k) Bf 10 rfl rfl fun k x sb hk pb ek M=>M.row oS BOp.cmp CW 6 rfl rfl fun op y sc ho pc eo M=>
 M.sub hT hm k (uB hk) rfl fun t1 s1 Γ1 e1 k1 M=>M.sub hT hm k (uB hk) rfl fun t2 s2 Γ2 e2 k2 M=>
  M.made (t:=.bin .bool op t1 t2 false) (Dt hd0 pa pb ek pc eo e1 e2) (Cg (M.wt _ (.head _)) (M.wt _ (.tail _ (.head _))) k1 k2 (fun ζ ζ=>.cm ho (tT hk))) rfl rfl (Z5 _) (Z7 _) (Z7 _)
theorem Ma(hd:deep≤4)(hT:bD deep)(hm:4*(4-deep)+8≤m+1)(M:Mkd st Γ deep [] sa Γ)(pa:Pk st 9 1 sa):cG deep (m+2) a6 [.ref 102,.int deep] st Γ .bool:=
 M.sub hT hm .bool rfl rfl fun t1 s1 Γ1 e1 k1 M=>M.made (t:=.un .bool .not t1 false) (run [.c ⟨_,_,pa m⟩,.c ⟨_,_,e1⟩] (by kernel_rfl)) ⟨M.wt _ (.head _),k1,rfl⟩ rfl rfl (Z5 _) (Z7 _) (Z7 _)
theorem Cv(w:Bool)(hd:deep≤4)(hT:bD deep)(hm:4*(4-deep)+8≤m+1)(M:Mkd st Γ deep [] sa Γ)(pa:Pk st 9 (if w then 2 else 3) sa):cG deep (m+2) a6 [.ref 102,.int deep] st Γ .bool:=
 M.sub hT hm .bool rfl rfl fun t1 s1 Γ1 e1 k1 M=>M.sub hT hm .bool rfl rfl fun t2 s2 Γ2 e2 k2 M=>
  M.made (t:=.bz w t1 t2) (CU pa e1 e2) ⟨M.wt _ (.head _),M.wt _ (.tail _ (.head _)),k1,k2⟩ rfl rfl (Z5 _) (Z7 _) (Z7 _)
theorem Ku(hd:deep≤4)(hT:bD deep)(hm:4*(4-deep)+8≤m+1)(M:Mkd st Γ deep [] sa Γ)(pa:Pk st 9 4 sa):cG deep (m+2) a6 [.ref 102,.int deep] st Γ .bool:=
 M.row oS (fun op=>op.log||op.en) [.and,.or,.xor,.eq,.ne] 5 rfl rfl fun op y sc ho pc eo M=>M.sub hT hm .bool rfl rfl fun t1 s1 Γ1 e1 k1 M=>M.sub hT hm .bool rfl rfl fun t2 s2 Γ2 e2 k2 M=>
  M.made (t:=.bin .bool op t1 t2 false) (run [.c ⟨_,_,pa m⟩,.c ⟨_,_,pc m⟩,.s ⟨_,_,eo⟩,.c ⟨_,_,e1⟩,.c ⟨_,_,e2⟩] (by kernel_rfl)) (Cg (M.wt _ (.head _)) (M.wt _ (.tail _ (.head _))) k1 k2 (fun ζ ζ=>(Bool.or_eq_true_iff.mp ho).elim .lg (fun h=>.eq h rfl))) rfl rfl (Z5 _) (Z7 _) (Z7 _)
theorem Pu(hd:deep≤4)(hT:bD deep)(hm:4*(4-deep)+8≤m+1)(M:Mkd st Γ deep [] sa Γ)(pa:Pk st 9 6 sa):cG deep (m+2) a6 [.ref 102,.int deep] st Γ .bool:=
 M.row kI (fun k=>xn k&&lk k) [.obj,.cl0,.i4,.nab,.var,.stc,.enm] 7 rfl rfl fun k x sb hk pb ek M=>M.row kI lok I2 11 rfl rfl fun aim y sc ha pc eo M=>
 M.sub hT hm k (uB hk) rfl fun t1 s1 Γ1 e1 k1 M=>M.made (t:=.is t1 aim) (run [.c ⟨_,_,pa m⟩,.c ⟨_,_,pb m⟩,.s ⟨_,_,ek⟩,.c ⟨_,_,pc m⟩,.s ⟨_,_,eo⟩,.c ⟨_,_,e1⟩] (by kernel_rfl)) ⟨M.wt _ (.head _),by rw[k1];exact tT hk,ha⟩ rfl rfl (Z5 _) (Z7 _) (Z7 _)
theorem B4(hd:deep≤4)(hT:bD deep):pG 10 a6 deep (fun ζ=>[.int deep]) (fun k=>decide (k=.bool)):=fun N st Γ k hN hk hi hL=>
 have hk:k=.bool:=Z0 hk
 hk▸fuel (P:=fun N=>cG deep N a6 [.ref 102,.int deep] st Γ .bool) hN fun m hm9=>
 have hm:4*(4-deep)+8≤m+1:=Nat.le_of_succ_le hm9
 (Mkd.start hd hi hL).pick 9 rfl fun d sa d0 d1 pa M=>
 lt9 (d:=d) (P:=fun d=>Pk st 9 d sa→cG deep (m+2) a6 [.ref 102,.int deep] st Γ .bool) d0 d1 (A3 hd hT hm M (.inl rfl)) (Ma hd hT hm M) (Cv true hd hT hm M) (Cv false hd hT hm M) (Ku hd hT hm M)
  (fun pa=>M.part hL (Et hd hT) hm9 (k:=.bool) rfl fun v s2 e=>run [.c ⟨_,_,pa m⟩,.c ⟨_,_,e⟩] (by kernel_rfl)) (Pu hd hT hm M) (A3 hd hT hm M (.inr rfl))
  (fun pa=>M.part hL (kp hd hT) hm9 (k:=.bool) rfl fun v s2 e=>run [.c ⟨_,_,pa m⟩,.c ⟨_,_,e⟩] (by kernel_rfl)) pa
end
end
section
variable{n:Nat}{st st1:PS}
noncomputable def tk(k:K):Bool:=lk k&& !nk k&& !decide (k=.bool)
abbrev ThP(deep m:Nat)(st:PS)(Γ:List (K×Val))(k:K):Prop:=cG deep (m+2) bF [.ref 102,.int k.n,.int deep] st Γ k
section
variable{m:Nat}{deep:Nat}{d:Int}{k:K}{sa:PS}{Γ:List (K×Val)}
theorem KP{v:V}{s2:PS}(pa:Pk st 5 d sa)(h:(decide (d=0)||decide (k.n=11))=true)(e:aa prog (m+1) fs [.ref 102,.int k.n,.int deep] (hp sa)=some (v,hp s2)):aa prog (m+2) bF [.ref 102,.int k.n,.int deep] (hp st)=some (v,hp s2):=by
 induction hb:decide (d=0)
 ·rw[hb]at h
  exact run [.c ⟨_,_,pa m⟩,fB hb,fB (show decide (k.n=11)=true from h),.c ⟨_,_,e⟩] (by kernel_rfl)
 ·exact run [.c ⟨_,_,pa m⟩,fB hb,.c ⟨_,_,e⟩] (by kernel_rfl)
theorem Jb(hd:deep≤4)(hT:bD deep)(hm9:4*(4-deep)+9≤m+1)(hL:0≤st.left)(M:Mkd st Γ deep [] sa Γ)(hk:lk k=true)(pa:Pk st 5 d sa)(h:(decide (d=0)||decide (k.n=11))=true):ThP deep m st Γ k:=
 M.part hL (kp hd hT) hm9 hk fun v s2 e=>KP pa h e
theorem rX(M:Mkd st Γ deep [] sa Γ)(hk:(decide (k=.obj)||(decide (k=.nab)||rk k))=true)(e:aa prog (m+2) bF [.ref 102,.int k.n,.int deep] (hp st)=some ((Tr.nul k).v,hp sa)):ThP deep m st Γ k:=
 M.made (t:=.nul k) e hk rfl rfl (Nat.zero_le _) (Z5 _) (Z7 _)
theorem Ff(M:Mkd st Γ deep [] sa Γ)(hk:dfk k=true)(e:aa prog (m+2) bF [.ref 102,.int k.n,.int deep] (hp st)=some ((Tr.cK k).v,hp sa)):ThP deep m st Γ k:=
 M.made (t:=.cK k) e hk rfl rfl (Nat.zero_le _) (Z5 _) (Z7 _)
theorem mS(hd:deep≤4)(hT:bD deep)(hm9:4*(4-deep)+9≤m+1)(hi:cP st Γ)(hL:0≤st.left)(hk:lk k=true)(f:∀d sa,Pk st 5 d sa→Mkd st Γ deep [] sa Γ→decide (d=0)=false→(d=1∨d=2∨d=3∨d=4)→ThP deep m st Γ k):ThP deep m st Γ k:=
 (Mkd.start hd hi hL).pick 5 rfl fun d sa d0 d1 pa M=>by
  by_cases h:d=0
  ·exact Jb hd hT hm9 hL M hk pa (by rw[Z1 h];rfl)
  ·exact f d sa pa M (Z2 h) (by clear pa M f hT hm9 hL;lia)
theorem AB(hT:bD deep)(hm:4*(4-deep)+8≤m+1)(pa:Pk st 5 d sa)(M:Mkd st Γ deep [] sa Γ)(h:d=1∨d=2∨d=3∨d=4):ThP deep m st Γ .obj:=by
 rcases h with rfl|rfl|rfl|rfl
 ·exact M.row kI (fun k=>bxk k&&lk k) [.i4,.i8,.bool,.chr,.enm,.nab,.stc,.var,.u1,.u8] 10 rfl rfl fun k1 x sb h1 pb ek M=>M.eP hT hm k1 .box (uB h1) (tT h1) (c:=false) fun t1 s1 e1=>run [.c ⟨_,_,pa m⟩,.c ⟨_,_,pb m⟩,.s ⟨_,_,ek⟩,.c ⟨_,_,e1⟩] (by kernel_rfl)
 ·exact M.row kI (fun k=>rk k&&lk k) [.bj,.cl0,.cl1,.ifc,.arr,.dlg] 6 rfl rfl fun k1 x sb h1 pb ek M=>M.eP hT hm k1 .ref (uB h1) (K.imp (a:=rk) (b:=fun k=>dm .obj k .ref) rfl k1 (tT h1)) (c:=false) fun t1 s1 e1=>run [.c ⟨_,_,pa m⟩,.c ⟨_,_,pb m⟩,.s ⟨_,_,ek⟩,.c ⟨_,_,e1⟩] (by kernel_rfl)
 ·exact M.row kI lok I2 11 rfl rfl fun k1 x sb h1 pb ek M=>M.made (t:=.conv .obj .ref (.fY k1) false) (run [.c ⟨_,_,pa m⟩,.c ⟨_,_,pb m⟩,.s ⟨_,_,ek⟩] (by kernel_rfl)) ⟨h1,rfl⟩ rfl rfl (Z5 _) (Nat.zero_le _) (Z5 _)
 ·exact rX M rfl (run [.c ⟨_,_,pa m⟩] (by kernel_rfl))
theorem nk9{d:Int}(h0:0≤d)(h1:d<9):∃k:K,(nk k&&lk k)=true∧2+d=k.n:=
 lt9 (d:=d) (P:=fun d=>∃k:K,(nk k&&lk k)=true∧2+d=k.n) h0 h1 ⟨.chr,rfl,rfl⟩ ⟨.i1,rfl,rfl⟩ ⟨.u1,rfl,rfl⟩ ⟨.i2,rfl,rfl⟩ ⟨.u2,rfl,rfl⟩ ⟨.i4,rfl,rfl⟩ ⟨.u4,rfl,rfl⟩ ⟨.i8,rfl,rfl⟩ ⟨.u8,rfl,rfl⟩
theorem Am(hT:bD deep)(hm:4*(4-deep)+8≤m+1)(pa:Pk st 5 d sa)(M:Mkd st Γ deep [] sa Γ)(h:decide (d=0)=false):ThP deep m st Γ .enm:=
 M.u9 fun c sb pb M=>M.pick 9 rfl fun x sc x0 x1 pc M=>(nk9 x0 x1).elim fun k1 h1=>M.eP hT hm k1 .num (uB h1.1) (K.imp (a:=nk) (b:=fun k=>dm .enm k .num) rfl k1 (tT h1.1)) (c:=c) fun t1 s1 e1=>
  run [.c ⟨_,_,pa m⟩,fB h,.c ⟨_,_,pb m⟩,.c ⟨_,_,pc m⟩,.c ⟨_,_,show aa prog (m+1) aw [.ref 102,.int (2+x),.int deep] (hp sc)=some (t1.v,hp s1)by rw[h1.2];exact e1⟩] (by kernel_rfl)
theorem zp(hT:bD deep)(hm:4*(4-deep)+8≤m+1)(pa:Pk st 5 d sa)(M:Mkd st Γ deep [] sa Γ)(h:d=1∨d=2∨d=3∨d=4):ThP deep m st Γ .nab:=by
 rcases h with rfl|rfl|rfl|rfl
 ·exact M.eP hT hm .obj .unbox rfl rfl (c:=false) fun t1 s1 e1=>run [.c ⟨_,_,pa m⟩,.c ⟨_,_,e1⟩] (by kernel_rfl)
 ·exact M.eP hT hm .obj .unbox rfl rfl (c:=false) fun t1 s1 e1=>run [.c ⟨_,_,pa m⟩,.c ⟨_,_,e1⟩] (by kernel_rfl)
 ·exact M.as1 hT hm .obj rfl rfl fun t1 s1 e1=>run [.c ⟨_,_,pa m⟩,.c ⟨_,_,e1⟩] (by kernel_rfl)
 ·exact rX M rfl (run [.c ⟨_,_,pa m⟩] (by kernel_rfl))
theorem yY(hT:bD deep)(hm:4*(4-deep)+8≤m+1)(pa:Pk st 5 d sa)(M:Mkd st Γ deep [] sa Γ)(h:d=1∨d=2∨d=3∨d=4):ThP deep m st Γ .stc:=by
 rcases h with rfl|rfl|rfl|rfl
 ·exact M.eP hT hm .obj .unbox rfl rfl (c:=false) fun t1 s1 e1=>run [.c ⟨_,_,pa m⟩,.c ⟨_,_,e1⟩] (by kernel_rfl)
 ·exact M.eP hT hm .obj .unbox rfl rfl (c:=false) fun t1 s1 e1=>run [.c ⟨_,_,pa m⟩,.c ⟨_,_,e1⟩] (by kernel_rfl)
 ·exact M.eP hT hm .obj .unbox rfl rfl (c:=false) fun t1 s1 e1=>run [.c ⟨_,_,pa m⟩,.c ⟨_,_,e1⟩] (by kernel_rfl)
 ·exact Ff M rfl (run [.c ⟨_,_,pa m⟩] (by kernel_rfl))
theorem Ay(hT:bD deep)(hm:4*(4-deep)+8≤m+1)(pa:Pk st 5 d sa)(M:Mkd st Γ deep [] sa Γ)(h:d=1∨d=2∨d=3∨d=4):ThP deep m st Γ .var:=by
 rcases h with rfl|rfl|rfl|rfl
 ·exact M.eP hT hm .obj .unbox rfl rfl (c:=false) fun t1 s1 e1=>run [.c ⟨_,_,pa m⟩,.c ⟨_,_,e1⟩] (by kernel_rfl)
 ·exact M.eP hT hm .obj .cast rfl rfl (c:=false) fun t1 s1 e1=>run [.c ⟨_,_,pa m⟩,.c ⟨_,_,e1⟩] (by kernel_rfl)
 ·induction hc:decide (sa.g.clo.k.n=20)
  ·exact M.eP hT hm .obj .unbox rfl rfl (c:=false) fun t1 s1 e1=>run [.c ⟨_,_,pa m⟩,.ob,.ob,.ob,.ob,.ob,.ob,.ob,.ob,.ob,fB hc,.c ⟨_,_,e1⟩] (by kernel_rfl)
  ·refine M.as1 hT hm .obj rfl ?_ fun t1 s1 e1=>run [.c ⟨_,_,pa m⟩,.ob,.ob,.ob,.ob,.ob,.ob,.ob,.ob,.ob,fB hc,.c ⟨_,_,e1⟩] (by kernel_rfl)
   have hc:=Z0 hc
   rw[M.same.g]at hc
   unfold u5
   generalize st.g.clo=q at hc⊢
   induction q<;>first|rfl|exact absurd hc (by decide)
 ·exact Ff M rfl (run [.c ⟨_,_,pa m⟩] (by kernel_rfl))
noncomputable def rfs(hk:rk k=true):List Fa:=[.ob,fB (K.imn (a:=rk) (b:=fun k=>decide (k.n=11)) rfl k hk),fB (K.imn (a:=rk) (b:=fun k=>decide (k.n=12)) rfl k hk),fB (K.imn (a:=rk) (b:=fun k=>decide (k.n=16)) rfl k hk),
 fB (K.imn (a:=rk) (b:=fun k=>decide (k.n=17)||(decide (k.n=18)||(decide (k.n=19)||false))) rfl k hk)]
noncomputable def gV(k:K):Bool:=decide (k.n=20)||(decide (k.n=22)||false)
theorem BM(hk:rk k=true)(M:Mkd st Γ deep [] sa Γ){C:Prop}(f:∀k1 s,Mkd st Γ deep [] s Γ→lk k1=true→dm k k1 .cast=true→u5 st.g k k1=true→(gV k=false∧k1=.obj∧s=sa∨gV k=true∧(k1=.obj∧Pk sa 2 0 s∨k1=.var∧Pk sa 2 1 s))→C):C:=by
 have c1:dm k .obj .cast=true:=K.imp (a:=rk) (b:=fun k=>dm k .obj .cast) rfl k hk
 have a1:u5 st.g k .obj=true:=K.imp (a:=rk) (b:=fun k=>rk k&&(decide (K.obj=.obj)||false)) rfl k hk▸ (by unfold u5;rw[hk];simp)
 induction hb:gV k
 ·exact f .obj sa M rfl c1 a1 (.inl ⟨hb,rfl,rfl⟩)
 ·exact M.u9 fun y s p M=>by
   induction y
   ·exact f .obj s M rfl c1 a1 (.inr ⟨hb,.inl ⟨rfl,p⟩⟩)
   ·refine f .var s M rfl (K.imp (a:=gV) (b:=fun k=>dm k .var .cast) rfl k hb) ?_ (.inr ⟨hb,.inr ⟨rfl,p⟩⟩)
    have:=K.imp (a:=gV) (b:=fun k=>rk k&&(decide (K.var=.var)&&(decide (k=.cl0)||decide (k=.ifc)))) rfl k hb
    unfold u5
    simp only[Bool.and_eq_true]at this
    simp[this]
theorem Eh{k1:K}{s s1:PS}{v:V}(hk:rk k=true)(pa:Pk st 5 1 sa)(h:gV k=false∧k1=.obj∧s=sa∨gV k=true∧(k1=.obj∧Pk sa 2 0 s∨k1=.var∧Pk sa 2 1 s))(e1:aa prog (m+1) aw [.ref 102,.int k1.n,.int deep] (hp s)=some (v,hp s1)):
  aa prog (m+2) bF [.ref 102,.int k.n,.int deep] (hp st)=some (.tup [.int 19,.int k.n,v,.int 3,.int 0],hp s1):=by
 rcases h with ⟨hb,rfl,rfl⟩|⟨hb,⟨rfl,p⟩|⟨rfl,p⟩⟩
 ·exact run (.c ⟨_,_,pa m⟩::(rfs hk++[.ob,.ob,fB (a:=decide (k.n=20)||(decide (k.n=22)||false)) hb,.c ⟨_,_,e1⟩])) (by kernel_rfl)
 ·exact run (.c ⟨_,_,pa m⟩::(rfs hk++[.ob,.ob,fB (a:=decide (k.n=20)||(decide (k.n=22)||false)) hb,.c ⟨_,_,p m⟩,.c ⟨_,_,e1⟩])) (by kernel_rfl)
 ·exact run (.c ⟨_,_,pa m⟩::(rfs hk++[.ob,.ob,fB (a:=decide (k.n=20)||(decide (k.n=22)||false)) hb,.c ⟨_,_,p m⟩,.c ⟨_,_,e1⟩])) (by kernel_rfl)
theorem Mh{k1:K}{s s1:PS}{v:V}(hk:rk k=true)(pa:Pk st 5 2 sa)(h:gV k=false∧k1=.obj∧s=sa∨gV k=true∧(k1=.obj∧Pk sa 2 0 s∨k1=.var∧Pk sa 2 1 s))(e1:aa prog (m+1) aw [.ref 102,.int k1.n,.int deep] (hp s)=some (v,hp s1)):
  aa prog (m+2) bF [.ref 102,.int k.n,.int deep] (hp st)=some (.tup [.int 21,.int k.n,v],hp s1):=by
 rcases h with ⟨hb,rfl,rfl⟩|⟨hb,⟨rfl,p⟩|⟨rfl,p⟩⟩
 ·exact run (.c ⟨_,_,pa m⟩::(rfs hk++[.ob,.ob,fB (a:=decide (k.n=20)||(decide (k.n=22)||false)) hb,.c ⟨_,_,e1⟩])) (by kernel_rfl)
 ·exact run (.c ⟨_,_,pa m⟩::(rfs hk++[.ob,.ob,fB (a:=decide (k.n=20)||(decide (k.n=22)||false)) hb,.c ⟨_,_,p m⟩,.c ⟨_,_,e1⟩])) (by kernel_rfl)
 ·exact run (.c ⟨_,_,pa m⟩::(rfs hk++[.ob,.ob,fB (a:=decide (k.n=20)||(decide (k.n=22)||false)) hb,.c ⟨_,_,p m⟩,.c ⟨_,_,e1⟩])) (by kernel_rfl)
theorem zv(hT:bD deep)(hm:4*(4-deep)+8≤m+1)(hk:rk k=true)(pa:Pk st 5 d sa)(M:Mkd st Γ deep [] sa Γ)(h:d=1∨d=2∨d=3∨d=4):ThP deep m st Γ k:=by
 rcases h with rfl|rfl|rfl|rfl
 ·exact BM hk M fun k1 s M hl hc ζ hq=>M.eP hT hm k1 .cast hl hc (c:=false) fun t1 s1 e1=>Eh hk pa hq e1
 ·exact BM hk M fun k1 s M hl ζ ha hq=>M.as1 hT hm k1 hl ha fun t1 s1 e1=>Mh hk pa hq e1
 ·induction hb:gV k
  ·exact rX M (K.imp (a:=rk) (b:=fun k=>decide (k=.obj)||(decide (k=.nab)||rk k)) rfl k hk) (run (.c ⟨_,_,pa m⟩::(rfs hk++[.ob,.ob,fB (a:=decide (k.n=20)||(decide (k.n=22)||false)) hb])) (by kernel_rfl))
  ·exact M.eP hT hm .cl1 .ref rfl (K.imp (a:=gV) (b:=fun k=>dm k .cl1 .ref) rfl k hb) (c:=false) fun t1 s1 e1=>run (.c ⟨_,_,pa m⟩::(rfs hk++[.ob,.ob,fB (a:=decide (k.n=20)||(decide (k.n=22)||false)) hb,.c ⟨_,_,e1⟩])) (by kernel_rfl)
 ·exact rX M (K.imp (a:=rk) (b:=fun k=>decide (k=.obj)||(decide (k=.nab)||rk k)) rfl k hk) (run (.c ⟨_,_,pa m⟩::rfs hk) (by kernel_rfl))
theorem Bj{P:K→Prop}(h:tk k=true)(hr:rk k=true→P k)(h1:P .nab)(h2:P .stc)(h3:P .var)(h4:P .obj)(h5:P .enm)(h6:P .jk):P k:=by
 induction k<;>first|assumption|exact hr rfl|exact absurd h (by decide)
theorem CQ(hd:deep≤4)(hT:bD deep):pG 10 bF deep (fun k=>[.int k.n,.int deep]) tk:=fun N st Γ k hN hk hi hL=>
 fuel (P:=fun N=>cG deep N bF [.ref 102,.int k.n,.int deep] st Γ k) hN fun m hm9=>
 have hm:4*(4-deep)+8≤m+1:=Nat.le_of_succ_le hm9
 Bj (P:=ThP deep m st Γ) hk (fun hr=>mS hd hT hm9 hi hL (K.imp (b:=lk) rfl k hr) fun d sa pa M ζ h=>zv hT hm hr pa M h)
  (mS hd hT hm9 hi hL rfl fun d sa pa M ζ h=>zp hT hm pa M h) (mS hd hT hm9 hi hL rfl fun d sa pa M ζ h=>yY hT hm pa M h) (mS hd hT hm9 hi hL rfl fun d sa pa M ζ h=>Ay hT hm pa M h)
  (mS hd hT hm9 hi hL rfl fun d sa pa M ζ h=>AB hT hm pa M h) (mS hd hT hm9 hi hL rfl fun d sa pa M h ζ=>Am hT hm pa M h)
  (mS hd hT hm9 hi hL rfl fun d sa pa M ζ ζ=>Jb hd hT hm9 hL M rfl pa (Bool.or_true _))
end
end
section
variable{n:Nat}{st st1:PS}
theorem tG:eV st (turned st):=by
 unfold turned;split<;>exact⟨rfl,rfl,rfl,rfl,rfl,rfl,rfl,rfl,rfl,rfl,Zb,Zb⟩
theorem vd:(turned st).left=st.left:=by unfold turned;split<;>rfl
set_option tactic.hygienic true in
theorem w4{Γ:List (K×Val)}(h:cP st Γ):cP (turned st) Γ:=by
 have hn:=h.nums
 unfold turned
 split
 ·exact⟨h.vals,h.vr,h.ld,h.dy,h.nums,h.cnt,h.has⟩
 ·rename_i x r hx
  rw[hx]at hn
  exact⟨h.vals,h.vr,h.ld,h.dy,Z4 (Z7 _) hn,h.cnt,h.has⟩
theorem Bm.lift{s1 s2:PS}{Γ Γ':List (K×Val)}{k:K}{m m':Nat}{L L' B B':Int}{t:Tr}(r:Bm s1 Γ k m L B t s2 Γ')(h:eV st s1)(hm:m≤m')(hL:L≤L')(hB:B'≤B):Bm st Γ k m' L' B' t s2 Γ':=
 ⟨by rw[←h.g];exact r.wt,r.kind,Z4 r.dp hm,r.pre,r.inv,h.trans r.same,Zg hB r.lo,⟨Zg r.cnt.1 hL,Zg r.cnt.2 (Int.add_le_add_left hL _)⟩,Zg r.size (Int.mul_le_mul_of_nonneg_left hL (by decide))⟩
theorem Made.lift{N f N' f':Nat}{vs vs':List V}{s1:PS}{Γ:List (K×Val)}{k:K}{m m':Nat}{L L' B B':Int}(r:Made N f vs s1 Γ k m L B)(h:eV st s1)(hm:m≤m')(hL:L≤L')(hB:B'≤B)(w:∀v s2,aa prog N f vs (hp s1)=some (v,hp s2)→aa prog N' f' vs' (hp st)=some (v,hp s2)):Made N' f' vs' st Γ k m' L' B':=
 let ⟨t,s2,Γ',e,g⟩:=r
 ⟨t,s2,Γ',w _ _ e,g.lift h hm hL hB⟩
noncomputable abbrev PS.dn(s:PS):PS:={s with left:=s.left-1}
section
variable{k:K}{deep N:Nat}{s s1 s2:PS}{v:V}
theorem Lm(tn:aa prog (N+1) de [.ref 102] (hp st)=some (.none,hp s))(h:decide (s.left-1<0)=true)(e:aa prog (N+1) aH [.ref 102,.int k.n] (hp s.dn)=some (v,hp s2)):
  aa prog (N+2) aw [.ref 102,.int k.n,.int deep] (hp st)=some (v,hp s2):=run [.c ⟨_,_,tn⟩,fB h,.c ⟨_,_,e⟩] (by kernel_rfl)
theorem GL(tn:aa prog (N+1) de [.ref 102] (hp st)=some (.none,hp s))(h:decide (s.left-1<0)=false)(e:aa prog (N+1) aH [.ref 102,.int k.n] (hp s.dn)=some (v,hp s2)):
  aa prog (N+2) aw [.ref 102,.int k.n,.int (4:Nat)] (hp st)=some (v,hp s2):=run [.c ⟨_,_,tn⟩,fB h,.c ⟨_,_,e⟩] (by kernel_rfl)
variable{d:Int}
theorem GA(tn:aa prog (N+1) de [.ref 102] (hp st)=some (.none,hp s))(h:decide (s.left-1<0)=false)(d3:decide ((3:Int)<(deep:Int))=false)(p:Pk s.dn 6 d s1)(hd:decide (d<(deep:Int))=true)(e:aa prog (N+1) aH [.ref 102,.int k.n] (hp s1)=some (v,hp s2)):
  aa prog (N+2) aw [.ref 102,.int k.n,.int deep] (hp st)=some (v,hp s2):=run [.c ⟨_,_,tn⟩,fB h,fB d3,.c ⟨_,_,p N⟩,fB hd,.c ⟨_,_,e⟩] (by kernel_rfl)
theorem EE(tn:aa prog (N+1) de [.ref 102] (hp st)=some (.none,hp s))(h:decide (s.left-1<0)=false)(d3:decide ((3:Int)<(deep:Int))=false)(p:Pk s.dn 6 d s1)(hd:decide (d<(deep:Int))=false)(e:aa prog (N+1) a6 [.ref 102,.int (deep+1:Nat)] (hp s1)=some (v,hp s2)):
  aa prog (N+2) aw [.ref 102,.int K.bool.n,.int deep] (hp st)=some (v,hp s2):=run [.c ⟨_,_,tn⟩,fB h,fB d3,.c ⟨_,_,p N⟩,fB hd,.c ⟨_,_,e⟩] (by kernel_rfl)
theorem yC{b:Bool}(tn:aa prog (N+1) de [.ref 102] (hp st)=some (.none,hp s))(h:decide (s.left-1<0)=false)(d3:decide ((3:Int)<(deep:Int))=false)(p:Pk s.dn 6 d s1)(hd:decide (d<(deep:Int))=false)(k1:decide (k.n=1)=false)(k2:decide (k.n<11)=b)(e:aa prog (N+1) (if b then av else bF) [.ref 102,.int k.n,.int (deep+1:Nat)] (hp s1)=some (v,hp s2)):
  aa prog (N+2) aw [.ref 102,.int k.n,.int deep] (hp st)=some (v,hp s2):=by
 induction b<;>exact run [.c ⟨_,_,tn⟩,fB h,fB d3,.c ⟨_,_,p N⟩,fB hd,fB k1,fB k2,.c ⟨_,_,e⟩] (by kernel_rfl)
end
set_option tactic.hygienic true in
theorem fO{deep:Nat}(hd:deep≤4)(hT:deep<4→bD (deep+1)):bD deep:=fun N st Γ k hN hk hi hL=>by
 obtain⟨n,rfl⟩:∃n,N=n+8:=⟨N-8,by lia⟩
 have tn:=HM (n:=n+6) hi.nums
 have ti:=w4 hi
 have tl:=vd (st:=st)
 have i0:cP (turned st).dn Γ:=⟨ti.vals,ti.vr,ti.ld,ti.dy,ti.nums,Zg (Int.add_le_add_left (Int.sub_le_self _ (by decide)) _) ti.cnt,ti.has⟩
 have same0:eV st (turned st).dn:=tG.trans ⟨rfl,rfl,rfl,rfl,rfl,rfl,rfl,rfl,rfl,rfl,Zb,Zb⟩
 have cn:=hi.cnt
 have fin:∀s1,Ch (turned st).dn s1→(∀v s2,aa prog (n+7) aH [.ref 102,.int k.n] (hp s1)=some (v,hp s2)→aa prog (n+8) aw [.ref 102,.int k.n,.int deep] (hp st)=some (v,hp s2))→Made (n+8) aw [.ref 102,.int k.n,.int deep] st Γ k (4-deep) st.left (min (st.left-1) (2*deep-9)):=by
  intro s1 c w
  have l1:s1.left=st.left-1:=c.left.trans (congrArg (· -1) tl)
  exact (IV (n:=n+3) hk (c.inv _ i0) (by rw[l1];clear hN i0 hd;lia) (by rw[l1];lia)).lift (same0.trans c.same) (Nat.zero_le _) (by rw[l1];exact Int.le_of_eq (Int.sub_add_cancel _ _)) (by rw[l1];exact Int.min_le_left _ _) w
 induction hneg:decide ((turned st).left-1<0)
 case true=>exact fin _ Ch.Dj fun v s2 e=>Lm tn hneg e
 by_cases h4:deep=4
 ·subst h4;exact fin _ Ch.Dj fun v s2 e=>GL tn hneg e
 ·have d3:decide ((3:Int)<(deep:Int))=false:=Z2 (by clear tn ti i0 same0 fin hN;lia)
  have p:=I4 (st:=(turned st).dn) (c:=6) rfl
  have c1:=I3 (st:=(turned st).dn) (c:=6)
  induction hdd:decide ((turned st).dn.now.fmod 6<(deep:Int))
  case true=>exact fin _ c1 fun v s2 e=>GA tn hneg d3 p hdd e
  have l1:((turned st).dn.pk 6).left=st.left-1:=congrArg (· -1) tl
  have l0:0≤((turned st).dn.pk 6).left:=Int.not_lt.mp (of_decide_eq_false hneg)
  have hd1:deep+1≤4:=by clear tn ti i0 same0 fin hN p c1;lia
  have up:∀{g:Nat} {vs:List V},cG (deep+1) (n+7) g vs ((turned st).dn.pk 6) Γ k→(∀v s2,aa prog (n+7) g vs (hp ((turned st).dn.pk 6))=some (v,hp s2)→aa prog (n+8) aw [.ref 102,.int k.n,.int deep] (hp st)=some (v,hp s2))→Made (n+8) aw [.ref 102,.int k.n,.int deep] st Γ k (4-deep) st.left (min (st.left-1) (2*deep-9)):=
   fun r w=>Made.lift r (same0.trans c1.same) (by clear tn ti i0 same0 fin hN p c1;lia) (by rw[l1];exact Int.le_of_eq (Int.sub_add_cancel _ _)) (by clear tn ti i0 same0 fin hN p c1 l0 l1;lia) w
  have hT:=hT (by clear tn ti i0 same0 fin hN p c1 up;lia)
  have i1:=c1.inv _ i0
  by_cases kb:k=.bool
  ·subst kb
   exact up (B4 hd1 hT (n+7) _ Γ .bool (by clear tn ti i0 same0 fin p c1 up l0 l1 i1;lia) rfl i1 l0) fun v s2 e=>EE tn hneg d3 p hdd e
  ·have k1:decide (k.n=1)=false:=Z2 (fun e=>kb (K.eN (y:=.bool) e))
   induction k2:decide (k.n<11)
   ·exact up (CQ hd1 hT (n+7) _ Γ k (by clear tn ti i0 same0 fin p c1 up l0 l1 i1;lia) (K.imp (a:=fun k=>lk k&& !decide (k.n<11)) (b:=tk) rfl k (q6 hk (by rw[k2];rfl))) i1 l0) fun v s2 e=>yC tn hneg d3 p hdd k1 k2 e
   ·exact up (zt hd1 hT (n+7) _ Γ k (by clear tn ti i0 same0 fin p c1 up l0 l1 i1;lia) (K.imp (a:=fun k=>decide (k.n<11)&& !decide (k.n=1)) (b:=nk) rfl k (q6 k2 (by rw[k1];rfl))) i1 l0) fun v s2 e=>yC tn hneg d3 p hdd k1 k2 e
theorem H4:bD 0:=by
 have h4:bD 4:=fO (by decide) (fun h=>absurd h (by decide))
 have h3:bD 3:=fO (by decide) (fun ζ=>h4)
 have h2:bD 2:=fO (by decide) (fun ζ=>h3)
 have h1:bD 1:=fO (by decide) (fun ζ=>h2)
 exact fO (by decide) (fun ζ=>h1)
end
section
variable{n:Nat}{st st1:PS}
set_option genCtorIdx true in
inductive B where
 |b8|b16|b32|b64
 deriving DecidableEq
noncomputable def B.w:B→Int
 |.b8=>8|.b16=>16|.b32=>32|.b64=>64
noncomputable def B.m:B→Int
 |.b8=>256|.b16=>65536|.b32=>4294967296|.b64=>18446744073709551616
noncomputable def B.h:B→Int
 |.b8=>128|.b16=>32768|.b32=>2147483648|.b64=>9223372036854775808
noncomputable def sgn(b:B)(x:Int):Int:=if b.h≤x.fmod b.m then x.fmod b.m-b.m else x.fmod b.m
noncomputable def allB:List B:=[.b8,.b16,.b32,.b64]
theorem B.mem(b:B):b∈allB:=by induction b<;>decide
theorem B.eqf{α:Type}{f g:B→α}(h:allB.map f=allB.map g):∀b,f b=g b:=fun b=>List.map_inj_left.mp h b b.mem
theorem B.on{α:Type}{f g:B→α}{c:B→Bool}(h:(allB.filter c).map f=(allB.filter c).map g):∀b,c b=true→f b=g b:=fun b hc=>List.map_inj_left.mp h b (List.mem_filter.mpr ⟨b.mem,hc⟩)
theorem B.off{α:Type}{f g:B→α}{c:B→Bool}(h:(allB.filter fun b=> !c b).map f=(allB.filter fun b=> !c b).map g):∀b,c b=false→f b=g b:=fun b hc=>B.on h b (by rw[hc];rfl)
theorem pw(b:B)(h:H):binop .pow (.int 2) (.int b.w) h=some (.int b.m,h):=by revert b;exact B.eqf (by kernel_rfl)
theorem pw1(b:B)(h:H):binop .pow (.int 2) (.int (b.w-1)) h=some (.int b.h,h):=by revert b;exact B.eqf (by kernel_rfl)
theorem B.gI(b:B):0<b.m:=by induction b<;>decide
theorem B.mh(b:B):b.m=2*b.h:=by revert b;exact B.eqf (by kernel_rfl)
theorem B.Nf(b:B):0<b.h:=by induction b<;>decide
theorem md(b:B)(x:Int)(h:H):binop .mod (.int x) (.int b.m) h=some (.int (x.fmod b.m),h):=vX b.gI
theorem eA{b:B}{x:Int}{H:H}:aa prog (n+1) fz [.int x,.int b.w] H=some (.int (sgn b x),H):=by
 unfold sgn
 by_cases hh:b.h≤x.fmod b.m
 ·rw[if_pos hh]
  refine fK [.oc,.c ⟨_,_⟩,.oc,.b ⟨_,_⟩,.oc] ?_ ⟨md b x H,congrArg some (Z1 hh),trivial⟩
  clear hh;revert b;exact @(B.eqf (by kernel_rfl))
 ·rw[if_neg hh]
  refine fK [.oc,.c ⟨_,_⟩,.oc,.b ⟨_,_⟩] ?_ ⟨md b x H,congrArg some (Z2 hh),trivial⟩
  clear hh;revert b;exact @(B.eqf (by kernel_rfl))
theorem signed64{x:Int}{H:H}:aa prog (n+1) fz [.int x,.int 64] H=some (.int (sgn .b64 x),H):=eA (b:=.b64)
theorem EK{x:Int}{H:H}:aa prog (n+1) fz [.int x,.int 32] H=some (.int (sgn .b32 x),H):=eA (b:=.b32)
structure Cell where
 tag:Int
 v:Val
 k:Int
noncomputable def Cell.val(c:Cell):V:=.tup [.int c.tag,c.v.v,.int c.k]
noncomputable def bS(p:K):Int:=match p with
 |.i8|.u8=>2
 |.bool|.chr|.i1|.u1|.i2|.u2|.i4|.u4=>1
 |.jk=>3
 |.nab|.stc=>5
 |_=>4
noncomputable def fT(p:K)(x:Int):Int:=match p with
 |.i8|.u8=>sgn .b64 x
 |.bool|.chr|.i1|.u1|.i2|.u2|.i4|.u4=>sgn .b32 x
 |_=>x
noncomputable def iZ(p:K)(v:Val):Val:=match v with
 |.int x=>.int (fT p x)
 |v=>v
noncomputable def cellOf(g:G)(k:K)(v:Val):Cell:=⟨bS (aj g k),iZ (aj g k) v,k.n⟩
section
variable{H:H}{a:Nat}{d:List (Nat×V)}{g:G}
theorem Kb{p:K}{v:Val}(h:decide (p.n<11)=false):iZ p v=v:=by
 induction v with
 |int x=>revert p;exact @(K.off (by kernel_rfl))
 |_=>rfl
theorem me{k:K}{v:Val}(hH:H[a]?=some (.aP d))(hc:au 34 d=some (.int g.clo.k.n))(hu:au 6 d=some (.int g.und.k.n))(hv:(aj g k).n<11→∃x,v=.int x):
  aa prog (n+3) uN [.ref a,.int k.n,v.v] H=some ((cellOf g k v).val,H):=by
 have u1:=jo (n:=n) (k:=k) hH hc hu
 unfold cellOf
 generalize aj g k=p at u1 hv⊢
 induction h1:decide (p.n<11)
 ·rw[Kb h1]
  refine fK [.c ⟨_,_⟩] ?_ ⟨u1,trivial⟩
  clear hv u1;revert p;exact @(K.off (by kernel_rfl))
 ·obtain⟨x,rfl⟩:=hv (Z0 h1)
  induction h2:decide (bS p=2)
  ·have h3:(decide (p.n<11)&& !decide (bS p=2))=true:=by rw[h1,h2];rfl
   refine fK [.c ⟨_,_⟩,.c ⟨_,_⟩] ?_ ⟨u1,EK (n:=n+1) (x:=x) (H:=H),trivial⟩
   clear hv u1 h1 h2;revert p;exact @(K.on (by kernel_rfl))
  ·refine fK [.c ⟨_,_⟩,.c ⟨_,_⟩] ?_ ⟨u1,signed64 (n:=n+1) (x:=x) (H:=H),trivial⟩
   clear hv u1 h1;revert p;exact @(K.on (by kernel_rfl))
end
end
section
variable{n:Nat}{st st1:PS}
theorem g5(b:B)(x:Int):(sgn b x).fmod b.m=x.fmod b.m:=by
 have hp:=b.gI
 have h1:=Zy x hp
 have h2:=Int.fmod_lt_of_pos x hp
 rw[Zn _ (Zp hp),Zn _ (Zp hp)]at*
 unfold sgn
 rw[Zn _ (Zp hp)]
 split
 ·rw[Int.sub_emod,Int.emod_self,Int.sub_zero,Int.emod_emod,Int.emod_emod]
 ·rw[Int.emod_emod]
theorem fg{m x:Int}(h:0≤x∧x<m):x.fmod m=x:=by
 rw[Zn _ (by lia)];exact Int.emod_eq_of_lt h.1 h.2
theorem ji{b:B}{x:Int}(h: -b.h≤x∧x<b.h):sgn b x=x:=by
 have hp:=b.gI
 have hm:=b.mh
 unfold sgn
 by_cases h0:0≤x
 ·rw[fg ⟨h0,by lia⟩,if_neg (by lia)]
 ·have:x.fmod b.m=x+b.m:=by
   rw[←Int.add_fmod_right,fg ⟨by lia,by lia⟩]
  rw[this,if_pos (by lia)];lia
theorem Ip(b:B)(x:Int): -b.h≤sgn b x∧sgn b x<b.h:=by
 have hp:=b.gI
 have hm:=b.mh
 have h1:=Zy x hp
 have h2:=Int.fmod_lt_of_pos x hp
 unfold sgn
 split<;>lia
section
variable{H:H}{a:Nat}{d:List (Nat×V)}{g:G}
theorem Ko{x:Int}:∀p:K,decide (bS p=1)=true→fT p x=sgn .b32 x:=K.on (by kernel_rfl)
theorem Mi{x:Int}:∀p:K,decide (bS p=2)=true→fT p x=sgn .b64 x:=K.on (by kernel_rfl)
theorem Nh{x:Int}:∀p:K,(decide (bS p=1),decide (bS p=2))=(false,false)→fT p x=x:=K.at (by kernel_rfl)
theorem A0{p:K}{x:Int}(h:loK p≤x∧x≤hiK p)(hp:(decide (p.n=8)||decide (p.n=10))=false)(hn:n11 p=true):fT p x=x:=by
 have hb:(n11 p&& !(decide (p.n=8)||decide (p.n=10)))=true:=by rw[hp,hn];rfl
 have b1:=K.imp (a:=fun p=>n11 p&& !(decide (p.n=8)||decide (p.n=10))) (b:=fun p=> !decide (bS p=1)||decide (-(B.b32).h≤loK p∧hiK p<(B.b32).h)) (by kernel_rfl) p hb
 have b2:=K.imp (a:=fun p=>n11 p&& !(decide (p.n=8)||decide (p.n=10))) (b:=fun p=> !decide (bS p=2)||decide (-(B.b64).h≤loK p∧hiK p<(B.b64).h)) (by kernel_rfl) p hb
 rcases hm:(decide (bS p=1),decide (bS p=2))with ⟨_|_,_|_⟩
 ·exact Nh p hm
 ·have e:decide (bS p=2)=true:=congrArg (·.2) hm
  rw[e]at b2
  have b:=Z0 b2
  rw[Mi p e];exact ji ⟨Zg b.1 h.1,Zz h.2 b.2⟩
 all_goals
  have e:decide (bS p=1)=true:=congrArg (·.1) hm
  rw[e]at b1
  have b:=Z0 b1
  rw[Ko p e];exact ji ⟨Zg b.1 h.1,Zz h.2 b.2⟩
theorem ni(g:G)(k:K):(aj g k).n<11→∃x,cE g k=.int x:=fun h=>by
 have:fD (az g k)=true:=by
  induction hb:fD (az g k)with
  |true=>rfl
  |false=>exact absurd (l4 hb) (by rw[K.imp (a:=fun p=>decide (p.n<11)) (b:=n11) (by kernel_rfl) _ (Z1 h)];exact Bool.noConfusion)
 exact⟨0,by unfold cE;rw[this];rfl⟩
theorem CM{k:K}{v:Val}(hv:aE g k v)(hn:n11 (aj g k)=true):∃x,v=.int x∧inR g k x:=by
 induction v with
 |int x=>exact⟨x,rfl,yU hv.2 hn⟩
 |none=>exact absurd (l4 (g:=g) (k:=k) hv) (by rw[hn];exact Bool.noConfusion)
 |ob x p id=>exact absurd (l4 (Bool.or_eq_false_iff.mp hv.1).1) (by rw[hn];exact Bool.noConfusion)
 |tok x y=>exact hv.elim
theorem rF{k:K}{v:Val}{kk:Int}(hH:H[a]?=some (.aP d))(hc:au 34 d=some (.int g.clo.k.n))(hu:au 6 d=some (.int g.und.k.n))(hv:aE g k v):
  aa prog (n+4) uW [.ref a,.int k.n,(Cell.mk (bS (aj g k)) (iZ (aj g k) v) kk).val] H=some (v.v,H):=by
 have u1:=jo (n:=n+1) (k:=k) hH hc hu
 have b1:=mO (n:=n+1) (k:=k) hH hc
 have c1:=me (n:=n) (k:=k) (v:=cE g k) hH hc hu (ni g k)
 unfold cellOf at c1
 have no:=CM hv
 have rb:∀x,v=.int x→n11 (aj g k)=true→inR g k x:=by rintro x rfl h;exact yU hv.2 h
 unfold inR at no rb
 generalize aj g k=p at u1 c1 no rb⊢
 induction h:decide (p.n=8)||decide (p.n=10)
 ·have e:iZ p v=v:=by
   induction v with
   |int x=>
    induction hn:n11 p with
    |true=>exact congrArg Val.int (A0 (rb x rfl hn) h hn)
    |false=>exact congrArg Val.int ((K.off (f:=fun p=>fT p x) (g:=fun ζ=>x) (c:=n11) (by kernel_rfl)) p hn)
   |_=>rfl
  rw[e]
  have q:=Bool.or_eq_false_iff.mp h
  exact run [.c ⟨_,_,u1⟩,.c ⟨_,_,b1⟩,.c ⟨_,_,c1⟩,fB (show (!decide (bS p=bS p))=false by rw[Z1 rfl];rfl),fB q.1,fB q.2] (by kernel_rfl)
 ·obtain⟨x,rfl,hx⟩:=no (K.imp (a:=fun p=>decide (p.n=8)||decide (p.n=10)) (b:=n11) (by kernel_rfl) p h)
  have bk:∀b:B,0≤x∧x<b.m→binop .mod (.int (sgn b x)) (.int b.m) H=some (.int x,H):=fun b h=>by rw[md,g5,fg h]
  rcases (Bool.or_eq_true _ _).mp h with h|h
  ·cases K.eN (y:=.u4) (Z0 h)
   exact run [.c ⟨_,_,u1⟩,.c ⟨_,_,b1⟩,.c ⟨_,_,c1⟩,.oc,.oc,.c ⟨_,_,bk .b32 ⟨hx.1,Int.lt_add_one_of_le hx.2⟩⟩] (by kernel_rfl)
  ·cases K.eN (y:=.u8) (Z0 h)
   exact run [.c ⟨_,_,u1⟩,.c ⟨_,_,b1⟩,.c ⟨_,_,c1⟩,.oc,.oc,.c ⟨_,_,bk .b64 ⟨hx.1,Int.lt_add_one_of_le hx.2⟩⟩] (by kernel_rfl)
end
end
section
variable{n:Nat}{st st1:PS}
structure OpI (o:Int)(w:BOp)(u:Bool):Prop where
 word:∀H,aJ prog (.cd 9) (.int o) H=some (.str w.c)
 uns:∀H,isIn prog (.int o) (prog.gl 66) H=some u
noncomputable def oK(w:BOp)(e p q:Bool):Bool:=match w with
 |.eq=>e
 |.ne=> !e
 |w=>J0 w p q
noncomputable def lF(w:BOp)(x y:Int):Bool:=oK w (decide (x=y)) (decide (x<y)) (decide (y<x))
noncomputable def uns(u:Bool)(m x:Int):Int:=if u then x.fmod m else x
noncomputable def aS:B→Int
 |.b64=>2
 |_=>1
theorem xe{b:B}(hb:b=.b32∨b=.b64)(h:H):binop .mul (.int 32) (.int (aS b)) h=some (.int b.w,h):=by
 rcases hb with rfl|rfl<;>rfl
section
variable{H:H}{a:Nat}{d:List (Nat×V)}{g:G}
theorem u3{o:Int}{w:BOp}{u:Bool}{b:B}{x y ka kb:Int}(ho:OpI o w u)(hw:w.cmp=true)(hb:b=.b32∨b=.b64):
  aa prog (n+2) dh [.ref a,.int o,(Cell.mk (aS b) (.int x) ka).val,(Cell.mk (aS b) (.int y) kb).val] H=some (.int (ag (lF w (uns u b.m x) (uns u b.m y))),H):=by
 have tl:∀(X Y:Int),cR (bB prog (aa prog (n+1)) (fX.drop 6) [some (.ref a),some (.int o),some (Cell.mk (aS b) (.int x) ka).val,some (Cell.mk (aS b) (.int y) kb).val,some (.str w.c),some (.int X),some (.int Y)] H)=some (.int (ag (lF w X Y)),H):=by
  intro X Y
  unfold lF
  rcases Int.lt_trichotomy X Y with h|h|h
  ·have z:=Z2 (Int.ne_of_lt h)
   have p:=Z1 h
   rw[z,p,Z2 (Int.not_lt.mpr (Zp h))]
   refine eU [.b ⟨_,_⟩,.b ⟨_,_⟩] ?_ ⟨congrArg some z,congrArg some p,trivial⟩
   clear ho z p h;revert w;exact @(BOp.on (by kernel_rfl))
  ·have z:=Z1 h
   rw[z,h,Z2 (Int.lt_irrefl Y)]
   refine eU [.b ⟨_,_⟩] ?_ ⟨congrArg some (h▸z),trivial⟩
   clear ho z h;revert w;exact @(BOp.on (by kernel_rfl))
  ·have z:=Z2 (Int.ne_of_gt h)
   have p:=Z2 (Int.not_lt.mpr (Zp h))
   rw[z,p,Z1 h]
   refine eU [.b ⟨_,_⟩,.b ⟨_,_⟩] ?_ ⟨congrArg some z,congrArg some p,trivial⟩
   clear ho z p h;revert w;exact @(BOp.on (by kernel_rfl))
 rw[lh (show prog.fn dh=some ⟨4,7,fX⟩from rfl) rfl]
 induction u
 ·rcases hb with rfl|rfl
  all_goals exact dQ 6 [.oc,.v ⟨_,_,ho.word H⟩,.ob,.ob,.ob,.b ⟨_,_,ho.uns H⟩] (by kernel_rfl) (tl x y)
 ·rcases hb with rfl|rfl
  ·exact dQ 6 [.oc,.v ⟨_,_,ho.word H⟩,.ob,.ob,.ob,.b ⟨_,_,ho.uns H⟩,.oc,.oc,.c ⟨_,_,md .b32 x H⟩,.oc,.oc,.c ⟨_,_,md .b32 y H⟩] (by kernel_rfl) (tl _ _)
  ·exact dQ 6 [.oc,.v ⟨_,_,ho.word H⟩,.ob,.ob,.ob,.b ⟨_,_,ho.uns H⟩,.oc,.oc,.c ⟨_,_,md .b64 x H⟩,.oc,.oc,.c ⟨_,_,md .b64 y H⟩] (by kernel_rfl) (tl _ _)
theorem uj{o:Int}{w:BOp}{u:Bool}{v z:Val}{ka kb:Int}(ho:OpI o w u)(hw:w=.eq∨w=.ne):
  aa prog (n+2) dh [.ref a,.int o,(Cell.mk 4 v ka).val,(Cell.mk 4 z kb).val] H=some (.int (ag (decide (v=z) ==decide (w=.eq))),H):=by
 have e:=jr (v:=v) (w:=z) (h:=H)
 rcases hw with rfl|rfl
 ·induction he:decide (v=z)<;>rw[he]at e<;>exact run [.oc,.v ⟨_,_,ho.word H⟩,.ob,.ob,.ob,.ob,.b ⟨_,_,e⟩] (by kernel_rfl)
 ·induction he:decide (v=z)<;>rw[he]at e<;>exact run [.oc,.v ⟨_,_,ho.word H⟩,.ob,.ob,.ob,.ob,.ob,.b ⟨_,_,e⟩] (by kernel_rfl)
theorem wg{v:Val}{ka kb:Int}:aa prog (n+2) dh [.ref a,.int 65027,(Cell.mk 4 v ka).val,(Cell.mk 4 .none kb).val] H=some (.int (ag (!decide (v=.none))),H):=by
 induction v<;>exact run [] (by kernel_rfl)
end
end
section
variable{n:Nat}{st st1:PS}
noncomputable def gz(w:BOp)(u ov:Bool)(b:B)(x y:Int):Int×Flt:=
 if w.bL=true∧uns u b.m y=0 then (x,.zero)
 else if w.bL=true∧uns u b.m y= -1∧uns u b.m x= -b.h then (x,.over)
 else (sgn b (aZ w (uns u b.m x) (uns u b.m y)),if ov=true∧¬((if u then 0 else-b.h)≤aZ w (uns u b.m x) (uns u b.m y)∧aZ w (uns u b.m x) (uns u b.m y)<(if u then 0 else-b.h)+b.m)then .over else .no)
noncomputable def shC(w:BOp)(u:Bool)(b:B)(x y:Int):Int:=if w=.shl then sgn b (x*2^y.toNat)else sgn b ((uns u b.m x).fdiv (2^y.toNat))
theorem oa{P:Prog}{call:Nat→List V→H→Option (V×H)}{i:Nat}{e:E}{l:Loc}{h h1:H}{v:V}(he:evE P call e l h=some (v,h1)):evS P call (.asg i e) l h=some (.next,l.set i (some v),h1):=by
 show (evE P call e l h).bind _=_
 rw[he];rfl
theorem fJ{P:Prog}{call:Nat→List V→H→Option (V×H)}{s:S}{r:List S}{l l1:Loc}{h h1:H}{X:Option (Flow×Loc×H)}(a:evS P call s l h=some (.next,l1,h1))(b:bB P call r l1 h1=X):bB P call (s::r) l h=X:=by
 rw[←b]
 show (evS P call s l h).bind _=_
 rw[a];rfl
section
variable{H:H}{a:Nat}{d:List (Nat×V)}{g:G}
theorem FX{o:Int}{u:Bool}{b:B}{t x ka X Y N:Int}{c:Nat}{B:V}(un:isIn prog (.int o) (prog.gl 66) H=some u)(ex:aa prog (n+2) dZ [.str c,.int X,.int Y] H=some (.int N,H))
  (s56:aa prog (n+2) g8 [.ref a,.str 56] H=some (.int 0,hA H a d 52 (.str 56))):
  cR (bB prog (aa prog (n+2)) (gh.drop 8) [some (.ref a),some (.int o),some (Cell.mk t (.int x) ka).val,some B,some (.str c),some (.int b.w),some (.int X),some (.int Y),none,none] H)
  =some ((Cell.mk t (.int (sgn b N)) ka).val,fw H a d (if decide (214≤o)=true∧¬((if u then 0 else-b.h)≤N∧N<(if u then 0 else-b.h)+b.m)then .over else .no)):=by
 have sg:∀h,aa prog (n+2) 73 [.int N,.int b.w] h=some (.int (sgn b N),h):=fun h=>eA
 induction hov:decide (214≤o)
 ·rw[if_neg fun h=>Bool.noConfusion h.1]
  exact dz [.c ⟨_,_,ex⟩,fB hov,.c ⟨_,_,sg H⟩] (by kernel_rfl)
 ·by_cases hlo:(if u then 0 else-b.h)≤N
  ·by_cases hhi:N<(if u then 0 else-b.h)+b.m
   ·rw[if_neg fun h=>h.2 ⟨hlo,hhi⟩]
    induction u
    ·exact dz [.c ⟨_,_,ex⟩,fB hov,.b ⟨_,_,un⟩,.c ⟨_,_,pw1 b H⟩,fB (Z1 hlo),.c ⟨_,_,pw b H⟩,fB (Z1 hhi),.c ⟨_,_,sg H⟩] (by kernel_rfl)
    ·exact dz [.c ⟨_,_,ex⟩,fB hov,.b ⟨_,_,un⟩,fB (Z1 hlo),.c ⟨_,_,pw b H⟩,fB (Z1 hhi),.c ⟨_,_,sg H⟩] (by kernel_rfl)
   ·rw[if_pos ⟨rfl,fun h=>hhi h.2⟩]
    induction u
    ·exact dz [.c ⟨_,_,ex⟩,fB hov,.b ⟨_,_,un⟩,.c ⟨_,_,pw1 b H⟩,fB (Z1 hlo),.c ⟨_,_,pw b H⟩,fB (Z2 hhi),.c ⟨_,_,s56⟩,.c ⟨_,_,sg (hA H a d 52 (.str 56))⟩] (by kernel_rfl)
    ·exact dz [.c ⟨_,_,ex⟩,fB hov,.b ⟨_,_,un⟩,fB (Z1 hlo),.c ⟨_,_,pw b H⟩,fB (Z2 hhi),.c ⟨_,_,s56⟩,.c ⟨_,_,sg (hA H a d 52 (.str 56))⟩] (by kernel_rfl)
  ·rw[if_pos ⟨rfl,fun h=>hlo h.1⟩]
   induction u
   ·exact dz [.c ⟨_,_,ex⟩,fB hov,.b ⟨_,_,un⟩,.c ⟨_,_,pw1 b H⟩,fB (Z2 hlo),.c ⟨_,_,s56⟩,.c ⟨_,_,sg (hA H a d 52 (.str 56))⟩] (by kernel_rfl)
   ·exact dz [.c ⟨_,_,ex⟩,fB hov,.b ⟨_,_,un⟩,fB (Z2 hlo),.c ⟨_,_,s56⟩,.c ⟨_,_,sg (hA H a d 52 (.str 56))⟩] (by kernel_rfl)
theorem LU{o:Int}{w:BOp}{u:Bool}{b:B}{x y ka kb:Int}(ho:OpI o w u)(hw:w.ar=true)(hb:b=.b32∨b=.b64)(hsh:(decide (o=98)||(decide (o=99)||(decide (o=100)||false)))=false)
  (sx:small (uns u b.m x)=true) (sy:small (uns u b.m y)=true) (hH:H[a]?=some (.aP d)) (h1:au 52 d=some (.str 0)) (hl:d.length<LIM):
  aa prog (n+3) gp [.ref a,.int o,(Cell.mk (aS b) (.int x) ka).val,(Cell.mk (aS b) (.int y) kb).val] H=some ((Cell.mk (aS b) (.int (gz w u (decide (214≤o)) b x y).1) ka).val,fw H a d (gz w u (decide (214≤o)) b x y).2):=by
 have s59:=gj (n:=n+1) (f:=.no) (c:=.zero) hH h1 hl
 have s56:=gj (n:=n+1) (f:=.no) (c:=.over) hH h1 hl
 have tl:cR (bB prog (aa prog (n+2)) (gh.drop 7) [some (.ref a),some (.int o),some (Cell.mk (aS b) (.int x) ka).val,some (Cell.mk (aS b) (.int y) kb).val,some (.str w.c),some (.int b.w),some (.int (uns u b.m x)),some (.int (uns u b.m y)),none,none] H)
   =some ((Cell.mk (aS b) (.int (gz w u (decide (214≤o)) b x y).1) ka).val,fw H a d (gz w u (decide (214≤o)) b x y).2):=by
  have ex:(w.bL=true→uns u b.m y≠0)→aa prog (n+2) dZ [.str w.c,.int (uns u b.m x),.int (uns u b.m y)] H=some (.int (aZ w (uns u b.m x) (uns u b.m y)),H):=fun h=>tI hw sx sy h
  unfold gz
  generalize uns u b.m x=X at ex⊢
  generalize uns u b.m y=Y at ex⊢
  have fin:=fun h=>FX (x:=x) (t:=aS b) (ka:=ka) (B:=(Cell.mk (aS b) (.int y) kb).val) (b:=b) (ho.uns H) (ex h) s56
  have isd:isIn prog (.str w.c) (.tup [.str 44,.str 45]) H=some w.bL:=BOp.on (f:=fun w=>isIn prog (.str w.c) (.tup [.str 44,.str 45]) H) (g:=fun w=>some w.bL) (c:=BOp.ar) (by kernel_rfl) w hw
  induction hd:w.bL
  ·rw[hd]at isd fin
   rw[if_neg fun h=>Bool.noConfusion h.1,if_neg fun h=>Bool.noConfusion h.1]
   exact dQ 1 [.b ⟨_,_,isd⟩] (by kernel_rfl) (fin fun h=>Bool.noConfusion h)
  ·rw[hd]at isd fin
   by_cases h0:Y=0
   ·subst h0
    rw[if_pos ⟨rfl,rfl⟩]
    exact dz [.b ⟨_,_,isd⟩,.ob,.ob,.c ⟨_,_,s59⟩] (by kernel_rfl)
   ·rw[if_neg fun h=>h0 h.2]
    have fin:=fin fun ζ=>h0
    by_cases hm:Y= -1
    ·by_cases hx:X= -b.h
     ·subst hm
      rw[if_pos ⟨rfl,rfl,hx⟩]
      exact dz [.b ⟨_,_,isd⟩,.ob,.ob,.c ⟨_,_,pw1 b H⟩,fB (Z1 hx),.ob,.c ⟨_,_,s56⟩] (by kernel_rfl)
     ·rw[if_neg fun h=>hx h.2.2]
      subst hm
      exact dQ 1 [.b ⟨_,_,isd⟩,.ob,.ob,.c ⟨_,_,pw1 b H⟩,fB (Z2 hx)] (by kernel_rfl) fin
    ·rw[if_neg fun h=>hm h.2.1]
     exact dQ 1 [.b ⟨_,_,isd⟩,fB (Z2 h0),fB (Z2 hm)] (by kernel_rfl) fin
 rw[lh (show prog.fn gp=some ⟨4,10,gh⟩from rfl) rfl]
 have i3:isIn prog (.int o) (.tup [.int 98,.int 99,.int 100]) H=some false:=congrArg some hsh
 induction u
 ·rcases hb with rfl|rfl
  all_goals exact dQ 7 [.oc,.v ⟨_,_,ho.word H⟩,.oc,.b ⟨_,_,i3⟩,.ob,.ob,.b ⟨_,_,ho.uns H⟩] (by kernel_rfl) tl
 ·rcases hb with rfl|rfl
  ·exact dQ 7 [.oc,.v ⟨_,_,ho.word H⟩,.oc,.b ⟨_,_,i3⟩,.ob,.ob,.b ⟨_,_,ho.uns H⟩,.oc,.c ⟨_,_,md .b32 x H⟩,.oc,.c ⟨_,_,md .b32 y H⟩] (by kernel_rfl) tl
  ·exact dQ 7 [.oc,.v ⟨_,_,ho.word H⟩,.oc,.b ⟨_,_,i3⟩,.ob,.ob,.b ⟨_,_,ho.uns H⟩,.oc,.c ⟨_,_,md .b64 x H⟩,.oc,.c ⟨_,_,md .b64 y H⟩] (by kernel_rfl) tl
end
end
section
variable{n:Nat}{st st1:PS}
section
variable{H:H}{a:Nat}{d:List (Nat×V)}{g:G}
theorem RB{y:Int}{h:Mini.Internal.H}(h0:0≤y)(h1:y<64):binop .pow (.int 2) (.int y) h=some (.int (2^y.toNat),h):=BI (rfl:small 2=true) h0 (Zg (Zp h1) (by decide))
theorem Rn{b:B}(hb:b=.b32∨b=.b64):b.w≤64:=by rcases hb with rfl|rfl<;>decide
theorem O2{o:Int}{w:BOp}{u:Bool}{b:B}{x y ka kb:Int}(ho:OpI o w u)(hb:b=.b32∨b=.b64)
  (hsh:(w=.shl∧u=false∧o=98)∨(w=.shr∧((u=false∧o=99)∨(u=true∧o=100)))) (hy:0≤y∧y<b.w):
  aa prog (n+3) gp [.ref a,.int o,(Cell.mk (aS b) (.int x) ka).val,(Cell.mk 1 (.int y) kb).val] H=some ((Cell.mk (aS b) (.int (shC w u b x y)) ka).val,H):=by
 have hb64:=Rn hb
 have py:=RB (y:=y) (h:=H) hy.1 (Zr hy.2 hb64)
 obtain⟨q1,q2⟩:=dH (m:=y.toNat) (Int.ofNat_lt.mp (Zz (Int.le_of_eq (Int.toNat_of_nonneg hy.1)) (Zr hy.2 hb64)))
 have ml:∀z,binop .mul (.int z) (.int (2^y.toNat)) H=some (.int (z*2^y.toNat),H):=fun z=>nN (by rw[q1,Bool.or_true])
 have fd:∀z,binop .fdiv (.int z) (.int (2^y.toNat)) H=some (.int (z.fdiv (2^y.toNat)),H):=fun z=>w6 q2 q1
 have sg:∀z,aa prog (n+2) 73 [.int z,.int b.w] H=some (.int (sgn b z),H):=fun z=>eA
 have tg:isIn prog (.int (aS b)) (.tup [.int 1,.int 2]) H=some true:=by rcases hb with rfl|rfl<;>rfl
 have b1:=xe hb H
 have c0:=Z1 hy.1
 have c1:=Z1 hy.2
 rcases hsh with ⟨rfl,rfl,rfl⟩|⟨rfl,⟨rfl,rfl⟩|⟨rfl,rfl⟩⟩
 ·exact run [.oc,.v ⟨_,_,ho.word H⟩,.c ⟨_,_,b1⟩,.ob,.b ⟨_,_,congrArg (·.map (!·)) tg⟩,.ob,fB c0,fB c1,.ob,.ob,.c ⟨_,_,py⟩,.c ⟨_,_,ml x⟩,.c ⟨_,_,sg (x*2^y.toNat)⟩] (by kernel_rfl)
 ·exact run [.oc,.v ⟨_,_,ho.word H⟩,.c ⟨_,_,b1⟩,.ob,.b ⟨_,_,congrArg (·.map (!·)) tg⟩,.ob,fB c0,fB c1,.ob,.ob,.c ⟨_,_,py⟩,.c ⟨_,_,fd x⟩,.c ⟨_,_,sg (x.fdiv (2^y.toNat))⟩] (by kernel_rfl)
 ·exact run [.oc,.v ⟨_,_,ho.word H⟩,.c ⟨_,_,b1⟩,.ob,.b ⟨_,_,congrArg (·.map (!·)) tg⟩,.ob,fB c0,fB c1,.ob,.c ⟨_,_,pw b H⟩,.c ⟨_,_,md b x H⟩,.ob,.c ⟨_,_,py⟩,.c ⟨_,_,fd (x.fmod b.m)⟩,.c ⟨_,_,sg ((x.fmod b.m).fdiv (2^y.toNat))⟩] (by kernel_rfl)
structure CvI (o:Int)(bb:B)(s:Bool)(how:Int):Prop where
 row:∀H,aJ prog (.cd 10) (.int o) H=some (.tup [.int bb.w,.int (ag s),.int how])
 RP:how=0∨how=1∨how=2
noncomputable def cvN(s:Bool)(how:Int)(b:B)(x:Int):Int:=if how=2∨(how=0∧s=false)then x.fmod b.m else x
noncomputable def tV(bb:B)(s:Bool):Int:=if s then-bb.h else 0
noncomputable def cvT(bb:B)(s:Bool):Int:=if bb=.b64 then 2 else 1
noncomputable def cvX(bb:B)(s:Bool)(N:Int):Int:=if s=true∨bb=.b32∨bb=.b64 then sgn bb N else N.fmod bb.m
noncomputable def cvF(bb:B)(s:Bool)(how N:Int):Flt:=if 0<how∧¬(tV bb s≤N∧N<tV bb s+bb.m)then .over else .no
theorem Co{o:Int}{bb:B}{s:Bool}{how N:Int}{A:V}{j:Option V}{h:Mini.Internal.H}:cR (bB prog (aa prog (n+2)) (fe.drop 5) [some (.ref a),some (.int o),some A,some (.int N),some (.int bb.w),some (.int (ag s)),some (.int how),j] h)=some ((Cell.mk (cvT bb s) (.int (cvX bb s N)) 0).val,h):=by
 have sg:aa prog (n+2) 73 [.int N,.int bb.w] h=some (.int (sgn bb N),h):=eA
 induction s
 ·induction hb:decide (16<bb.w)
  ·refine eU [.oc,.c ⟨_,_⟩] ?_ ⟨md bb N h,trivial⟩
   clear sg;revert bb;exact @(B.off (by kernel_rfl))
  ·refine eU [.c ⟨_,_⟩] ?_ ⟨sg,trivial⟩
   clear sg;revert bb;exact @(B.on (by kernel_rfl))
 ·refine eU [.c ⟨_,_⟩] ?_ ⟨sg,trivial⟩
  clear sg;revert bb;exact @(B.eqf (by kernel_rfl))
theorem F6{o:Int}{bb b:B}{s:Bool}{how x ka:Int}(ho:CvI o bb s how)(hb:b=.b32∨b=.b64)(hH:H[a]?=some (.aP d))(h1:au 52 d=some (.str 0))(hl:d.length<LIM):
  aa prog (n+3) lj [.ref a,.int o,(Cell.mk (aS b) (.int x) ka).val] H=some ((Cell.mk (cvT bb s) (.int (cvX bb s (cvN s how b x))) 0).val,fw H a d (cvF bb s how (cvN s how b x))):=by
 have s56:=gj (n:=n+1) (f:=.no) (c:=.over) hH h1 hl
 have row:=ho.row H
 have tg:isIn prog (.int (aS b)) (.tup [.int 1,.int 2]) H=some true:=by rcases hb with rfl|rfl<;>rfl
 have tg:=congrArg (·.map (!·)) tg
 have tl:∀N:Int,cR (bB prog (aa prog (n+2)) (fe.drop 4) [some (.ref a),some (.int o),some (Cell.mk (aS b) (.int x) ka).val,some (.int N),some (.int bb.w),some (.int (ag s)),some (.int how),none] H)=some ((Cell.mk (cvT bb s) (.int (cvX bb s N)) 0).val,fw H a d (cvF bb s how N)):=by
  intro N
  have tl:=fun j h=>Co (n:=n) (a:=a) (o:=o) (A:=(Cell.mk (aS b) (.int x) ka).val) (bb:=bb) (s:=s) (how:=how) (N:=N) (j:=j) (h:=h)
  unfold cvF
  induction hp:decide (0<how)
  ·rw[if_neg fun h=>of_decide_eq_false hp h.1]
   exact dQ 1 [fB hp] (by kernel_rfl) (tl none H)
  ·by_cases hlo:tV bb s≤N
   ·by_cases hhi:N<tV bb s+bb.m
    ·rw[if_neg fun h=>h.2 ⟨hlo,hhi⟩]
     induction s
     ·exact dQ 1 [fB hp,.ob,fB (Z1 hlo),.c ⟨_,_,pw bb H⟩,fB (Z1 hhi)] (by kernel_rfl) (tl (some (.int 0)) H)
     ·exact dQ 1 [fB hp,.ob,.c ⟨_,_,pw1 bb H⟩,fB (Z1 hlo),.c ⟨_,_,pw bb H⟩,fB (Z1 hhi)] (by kernel_rfl) (tl (some (.int (-bb.h))) H)
    ·rw[if_pos ⟨Z0 hp,fun h=>hhi h.2⟩]
     induction s
     ·exact dQ 1 [fB hp,.ob,fB (Z1 hlo),.c ⟨_,_,pw bb H⟩,fB (Z2 hhi),.c ⟨_,_,s56⟩] (by kernel_rfl) (tl (some (.int 0)) (hA H a d 52 (.str 56)))
     ·exact dQ 1 [fB hp,.ob,.c ⟨_,_,pw1 bb H⟩,fB (Z1 hlo),.c ⟨_,_,pw bb H⟩,fB (Z2 hhi),.c ⟨_,_,s56⟩] (by kernel_rfl) (tl (some (.int (-bb.h))) (hA H a d 52 (.str 56)))
   ·rw[if_pos ⟨Z0 hp,fun h=>hlo h.1⟩]
    induction s
    ·exact dQ 1 [fB hp,.ob,fB (Z2 hlo),.c ⟨_,_,s56⟩] (by kernel_rfl) (tl (some (.int 0)) (hA H a d 52 (.str 56)))
    ·exact dQ 1 [fB hp,.ob,.c ⟨_,_,pw1 bb H⟩,fB (Z2 hlo),.c ⟨_,_,s56⟩] (by kernel_rfl) (tl (some (.int (-bb.h))) (hA H a d 52 (.str 56)))
 rw[lh (show prog.fn lj=some ⟨3,8,fe⟩from rfl) rfl]
 have b1:=xe hb H
 rcases ho.RP with rfl|rfl|rfl
 ·induction s
  ·exact dQ 4 [.oc,.v ⟨_,_,row⟩,.b ⟨_,_,tg⟩,.ob,.ob,.ob,.c ⟨_,_,b1⟩,.c ⟨_,_,pw b H⟩,.c ⟨_,_,md b x H⟩] (by kernel_rfl) (tl (x.fmod b.m))
  ·exact dQ 4 [.oc,.v ⟨_,_,row⟩,.b ⟨_,_,tg⟩] (by kernel_rfl) (tl x)
 ·have e:cvN s 1 b x=x:=by induction s<;>rfl
  rw[e]
  exact dQ 4 [.oc,.v ⟨_,_,row⟩,.b ⟨_,_,tg⟩] (by kernel_rfl) (tl x)
 ·have e:cvN s 2 b x=x.fmod b.m:=by induction s<;>rfl
  rw[e]
  exact dQ 4 [.oc,.v ⟨_,_,row⟩,.b ⟨_,_,tg⟩,.ob,.c ⟨_,_,b1⟩,.c ⟨_,_,pw b H⟩,.c ⟨_,_,md b x H⟩] (by kernel_rfl) (tl (x.fmod b.m))
end
end
section
variable{n:Nat}{st st1:PS}
structure MS where
 stack:List Cell
 pc:Nat
 held:List (Option Cell)
 ws:WS
noncomputable def eX:Option Cell→V
 |none=>.none
 |some c=>c.val
noncomputable def eI(st:PS)(ws:WS):List (Nat×V):=[(6,.int st.g.und.k.n),(34,.int st.g.clo.k.n),(57,.ref (hp st).length),(52,.str ws.fault.c),(53,.int ws.made),(65,.ref 106),(66,.ref ((hp st).length+1)),(11,.ref ((hp st).length+2))]
noncomputable def I9(st:PS)(ld:List (Int×V))(s:MS):List O:=[.list (s.ws.log.map V.int),.list (s.held.map eX),.aM ld,.aP (eI st s.ws),.list (s.stack.reverse.map Cell.val)]
noncomputable def mh(st:PS)(ld:List (Int×V))(s:MS):H:=hp st++I9 st ld s
theorem d7{A B:H}{i:Nat}:(A++B)[A.length+i]?=B[i]? :=by
 rw[Zw (Z8 _ _),Nat.add_sub_cancel_left]
theorem eZ{A B:H}{i:Nat}{o:O}:(A++B).set (A.length+i) o=A++B.set i o:=by
 rw[List.set_append_right _ _ (Z8 _ _),Nat.add_sub_cancel_left]
section
variable{ld:List (Int×V)}{s:MS}
theorem Br:(mh st ld s)[(hp st).length]?=some (.list (s.ws.log.map V.int)):=d7 (i:=0)
theorem BY:(mh st ld s)[(hp st).length+1]?=some (.list (s.held.map eX)):=d7 (i:=1)
theorem DO:(mh st ld s)[(hp st).length+2]?=some (.aM ld):=d7 (i:=2)
theorem m_m:(mh st ld s)[(hp st).length+3]?=some (.aP (eI st s.ws)):=d7 (i:=3)
theorem ub:(mh st ld s)[(hp st).length+4]?=some (.list (s.stack.reverse.map Cell.val)):=d7 (i:=4)
theorem rU{i:Nat}{o:O}(h:(hp st)[i]?=some o):(mh st ld s)[i]?=some o:=by
 unfold mh;rw[Zj (Z6 h).1];exact h
theorem BX:(mh st ld s)[104]?=some (.list (st.code.map I.v)):=rU rfl
theorem Ez:(mh st ld s)[105]?=some (.aM (dE st.aO)):=rU rfl
theorem H7:(mh st ld s)[106]?=some (.list (st.locals.map K.v)):=rU rfl
theorem A9{l:List Int}:(mh st ld s).set (hp st).length (.list (l.map V.int))=mh st ld {s with ws:={s.ws with log:=l}}:=eZ (i:=0)
theorem Aw{l:List (Option Cell)}:(mh st ld s).set ((hp st).length+1) (.list (l.map eX))=mh st ld {s with held:=l}:=eZ (i:=1)
theorem tB{l:List Cell}:(mh st ld s).set ((hp st).length+4) (.list (l.reverse.map Cell.val))=mh st ld {s with stack:=l}:=eZ (i:=4)
theorem Bk{f:Flt}:hA (mh st ld s) ((hp st).length+3) (eI st s.ws) 52 (.str f.c)=mh st ld {s with ws:={s.ws with fault:=f}}:=eZ (i:=3)
theorem zr{m:Int}:hA (mh st ld s) ((hp st).length+3) (eI st s.ws) 53 (.int m)=mh st ld {s with ws:={s.ws with made:=m}}:=eZ (i:=3)
theorem cY{ws:WS}:au 34 (eI st ws)=some (.int st.g.clo.k.n):=rfl
theorem kV{ws:WS}:au 6 (eI st ws)=some (.int st.g.und.k.n):=rfl
theorem Dk{ws:WS}:au 52 (eI st ws)=some (.str ws.fault.c):=rfl
theorem jn{ws:WS}(h:ws.fault=.no):au 52 (eI st ws)=some (.str 0):=by rw[Dk,h];rfl
theorem GX{ws:WS}:au 53 (eI st ws)=some (.int ws.made):=rfl
theorem mY{ws:WS}:(eI st ws).length<LIM:=by show 8<1048576;decide
theorem RL:(hp st).length+3<(mh st ld s).length:=by
 unfold mh I9;rw[Za];simp only[List.length_cons,List.length_nil];lia
theorem l5{f:Flt}(h:s.ws.fault=.no):fw (mh st ld s) ((hp st).length+3) (eI st s.ws) f=mh st ld {s with ws:={s.ws with fault:=f}}:=by
 induction f with
 |no=>obtain⟨a,b,c,⟨d,e,f⟩⟩:=s;cases h;rfl
 |_=>exact Bk
theorem PG{c:Cell}{r:List Cell}(hs:s.stack=c::r)(hl:s.stack.length<LIM):ah prog (.ref ((hp st).length+4)) 13 [] (mh st ld s)=some (c.val,mh st ld {s with stack:=r}):=by
 have e:s.stack.reverse.map Cell.val=r.reverse.map Cell.val++[c.val]:=by rw[hs,List.reverse_cons,List.map_append];rfl
 have l:(r.reverse.map Cell.val++[c.val]).length≤LIM:=by rw[←e,Z9,List.length_reverse];exact Nat.le_of_lt hl
 exact (yr (ub.trans (by rw[e])) l).trans (by rw[tB])
theorem Mt{c:Cell}(hl:s.stack.length<LIM):ah prog (.ref ((hp st).length+4)) 8 [c.val] (mh st ld s)=some (.none,mh st ld {s with stack:=c::s.stack}):=by
 have e:s.stack.reverse.map Cell.val++[c.val]=(c::s.stack).reverse.map Cell.val:=by rw[List.reverse_cons,List.map_append];rfl
 have l:(s.stack.reverse.map Cell.val).length<LIM:=by rw[Z9,List.length_reverse];exact hl
 exact (gm ub l).trans (by rw[e,tB])
theorem Dx{m:Nat}(hm:(decide (m=8)||decide (m=13))=true):fA prog (.ref ((hp st).length+4)) m (mh st ld s)=some none:=mZ ub hm
end
def dg(st:PS)(l:Int)(pos:Nat):Prop:=au l (dE st.aO)=some (.int (pos:Int))
noncomputable def full:Val→Bool
 |.none=>false
 |.int x=> !decide (x=0)
 |_=>true
noncomputable def gH(lo:Nat→Option Int)(p:Nat)(ws:WS):WS:=match lo p with
 |some l=> {ws with log:=ws.log++[l]}
 |none=>ws
inductive Step (st:PS)(lo:Nat→Option Int):MS→MS→Prop
 |ld {p S pc h ws c k}:st.code[pc]?=some (.num 65036 (p:Nat))→h[p]?=some (some c)→st.locals[p]?=some k→Step st lo ⟨S,pc,h,ws⟩ ⟨⟨c.tag,c.v,k.n⟩::S,pc+1,h,gH lo p ws⟩
 |tP {x S pc h ws}:st.code[pc]?=some (.num 32 x)→Step st lo ⟨S,pc,h,ws⟩ ⟨⟨1,.int x,0⟩::S,pc+1,h,ws⟩
 |Nq {x S pc h ws}:st.code[pc]?=some (.num 33 x)→Step st lo ⟨S,pc,h,ws⟩ ⟨⟨2,.int x,0⟩::S,pc+1,h,ws⟩
 |br {l pos S pc h ws}:st.code[pc]?=some (.num 56 l)→dg st l pos→pc+1≤pos→Step st lo ⟨S,pc,h,ws⟩ ⟨S,pos,h,ws⟩
 |brb {o l pos S pc h ws} {c:Cell}:st.code[pc]?=some (.num o l)→(o=57∨o=58)→dg st l pos→pc+1≤pos→(c.tag=1∨c.tag=4)→Step st lo ⟨c::S,pc,h,ws⟩ ⟨S,if full c.v=decide (o=58)then pos else pc+1,h,ws⟩
 |brc {o l pos S pc h ws w u b x y ka kb}:st.code[pc]?=some (.num o l)→59≤o∧o≤68→OpI o w u→w.cmp=true→(b=.b32∨b=.b64)→dg st l pos→pc+1≤pos→
   Step st lo ⟨⟨aS b,.int y,kb⟩::⟨aS b,.int x,ka⟩::S,pc,h,ws⟩ ⟨S,if lF w (uns u b.m x) (uns u b.m y)then pos else pc+1,h,ws⟩
 |brq {o l pos S pc h ws w u v z ka kb}:st.code[pc]?=some (.num o l)→59≤o∧o≤68→OpI o w u→(w=.eq∨w=.ne)→dg st l pos→pc+1≤pos→
   Step st lo ⟨⟨4,z,kb⟩::⟨4,v,ka⟩::S,pc,h,ws⟩ ⟨S,if decide (v=z) ==decide (w=.eq)then pos else pc+1,h,ws⟩
 |cm {o S pc h ws w u b x y ka kb}:st.code[pc]?=some (.op o)→65025≤o∧o≤65029→OpI o w u→w.cmp=true→(b=.b32∨b=.b64)→
   Step st lo ⟨⟨aS b,.int y,kb⟩::⟨aS b,.int x,ka⟩::S,pc,h,ws⟩ ⟨⟨1,.int (ag (lF w (uns u b.m x) (uns u b.m y))),0⟩::S,pc+1,h,ws⟩
 |cmq {S pc h ws v z ka kb}:st.code[pc]?=some (.op 65025)→Step st lo ⟨⟨4,z,kb⟩::⟨4,v,ka⟩::S,pc,h,ws⟩ ⟨⟨1,.int (ag (decide (v=z))),0⟩::S,pc+1,h,ws⟩
 |cmn {S pc h ws v ka kb}:st.code[pc]?=some (.op 65027)→Step st lo ⟨⟨4,.none,kb⟩::⟨4,v,ka⟩::S,pc,h,ws⟩ ⟨⟨1,.int (ag (!decide (v=.none))),0⟩::S,pc+1,h,ws⟩
 |two {o S pc h ws w u b x y ka kb}:st.code[pc]?=some (.op o)→88≤o∧o≤219∧(o≤97∨214≤o)→OpI o w u→w.ar=true→(b=.b32∨b=.b64)→small (uns u b.m x)=true→small (uns u b.m y)=true→
   Step st lo ⟨⟨aS b,.int y,kb⟩::⟨aS b,.int x,ka⟩::S,pc,h,ws⟩ ⟨⟨aS b,.int (gz w u (decide (214≤o)) b x y).1,ka⟩::S,pc+1,h,{ws with fault:=(gz w u (decide (214≤o)) b x y).2}⟩
 |sh {o S pc h ws w u b x y ka kb}:st.code[pc]?=some (.op o)→((w=.shl∧u=false∧o=98)∨(w=.shr∧((u=false∧o=99)∨(u=true∧o=100))))→(b=.b32∨b=.b64)→0≤y∧y<b.w→
   Step st lo ⟨⟨1,.int y,kb⟩::⟨aS b,.int x,ka⟩::S,pc,h,ws⟩ ⟨⟨aS b,.int (shC w u b x y),ka⟩::S,pc+1,h,ws⟩
 |cv {o S pc h ws bb s how b x ka}:st.code[pc]?=some (.op o)→103≤o∧o≤210→CvI o bb s how→(b=.b32∨b=.b64)→
   Step st lo ⟨⟨aS b,.int x,ka⟩::S,pc,h,ws⟩ ⟨⟨cvT bb s,.int (cvX bb s (cvN s how b x)),0⟩::S,pc+1,h,{ws with fault:=cvF bb s how (cvN s how b x)}⟩
 |neg {o S pc h ws b x ka}:st.code[pc]?=some (.op o)→(o=101∨o=102)→(b=.b32∨b=.b64)→Step st lo ⟨⟨aS b,.int x,ka⟩::S,pc,h,ws⟩ ⟨⟨aS b,.int (sgn b (if o=101 then-x else-1-x)),0⟩::S,pc+1,h,ws⟩
 |pop {S pc h ws} {c:Cell}:st.code[pc]?=some (.op 38)→Step st lo ⟨c::S,pc,h,ws⟩ ⟨S,pc+1,h,ws⟩
 |stl {p S pc h ws v kk k}:st.code[pc]?=some (.num 65038 (p:Nat))→st.locals[p]?=some k→aE st.g k v→p<h.length→
   Step st lo ⟨⟨bS (aj st.g k),iZ (aj st.g k) v,kk⟩::S,pc,h,ws⟩ ⟨S,pc+1,h.set p (some ⟨bS (aj st.g k),iZ (aj st.g k) v,kk⟩),ws⟩
 |qk {S pc h ws}:st.code[pc]?=some (.op 20)→Step st lo ⟨S,pc,h,ws⟩ ⟨⟨4,.none,14⟩::S,pc+1,h,ws⟩
 |JH {c S pc h ws}:st.code[pc]?=some (.str c)→Step st lo ⟨S,pc,h,ws⟩ ⟨⟨4,.ob .bj (.s c) 0,13⟩::S,pc+1,h,ws⟩
 |Jl {k S pc h ws}:st.code[pc]?=some (.kind 208 k)→Step st lo ⟨S,pc,h,ws⟩ ⟨⟨3,.tok k (az st.g k),11⟩::S,pc+1,h,ws⟩
 |call {k k' kk S pc h ws}:st.code[pc]?=some .call→Step st lo ⟨⟨3,.tok k k',kk⟩::S,pc,h,ws⟩ ⟨⟨4,.ob .typ (.i k'.n) 0,25⟩::S,pc+1,h,ws⟩
 |Dm {p S pc h ws}:st.code[pc]?=some (.num 65037 (p:Nat))→Step st lo ⟨S,pc,h,ws⟩ ⟨⟨6,.int (p:Nat),0⟩::S,pc+1,h,ws⟩
 |xR {p k kk S pc h ws}:st.code[pc]?=some (.kind 65045 k)→st.locals[p]?=some k→p<h.length→Step st lo ⟨⟨6,.int (p:Nat),kk⟩::S,pc,h,ws⟩ ⟨S,pc+1,h.set p (some (cellOf st.g k (cE st.g k))),ws⟩
 |box {k v kk S pc h ws}:st.code[pc]?=some (.kind 140 k)→aE st.g k v→Step st lo ⟨⟨bS (aj st.g k),iZ (aj st.g k) v,kk⟩::S,pc,h,ws⟩ ⟨⟨4,(bH st.g k v ws.made).1,k.n⟩::S,pc+1,h,{ws with made:=(bH st.g k v ws.made).2}⟩
 |Jm {x kk S pc h ws}:st.code[pc]?=some (.op 211)→Step st lo ⟨⟨1,.int x,kk⟩::S,pc,h,ws⟩ ⟨⟨3,.int x,11⟩::S,pc+1,h,ws⟩
 |unbox {k v kk S pc h ws}:st.code[pc]?=some (.kind 165 k)→aE st.g .obj v→Step st lo ⟨⟨4,v,kk⟩::S,pc,h,ws⟩ ⟨cellOf st.g k (aG st.g k v).1::S,pc+1,h,{ws with fault:=(aG st.g k v).2}⟩
 |cast {k v kk S pc h ws}:st.code[pc]?=some (.kind 116 k)→rk k=true→aE st.g .obj v→Step st lo ⟨⟨4,v,kk⟩::S,pc,h,ws⟩ ⟨⟨4,(aG st.g k v).1,k.n⟩::S,pc+1,h,{ws with fault:=(aG st.g k v).2}⟩
 |Bu {k v kk S pc h ws}:st.code[pc]?=some (.kind 117 k)→k≠.nab→aE st.g .obj v→Step st lo ⟨⟨4,v,kk⟩::S,pc,h,ws⟩ ⟨⟨4,if isV st.g k v then v else .none,k.n⟩::S,pc+1,h,ws⟩
end
section
variable{n:Nat}{st st1:PS}
noncomputable def MA:S→List S
 |.wh _ b=>b
 |_=>[]
noncomputable def LS:S→C
 |.wh c _=>c
 |_=>.e (.cst .none)
noncomputable def qt:List S:=MA (eE.getD 2 .bad)
noncomputable def qj:C:=LS (eE.getD 2 .bad)
noncomputable abbrev rl(st:PS)(pc:Nat)(j5 j6 j7 j8:Option V):Loc:=[some (.ref ((hp st).length+3)),some (.ref 104),some (.ref 105),some (.ref ((hp st).length+4)),some (.int pc),j5,j6,j7,j8]
def TurnOk(n:Nat)(st:PS)(ld:List (Int×V))(s s':MS):Prop:=∀j5 j6 j7 j8,(bB prog (aa prog n) qt (rl st s.pc j5 j6 j7 j8) (mh st ld s)).bind (fun x=>some (DA x))=some (.next,(rl st s'.pc none none none none).take 5,9,mh st ld s')
theorem fh{i:Nat}(h:i<100000):idx (i:Int)=true:=by
 have h1:(0:Int)≤(i:Int):=Int.natCast_nonneg i
 have h2:(i:Int)<4611686018427387904:=by lia
 unfold idx
 rw[Z1 h1,Z1 h2];rfl
structure MOk (st:PS)(lo:Nat→Option Int)(ld:List (Int×V))(s:MS):Prop where
 code:st.code.length<100000
 loc:st.locals.length<1000
 stack:s.stack.length<200000
 log:s.ws.log.length<200000
 held:s.held.length<1000
 eG:∀p:Nat,au (p:Int) ld=(lo p).map V.int
 flt:s.ws.fault=.no
theorem rP{m:Nat}(h:m<200000):m<LIM:=wV (Nat.lt_trans h (by decide))
theorem dF{c:Cell}{S:List Cell}(h:(c::S).length<200000):S.length<200000:=Nat.lt_of_succ_lt h
section
variable{lo:Nat→Option Int}{ld:List (Int×V)}{s:MS}{S:List Cell}{pc:Nat}{h:List (Option Cell)}{ws:WS}{c:Cell}
theorem jq{c:Nat}{v:V}(h:au c (eI st s.ws)=some v):aJ prog (.ref ((hp st).length+3)) (.str c) (mh st ld s)=some v:=bp m_m h
theorem Gk{p:Nat}{c:Option Cell}(hp':p<100000)(h:s.held[p]?=some c):aJ prog (.ref ((hp st).length+1)) (.int p) (mh st ld s)=some (eX c):=gr BY (fh hp') (by rw[Int.toNat_natCast,Zu,h];rfl)
theorem l7{p:Nat}{k:K}(hp':p<100000)(h:st.locals[p]?=some k):aJ prog (.ref 106) (.int p) (mh st ld s)=some (.int k.n):=gr H7 (fh hp') (by rw[Int.toNat_natCast,Zu,h];rfl)
theorem mH{l:Int}{pos:Nat}(h:dg st l pos):ah prog (.ref 105) 2 [.int l,.int 0] (mh st ld s)=some (.int (pos:Int),mh st ld s):=wy Ez (by rw[show au l (dE st.aO)=some (.int (pos:Int))from h];rfl)
theorem tR{p:Nat}{c:Cell}(hp':p<100000)(h:p<s.held.length):subset prog (.ref ((hp st).length+1)) (.int p) c.val (mh st ld s)=some (mh st ld {s with held:=s.held.set p (some c)}):=
 (xj BY (fh hp') (by rw[Int.toNat_natCast,Z9];exact h)).trans (by rw[Int.toNat_natCast,show (s.held.map eX).set p c.val=(s.held.set p (some c)).map eX by rw[List.map_set];rfl,Aw])
theorem Dd{l:Int}(h:s.ws.log.length<200000):ah prog (.ref (hp st).length) 8 [.int l] (mh st ld s)=some (.none,mh st ld {s with ws:={s.ws with log:=s.ws.log++[l]}}):=
 (gm Br (by rw[Z9];exact rP h)).trans (by rw[show s.ws.log.map V.int++[.int l]=(s.ws.log++[l]).map V.int by rw[List.map_append];rfl,A9])
noncomputable def ft{i:I}(hi:st.code[pc]?=some i)(ok:MOk st lo ld ⟨S,pc,h,ws⟩):Fa:=.v ⟨aJ prog (.ref 104) (.int pc) (mh st ld ⟨S,pc,h,ws⟩),some i.v,gr BX (fh (Nat.lt_trans (Z6 hi).1 ok.code)) (by rw[Int.toNat_natCast,Zu,hi];rfl)⟩
noncomputable def srt(st:PS)(ld:List (Int×V))(s:MS):Fa:=.o ⟨_,_,Dx (st:=st) (ld:=ld) (s:=s) (m:=8) rfl⟩
noncomputable def po(st:PS)(ld:List (Int×V))(pc:Nat)(h:List (Option Cell))(ws:WS)(hl:(c::S).length<200000):List Fa:=[.o ⟨_,_,Dx (st:=st) (ld:=ld) (s:=⟨c::S,pc,h,ws⟩) (m:=13) rfl⟩,.c ⟨_,_,PG (st:=st) (ld:=ld) (s:=⟨c::S,pc,h,ws⟩) rfl (rP hl)⟩]
noncomputable def psh(st:PS)(ld:List (Int×V))(pc:Nat)(h:List (Option Cell))(ws:WS)(c:Cell)(hl:S.length<200000):Fa:=.c ⟨_,_,Mt (st:=st) (ld:=ld) (s:=⟨S,pc,h,ws⟩) (c:=c) (rP hl)⟩
theorem Qt{c:Cell}(hi:st.code[pc]?=some (.op 38))(ok:MOk st lo ld ⟨c::S,pc,h,ws⟩):TurnOk (n+10) st ld ⟨c::S,pc,h,ws⟩ ⟨S,pc+1,h,ws⟩:=
 fun ζ ζ ζ ζ=>runK (ft hi ok::.oc::.oc::po st ld pc h ws ok.stack) (by kernel_rfl)
theorem Jq{o x}(ho:o=32∨o=33)(hi:st.code[pc]?=some (.num o x))(ok:MOk st lo ld ⟨S,pc,h,ws⟩):
  TurnOk (n+10) st ld ⟨S,pc,h,ws⟩ ⟨⟨o-31,.int x,0⟩::S,pc+1,h,ws⟩:=by
 rcases ho with rfl|rfl
 ·exact fun ζ ζ ζ ζ=>runK [ft hi ok,srt st ld ⟨S,pc,h,ws⟩,psh st ld pc h ws ⟨32-31,.int x,0⟩ ok.stack] (by kernel_rfl)
 ·exact fun ζ ζ ζ ζ=>runK [ft hi ok,srt st ld ⟨S,pc,h,ws⟩,psh st ld pc h ws ⟨33-31,.int x,0⟩ ok.stack] (by kernel_rfl)
end
end
section
variable{n:Nat}{st st1:PS}
section
variable{lo:Nat→Option Int}{ld:List (Int×V)}{s:MS}{S:List Cell}{pc:Nat}{h:List (Option Cell)}{ws:WS}{c:Cell}
theorem B8(hi:st.code[pc]?=some (.op 20))(ok:MOk st lo ld ⟨S,pc,h,ws⟩):TurnOk (n+10) st ld ⟨S,pc,h,ws⟩ ⟨⟨4,.none,14⟩::S,pc+1,h,ws⟩:=
 fun ζ ζ ζ ζ=>runK [ft hi ok,.oc,.oc,.il,srt st ld ⟨S,pc,h,ws⟩,psh st ld pc h ws ⟨4,.none,14⟩ ok.stack] (by kernel_rfl)
theorem Gn{c:Nat}(hi:st.code[pc]?=some (.str c))(ok:MOk st lo ld ⟨S,pc,h,ws⟩):TurnOk (n+10) st ld ⟨S,pc,h,ws⟩ ⟨⟨4,.ob .bj (.s c) 0,13⟩::S,pc+1,h,ws⟩:=
 fun ζ ζ ζ ζ=>runK [ft hi ok,.oc,.oc,.il,srt st ld ⟨S,pc,h,ws⟩,psh st ld pc h ws ⟨4,.ob .bj (.s c) 0,13⟩ ok.stack] (by kernel_rfl)
theorem Ee{p:Nat}(hi:st.code[pc]?=some (.num 65037 (p:Nat)))(ok:MOk st lo ld ⟨S,pc,h,ws⟩):TurnOk (n+10) st ld ⟨S,pc,h,ws⟩ ⟨⟨6,.int (p:Nat),0⟩::S,pc+1,h,ws⟩:=
 fun ζ ζ ζ ζ=>runK [ft hi ok,.oc,.oc,.il,srt st ld ⟨S,pc,h,ws⟩,psh st ld pc h ws ⟨6,.int (p:Nat),0⟩ ok.stack] (by kernel_rfl)
theorem GH{k:K}(hi:st.code[pc]?=some (.kind 208 k))(ok:MOk st lo ld ⟨S,pc,h,ws⟩):TurnOk (n+10) st ld ⟨S,pc,h,ws⟩ ⟨⟨3,.tok k (az st.g k),11⟩::S,pc+1,h,ws⟩:=
 fun ζ ζ ζ ζ=>runK [ft hi ok,.oc,.oc,.il,srt st ld ⟨S,pc,h,ws⟩,.c ⟨_,_,dK (n:=n+8) (k:=k) (g:=st.g) (m_m (ld:=ld) (s:=⟨S,pc,h,ws⟩)) cY⟩,psh st ld pc h ws ⟨3,.tok k (az st.g k),11⟩ ok.stack] (by kernel_rfl)
theorem Li{k k':K}{kk:Int}(hi:st.code[pc]?=some .call)(ok:MOk st lo ld ⟨⟨3,.tok k k',kk⟩::S,pc,h,ws⟩):TurnOk (n+10) st ld ⟨⟨3,.tok k k',kk⟩::S,pc,h,ws⟩ ⟨⟨4,.ob .typ (.i k'.n) 0,25⟩::S,pc+1,h,ws⟩:=
 fun ζ ζ ζ ζ=>runK (ft hi ok::.oc::.oc::.il::(po st ld pc h ws ok.stack++[srt st ld ⟨S,pc,h,ws⟩,psh st ld pc h ws ⟨4,.ob .typ (.i k'.n) 0,25⟩ (dF ok.stack)])) (by kernel_rfl)
theorem IE{x kk:Int}(hi:st.code[pc]?=some (.op 211))(ok:MOk st lo ld ⟨⟨1,.int x,kk⟩::S,pc,h,ws⟩):TurnOk (n+10) st ld ⟨⟨1,.int x,kk⟩::S,pc,h,ws⟩ ⟨⟨3,.int x,11⟩::S,pc+1,h,ws⟩:=
 fun ζ ζ ζ ζ=>runK (ft hi ok::.oc::.oc::.il::(po st ld pc h ws ok.stack++[srt st ld ⟨S,pc,h,ws⟩,psh st ld pc h ws ⟨3,.int x,11⟩ (dF ok.stack)])) (by kernel_rfl)
theorem RU{l:Int}{pos:Nat}(hi:st.code[pc]?=some (.num 56 l))(hl:dg st l pos)(hp:pc+1≤pos)(ok:MOk st lo ld ⟨S,pc,h,ws⟩):TurnOk (n+10) st ld ⟨S,pc,h,ws⟩ ⟨S,pos,h,ws⟩:=by
 have lt:decide ((pos:Int)<(pc:Int)+1)=false:=Z2 (Int.not_lt.mpr (Int.ofNat_le.mpr hp))
 exact fun ζ ζ ζ ζ=>runK [ft hi ok,.c ⟨_,_,mH (ld:=ld) (s:=⟨S,pc,h,ws⟩) hl⟩,fB lt,.c ⟨_,_,mH (ld:=ld) (s:=⟨S,pc,h,ws⟩) hl⟩] (by kernel_rfl)
theorem N5{o x ka:Int}{b:B}(hi:st.code[pc]?=some (.op o))(ho:o=101∨o=102)(hb:b=.b32∨b=.b64)(ok:MOk st lo ld ⟨⟨aS b,.int x,ka⟩::S,pc,h,ws⟩):
  TurnOk (n+10) st ld ⟨⟨aS b,.int x,ka⟩::S,pc,h,ws⟩ ⟨⟨aS b,.int (sgn b (if o=101 then-x else-1-x)),0⟩::S,pc+1,h,ws⟩:=by
 have sg:=fun z=>eA (n:=n+9) (b:=b) (x:=z) (H:=mh st ld ⟨S,pc,h,ws⟩)
 rcases ho with rfl|rfl<;>rcases hb with rfl|rfl
 ·exact fun ζ ζ ζ ζ=>runK (ft hi ok::.oc::.oc::(po st ld pc h ws ok.stack++[srt st ld ⟨S,pc,h,ws⟩,.oc,.c ⟨_,_,sg (-x)⟩,psh st ld pc h ws ⟨1,.int (sgn .b32 (-x)),0⟩ (dF ok.stack)])) (by kernel_rfl)
 ·exact fun ζ ζ ζ ζ=>runK (ft hi ok::.oc::.oc::(po st ld pc h ws ok.stack++[srt st ld ⟨S,pc,h,ws⟩,.oc,.c ⟨_,_,sg (-x)⟩,psh st ld pc h ws ⟨2,.int (sgn .b64 (-x)),0⟩ (dF ok.stack)])) (by kernel_rfl)
 ·exact fun ζ ζ ζ ζ=>runK (ft hi ok::.oc::.oc::(po st ld pc h ws ok.stack++[srt st ld ⟨S,pc,h,ws⟩,.oc,.c ⟨_,_,sg (-1-x)⟩,psh st ld pc h ws ⟨1,.int (sgn .b32 (-1-x)),0⟩ (dF ok.stack)])) (by kernel_rfl)
 ·exact fun ζ ζ ζ ζ=>runK (ft hi ok::.oc::.oc::(po st ld pc h ws ok.stack++[srt st ld ⟨S,pc,h,ws⟩,.oc,.c ⟨_,_,sg (-1-x)⟩,psh st ld pc h ws ⟨2,.int (sgn .b64 (-1-x)),0⟩ (dF ok.stack)])) (by kernel_rfl)
end
end
section
variable{n:Nat}{st st1:PS}
section
variable{lo:Nat→Option Int}{ld:List (Int×V)}{s:MS}{S:List Cell}{pc:Nat}{h:List (Option Cell)}{ws:WS}{c:Cell}
theorem OY{k:K}{v:Val}(hv:aE st.g k v):aa prog (n+2) eL [.ref ((hp st).length+3),.int k.n,v.v] (mh st ld s)=some ((bH st.g k v s.ws.made).1.v,mh st ld {s with ws:={s.ws with made:=(bH st.g k v s.ws.made).2}}):=
 match v,hv with
 |.tok a b,hv=>hv.elim
 |.int x,hv=>(xl (g:=st.g) m_m RL cY GX rfl mY hv.1).trans (by rw[zr,show bH st.g k (.int x) s.ws.made=_ from if_pos hv.1])
 |.none,hv=>by
  by_cases hf:az st.g k=.nab
  ·exact ur (g:=st.g) m_m cY hf
  ·exact mA (g:=st.g) m_m cY (by unfold aW;rw[show fD _=false from hv,Z2 hf];rfl)
 |.ob x p id,hv=>mA (g:=st.g) m_m cY hv.1
theorem xf{k:K}{v:Val}(h:s.ws.fault=.no)(hv:aE st.g .obj v):aa prog (n+3) dY [.ref ((hp st).length+3),.int k.n,v.v] (mh st ld s)=some ((aG st.g k v).1.v,mh st ld {s with ws:={s.ws with fault:=(aG st.g k v).2}}):=
 match v,hv with
 |.tok a b,hv=>hv.elim
 |.int x,hv=>absurd hv.1 Zc
 |.none,_=>(nj (g:=st.g) m_m cY (jn h) mY).trans (by rw[l5 h])
 |.ob x p id,hv=>(tM (g:=st.g) m_m cY (jn h) mY (xK hv.2.2)).trans (by rw[l5 h])
theorem O9{p:Nat}{v:Val}{kk:Int}{k:K}(hi:st.code[pc]?=some (.num 65038 (p:Nat)))(hk:st.locals[p]?=some k)(hv:aE st.g k v)(hl:p<h.length)(ok:MOk st lo ld ⟨⟨bS (aj st.g k),iZ (aj st.g k) v,kk⟩::S,pc,h,ws⟩):
  TurnOk (n+10) st ld ⟨⟨bS (aj st.g k),iZ (aj st.g k) v,kk⟩::S,pc,h,ws⟩ ⟨S,pc+1,h.set p (some ⟨bS (aj st.g k),iZ (aj st.g k) v,kk⟩),ws⟩:=by
 have hp':p<100000:=Nat.lt_trans (Z6 hk).1 (Nat.lt_trans ok.loc (by decide))
 exact fun ζ ζ ζ ζ=>runK (ft hi ok::.oc::.oc::(po st ld pc h ws ok.stack++[.v ⟨_,_,jq (st:=st) (ld:=ld) (s:=⟨S,pc,h,ws⟩) (c:=65) rfl⟩,.v ⟨_,_,l7 (st:=st) (ld:=ld) (s:=⟨S,pc,h,ws⟩) hp' hk⟩,.c ⟨_,_,rF (n:=n+6) (kk:=kk) (m_m (st:=st) (ld:=ld) (s:=⟨S,pc,h,ws⟩)) cY kV hv⟩,.v ⟨_,_,jq (st:=st) (ld:=ld) (s:=⟨S,pc,h,ws⟩) (c:=66) rfl⟩,.h ⟨_,_,tR (st:=st) (ld:=ld) (s:=⟨S,pc,h,ws⟩) (c:=⟨bS (aj st.g k),iZ (aj st.g k) v,kk⟩) hp' hl⟩])) (by kernel_rfl)
theorem zw{p:Nat}{k:K}{kk:Int}(hi:st.code[pc]?=some (.kind 65045 k))(hk:st.locals[p]?=some k)(hl:p<h.length)(ok:MOk st lo ld ⟨⟨6,.int (p:Nat),kk⟩::S,pc,h,ws⟩):
  TurnOk (n+10) st ld ⟨⟨6,.int (p:Nat),kk⟩::S,pc,h,ws⟩ ⟨S,pc+1,h.set p (some (cellOf st.g k (cE st.g k))),ws⟩:=by
 have hp':p<100000:=Nat.lt_trans (Z6 hk).1 (Nat.lt_trans ok.loc (by decide))
 exact fun ζ ζ ζ ζ=>runK (ft hi ok::.oc::.oc::.il::(po st ld pc h ws ok.stack++([.v ⟨_,_,jq (st:=st) (ld:=ld) (s:=⟨S,pc,h,ws⟩) (c:=65) rfl⟩,.v ⟨_,_,l7 (st:=st) (ld:=ld) (s:=⟨S,pc,h,ws⟩) hp' hk⟩,fB (Z1 (rfl:k.n=k.n)),.c ⟨_,_,mO (n:=n+7) (k:=k) (g:=st.g) (m_m (st:=st) (ld:=ld) (s:=⟨S,pc,h,ws⟩)) cY⟩,.c ⟨_,_,me (n:=n+6) (g:=st.g) (m_m (st:=st) (ld:=ld) (s:=⟨S,pc,h,ws⟩)) cY kV (ni st.g k)⟩,.v ⟨_,_,jq (st:=st) (ld:=ld) (s:=⟨S,pc,h,ws⟩) (c:=66) rfl⟩,.h ⟨_,_,tR (st:=st) (ld:=ld) (s:=⟨S,pc,h,ws⟩) (c:=cellOf st.g k (cE st.g k)) hp' hl⟩]))) (by kernel_rfl)
theorem NZ{k:K}{v:Val}{kk:Int}(hi:st.code[pc]?=some (.kind 140 k))(hv:aE st.g k v)(ok:MOk st lo ld ⟨⟨bS (aj st.g k),iZ (aj st.g k) v,kk⟩::S,pc,h,ws⟩):
  TurnOk (n+10) st ld ⟨⟨bS (aj st.g k),iZ (aj st.g k) v,kk⟩::S,pc,h,ws⟩ ⟨⟨4,(bH st.g k v ws.made).1,k.n⟩::S,pc+1,h,{ws with made:=(bH st.g k v ws.made).2}⟩:=
 fun ζ ζ ζ ζ=>runK (ft hi ok::.oc::.oc::.il::(po st ld pc h ws ok.stack++[srt st ld ⟨S,pc,h,ws⟩,.c ⟨_,_,rF (n:=n+5) (kk:=kk) (m_m (st:=st) (ld:=ld) (s:=⟨S,pc,h,ws⟩)) cY kV hv⟩,.c ⟨_,_,OY (n:=n+7) (st:=st) (ld:=ld) (s:=⟨S,pc,h,ws⟩) hv⟩,psh st ld pc h {ws with made:=(bH st.g k v ws.made).2} ⟨4,(bH st.g k v ws.made).1,k.n⟩ (dF ok.stack)])) (by kernel_rfl)
theorem Af{g:G}{k:K}{v:Val}(hv:aE g .obj v)(hn:(aj g k).n<11):∃x,(aG g k v).1=.int x:=by
 have e:fD (az g k)=true:=by
  induction hb:fD (az g k)with
  |true=>rfl
  |false=>exact absurd (l4 hb) (by rw[K.imp (a:=fun p=>decide (p.n<11)) (b:=n11) (by kernel_rfl) _ (Z1 hn)];exact Bool.noConfusion)
 unfold aG
 match v,hv with
 |.none,_=>exact⟨0,congrArg Prod.fst (if_pos e)⟩
 |.int x,_=>exact⟨x,rfl⟩
 |.tok a b,hv=>exact hv.elim
 |.ob x p id,_=>
  induction hu:unB (az g k) x
  ·exact⟨0,congrArg Prod.fst (if_neg (by rw[hu];decide))⟩
  ·refine p.IG.elim fun y ey=>⟨y,(congrArg Prod.fst (if_pos hu)).trans ((if_pos ?_).trans ey)⟩
   unfold aW;rw[e];rfl
theorem HX{k:K}{v:Val}{kk:Int}(hi:st.code[pc]?=some (.kind 165 k))(hv:aE st.g .obj v)(ok:MOk st lo ld ⟨⟨4,v,kk⟩::S,pc,h,ws⟩):
  TurnOk (n+10) st ld ⟨⟨4,v,kk⟩::S,pc,h,ws⟩ ⟨cellOf st.g k (aG st.g k v).1::S,pc+1,h,{ws with fault:=(aG st.g k v).2}⟩:=
 fun ζ ζ ζ ζ=>runK (ft hi ok::.oc::.oc::.il::(po st ld pc h ws ok.stack++[srt st ld ⟨S,pc,h,ws⟩,.c ⟨_,_,xf (n:=n+6) (k:=k) (st:=st) (ld:=ld) (s:=⟨S,pc,h,ws⟩) ok.flt hv⟩,.c ⟨_,_,me (n:=n+6) (g:=st.g) (k:=k) (v:=(aG st.g k v).1) (m_m (st:=st) (ld:=ld) (s:=⟨S,pc,h,{ws with fault:=(aG st.g k v).2}⟩)) cY kV (Af hv)⟩,psh st ld pc h {ws with fault:=(aG st.g k v).2} (cellOf st.g k (aG st.g k v).1) (dF ok.stack)])) (by kernel_rfl)
theorem JV{k:K}{v:Val}{kk:Int}(hi:st.code[pc]?=some (.kind 116 k))(hk:rk k=true)(hv:aE st.g .obj v)(ok:MOk st lo ld ⟨⟨4,v,kk⟩::S,pc,h,ws⟩):
  TurnOk (n+10) st ld ⟨⟨4,v,kk⟩::S,pc,h,ws⟩ ⟨⟨4,(aG st.g k v).1,k.n⟩::S,pc+1,h,{ws with fault:=(aG st.g k v).2}⟩:=by
 have d:=Z3 (K.imp (a:=rk) (b:=fun k=>decide (11<k.n)&& !(decide (k.n=16)||(decide (k.n=17)||(decide (k.n=18)||false)))) (by kernel_rfl) k hk)
 exact fun ζ ζ ζ ζ=>runK (ft hi ok::.oc::.oc::.il::(po st ld pc h ws ok.stack++(List.replicate 7 .ob++[fB d.1,fB d.2,srt st ld ⟨S,pc,h,ws⟩,.c ⟨_,_,xf (n:=n+6) (k:=k) (st:=st) (ld:=ld) (s:=⟨S,pc,h,ws⟩) ok.flt hv⟩,psh st ld pc h {ws with fault:=(aG st.g k v).2} ⟨4,(aG st.g k v).1,k.n⟩ (dF ok.stack)]))) (by kernel_rfl)
theorem Bg{k:K}{v:Val}{kk:Int}(hi:st.code[pc]?=some (.kind 117 k))(hk:k≠.nab)(hv:aE st.g .obj v)(ok:MOk st lo ld ⟨⟨4,v,kk⟩::S,pc,h,ws⟩):
  TurnOk (n+10) st ld ⟨⟨4,v,kk⟩::S,pc,h,ws⟩ ⟨⟨4,if isV st.g k v then v else .none,k.n⟩::S,pc+1,h,ws⟩:=by
 have d1:(!decide (k.n=17))=true:=congrArg (!·) (Z2 (p:=k.n=17) (fun e=>hk (K.eN (y:=.nab) e)))
 induction v with
 |int x=>exact absurd hv.1 Zc
 |tok a b=>exact hv.elim
 |none=>exact fun ζ ζ ζ ζ=>runK (ft hi ok::.oc::.oc::.il::(po st ld pc h ws ok.stack++(List.replicate 8 .ob++[fB d1,srt st ld ⟨S,pc,h,ws⟩,psh st ld pc h ws ⟨4,.none,k.n⟩ (dF ok.stack)]))) (by kernel_rfl)
 |ob x p id=>
  have e:isV st.g k (.ob x p id)=isK x (az st.g k):=by unfold isV;dsimp only;rw[if_neg hk]
  rw[e]
  have sh:=dK (n:=n+8) (k:=k) (g:=st.g) (m_m (st:=st) (ld:=ld) (s:=⟨S,pc,h,ws⟩)) cY
  have i:=pQ (n:=n+8) (x:=x) (k:=az st.g k) (H:=mh st ld ⟨S,pc,h,ws⟩)
  induction hb:isK x (az st.g k)<;>rw[hb]at i
  ·exact fun ζ ζ ζ ζ=>runK (ft hi ok::.oc::.oc::.il::(po st ld pc h ws ok.stack++(List.replicate 8 .ob++[fB d1,.c ⟨_,_,sh⟩,.c ⟨_,_,i⟩,srt st ld ⟨S,pc,h,ws⟩,psh st ld pc h ws ⟨4,.none,k.n⟩ (dF ok.stack)]))) (by kernel_rfl)
  ·exact fun ζ ζ ζ ζ=>runK (ft hi ok::.oc::.oc::.il::(po st ld pc h ws ok.stack++(List.replicate 8 .ob++[fB d1,.c ⟨_,_,sh⟩,.c ⟨_,_,i⟩,srt st ld ⟨S,pc,h,ws⟩,psh st ld pc h ws ⟨4,.ob x p id,k.n⟩ (dF ok.stack)]))) (by kernel_rfl)
end
end
section
variable{n:Nat}{st st1:PS}
section
variable{lo:Nat→Option Int}{ld:List (Int×V)}{s:MS}{S:List Cell}{pc:Nat}{h:List (Option Cell)}{ws:WS}{c:Cell}
theorem Sf{p:Nat}{k:K}{c:Cell}(hi:st.code[pc]?=some (.num 65036 (p:Nat)))(hh:h[p]?=some (some c))(hk:st.locals[p]?=some k)(ok:MOk st lo ld ⟨S,pc,h,ws⟩):
  TurnOk (n+10) st ld ⟨S,pc,h,ws⟩ ⟨⟨c.tag,c.v,k.n⟩::S,pc+1,h,gH lo p ws⟩:=by
 have hp':p<100000:=Nat.lt_trans (Z6 hk).1 (Nat.lt_trans ok.loc (by decide))
 have hld:=ok.eG p
 have il:isIn prog (.int p) (.ref ((hp st).length+2)) (mh st ld ⟨S,pc,h,ws⟩)=some (au (p:Int) ld).isSome:=BA DO
 have hq:=Gk (st:=st) (ld:=ld) (s:=⟨S,pc,h,ws⟩) hp' hh
 unfold gH
 induction hl:lo p with
 |none=>
  rw[hl]at hld
  rw[hld]at il
  exact fun ζ ζ ζ ζ=>runK [ft hi ok,.il,.v ⟨_,_,jq (st:=st) (ld:=ld) (s:=⟨S,pc,h,ws⟩) (c:=66) rfl⟩,.v ⟨_,_,hq⟩,.v ⟨_,_,jq (st:=st) (ld:=ld) (s:=⟨S,pc,h,ws⟩) (c:=11) rfl⟩,.b ⟨_,_,il⟩,srt st ld ⟨S,pc,h,ws⟩,.v ⟨_,_,jq (st:=st) (ld:=ld) (s:=⟨S,pc,h,ws⟩) (c:=65) rfl⟩,.v ⟨_,_,l7 (st:=st) (ld:=ld) (s:=⟨S,pc,h,ws⟩) hp' hk⟩,psh st ld pc h ws ⟨c.tag,c.v,k.n⟩ ok.stack] (by kernel_rfl)
 |some l=>
  rw[hl]at hld
  rw[hld]at il
  have sl:fA prog (.ref (hp st).length) 8 (mh st ld ⟨S,pc,h,ws⟩)=some none:=mZ Br rfl
  have gl:aJ prog (.ref ((hp st).length+2)) (.int p) (mh st ld ⟨S,pc,h,ws⟩)=some (.int l):=ot DO hld
  exact fun ζ ζ ζ ζ=>runK [ft hi ok,.il,.v ⟨_,_,jq (st:=st) (ld:=ld) (s:=⟨S,pc,h,ws⟩) (c:=66) rfl⟩,.v ⟨_,_,hq⟩,.v ⟨_,_,jq (st:=st) (ld:=ld) (s:=⟨S,pc,h,ws⟩) (c:=11) rfl⟩,.b ⟨_,_,il⟩,.v ⟨_,_,jq (st:=st) (ld:=ld) (s:=⟨S,pc,h,ws⟩) (c:=57) rfl⟩,.o ⟨_,_,sl⟩,.v ⟨_,_,jq (st:=st) (ld:=ld) (s:=⟨S,pc,h,ws⟩) (c:=11) rfl⟩,.v ⟨_,_,gl⟩,.c ⟨_,_,Dd (l:=l) (st:=st) (ld:=ld) (s:=⟨S,pc,h,ws⟩) ok.log⟩,srt st ld ⟨S,pc,h,{ws with log:=ws.log++[l]}⟩,.v ⟨_,_,jq (st:=st) (ld:=ld) (s:=⟨S,pc,h,{ws with log:=ws.log++[l]}⟩) (c:=65) rfl⟩,.v ⟨_,_,l7 (st:=st) (ld:=ld) (s:=⟨S,pc,h,{ws with log:=ws.log++[l]}⟩) hp' hk⟩,psh st ld pc h {ws with log:=ws.log++[l]} ⟨c.tag,c.v,k.n⟩ ok.stack] (by kernel_rfl)
noncomputable def hiF{o:Int}(h:68<o)(h2:o≠65036):List Fa:=[fB (Z2 h2),fB (Z2 (p:=o=32) (by rintro rfl;exact absurd h (by decide))),fB (Z2 (p:=o=33) (by rintro rfl;exact absurd h (by decide))),fB (Z1 (Zg (by decide:(56:Int)≤68) (Zp h))),fB (Z2 (Int.not_le.mpr h))]
theorem words_of{o:Int}{w:BOp}{u:Bool}(hO:OpI o w u)(H:H):isIn prog (.int o) (.cd 9) H=some true:=by
 have e:cF (.int o) E4=some (.str w.c):=hO.word H
 show some (cF (.int o) E4).isSome=_
 rw[e];rfl
theorem RX{o:Int}{w:BOp}{u:Bool}{b:B}{x y ka kb:Int}(hi:st.code[pc]?=some (.op o))(ho:65025≤o∧o≤65029)(hO:OpI o w u)(hw:w.cmp=true)(hb:b=.b32∨b=.b64)(ok:MOk st lo ld ⟨⟨aS b,.int y,kb⟩::⟨aS b,.int x,ka⟩::S,pc,h,ws⟩):
  TurnOk (n+10) st ld ⟨⟨aS b,.int y,kb⟩::⟨aS b,.int x,ka⟩::S,pc,h,ws⟩ ⟨⟨1,.int (ag (lF w (uns u b.m x) (uns u b.m y))),0⟩::S,pc+1,h,ws⟩:=
 fun ζ ζ ζ ζ=>runK (ft hi ok::(hiF (o:=o) (Zr (by decide) ho.1) (by rintro rfl;exact absurd ho.2 (by decide))++(.oc::.b ⟨_,_,words_of hO (mh st ld ⟨⟨aS b,.int y,kb⟩::⟨aS b,.int x,ka⟩::S,pc,h,ws⟩)⟩::(po st ld pc h ws ok.stack++(po st ld pc h ws (dF ok.stack)++[fB (Z1 (Zr (by decide:(65024:Int)<65025) ho.1)),srt st ld ⟨S,pc,h,ws⟩,.c ⟨_,_,u3 (n:=n+8) (a:=(hp st).length+3) (x:=x) (y:=y) (ka:=ka) (kb:=kb) (H:=mh st ld ⟨S,pc,h,ws⟩) hO hw hb⟩,psh st ld pc h ws ⟨1,.int (ag (lF w (uns u b.m x) (uns u b.m y))),0⟩ (dF (dF ok.stack))]))))) (by kernel_rfl)
theorem M3{v z:Val}{ka kb:Int}(hi:st.code[pc]?=some (.op 65025))(ok:MOk st lo ld ⟨⟨4,z,kb⟩::⟨4,v,ka⟩::S,pc,h,ws⟩):
  TurnOk (n+10) st ld ⟨⟨4,z,kb⟩::⟨4,v,ka⟩::S,pc,h,ws⟩ ⟨⟨1,.int (ag (decide (v=z))),0⟩::S,pc+1,h,ws⟩:=by
 have hh:=uj (n:=n+8) (a:=(hp st).length+3) (v:=v) (z:=z) (ka:=ka) (kb:=kb) (H:=mh st ld ⟨S,pc,h,ws⟩) (o:=65025) (w:=.eq) (u:=false) ⟨fun ζ=>rfl,fun ζ=>rfl⟩ (.inl rfl)
 rw[show (decide (v=z) ==decide (BOp.eq=.eq))=decide (v=z)from by induction decide (v=z)<;>rfl]at hh
 exact fun ζ ζ ζ ζ=>runK (ft hi ok::.oc::(po st ld pc h ws ok.stack++(po st ld pc h ws (dF ok.stack)++[srt st ld ⟨S,pc,h,ws⟩,.c ⟨_,_,hh⟩,psh st ld pc h ws ⟨1,.int (ag (decide (v=z))),0⟩ (dF (dF ok.stack))]))) (by kernel_rfl)
theorem QH{v:Val}{ka kb:Int}(hi:st.code[pc]?=some (.op 65027))(ok:MOk st lo ld ⟨⟨4,.none,kb⟩::⟨4,v,ka⟩::S,pc,h,ws⟩):
  TurnOk (n+10) st ld ⟨⟨4,.none,kb⟩::⟨4,v,ka⟩::S,pc,h,ws⟩ ⟨⟨1,.int (ag (!decide (v=.none))),0⟩::S,pc+1,h,ws⟩:=
 fun ζ ζ ζ ζ=>runK (ft hi ok::.oc::(po st ld pc h ws ok.stack++(po st ld pc h ws (dF ok.stack)++[srt st ld ⟨S,pc,h,ws⟩,.c ⟨_,_,wg (n:=n+8) (a:=(hp st).length+3) (v:=v) (ka:=ka) (kb:=kb) (H:=mh st ld ⟨S,pc,h,ws⟩)⟩,psh st ld pc h ws ⟨1,.int (ag (!decide (v=.none))),0⟩ (dF (dF ok.stack))]))) (by kernel_rfl)
theorem Ji{o:Int}{w:BOp}{u:Bool}{c1 c2 c3:Cell}{ws':WS}(hi:st.code[pc]?=some (.op o))(ho:68<o)(ho2:o≤65024)(hO:OpI o w u)(ok:MOk st lo ld ⟨c2::c1::S,pc,h,ws⟩)
  (e:aa prog (n+10) gp [.ref ((hp st).length+3),.int o,c1.val,c2.val] (mh st ld ⟨S,pc,h,ws⟩)=some (c3.val,mh st ld ⟨S,pc,h,ws'⟩)):TurnOk (n+10) st ld ⟨c2::c1::S,pc,h,ws⟩ ⟨c3::S,pc+1,h,ws'⟩:=
 fun ζ ζ ζ ζ=>runK (ft hi ok::(hiF (o:=o) ho (by rintro rfl;exact absurd ho2 (by decide))++(.oc::.b ⟨_,_,words_of hO (mh st ld ⟨c2::c1::S,pc,h,ws⟩)⟩::(po st ld pc h ws ok.stack++(po st ld pc h ws (dF ok.stack)++[fB (Z2 (Int.not_lt.mpr ho2)),srt st ld ⟨S,pc,h,ws⟩,.c ⟨_,_,e⟩,psh st ld pc h ws' c3 (dF (dF ok.stack))]))))) (by kernel_rfl)
theorem PU{o:Int}{w:BOp}{u:Bool}{b:B}{x y ka kb:Int}(hi:st.code[pc]?=some (.op o))(ho:88≤o∧o≤219∧(o≤97∨214≤o))(hO:OpI o w u)(hw:w.ar=true)(hb:b=.b32∨b=.b64)(sx:small (uns u b.m x)=true)(sy:small (uns u b.m y)=true)
  (ok:MOk st lo ld ⟨⟨aS b,.int y,kb⟩::⟨aS b,.int x,ka⟩::S,pc,h,ws⟩):
  TurnOk (n+10) st ld ⟨⟨aS b,.int y,kb⟩::⟨aS b,.int x,ka⟩::S,pc,h,ws⟩ ⟨⟨aS b,.int (gz w u (decide (214≤o)) b x y).1,ka⟩::S,pc+1,h,{ws with fault:=(gz w u (decide (214≤o)) b x y).2}⟩:=by
 have ne:∀c:Int,97<c→c<214→decide (o=c)=false:=fun c h1 h2=>Z2 fun e=>by subst e;exact ho.2.2.elim (fun h=>absurd h (Int.not_le.mpr h1)) (fun h=>absurd h (Int.not_le.mpr h2))
 have hsh:(decide (o=98)||(decide (o=99)||(decide (o=100)||false)))=false:=by
  rw[ne 98 (by decide) (by decide),ne 99 (by decide) (by decide),ne 100 (by decide) (by decide)];rfl
 have e:=LU (n:=n+7) (H:=mh st ld ⟨S,pc,h,ws⟩) (ka:=ka) (kb:=kb) hO hw hb hsh sx sy m_m (jn ok.flt) mY
 rw[l5 (s:=⟨S,pc,h,ws⟩) ok.flt]at e
 exact Ji (c1:=⟨aS b,.int x,ka⟩) (c2:=⟨aS b,.int y,kb⟩) (c3:=⟨aS b,.int (gz w u (decide (214≤o)) b x y).1,ka⟩) (ws':={ws with fault:=(gz w u (decide (214≤o)) b x y).2}) hi (Zr (by decide) ho.1) (Zg ho.2.1 (by decide)) hO ok e
theorem Rr{o:Int}{w:BOp}{u:Bool}{b:B}{x y ka kb:Int}(hi:st.code[pc]?=some (.op o))(hs:(w=.shl∧u=false∧o=98)∨(w=.shr∧((u=false∧o=99)∨(u=true∧o=100))))(hb:b=.b32∨b=.b64)(hy:0≤y∧y<b.w)
  (ok:MOk st lo ld ⟨⟨1,.int y,kb⟩::⟨aS b,.int x,ka⟩::S,pc,h,ws⟩):
  TurnOk (n+10) st ld ⟨⟨1,.int y,kb⟩::⟨aS b,.int x,ka⟩::S,pc,h,ws⟩ ⟨⟨aS b,.int (shC w u b x y),ka⟩::S,pc+1,h,ws⟩:=by
 have ho:OpI o w u∧68<o∧o≤65024:=by rcases hs with ⟨rfl,rfl,rfl⟩|⟨rfl,⟨rfl,rfl⟩|⟨rfl,rfl⟩⟩<;>exact⟨⟨fun ζ=>rfl,fun ζ=>rfl⟩,by decide,by decide⟩
 exact Ji (c1:=⟨aS b,.int x,ka⟩) (c2:=⟨1,.int y,kb⟩) (c3:=⟨aS b,.int (shC w u b x y),ka⟩) (ws':=ws) hi ho.2.1 ho.2.2 ho.1 ok (O2 (n:=n+7) ho.1 hb hs hy)
theorem uT{x:Int}:∀{l:List (V×V)},(cF (.int x) l).isSome=true→∀{q:V→Bool},(l.all fun p=>q p.1)=true→q (.int x)=true
 |(y,v)::r,h,q,hq=>by
  have hq:=Z3 hq
  unfold cF at h
  by_cases hb:V.beq (.int x) y=true
  ·cases y with
   |int z=>induction Z0 hb;exact hq.1
   |_=>cases hb
  ·rw[if_neg hb]at h;exact uT h hq.2
theorem Sb{o:Int}{bb b:B}{s:Bool}{how x ka:Int}(hi:st.code[pc]?=some (.op o))(ho:103≤o∧o≤210)(hO:CvI o bb s how)(hb:b=.b32∨b=.b64)(ok:MOk st lo ld ⟨⟨aS b,.int x,ka⟩::S,pc,h,ws⟩):
  TurnOk (n+10) st ld ⟨⟨aS b,.int x,ka⟩::S,pc,h,ws⟩ ⟨⟨cvT bb s,.int (cvX bb s (cvN s how b x)),0⟩::S,pc+1,h,{ws with fault:=cvF bb s how (cvN s how b x)}⟩:=by
 have hs:(cF (.int o) Ei).isSome=true:=by rw[show cF (.int o) Ei=_ from hO.row (hp st)];rfl
 have hin:isIn prog (.int o) (.cd 9) (mh st ld ⟨⟨aS b,.int x,ka⟩::S,pc,h,ws⟩)=some false:=congrArg some (show (cF (.int o) E4).isSome=false from Bool.not_eq_true' _▸uT hs (q:=fun v=> !(cF v E4).isSome) (by kernel_rfl))
 have hin2:isIn prog (.int o) (.cd 10) (mh st ld ⟨⟨aS b,.int x,ka⟩::S,pc,h,ws⟩)=some true:=congrArg some hs
 exact fun ζ ζ ζ ζ=>runK (ft hi ok::(hiF (o:=o) (Zr (by decide) ho.1) (by rintro rfl;exact absurd ho.2 (by decide))++(.oc::.b ⟨_,_,hin⟩::.oc::.b ⟨_,_,hin2⟩::srt st ld ⟨⟨aS b,.int x,ka⟩::S,pc,h,ws⟩::(po st ld pc h ws ok.stack++[.c ⟨_,_,(F6 (n:=n+7) (a:=(hp st).length+3) (H:=mh st ld ⟨S,pc,h,ws⟩) (x:=x) (ka:=ka) hO hb m_m (jn ok.flt) mY).trans (by rw[l5 (s:=⟨S,pc,h,ws⟩) ok.flt])⟩,psh st ld pc h {ws with fault:=cvF bb s how (cvN s how b x)} ⟨cvT bb s,.int (cvX bb s (cvN s how b x)),0⟩ (dF ok.stack)])))) (by kernel_rfl)
noncomputable def brF{o:Int}(h:57≤o)(h2:o≤68):List Fa:=[fB (Z2 (p:=o=65036) (by rintro rfl;exact absurd h2 (by decide))),fB (Z2 (p:=o=32) (by rintro rfl;exact absurd h (by decide))),fB (Z2 (p:=o=33) (by rintro rfl;exact absurd h (by decide))),fB (Z1 (Zg (by decide:(56:Int)≤57) h)),fB (Z1 h2),fB (Z2 (p:=o=56) (by rintro rfl;exact absurd h (by decide)))]
noncomputable def toF{l:Int}{pos:Nat}(st:PS)(ld:List (Int×V))(pc:Nat)(s:MS)(hl:dg st l pos)(hq:pc+1≤pos):List Fa:=[.c ⟨_,_,mH (st:=st) (ld:=ld) (s:=s) hl⟩,fB (Z2 (Int.not_lt.mpr (Int.ofNat_le.mpr hq)):decide ((pos:Int)<(pc:Int)+1)=false),.c ⟨_,_,mH (st:=st) (ld:=ld) (s:=s) hl⟩]
theorem Jy{o l:Int}{pos:Nat}{c1 c2:Cell}{r:Bool}(hi:st.code[pc]?=some (.num o l))(ho:59≤o∧o≤68)(hl:dg st l pos)(hq:pc+1≤pos)(ok:MOk st lo ld ⟨c2::c1::S,pc,h,ws⟩)
  (e:aa prog (n+9) dh [.ref ((hp st).length+3),.int o,c1.val,c2.val] (mh st ld ⟨S,pc,h,ws⟩)=some (.int (ag r),mh st ld ⟨S,pc,h,ws⟩)):TurnOk (n+10) st ld ⟨c2::c1::S,pc,h,ws⟩ ⟨S,if r then pos else pc+1,h,ws⟩:=by
 induction r
 ·exact fun ζ ζ ζ ζ=>runK (ft hi ok::(brF (o:=o) (Zg (by decide) ho.1) ho.2++(.il::(po st ld pc h ws ok.stack++(fB (Z1 (Zr (by decide:(58:Int)<59) ho.1))::(po st ld pc h ws (dF ok.stack)++[.c ⟨_,_,e⟩])))))) (by kernel_rfl)
 ·exact fun ζ ζ ζ ζ=>runK (ft hi ok::(brF (o:=o) (Zg (by decide) ho.1) ho.2++(.il::(po st ld pc h ws ok.stack++(fB (Z1 (Zr (by decide:(58:Int)<59) ho.1))::(po st ld pc h ws (dF ok.stack)++(.c ⟨_,_,e⟩::.ob::toF st ld pc ⟨S,pc,h,ws⟩ hl hq))))))) (by kernel_rfl)
theorem N2{o l:Int}{pos:Nat}{w:BOp}{u:Bool}{b:B}{x y ka kb:Int}(hi:st.code[pc]?=some (.num o l))(ho:59≤o∧o≤68)(hO:OpI o w u)(hw:w.cmp=true)(hb:b=.b32∨b=.b64)(hl:dg st l pos)(hq:pc+1≤pos)
  (ok:MOk st lo ld ⟨⟨aS b,.int y,kb⟩::⟨aS b,.int x,ka⟩::S,pc,h,ws⟩):
  TurnOk (n+10) st ld ⟨⟨aS b,.int y,kb⟩::⟨aS b,.int x,ka⟩::S,pc,h,ws⟩ ⟨S,if lF w (uns u b.m x) (uns u b.m y)then pos else pc+1,h,ws⟩:=Jy hi ho hl hq ok (u3 (n:=n+7) hO hw hb)
theorem QV{o l:Int}{pos:Nat}{w:BOp}{u:Bool}{v z:Val}{ka kb:Int}(hi:st.code[pc]?=some (.num o l))(ho:59≤o∧o≤68)(hO:OpI o w u)(hw:w=.eq∨w=.ne)(hl:dg st l pos)(hq:pc+1≤pos)
  (ok:MOk st lo ld ⟨⟨4,z,kb⟩::⟨4,v,ka⟩::S,pc,h,ws⟩):
  TurnOk (n+10) st ld ⟨⟨4,z,kb⟩::⟨4,v,ka⟩::S,pc,h,ws⟩ ⟨S,if decide (v=z) ==decide (w=.eq)then pos else pc+1,h,ws⟩:=Jy hi ho hl hq ok (uj (n:=n+7) hO hw)
end
end
section
variable{n:Nat}{st st1:PS}
section
variable{lo:Nat→Option Int}{ld:List (Int×V)}{s:MS}{S:List Cell}{pc:Nat}{h:List (Option Cell)}{ws:WS}{c:Cell}
theorem Val.I0(x:Int):decide (x=0)=decide (Val.int x=.int 0):=by
 by_cases h:x=0
 ·subst h;rfl
 ·rw[Z2 h,Z2 fun e=>h (Val.int.noConfusion e id)]
theorem OS{o l:Int}{pos:Nat}{c:Cell}(hi:st.code[pc]?=some (.num o l))(ho:o=57∨o=58)(hl:dg st l pos)(hq:pc+1≤pos)(hc:c.tag=1∨c.tag=4)(ok:MOk st lo ld ⟨c::S,pc,h,ws⟩):
  TurnOk (n+10) st ld ⟨c::S,pc,h,ws⟩ ⟨S,if full c.v=decide (o=58)then pos else pc+1,h,ws⟩:=by
 obtain⟨t,v,k⟩:=c
 have tg:(isIn prog (.int t) (.tup [.int 1,.int 4]) (mh st ld ⟨S,pc,h,ws⟩)).map (!·)=some false:=by rcases hc with h|h<;>(cases h;rfl)
 induction v with
 |none=>
  rcases ho with rfl|rfl
  ·exact fun ζ ζ ζ ζ=>runK (ft hi ok::.il::(po st ld pc h ws ok.stack++(.ob::.b ⟨_,_,tg⟩::.ob::toF st ld pc ⟨S,pc,h,ws⟩ hl hq))) (by kernel_rfl)
  ·exact fun ζ ζ ζ ζ=>runK (ft hi ok::.il::(po st ld pc h ws ok.stack++(.ob::.b ⟨_,_,tg⟩::[]))) (by kernel_rfl)
 |int x=>
  have e:=congrArg (·.map (!·)) (jr (v:=.int x) (w:=.int 0) (h:=mh st ld ⟨S,pc,h,ws⟩))
  induction hx:decide (Val.int x=.int 0)<;>rw[hx]at e
  ·rw[show full (.int x)=true from congrArg (!·) ((Val.I0 x).trans hx)]
   rcases ho with rfl|rfl
   ·exact fun ζ ζ ζ ζ=>runK (ft hi ok::.il::(po st ld pc h ws ok.stack++(.ob::.b ⟨_,_,tg⟩::.b ⟨_,_,e⟩::[]))) (by kernel_rfl)
   ·exact fun ζ ζ ζ ζ=>runK (ft hi ok::.il::(po st ld pc h ws ok.stack++(.ob::.b ⟨_,_,tg⟩::.b ⟨_,_,e⟩::.ob::toF st ld pc ⟨S,pc,h,ws⟩ hl hq))) (by kernel_rfl)
  ·rw[show full (.int x)=false from congrArg (!·) ((Val.I0 x).trans hx)]
   rcases ho with rfl|rfl
   ·exact fun ζ ζ ζ ζ=>runK (ft hi ok::.il::(po st ld pc h ws ok.stack++(.ob::.b ⟨_,_,tg⟩::.b ⟨_,_,e⟩::.ob::toF st ld pc ⟨S,pc,h,ws⟩ hl hq))) (by kernel_rfl)
   ·exact fun ζ ζ ζ ζ=>runK (ft hi ok::.il::(po st ld pc h ws ok.stack++(.ob::.b ⟨_,_,tg⟩::.b ⟨_,_,e⟩::[]))) (by kernel_rfl)
 |ob x p id=>
  have e:=congrArg (·.map (!·)) (jr (v:=.ob x p id) (w:=.int 0) (h:=mh st ld ⟨S,pc,h,ws⟩))
  induction hx:decide (Val.ob x p id=.int 0)<;>rw[hx]at e
  ·rw[show full (.ob x p id)=true from rfl]
   rcases ho with rfl|rfl
   ·exact fun ζ ζ ζ ζ=>runK (ft hi ok::.il::(po st ld pc h ws ok.stack++(.ob::.b ⟨_,_,tg⟩::.b ⟨_,_,e⟩::[]))) (by kernel_rfl)
   ·exact fun ζ ζ ζ ζ=>runK (ft hi ok::.il::(po st ld pc h ws ok.stack++(.ob::.b ⟨_,_,tg⟩::.b ⟨_,_,e⟩::.ob::toF st ld pc ⟨S,pc,h,ws⟩ hl hq))) (by kernel_rfl)
  ·exact nomatch Z0 hx
 |tok x y=>
  have e:=congrArg (·.map (!·)) (jr (v:=.tok x y) (w:=.int 0) (h:=mh st ld ⟨S,pc,h,ws⟩))
  induction hx:decide (Val.tok x y=.int 0)<;>rw[hx]at e
  ·rw[show full (.tok x y)=true from rfl]
   rcases ho with rfl|rfl
   ·exact fun ζ ζ ζ ζ=>runK (ft hi ok::.il::(po st ld pc h ws ok.stack++(.ob::.b ⟨_,_,tg⟩::.b ⟨_,_,e⟩::[]))) (by kernel_rfl)
   ·exact fun ζ ζ ζ ζ=>runK (ft hi ok::.il::(po st ld pc h ws ok.stack++(.ob::.b ⟨_,_,tg⟩::.b ⟨_,_,e⟩::.ob::toF st ld pc ⟨S,pc,h,ws⟩ hl hq))) (by kernel_rfl)
  ·exact nomatch Z0 hx
end
end
section
variable{n:Nat}{st st1:PS}
variable{lo:Nat→Option Int}{ld:List (Int×V)}{s s':MS}
theorem xb(p:Nat)(ws:WS):(gH lo p ws).log.length≤ws.log.length+1:=by
 unfold gH;split
 ·exact Zi Za
 ·exact Z7 _
theorem dG{i:I}{pc:Nat}(h:st.code[pc]?=some i):pc<st.code.length:=(Z6 h).1
def wJ(st:PS)(s s':MS):Prop:=s.pc<st.code.length∧s.pc+1≤s'.pc∧s'.stack.length≤s.stack.length+1∧s'.ws.log.length≤s.ws.log.length+1∧s'.held.length=s.held.length
section
variable{i:I}{S:List Cell}{pc pc':Nat}{h h':List (Option Cell)}{ws ws':WS}{a b c:Cell}{x y:Nat}
theorem vH(hi:st.code[pc]?=some i)(hl:ws'.log.length≤ws.log.length+1):wJ st ⟨S,pc,h,ws⟩ ⟨c::S,pc+1,h,ws'⟩:=⟨dG hi,Z5 _,Z5 _,hl,rfl⟩
theorem uL(hi:st.code[pc]?=some i)(e:ws'.log=ws.log):wJ st ⟨a::S,pc,h,ws⟩ ⟨c::S,pc+1,h,ws'⟩:=⟨dG hi,Z5 _,Z7 _,Nat.le_succ_of_le (Zi (congrArg _ e)),rfl⟩
theorem E1(hi:st.code[pc]?=some i)(e:ws'.log=ws.log):wJ st ⟨b::a::S,pc,h,ws⟩ ⟨c::S,pc+1,h,ws'⟩:=⟨dG hi,Z5 _,Z8 _ 2,Nat.le_succ_of_le (Zi (congrArg _ e)),rfl⟩
theorem Kk(hi:st.code[pc]?=some i)(e:h'.length=h.length):wJ st ⟨a::S,pc,h,ws⟩ ⟨S,pc+1,h',ws⟩:=⟨dG hi,Z5 _,Z8 _ 2,Z7 _,e⟩
theorem Ru{p:Prop}[Decidable p](hi:st.code[pc]?=some i)(hp:pc+1≤pc'):wJ st ⟨a::S,pc,h,ws⟩ ⟨S,if p then pc' else pc+1,h,ws⟩:=⟨dG hi,by show _≤ite _ _ _;split;exact hp;exact Z5 _,Z8 _ 2,Z7 _,rfl⟩
theorem Nl{p:Prop}[Decidable p](hi:st.code[pc]?=some i)(hp:pc+1≤pc'):wJ st ⟨b::a::S,pc,h,ws⟩ ⟨S,if p then pc' else pc+1,h,ws⟩:=⟨dG hi,by show _≤ite _ _ _;split;exact hp;exact Z5 _,Z8 _ 3,Z7 _,rfl⟩
end
theorem Dn(h:Step st lo s s'):wJ st s s'∧(MOk st lo ld s→TurnOk (n+10) st ld s s'):=by
 induction h with
 |ld hi hh hk=>exact⟨vH hi (xb _ _),Sf hi hh hk⟩
 |tP hi=>exact⟨vH hi (Z7 _),Jq (.inl rfl) hi⟩
 |Nq hi=>exact⟨vH hi (Z7 _),Jq (.inr rfl) hi⟩
 |br hi hl hp=>exact⟨⟨dG hi,hp,Z7 _,Z7 _,rfl⟩,RU hi hl hp⟩
 |brb hi ho hl hp hc=>exact⟨Ru hi hp,OS hi ho hl hp hc⟩
 |brc hi ho hO hw hb hl hp=>exact⟨Nl hi hp,N2 hi ho hO hw hb hl hp⟩
 |brq hi ho hO hw hl hp=>exact⟨Nl hi hp,QV hi ho hO hw hl hp⟩
 |cm hi ho hO hw hb=>exact⟨E1 hi rfl,RX hi ho hO hw hb⟩
 |cmq hi=>exact⟨E1 hi rfl,M3 hi⟩
 |cmn hi=>exact⟨E1 hi rfl,QH hi⟩
 |two hi ho hO hw hb sx sy=>exact⟨E1 hi rfl,PU hi ho hO hw hb sx sy⟩
 |sh hi hs hb hy=>exact⟨E1 hi rfl,Rr hi hs hb hy⟩
 |cv hi ho hO hb=>exact⟨uL hi rfl,Sb hi ho hO hb⟩
 |neg hi ho hb=>exact⟨uL hi rfl,N5 hi ho hb⟩
 |pop hi=>exact⟨Kk hi rfl,Qt hi⟩
 |stl hi hk hv hl=>exact⟨Kk hi List.length_set,O9 hi hk hv hl⟩
 |qk hi=>exact⟨vH hi (Z7 _),B8 hi⟩
 |JH hi=>exact⟨vH hi (Z7 _),Gn hi⟩
 |Jl hi=>exact⟨vH hi (Z7 _),GH hi⟩
 |call hi=>exact⟨uL hi rfl,Li hi⟩
 |Dm hi=>exact⟨vH hi (Z7 _),Ee hi⟩
 |xR hi hk hl=>exact⟨Kk hi List.length_set,zw hi hk hl⟩
 |box hi hv=>exact⟨uL hi rfl,NZ hi hv⟩
 |Jm hi=>exact⟨uL hi rfl,IE hi⟩
 |unbox hi hv=>exact⟨uL hi rfl,HX hi hv⟩
 |cast hi hk hv=>exact⟨uL hi rfl,JV hi hk hv⟩
 |Bu hi hk hv=>exact⟨uL hi rfl,Bg hi hk hv⟩
inductive gy (st:PS)(lo:Nat→Option Int):MS→MS→Prop
 |refl:∀s,gy st lo s s
 |cons {s s1 s'}:s.ws.fault=.no→Step st lo s s1→gy st lo s1 s'→gy st lo s s'
theorem gy.trans{a b c:MS}(h:gy st lo a b)(k:gy st lo b c):gy st lo a c:=by
 induction h with
 |refl s=>exact k
 |cons hf hs _ ih=>exact .cons hf hs (ih k)
theorem CN(hc:st.code.length<100000):lenOf prog (.ref 104) (mh st ld s)=some st.code.length:=(kg BX (by rw[Z9];exact Z4 (Nat.le_of_lt hc) (by decide))).trans (by rw[Z9])
theorem xh(hc:st.code.length<100000)(j5 j6 j7 j8:Option V):evC prog (aa prog n) qj (rl st s.pc j5 j6 j7 j8) (mh st ld s)=some (decide ((s.pc:Int)<st.code.length)&&decide (s.ws.fault.c=0),mh st ld s):=by
 induction h1:decide ((s.pc:Int)<st.code.length)
 ·exact runC [.n ⟨_,_,CN (ld:=ld) (s:=s) hc⟩,fB h1] (by kernel_rfl)
 ·induction h2:decide (s.ws.fault.c=0)
  ·exact runC [.n ⟨_,_,CN (ld:=ld) (s:=s) hc⟩,fB h1,.v ⟨_,_,jq (st:=st) (ld:=ld) (s:=s) (c:=52) rfl⟩,fB h2] (by kernel_rfl)
  ·exact runC [.n ⟨_,_,CN (ld:=ld) (s:=s) hc⟩,fB h1,.v ⟨_,_,jq (st:=st) (ld:=ld) (s:=s) (c:=52) rfl⟩,fB h2] (by kernel_rfl)
theorem yX{α:Type}{n:Nat}{l:List α}(h:l.length=n+1){C:Prop}(k:∀a r,r.length=n→l=a::r→C):C:=by
 induction l with
 |nil=>cases h
 |cons a r=>exact k a r (Nat.succ.inj h) rfl
theorem E7{X:Option (Flow×Loc×H)}{pc:Nat}{h:H}{C:Prop}(e:X.bind (fun x=>some (DA x))=some (.next,(rl st pc none none none none).take 5,9,h))(k:∀j5 j6 j7 j8,X=some (.next,rl st pc j5 j6 j7 j8,h)→C):C:=by
 induction X with
 |none=>cases e
 |some x=>
  obtain⟨f,l,h'⟩:=x
  have e:=Zt e
  have e1:f=.next:=congrArg (·.1) e
  have e2:l.take 5=(rl st pc none none none none).take 5:=congrArg (·.2.1) e
  have e3:l.length=9:=congrArg (·.2.2.1) e
  have e4:h'=h:=congrArg (·.2.2.2) e
  have d:(l.drop 5).length=4:=by rw[List.length_drop,e3]
  refine yX d fun a r d h1=>yX d fun b r d h2=>yX d fun c r d h3=>yX d fun x r d h4=>k a b c x ?_
  rw[←List.take_append_drop 5 l,e2,h1,h2,h3,h4,List.eq_nil_of_length_eq_zero d,e1,e4];rfl
theorem De{α:Type}{cond:Loc→H→Option (Bool×H)}{body:Loc→H→Option (Flow×Loc×H)}{T:Nat}{l l2:Loc}{h h2:H}{F:Flow×Loc×H→Option α}{X:Option α}(hc:cond l h=some (true,h))(hb:body l h=some (.next,l2,h2))(k:(qe cond body T l2 h2).bind F=X):(qe cond body (T+1) l h).bind F=X:=by
 rw[←k]
 show ((cond l h).bind _).bind _=_
 rw[hc]
 show ((body l h).bind _).bind _=_
 rw[hb];rfl
noncomputable abbrev Rv(n:Nat)(T:Nat):Loc→H→Option (Flow×Loc×H):=qe (fun l h=>evC prog (aa prog n) qj l h) (fun l h=>bB prog (aa prog n) qt l h) T
theorem GB(hc:st.code.length<100000)(hk:st.locals.length<1000)(hl:∀p:Nat,au (p:Int) ld=(lo p).map V.int)(hs:gy st lo s s'):
  s'.ws.fault≠.no∨st.code.length≤s'.pc→s.held.length<1000→s.stack.length≤s.pc+10→s.ws.log.length≤s.pc+10→∀T,st.code.length<T+s.pc→0<T→∀j5 j6 j7 j8,(Rv (n+10) T (rl st s.pc j5 j6 j7 j8) (mh st ld s)).bind (fun x=>some (DA x))=some (.next,(rl st s'.pc none none none none).take 5,9,mh st ld s'):=by
 induction hs with
 |refl s=>
  intro hf _ _ _ T _ hT j5 j6 j7 j8
  obtain⟨T,rfl⟩:∃t,T=t+1:=⟨T-1,(Nat.succ_pred_eq_of_pos hT).symm⟩
  have e:(decide ((s.pc:Int)<st.code.length)&&decide (s.ws.fault.c=0))=false:=by
   rcases hf with h|h
   ·rw[Ea h,Bool.and_false]
   ·rw[Z2 (Int.not_lt.mpr (Int.ofNat_le.mpr h)),Bool.false_and]
  show ((evC _ _ _ _ _).bind _).bind _=_
  rw[xh hc,e];rfl
 | @cons a b c hf hst hsn ih=>
  intro hfin hh hs1 hl1 T hT hT0 j5 j6 j7 j8
  obtain⟨⟨o1,o2,o3,o4,o5⟩,tk⟩:=Dn (n:=n) (ld:=ld) hst
  obtain⟨T,rfl⟩:∃t,T=t+1:=⟨T-1,(Nat.succ_pred_eq_of_pos hT0).symm⟩
  have e:(decide ((a.pc:Int)<st.code.length)&&decide (a.ws.fault.c=0))=true:=by
   rw[Z1 (Int.ofNat_lt.mpr o1),hf];rfl
  refine E7 (tk ⟨hc,hk,by lia,by lia,hh,hl,hf⟩ j5 j6 j7 j8) fun k5 k6 k7 k8 eb=>?_
  refine De ((xh hc _ _ _ _).trans (by rw[e])) eb ?_
  exact ih hfin (o5▸hh) (by lia) (by lia) T (by lia) (by lia) k5 k6 k7 k8
noncomputable def m4(st:PS)(ld:List (Int×V))(held:List (Option Cell))(ws:WS):H:=hp st++[.list (ws.log.map V.int),.list (held.map eX),.aM ld,.aP (eI st ws)]
theorem LD{held:List (Option Cell)}{ws:WS}:m4 st ld held ws++[.list []]=mh st ld ⟨[],0,held,ws⟩:=by
 unfold m4 mh;rw[List.append_assoc];rfl
theorem KV{held:List (Option Cell)}{ws:WS}:(m4 st ld held ws).length=(hp st).length+4:=by
 unfold m4;rw[Za];rfl
theorem Ld{held:List (Option Cell)}{ws:WS}(hc:st.code.length<100000)(hk:st.locals.length<1000)(hl:∀p:Nat,au (p:Int) ld=(lo p).map V.int)(hs:gy st lo ⟨[],0,held,ws⟩ s')
  (hfin:s'.ws.fault≠.no∨st.code.length≤s'.pc) (hh:held.length<1000) (hlog:ws.log.length≤10):
  aa prog (n+11) n4 [.ref ((hp st).length+3),.ref 104,.ref 105] (m4 st ld held ws)=some (.ref ((hp st).length+4),mh st ld s'):=by
 refine E7 (GB (n:=n) hc hk hl hs hfin hh (Nat.zero_le _) (by show ws.log.length≤0+10;exact hlog) E6 (Nat.lt_trans hc (show 100000<1048576+0 by decide)) (by decide) none none none none) fun k5 k6 k7 k8 e=>?_
 rw[lh (show prog.fn n4=some ⟨3,9,eE⟩from rfl) rfl,show eE=[.asg 3 (.aX []),.asg 4 (.cst (.int 0)),.wh qj qt,.ret (.loc 3)]from rfl]
 have a1:evE prog (aa prog (n+10)) (.aX []) [some (.ref ((hp st).length+3)),some (.ref 104),some (.ref 105),none,none,none,none,none,none] (m4 st ld held ws)=some (.ref ((hp st).length+4),mh st ld ⟨[],0,held,ws⟩):=by
  show some (V.ref (m4 st ld held ws).length,m4 st ld held ws++[.list []])=_
  rw[LD,KV]
 exact kz (oa a1) (kz (oa (v:=.int 0) (h1:=mh st ld ⟨[],0,held,ws⟩) rfl) (kz e rfl))
end
section
variable{n:Nat}{st:PS}
abbrev Ct(n f:Nat)(vs:List V)(s:PS)(v:V)(s':PS):Prop:=aa prog n f vs (hp s)=some (v,hp s')
noncomputable def I.w:I→Int×V
 |.op o=>(o,.int 0)
 |.num o x=>(o,.int x)
 |.kind o k=>(o,.int k.n)
 |.str c=>(114,.str c)
 |.call=>(40,.tup [.int 25,.int 202,.tup []])
theorem I.vw(i:I):i.v=.fl [.int i.w.1,i.w.2]:=by induction i<;>rfl
theorem eO{α β:Type}(f:α→β)(l:List α)(a:α):l.map f++[f a]=(l++[a]).map f:=by rw[List.map_append];rfl
noncomputable def PS.add(st:PS)(i:I):PS:={st with code:=st.code++[i]}
noncomputable def PS.lab(st:PS):PS:={st with a9:=st.a9-1}
noncomputable def PS.put(st:PS)(l:Int):PS:={st with aO:=st.aO++[(l,(st.code.length:Int))]}
noncomputable def PS.loc(st:PS)(k:K):PS:={st with locals:=st.locals++[k]}
noncomputable def PS.bind(st:PS)(k:K)(i:Nat):PS:={st with locals:=st.locals++[k],aK:=st.aK++[(i,st.locals.length)]}
noncomputable def PS.bU(st:PS)(j:Nat)(l:List Nat):PS:={st with dyn:=st.dyn.set j (.bU l)}
noncomputable def PS.uq(st:PS)(k:K)(p:Nat):PS:={st with free:=st.free++[(k,st.dyn.length)],dyn:=st.dyn++[.bU [p]]}
theorem n5(i:I)(hc:st.code.length<LIM):Ct (n+1) 101 [.ref 103,.int i.w.1,i.w.2] st .none (st.add i):=by
 have b:ah prog (.ref 104) 8 [i.v] (hp st)=some (.none,hp (st.add i)):=(gm (h:=hp st) (l:=st.code.map I.v) rfl (by rw[Z9];exact hc)).trans (by rw[eO];rfl)
 rw[I.vw]at b
 exact run [.c ⟨_,_,b⟩] (by kernel_rfl)
theorem BU:Ct (n+1) 103 [.ref 103] st (.int (st.a9-1)) st.lab:=run [] (by kernel_rfl)
theorem kC{l:List (Int×V)}{k:Int}(h:∀p∈l,p.1≠k):au k l=none∧∀v,cg k v l=l++[(k,v)]:=by
 induction l with
 |nil=>exact⟨rfl,fun ζ=>rfl⟩
 |cons p r ih=>
  have hx:¬k=p.1:=fun e=>h p Ze e.symm
  obtain⟨i1,i2⟩:=ih fun p hp=>h p (Zh _ hp)
  exact⟨(if_neg hx).trans i1,fun v=>(if_neg hx).trans (congrArg _ (i2 v))⟩
def gv(st:PS)(l:Int):Prop:=∀p∈st.aO,p.1≠l
theorem wk{l:Int}(hl:gv st l)(hc:st.code.length<LIM)(hb:st.aO.length<LIM):Ct (n+1) 102 [.ref 103,.int l] st .none (st.put l):=by
 have e:=kC (l:=dE st.aO) (k:=l) fun p hp=>(List.mem_map.mp hp).elim fun q hq=>hq.2▸hl q hq.1
 have i1:isIn prog (.int l) (.ref 105) (hp st)=some false:=(BA (l:=dE st.aO) rfl).trans (by rw[e.1];rfl)
 have n1:lenOf prog (.ref 104) (hp st)=some st.code.length:=(kg (l:=st.code.map I.v) rfl (by rw[Z9];exact Nat.le_of_lt hc)).trans (by rw[Z9])
 have s1:subset prog (.ref 105) (.int l) (.int (st.code.length:Int)) (hp st)=some (hp (st.put l)):=(om (l:=dE st.aO) rfl (by rw[dE,Z9];exact hb)).trans (by
  rw[e.2,show dE st.aO++[(l,.int (st.code.length:Int))]=dE (st.aO++[(l,(st.code.length:Int))])from eO (fun p:Int×Int=>(p.1,V.int p.2)) _ (l,_)];rfl)
 exact run [.b ⟨_,_,i1⟩,.n ⟨_,_,n1⟩,.h ⟨_,_,s1⟩] (by kernel_rfl)
theorem C9{j:Nat}{d:D}(h:st.dyn[j]?=some d):(hp st)[138+j]?=some d.o:=by
 show (pre st++st.dyn.map D.o)[138+j]?=_
 rw[show 138=(pre st).length from rfl,d7,Zu,h];rfl
theorem y4{j:Nat}{d:D}:(hp st).set (138+j) d.o=hp {st with dyn:=st.dyn.set j d}:=by
 show (pre st++st.dyn.map D.o).set (138+j) d.o=pre st++(st.dyn.set j d).map D.o
 rw[show 138=(pre st).length from rfl,eZ,List.map_set]
theorem iO(k:K)(hl:st.locals.length<LIM):ah prog (.ref 106) 8 [.int k.n] (hp st)=some (.none,hp (st.loc k)):=
 (gm (h:=hp st) (l:=st.locals.map K.v) rfl (by rw[Z9];exact hl)).trans (by rw[show st.locals.map K.v++[.int k.n]=_ from eO K.v _ k];rfl)
theorem jc(k:K)(hl:st.locals.length<LIM):lenOf prog (.ref 106) (hp (st.loc k))=some (st.locals.length+1):=
 (kg (l:=(st.locals++[k]).map K.v) rfl (by rw[Z9,Za];exact hl)).trans (by rw[Z9,Za];rfl)
theorem sub_one(m:Nat):((m+1:Nat):Int)-1=m:=Int.add_sub_cancel (m:Int) 1
theorem jv(k:K):ah prog (.ref 109) 2 [.int k.n] (hp st)=some ((au k.n (bV st.free)).getD .none,hp st):=wy (l:=bV st.free) rfl rfl
theorem Bh{k:K}{v:V}(hl:st.locals.length<LIM)(e:(au k.n (bV st.free)).getD .none=v)(hv:v=.none∨∃a,v=.ref a∧truthy (.ref a) (hp st)=some false):Ct (n+1) 20 [.ref 103,.int k.n] st (.int st.locals.length) (st.loc k):=by
 have g:=jv (st:=st) k
 rw[e]at g
 rw[←sub_one]
 rcases hv with rfl|⟨a,rfl,h⟩
 ·exact run [.c ⟨_,_,g⟩,.c ⟨_,_,iO k hl⟩,.n ⟨_,_,jc k hl⟩] (by kernel_rfl)
 ·exact run [.c ⟨_,_,g⟩,.b ⟨_,_,h⟩,.c ⟨_,_,iO k hl⟩,.n ⟨_,_,jc k hl⟩] (by kernel_rfl)
noncomputable abbrev nv(x:Nat):V:=.int (x:Nat)
theorem ju{j:Nat}{l:List Nat}(h:st.dyn[j]?=some (.bU l)):(hp st)[138+j]?=some (.list (l.map nv)):=C9 h
theorem nS{j:Nat}{l:List Nat}:(hp st).set (138+j) (.list (l.map nv))=hp (st.bU j l):=y4 (d:=.bU l)
theorem Bv{k:K}{j x:Nat}{l:List Nat}(ha:au k.n (bV st.free)=some (.ref (138+j)))(hd:st.dyn[j]?=some (.bU (l++[x])))(hs:l.length<LIM):Ct (n+1) 20 [.ref 103,.int k.n] st (.int x) (st.bU j l):=by
 have g:=jv (st:=st) k
 rw[ha]at g
 have pg:=ju hd
 rw[List.map_append]at pg
 have hl:(l.map nv++[x].map nv).length≤LIM:=by rw[Za,Z9];exact hs
 have ne:(!(l.map nv++[x].map nv).isEmpty)=true:=by induction l<;>rfl
 exact run [.c ⟨_,_,g⟩,.b ⟨_,_,(lQ pg hl).trans (by rw[ne])⟩,.o ⟨_,_,mZ (m:=13) pg rfl⟩,.c ⟨_,_,(yr pg hl).trans (by rw[nS])⟩] (by kernel_rfl)
theorem DP{k:K}{j x:Nat}{l:List Nat}(g0:aJ prog (.ref 106) (.int x) (hp st)=some (.int k.n))(ha:au k.n (bV st.free)=some (.ref (138+j)))(hd:st.dyn[j]?=some (.bU l))(hs:l.length<LIM):Ct (n+1) 21 [.ref 103,.int x] st .none (st.bU j (l++[x])):=by
 have g:=jv (st:=st) k
 rw[ha]at g
 have pg:=ju hd
 exact run [.ov,.v ⟨_,_,g0⟩,.c ⟨_,_,g⟩,.o ⟨_,_,mZ (m:=8) pg rfl⟩,.c ⟨_,_,(gm (v:=.int x) pg (by rw[Z9];exact hs)).trans (by rw[show l.map nv++[.int x]=_ from eO nv l x,nS])⟩] (by kernel_rfl)
theorem Ex{k:K}{x:Nat}(g0:aJ prog (.ref 106) (.int x) (hp st)=some (.int k.n))(hn:au k.n (bV st.free)=none)(hk:∀p∈bV st.free,p.1≠k.n)(hs:st.free.length<LIM):Ct (n+1) 21 [.ref 103,.int x] st .none (st.uq k x):=by
 have g:=jv (st:=st) k
 rw[hn]at g
 let s1:PS:={st with dyn:=st.dyn++[.bU []]}
 let s2:PS:={s1 with free:=st.free++[(k,st.dyn.length)]}
 have ap:hp st++[.list []]=hp s1:=Dr (d:=.bU [])
 have st2:subset prog (.ref 109) (.int k.n) (.ref (138+st.dyn.length)) (hp s1)=some (hp s2):=(om (l:=bV st.free) rfl (by rw[bV,Z9];exact hs)).trans (by
  rw[(kC hk).2,show bV st.free++[(k.n,V.ref (138+st.dyn.length))]=bV (st.free++[(k,st.dyn.length)])from eO (fun p:K×Nat=>(p.1.n,V.ref (138+p.2))) _ (k,_)];rfl)
 have dn:s2.dyn[st.dyn.length]?=some (D.bU []):=List.getElem?_concat_length
 have pg:=ju dn
 have b1:ah prog (.ref (138+st.dyn.length)) 8 [.int x] (hp s2)=some (.none,hp (st.uq k x)):=(gm (v:=.int x) pg (by decide)).trans (by
  rw[show ([]:List Nat).map nv++[.int x]=[x].map nv from rfl,nS]
  show some (V.none,hp {s2 with dyn:=(st.dyn++[D.bU []]).set st.dyn.length (D.bU [x])})=_
  rw[List.set_append_right _ _ (Z5 _),Nat.sub_self];rfl)
 have so:=mZ (m:=8) pg rfl
 rw[←w0]at st2 b1 so
 rw[←ap]at st2
 exact run [.ov,.v ⟨_,_,g0⟩,.c ⟨_,_,g⟩,.h ⟨_,_,st2⟩,.o ⟨_,_,so⟩,.c ⟨_,_,b1⟩] (by kernel_rfl)
end
section
variable{n:Nat}{st:PS}
noncomputable def aA(g:G):K→K
 |.enm=>g.und.k
 |k=>k
noncomputable def aU:K→Bool:=inL [.obj,.bj,.nul,.cl0,.cl1,.ifc,.arr,.dlg,.typ]
noncomputable def cj(k:K):Bool:=decide (k=.var)
noncomputable def rj(k:K):Bool:=n11 k||inL [.enm,.nab,.stc] k
noncomputable def fk:K→Bool:=inL [.ifc,.arr,.dlg]
noncomputable def bg:K→Bool:=inL [.bool,.chr,.u1,.u2,.u4,.u8]
noncomputable def c8:K→Bool:=inL [.i8,.u8]
noncomputable def FL:K→Int
 |.i1=> -128|.i2=> -32768|.i4|.jk=> -2147483648|.i8=> -9223372036854775808
 |_=>0
noncomputable def xT:K→Int
 |.bool=>255
 |k=>hiK k
section
variable(k:K){H:H}
theorem jT:Ct (n+3) 12 [.ref 1,.int k.n] st (.bool (aU k)) st:=K.eqf (f:=fun k=>aa prog (n+3) 12 [.ref 1,.int k.n] (hp st)) (g:=fun k=>some (.bool (aU k),hp st)) (by kernel_rfl) k
theorem gR:Ct (n+3) 13 [.ref 1,.int k.n] st (.bool (cj k)) st:=K.eqf (f:=fun k=>aa prog (n+3) 13 [.ref 1,.int k.n] (hp st)) (g:=fun k=>some (.bool (cj k),hp st)) (by kernel_rfl) k
theorem vL:Ct (n+3) 11 [.ref 1,.int k.n] st (.bool (rj k)) st:=K.eqf (f:=fun k=>aa prog (n+3) 11 [.ref 1,.int k.n] (hp st)) (g:=fun k=>some (.bool (rj k),hp st)) (by kernel_rfl) k
theorem gZ:aa prog (n+1) 15 [.int k.n] H=some (.bool (n11 k),H):=K.eqf (f:=fun k=>aa prog (n+1) 15 [.int k.n] H) (g:=fun k=>some (.bool (n11 k),H)) (by kernel_rfl) k
theorem fP:aa prog (n+1) 32 [.int k.n] H=some (.bool (c8 k),H):=K.eqf (f:=fun k=>aa prog (n+1) 32 [.int k.n] H) (g:=fun k=>some (.bool (c8 k),H)) (by kernel_rfl) k
theorem HH:Ct (n+3) 29 [.ref 1,.int k.n] st (.int (if k=.nab then 7 else-1)) st:=K.eqf (f:=fun k=>aa prog (n+3) 29 [.ref 1,.int k.n] (hp st)) (g:=fun k=>some (.int (if k=.nab then 7 else-1),hp st)) (by kernel_rfl) k
theorem yW:Ct (n+4) 40 [.ref 103,.int k.n] st (.bool (fk k)) st:=K.eqf (f:=fun k=>aa prog (n+4) 40 [.ref 103,.int k.n] (hp st)) (g:=fun k=>some (.bool (fk k),hp st)) (by kernel_rfl) k
theorem gf:Ct (n+4) 17 [.ref 0,.int k.n] st (.int (aA st.g k).n) st:=by
 by_cases h:k=.enm
 ·subst h
  have i:=gZ (n:=n+2) (H:=hp st) st.g.und.k
  rw[show n11 st.g.und.k=true by induction st.g.und<;>rfl]at i
  exact run [.oc,.oc,.c ⟨_,_,i⟩] (by kernel_rfl)
 ·exact K.off (f:=fun k=>aa prog (n+4) 17 [.ref 0,.int k.n] (hp st)) (g:=fun k=>some (.int (aA st.g k).n,hp st)) (c:=fun k=>decide (k=.enm)) (by kernel_rfl) k (Z2 h)
theorem Qe:Ct (n+5) 35 [.ref 103,.int k.n] st (.bool (bg (aA st.g k))) st:=by
 have h:=gf (n:=n) (st:=st) k
 generalize aA st.g k=p at h⊢
 refine fK [.c ⟨_,_⟩] ?_ ⟨h,trivial⟩
 clear h;revert p;exact K.eqf (by kernel_rfl)
end
end
section
variable{n:Nat}{st:PS}{Γ:List (K×Val)}
structure Ext (a b:PS):Prop where
 g:b.g=a.g
 code:a.code<+:b.code
 aO:a.aO<+:b.aO
 locals:a.locals<+:b.locals
 ofl:a.aK<+:b.aK∧∀p∈b.aK,p∈a.aK∨a.locals.length≤p.2
theorem Ext.refl(a:PS):Ext a a:=⟨rfl,Zb,Zb,Zb,Zb,fun ζ=>.inl⟩
theorem Ext.trans{a b c:PS}(h:Ext a b)(k:Ext b c):Ext a c:=
 ⟨k.g.trans h.g,h.code.trans k.code,h.aO.trans k.aO,h.locals.trans k.locals,h.ofl.1.trans k.ofl.1,fun p hp=>(k.ofl.2 p hp).elim (h.ofl.2 p) fun e=>.inr (Z4 h.locals.length_le e)⟩
noncomputable def PS.core(st:PS):=(st.nums,st.now,st.left,st.aF,st.eG,st.vals,st.log,st.fault,st.made)
structure Ems (B:Int)(a b:PS):Prop where
 ext:Ext a b
 core:b.core=a.core
 vars:∀(j:Nat) (lid:Int) (k:K),a.dyn[j]?=some (.var lid k)→b.dyn[j]?=some (.var lid k)
 em:b.a9≤a.a9
 f7:∀p∈b.aO,p∈a.aO∨b.a9≤p.1∧p.1<B
section
variable{B B':Int}{a b c:PS}{l:Int}
theorem Ems.refl(a:PS):Ems B a a:=⟨.refl a,rfl,fun ζ ζ ζ h=>h,Int.le_refl _,fun ζ=>.inl⟩
theorem Ems.trans(h:Ems B a b)(k:Ems B b c):Ems B a c:=
 ⟨h.ext.trans k.ext,k.core.trans h.core,fun j l x hx=>k.vars j l x (h.vars j l x hx),Zg k.em h.em,fun p hp=>(k.f7 p hp).elim (fun e=>(h.f7 p e).imp id fun e=>⟨Zg k.em e.1,e.2⟩) .inr⟩
theorem Ems.up(h:Ems B a b)(hB:B≤B'):Ems B' a b:=⟨h.ext,h.core,h.vars,h.em,fun p hp=>(h.f7 p hp).imp id fun e=>⟨e.1,Zr e.2 hB⟩⟩
theorem Ems.fresh(h:Ems B a b)(f:gv a l)(hl:B≤l):gv b l:=fun p hp e=>(h.f7 p hp).elim (fun q=>f p q e) fun q=>absurd q.2 (Int.not_lt.mpr (e▸hl))
theorem bI(i:I):Ext a (a.add i):=⟨rfl,⟨_,rfl⟩,Zb,Zb,Zb,fun ζ=>.inl⟩
theorem lX:Ext a (a.put l):=⟨rfl,Zb,⟨_,rfl⟩,Zb,Zb,fun ζ=>.inl⟩
theorem gq(i:I):Ems B a (a.add i):=⟨bI i,rfl,fun ζ ζ ζ h=>h,Int.le_refl _,fun ζ=>.inl⟩
theorem rD:Ems B a a.lab:=⟨⟨rfl,Zb,Zb,Zb,Zb,fun ζ=>.inl⟩,rfl,fun ζ ζ ζ h=>h,Int.sub_le_self _ (by decide),fun ζ=>.inl⟩
theorem qR(h1:a.a9≤l)(h2:l<B):Ems B a (a.put l):=⟨lX,rfl,fun ζ ζ ζ h=>h,Int.le_refl _,fun p hp=>(Zv hp).imp id fun h=>by rw[Zs h];exact⟨h1,h2⟩⟩
end
def Tmp(st:PS)(p:Nat)(k:K):Prop:=st.locals[p]?=some k∧∀q∈st.aK,q.2≠p
theorem cL{α:Type}{l m:List α}(h:l<+:m){i:Nat}{a:α}(e:l[i]?=some a):m[i]?=some a:=by
 obtain⟨r,rfl⟩:=h
 rw[Zj (Z6 e).1];exact e
theorem cf{α:Type}{l:List α}{i:Nat}{a:α}(e:l[i]?=some a):i<l.length:=(Z6 e).1
theorem Tmp.mono{a b:PS}{p:Nat}{k:K}(h:Tmp a p k)(e:Ext a b):Tmp b p k:=
 ⟨cL e.locals h.1,fun q hq=>(e.ofl.2 q hq).elim (h.2 q) fun l z=>absurd (cf h.1) (Nat.not_lt.mpr (z▸l))⟩
structure bT (st:PS)(Γ:List (K×Val))(M d:Nat):Prop where
 code:st.code.length≤M
 f7:st.aO.length≤M
 free:st.free.length≤M
 bU:∀q∈st.free,∃l,st.dyn[q.2]?=some (.bU l)∧l.length≤M∧∀x∈l,Tmp st x q.1
 locs:st.locals.length+d≤64
 lab:∀p∈st.aO,st.a9≤p.1
 ofl:∀p∈st.aK,∃q,Γ[p.1]?=some q∧st.locals[p.2]?=some q.1
 lG:st.aK.length≤st.locals.length
 uniq:(st.aK.map (·.1)).Nodup∧(st.aK.map (·.2)).Nodup
 keys:(st.free.map (·.2)).Nodup
 vars:∀(i:Nat) (q:K×Val),Γ[i]?=some q→∃j,st.aF[i]?=some j∧st.dyn[j]?=some (.var ((i:Int)+1) q.1)
 nB:Γ.length<900
section
variable{M M' d d':Nat}{k:K}{l:Int}
theorem bT.up(h:bT st Γ M d)(hm:M≤M'):bT st Γ M' d:=
 ⟨Z4 h.code hm,Z4 h.f7 hm,Z4 h.free hm,fun q hq=>(h.bU q hq).imp fun l e=>⟨e.1,Z4 e.2.1 hm,e.2.2⟩,h.locs,h.lab,h.ofl,h.lG,h.uniq,h.keys,h.vars,h.nB⟩
theorem bT.dn(h:bT st Γ M d)(hd:d'≤d):bT st Γ M d':=
 ⟨h.code,h.f7,h.free,h.bU,Z4 (Zf hd _) h.locs,h.lab,h.ofl,h.lG,h.uniq,h.keys,h.vars,h.nB⟩
theorem jK{α:Type}{l:List α}{a:α}{M:Nat}(h:l.length≤M):(l++[a]).length≤M+1:=by
 rw[Za];exact Nat.succ_le_succ h
theorem f9(i:I)(h:bT st Γ M d):bT (st.add i) Γ (M+1) d:=
 have u:=h.up (Z7 M)
 ⟨jK h.code,u.f7,u.free,u.bU,u.locs,u.lab,u.ofl,u.lG,u.uniq,u.keys,u.vars,u.nB⟩
theorem qh(h:bT st Γ M d):bT st.lab Γ M d:=
 ⟨h.code,h.f7,h.free,h.bU,h.locs,fun p hp=>Zg (Int.sub_le_self _ (by decide)) (h.lab p hp),h.ofl,h.lG,h.uniq,h.keys,h.vars,h.nB⟩
theorem ra(h:bT st Γ M d)(hl:st.a9≤l):bT (st.put l) Γ (M+1) d:=
 have u:=h.up (Z7 M)
 ⟨u.code,jK h.f7,u.free,u.bU,u.locs,fun p hp=>(Zv hp).elim (h.lab p) fun e=>Zs e▸hl,u.ofl,u.lG,u.uniq,u.keys,u.vars,u.nB⟩
theorem pY(k:K)(h:st.locals.length+(d+1)≤64):(st.locals++[k]).length+d≤64:=by
 rw[Za,Nat.add_assoc,Nat.add_comm _ d];exact h
theorem rG(k:K):Ext st (st.loc k):=⟨rfl,Zb,Zb,⟨_,rfl⟩,Zb,fun ζ=>.inl⟩
theorem It(k:K)(h:bT st Γ M (d+1)):bT (st.loc k) Γ M d:=
 ⟨h.code,h.f7,h.free,fun q hq=>(h.bU q hq).imp fun l e=>⟨e.1,e.2.1,fun x hx=>(e.2.2 x hx).mono (rG k)⟩,pY k h.locs,h.lab,fun p hp=>(h.ofl p hp).imp fun q e=>⟨e.1,cL ⟨_,rfl⟩ e.2⟩,Z4 h.lG (rG k).locals.length_le,h.uniq,h.keys,h.vars,h.nB⟩
theorem IS{B:Int}(k:K):Ems B st (st.loc k):=⟨rG k,rfl,fun ζ ζ ζ h=>h,Int.le_refl _,fun ζ=>.inl⟩
theorem bT.lt(h:bT st Γ M d):∀p∈st.aK,p.2<st.locals.length:=fun p hp=>(h.ofl p hp).elim fun ζ e=>cf e.2
theorem wY{α:Type}{l:List α}{a:α}(h:l.Nodup)(ha:∀b∈l,b≠a):(l++[a]).Nodup:=
 List.nodup_append.mpr ⟨h,List.nodup_cons.mpr ⟨List.not_mem_nil,.nil⟩,fun b hb c hc=>Zs hc▸ha b hb⟩
theorem K1{α β:Type}{f:α→β}{l:List α}{b:β}(h:∀a∈l,f a≠b):∀x∈l.map f,x≠b:=fun x hx=>(List.mem_map.mp hx).elim fun a e=>e.2▸h a e.1
theorem k9{α β:Type}{f:α→β}{l:List α}{a:α}(h:(l.map f).Nodup)(ha:∀b∈l,f b≠f a):((l++[a]).map f).Nodup:=eO f l a▸wY h (K1 ha)
theorem uX(k:K)(i:Nat):Ext st (st.bind k i):=⟨rfl,Zb,Zb,⟨_,rfl⟩,⟨_,rfl⟩,fun p hp=>(Zv hp).imp id fun e=>by rw[Zs e];exact Z5 _⟩
theorem C7{B:Int}(k:K)(i:Nat):Ems B st (st.bind k i):=⟨uX k i,rfl,fun ζ ζ ζ h=>h,Int.le_refl _,fun ζ=>.inl⟩
theorem C5{i:Nat}{q:K×Val}(h:bT st Γ M (d+1))(hq:Γ[i]?=some q)(hn:∀p∈st.aK,p.1≠i):bT (st.bind q.1 i) Γ M d:=
 ⟨h.code,h.f7,h.free,fun r hr=>(h.bU r hr).imp fun l e=>⟨e.1,e.2.1,fun x hx=>(e.2.2 x hx).mono (uX _ _)⟩,pY q.1 h.locs,h.lab,
  fun p hp=>(Zv hp).elim (fun e=>(h.ofl p e).imp fun q e=>⟨e.1,cL ⟨_,rfl⟩ e.2⟩) fun e=>by rw[Zs e];exact⟨q,hq,List.getElem?_concat_length⟩,
  by show (st.aK++[_]).length≤(st.locals++[_]).length;rw[Za,Za];exact Nat.succ_le_succ h.lG,
  ⟨k9 h.uniq.1 hn,k9 (f:=(·.2)) h.uniq.2 fun p hp=>Nat.ne_of_lt (h.lt p hp)⟩,h.keys,h.vars,h.nB⟩
theorem z8{l:List (K×Nat)}(h:(l.map (·.2)).Nodup){p q:K×Nat}(hp:p∈l)(hq:q∈l)(e:p.2=q.2):p=q:=by
 induction l with
 |nil=>cases hp
 |cons a r ih=>
  have h:=List.nodup_cons.mp h
  rcases Zm hp with rfl|hp1
  ·rcases Zm hq with rfl|hq1
   ·rfl
   ·exact absurd (List.mem_map.mpr ⟨q,hq1,e.symm⟩) h.1
  ·rcases Zm hq with rfl|hq1
   ·exact absurd (List.mem_map.mpr ⟨p,hp1,e⟩) h.1
   ·exact ih h.2 hp1 hq1
theorem Cp{j i:Nat}{l m:List Nat}{d:D}(hd:st.dyn[j]?=some (.bU l))(h:st.dyn[i]?=some d)(hne:i≠j):(st.dyn.set j (.bU m))[i]?=some d:=by
 rw[List.getElem?_set_ne hne.symm];exact h
theorem yL{j i:Nat}{l m:List Nat}{lid:Int}{x:K}(hd:st.dyn[j]?=some (.bU l))(h:st.dyn[i]?=some (.var lid x)):(st.dyn.set j (.bU m))[i]?=some (.var lid x):=
 Cp hd h fun e=>by rw[e,hd]at h;cases h
theorem uO{B:Int}{j:Nat}{l m:List Nat}(hd:st.dyn[j]?=some (.bU l)):Ems B st (st.bU j m):=⟨⟨rfl,Zb,Zb,Zb,Zb,fun ζ=>.inl⟩,rfl,fun ζ ζ ζ h=>yL hd h,Int.le_refl _,fun ζ=>.inl⟩
theorem uU{j:Nat}{l m:List Nat}(h:bT st Γ M d)(hq:(k,j)∈st.free)(hd:st.dyn[j]?=some (.bU l))(hm:m.length≤M)(ht:∀x∈m,Tmp st x k):bT (st.bU j m) Γ M d:=
 ⟨h.code,h.f7,h.free,fun q hq'=>by
  by_cases e:q.2=j
  ·cases z8 h.keys hq' hq e
   exact⟨m,List.getElem?_set_self (cf hd),hm,ht⟩
  ·exact (h.bU q hq').imp fun r x=>⟨Cp hd x.1 e,x.2⟩,h.locs,h.lab,h.ofl,h.lG,h.uniq,h.keys,fun i q hq'=>(h.vars i q hq').imp fun x e=>⟨e.1,yL hd e.2⟩,h.nB⟩
theorem Ag{B:Int}{p:Nat}:Ems B st (st.uq k p):=⟨⟨rfl,Zb,Zb,Zb,Zb,fun ζ=>.inl⟩,rfl,fun ζ ζ ζ h=>cL ⟨_,rfl⟩ h,Int.le_refl _,fun ζ=>.inl⟩
theorem zu{p:Nat}(h:bT st Γ M d)(ht:Tmp st p k):bT (st.uq k p) Γ (M+1) d:=
 have u:=h.up (Z7 M)
 ⟨u.code,u.f7,jK h.free,fun q hq=>(Zv hq).elim (fun e=>(u.bU q e).imp fun l x=>⟨cL ⟨_,rfl⟩ x.1,x.2⟩) fun e=>by
  rw[Zs e]
  exact⟨[p],List.getElem?_concat_length,Nat.succ_le_succ (Nat.zero_le M),fun x hx=>Zs hx▸ht⟩,
  u.locs,u.lab,u.ofl,u.lG,u.uniq,k9 (f:=(·.2)) h.keys fun q hq=>(h.bU q hq).elim fun l e=>Nat.ne_of_lt (cf e.1),fun i q hq=>(h.vars i q hq).imp fun j e=>⟨e.1,cL ⟨_,rfl⟩ e.2⟩,u.nB⟩
end
end
section
variable{n:Nat}{st:PS}{Γ:List (K×Val)}{g:G}
theorem rV{k:K}:∀l:List (K×Nat),(au k.n (bV l)=none∧∀p∈bV l,p.1≠k.n)∨∃j,(k,j)∈l∧au k.n (bV l)=some (.ref (138+j))
 |[]=>.inl ⟨rfl,fun ζ h=>nomatch h⟩
 |(x,j)::r=>by
  by_cases h:k.n=x.n
  ·exact .inr ⟨j,K.eN h▸Ze,if_pos h⟩
  ·exact (rV r).imp (fun e=>⟨(if_neg h).trans e.1,fun p hp=>(Zm hp).elim (fun z=>z▸Ne.symm h) (e.2 p)⟩) fun ⟨i,a,b⟩=>⟨i,Zh _ a,(if_neg h).trans b⟩
theorem succ_inj{a b:Nat}(e:(a:Int)+1=(b:Int)+1):a=b:=Nat.succ.inj (Int.ofNat.inj (show Int.ofNat (a+1)=Int.ofNat (b+1)from e))
theorem BG{i:Nat}:∀l:List (Nat×Nat),(au ((i:Int)+1) (encOf l)=none∧∀p∈l,p.1≠i)∨∃x:Nat,(i,x)∈l∧au ((i:Int)+1) (encOf l)=some (.int x)
 |[]=>.inl ⟨rfl,fun ζ h=>nomatch h⟩
 |(y,x)::r=>by
  by_cases h:i=y
  ·exact .inr ⟨x,h▸Ze,if_pos (h▸rfl)⟩
  ·have hn:¬(i:Int)+1=(y:Int)+1:=fun e=>h (succ_inj e)
   exact (BG r).imp (fun e=>⟨(if_neg hn).trans e.1,fun p hp=>(Zm hp).elim (fun z=>z▸Ne.symm h) (e.2 p)⟩) fun ⟨x,a,b⟩=>⟨x,Zh _ a,(if_neg hn).trans b⟩
theorem kA{m:Nat}(h:m≤30000):m<LIM:=Zl h (by decide)
section
variable{M d:Nat}{k:K}{B:Int}
theorem bT.rK(h:bT st Γ M d):st.locals.length<LIM:=Zl (Z4 (Z8 _ _) h.locs) (by decide)
theorem xA(k:K)(h:bT st Γ M (d+1))(hM:M≤30000):∃s',bT s' Γ M d∧Ems B st s'∧s'.code=st.code∧∃p,Tmp s' p k∧∀n,Ct (n+1) 20 [.ref 103,.int k.n] st (.int (p:Nat)) s':=by
 have new:∀v,(au k.n (bV st.free)).getD .none=v→(v=.none∨∃a,v=.ref a∧truthy (.ref a) (hp st)=some false)→_:=fun v e hv=>
  (⟨st.loc k,It k h,IS k,rfl,st.locals.length,⟨List.getElem?_concat_length,fun q hq=>Nat.ne_of_lt (h.lt q hq)⟩,fun n=>Bh h.rK e hv⟩:∃s',bT s' Γ M d∧Ems B st s'∧s'.code=st.code∧∃p,Tmp s' p k∧∀n,Ct (n+1) 20 [.ref 103,.int k.n] st (.int (p:Nat)) s')
 rcases rV (k:=k) st.free with e|⟨j,hq,e⟩
 ·exact new .none (by rw[e.1];rfl) (.inl rfl)
 ·obtain⟨l,hd,hl,ht⟩:=h.bU _ hq
  rcases List.eq_nil_or_concat l with rfl|⟨m,x,rfl⟩
  ·exact new _ (by rw[e];rfl) (.inr ⟨_,rfl,(lQ (ju hd) (Nat.zero_le _)).trans rfl⟩)
  ·rw[List.concat_eq_append]at hd hl ht
   have hm:m.length≤M:=Z4 (Z4 (Z7 _) (Zi (Za (as:=m) (bs:=[x])).symm)) hl
   exact⟨st.bU j m,(uU h hq hd hm fun y hy=>ht y (List.mem_append.mpr (.inl hy))).dn (Z7 d),uO hd,rfl,x,ht x (List.mem_append.mpr (.inr Ze)),fun n=>Bv e hd (kA (Z4 hm hM))⟩
theorem yy{p:Nat}(h:bT st Γ M d)(ht:Tmp st p k)(hM:M≤30000):∃s',bT s' Γ (M+1) d∧Ems B st s'∧s'.code=st.code∧∀n,Ct (n+1) 21 [.ref 103,.int (p:Nat)] st .none s':=by
 have lt:=ZA (cf ht.1) (Z4 (Z8 _ d) h.locs)
 have g0:aJ prog (.ref 106) (.int p) (hp st)=some (.int k.n):=gr (l:=st.locals.map K.v) rfl (fh (Nat.lt_trans lt (by decide))) (by rw[Int.toNat_natCast,Zu,ht.1];rfl)
 rcases rV (k:=k) st.free with e|⟨j,hq,e⟩
 ·exact⟨st.uq k p,zu h ht,Ag,rfl,fun n=>Ex g0 e.1 e.2 (kA (Z4 h.free hM))⟩
 ·obtain⟨l,hd,hl,hx⟩:=h.bU _ hq
  exact⟨st.bU j (l++[p]),uU (h.up (Z7 M)) hq hd (jK hl) fun x hx'=>(Zv hx').elim (hx x) fun e=>Zs e▸ht,uO hd,rfl,fun n=>DP g0 e hd (kA (Z4 hl hM))⟩
theorem Ar{lid x:Int}(m1:ah prog (.ref 107) 2 [.int lid,.none] (hp st)=some (.int x,hp st)):Ct (n+1) 27 [.ref 103,.int lid] st (.int x) st:=run [.c ⟨_,_,m1⟩] (by kernel_rfl)
theorem AE{lid kk:Int}{j L:Nat}{s1 s2:PS}(m1:ah prog (.ref 107) 2 [.int lid,.none] (hp st)=some (.none,hp st))(g1:aJ prog (.ref 89) (.int lid) (hp st)=some (.ref j))(g2:jR (.ref j) 23 (hp st)=some (.int kk))
  (m2:ah prog (.ref 106) 8 [.int kk] (hp st)=some (.none,hp s1)) (ln:lenOf prog (.ref 106) (hp s1)=some L) (st2:subset prog (.ref 107) (.int lid) (.int ((L:Int)-1)) (hp s1)=some (hp s2)):
  Ct (n+1) 27 [.ref 103,.int lid] st (.int ((L:Int)-1)) s2:=run [.c ⟨_,_,m1⟩,.ov,.ov,.ov,.v ⟨_,_,g1⟩,.v ⟨_,_,g2⟩,.c ⟨_,_,m2⟩,.n ⟨_,_,ln⟩,.h ⟨_,_,st2⟩] (by kernel_rfl)
theorem CK{i:Nat}{q:K×Val}(hq:Γ[i]?=some q)(h:bT st Γ M (d+1)):∃s',bT s' Γ M d∧Ems B st s'∧s'.code=st.code∧∃p:Nat,((i,p)∈s'.aK∧s'.locals[p]?=some q.1)∧∀n,Ct (n+1) 27 [.ref 103,.int ((i:Int)+1)] st (.int (p:Nat)) s':=by
 have m1:=wy (h:=hp st) (a:=107) (l:=encOf st.aK) (i:=(i:Int)+1) (d:=.none) rfl rfl
 rcases BG (i:=i) st.aK with e|⟨x,hx,e⟩
 ·rw[e.1]at m1
  obtain⟨j,hj,hd⟩:=h.vars i q hq
  have hi:i+1<100000:=Nat.lt_trans (Nat.succ_lt_succ (Nat.lt_trans (cf hq) h.nB)) (by decide)
  have g1:aJ prog (.ref 89) (.int ((i:Int)+1)) (hp st)=some (.ref (138+j)):=gr (l:=.none::st.aF.map fun j=>V.ref (138+j)) rfl (fh hi) (by rw[show ((i:Int)+1).toNat=i+1 from rfl,List.getElem?_cons_succ,Zu,hj];rfl)
  have g2:jR (.ref (138+j)) 23 (hp st)=some (.int q.1.n):=by
   show (ins (hp st) (138+j)).bind _=_
   unfold ins;rw[C9 hd];rfl
  have s2:subset prog (.ref 107) (.int ((i:Int)+1)) (.int (((st.locals.length+1:Nat):Int)-1)) (hp (st.loc q.1))=some (hp (st.bind q.1 i)):=by
   rw[sub_one]
   refine (om (l:=encOf st.aK) rfl (by rw[encOf,Z9];exact Zl h.lG h.rK)).trans ?_
   rw[(kC (l:=encOf st.aK) fun p hp=>(List.mem_map.mp hp).elim fun r hr z=>e.2 r hr.1 (succ_inj ((congrArg Prod.fst hr.2).trans z))).2,show encOf st.aK++[((i:Int)+1,V.int st.locals.length)]=encOf (st.aK++[(i,st.locals.length)])from eO (fun p:Nat×Nat=>((p.1:Int)+1,V.int (p.2:Nat))) _ (i,_)];rfl
  exact⟨st.bind q.1 i,C5 h hq e.2,C7 _ _,rfl,st.locals.length,⟨List.mem_append.mpr (.inr Ze),List.getElem?_concat_length⟩,fun n=>by rw[←sub_one st.locals.length];exact AE m1 g1 g2 (iO q.1 h.rK) (jc q.1 h.rK) s2⟩
 ·rw[e]at m1
  obtain⟨r,h2,h4⟩:=h.ofl _ hx
  rw[show Γ[i]?=_ from hq]at h2
  cases h2
  exact⟨st,h.dn (Z7 d),.refl st,rfl,x,⟨hx,h4⟩,fun n=>Ar m1⟩
end
end
section
variable{n:Nat}
noncomputable abbrev dP:=List (Option Cell)
structure FE where
 sf:PS
 lo:Nat→Option Int
 Γ:List (K×Val)
noncomputable abbrev FE.g(E:FE):G:=E.sf.g
structure Fin (E:FE)(s:PS):Prop where
 ext:Ext s E.sf
 lo1:∀q∈E.sf.aK,E.lo q.2=some ((q.1:Int)+1)
 lo2:∀p,(∀q∈E.sf.aK,q.2≠p)→E.lo p=none
structure aL (E:FE)(h:dP):Prop where
 len:h.length=E.sf.locals.length
 var:∀q∈E.sf.aK,∀r,E.Γ[q.1]?=some r→h[q.2]?=some (some (cellOf E.g r.1 r.2))
noncomputable def cellK(g:G)(k:K)(v:Val)(k3:Int):Cell:=⟨bS (aj g k),iZ (aj g k) v,k3⟩
noncomputable abbrev aD:=Val→List Cell→Nat→dP→Prop
def Goes(E:FE)(a:MS)(r:Val×WS)(Q:aD):Prop:=∃S pc h,gy E.sf E.lo a ⟨S,pc,h,r.2⟩∧(r.2.fault=.no→Q r.1 S pc h)
noncomputable def oI(E:FE)(S:List Cell)(pc:Nat)(k:K)(tied:Bool):aD:=fun v S' pc' h'=>∃k3,S'=cellK E.g k v k3::S∧pc'=pc∧aL E h'∧(tied=true→k3=k.n)
noncomputable def At(E:FE)(S:List Cell)(pc:Val→Nat):aD:=fun v S' pc' h'=>S'=S∧pc'=pc v∧aL E h'
variable{E:FE}{a b:MS}{s s':PS}{S S':List Cell}{pc pc' p:Nat}{h h':dP}{ws ws':WS}{r x:Val×WS}{P Q:aD}{f:Val→WS→Val×WS}{k:K}{tied:Bool}{i:I}{l:Int}
theorem Fin.back(F:Fin E s')(e:Ext s s'):Fin E s:=⟨e.trans F.ext,F.lo1,F.lo2⟩
theorem aL.set{c:Option Cell}(H:aL E h)(t:Tmp E.sf p k):aL E (h.set p c):=
 ⟨by rw[List.length_set];exact H.len,fun q hq r hr=>by rw[List.getElem?_set_ne (Ne.symm (t.2 q hq))];exact H.var q hq r hr⟩
theorem aL.lt(H:aL E h)(t:Tmp E.sf p k):p<h.length:=H.len▸cf t.1
theorem Fin.Jw(F:Fin E s)(t:Tmp E.sf p k)(ws:WS):gH E.lo p ws=ws:=by unfold gH;rw[F.lo2 p t.2]
theorem bw(hQ:r.2.fault=.no→Q r.1 S pc h):Goes E ⟨S,pc,h,r.2⟩ r Q:=⟨S,pc,h,.refl _,hQ⟩
theorem fI(hf:a.ws.fault=.no)(s:Step E.sf E.lo a b)(h:Goes E b r Q):Goes E a r Q:=h.imp fun ζ h=>h.imp fun ζ h=>h.imp fun ζ h=>⟨.cons hf s h.1,h.2⟩
theorem n9(h:Goes E a r P)(k:r.2.fault=.no→∀S pc h,P r.1 S pc h→Goes E ⟨S,pc,h,r.2⟩ r Q):Goes E a r Q:=by
 obtain⟨S,pc,h,st,hP⟩:=h
 by_cases hf:r.2.fault=.no
 ·obtain⟨S2,pc2,h2,st2,hQ⟩:=k hf S pc h (hP hf)
  exact⟨S2,pc2,h2,st.trans st2,hQ⟩
 ·exact⟨S,pc,h,st,fun e=>absurd e hf⟩
theorem uk(h:Goes E a x P)(k:x.2.fault=.no→∀S pc h,P x.1 S pc h→Goes E ⟨S,pc,h,x.2⟩ (f x.1 x.2) Q):Goes E a (andM x f) Q:=by
 obtain⟨S,pc,h,st,hP⟩:=h
 by_cases hf:x.2.fault=.no
 ·obtain⟨S2,pc2,h2,st2,hQ⟩:=k hf S pc h (hP hf)
  rw[hX hf]
  exact⟨S2,pc2,h2,st.trans st2,hQ⟩
 ·rw[ma hf]
  exact⟨S,pc,h,st,fun e=>absurd e hf⟩
theorem bZ(h:Goes E a x (oI E S pc k tied))(q:x.2.fault=.no→∀h k3,aL E h→(tied=true→k3=k.n)→Goes E ⟨cellK E.g k x.1 k3::S,pc,h,x.2⟩ (f x.1 x.2) Q):Goes E a (andM x f) Q:=
 uk h fun hf ζ ζ h' ⟨k3,e1,e2,H,t⟩=>by subst e1 e2;exact q hf h' k3 H t
theorem eC(h:Goes E a x (oI E S pc k tied))(q:x.2.fault=.no→∀h k3,aL E h→(tied=true→k3=k.n)→Goes E ⟨cellK E.g k x.1 k3::S,pc,h,x.2⟩ x Q):Goes E a x Q:=
 n9 h fun hf ζ ζ h' ⟨k3,e1,e2,H,t⟩=>by subst e1 e2;exact q hf h' k3 H t
theorem lV{pc:Val→Nat}(h:Goes E a x (At E S pc))(q:x.2.fault=.no→∀h,aL E h→Goes E ⟨S,pc x.1,h,x.2⟩ (f x.1 x.2) Q):Goes E a (andM x f) Q:=
 uk h fun hf ζ ζ h' ⟨e1,e2,H⟩=>by subst e1 e2;exact q hf h' H
theorem kE{pc:Val→Nat}(h:Goes E a x (At E S pc))(q:x.2.fault=.no→∀h,aL E h→Goes E ⟨S,pc x.1,h,x.2⟩ x Q):Goes E a x Q:=
 n9 h fun hf ζ ζ h' ⟨e1,e2,H⟩=>by subst e1 e2;exact q hf h' H
theorem bX{k3:Int}{c:Cell}(e:r.2.fault=.no→c=cellK E.g k r.1 k3)(H:aL E h)(t:tied=true→k3=k.n):Goes E ⟨c::S,pc,h,r.2⟩ r (oI E S pc k tied):=bw fun hf=>⟨k3,congrArg (· ::S) (e hf),rfl,H,t⟩
theorem b4{k3:Int}:false=true→k3=k.n:=fun e=>absurd e Zc
theorem dM:(s.add i).code.length=s.code.length+1:=Za
theorem code_at(e:Ext (s.add i) E.sf):E.sf.code[s.code.length]?=some i:=cL e.code List.getElem?_concat_length
theorem b9(F:Fin E (s.add i))(hf:ws.fault=.no)(st:E.sf.code[s.code.length]?=some i→Step E.sf E.lo ⟨S,s.code.length,h,ws⟩ ⟨S',s.code.length+1,h',ws'⟩)(q:Goes E ⟨S',(s.add i).code.length,h',ws'⟩ r Q):Goes E ⟨S,s.code.length,h,ws⟩ r Q:=
 fI hf (st (code_at F.ext)) (dM (s:=s) (i:=i)▸q)
theorem t5{l:Int}{v:V}{m:List (Int×Int)}:∀x:List (Int×Int),au l (dE x)=some v→au l (dE (x++m))=some v
 |[],e=>nomatch e
 |(y,z)::t,e=>by
  by_cases h:l=y
  ·exact (if_pos h).trans ((if_pos h).symm.trans e)
  ·exact (if_neg h).trans (t5 t ((if_neg h).symm.trans e))
theorem wG{a b:PS}(h:Ext a b)(hl:dg a l p):dg b l p:=by
 obtain⟨r,er⟩:=h.aO
 unfold dg;rw[←er];exact t5 _ hl
theorem pT{l:Int}{q:Int}:∀x:List (Int×Int),(∀p∈x,p.1≠l)→au l (dE (x++[(l,q)]))=some (.int q)
 |[],_=>if_pos rfl
 |y::t,h=>(if_neg fun e=>h y Ze e.symm).trans (pT t fun p hp=>h p (Zh _ hp))
theorem kj(h:gv s l)(e:Ext (s.put l) E.sf):dg E.sf l s.code.length:=wG e (pT _ h)
noncomputable def Tr.ti:Tr→Bool
 |.cond k _ _ _=>fk k
 |_=>false
def EOk(t:Tr)(s s':PS):Prop:=∀E,Fin E s'→WT E.g E.Γ t→∀S h ws,ws.fault=.no→aL E h→Goes E ⟨S,s.code.length,h,ws⟩ (aN E.g (aI E.Γ) t ws) (oI E S s'.code.length t.kind t.ti)
noncomputable def jpc(w:Bool)(here pos:Nat)(v:Val):Nat:=if decide (v.toI=0)=w then here else pos
def JOk(t:Tr)(w:Bool)(l:Int)(s s':PS):Prop:=∀E,Fin E s'→WT E.g E.Γ t→∀pos,dg E.sf l pos→s'.code.length≤pos→∀S h ws,ws.fault=.no→aL E h→
 Goes E ⟨S,s.code.length,h,ws⟩ (aN E.g (aI E.Γ) t ws) (At E S (jpc w s'.code.length pos))
def FOk(t:Tr)(s s':PS):Prop:=∀E,Fin E s'→WT E.g E.Γ t→∀S h ws,ws.fault=.no→aL E h→Goes E ⟨S,s.code.length,h,ws⟩ (aN E.g (aI E.Γ) t ws) (At E S fun ζ=>s'.code.length)
def a8(g:G)(Γ:List (K×Val))(c d:Nat)(C:PS→PS→Prop):Prop:=∀(s:PS) (M d':Nat),s.g=g→M+c≤30000→bT s Γ M (d'+d)→∃s',bT s' Γ (M+c) d'∧Ems s.a9 s s'∧C s s'
section
variable{g:G}{Γ:List (K×Val)}{c c1 c2 d d1 d2:Nat}{C C1 C2:PS→PS→Prop}
theorem ak(f:∀s s',s.g=g→Ext s s'→C1 s s'→C s s')(h:a8 g Γ c d C1):a8 g Γ c d C:=fun s M d' hg hM hi=>(h s M d' hg hM hi).imp fun s' e=>⟨e.1,e.2.1,f s s' hg e.2.1.ext e.2.2⟩
theorem ai(h:a8 g Γ c1 d1 C)(hc:c1≤c)(hd:d1≤d):a8 g Γ c d C:=fun s M d' hg hM hi=>
 (h s M d' hg (Z4 (Zf hc M) hM) (hi.dn (Zf hd d'))).imp fun s' e=>⟨e.1.up (Zf hc M),e.2⟩
theorem eQ:a8 g Γ 0 0 (fun s s'=>s'=s):=fun s M d' ζ ζ hi=>⟨s,hi,.refl s,rfl⟩
def Seq(C1 C2:PS→PS→Prop)(s s':PS):Prop:=∃s1,C1 s s1∧C2 s1 s'∧Ext s1 s'∧s1.g=s.g
theorem bo(h1:a8 g Γ c1 d1 C1)(h2:a8 g Γ c2 d2 C2):a8 g Γ (c1+c2) (d2+d1) (Seq C1 C2):=fun s M d' hg hM hi=>by
 rw[←Nat.add_assoc]at hM hi⊢
 obtain⟨s1,i1,e1,q1⟩:=h1 s M (d'+d2) hg (Z4 (Z8 _ _) hM) hi
 obtain⟨s2,i2,e2,q2⟩:=h2 s1 (M+c1) d' (e1.ext.g.trans hg) hM i1
 exact⟨s2,i2,e1.trans (e2.up e1.em),s1,q1,q2,e2.ext,e1.ext.g⟩
theorem Seq.el{P:Prop}(h:Seq C1 C2 s s')(f:∀s1,C1 s s1→C2 s1 s'→Ext s1 s'→s1.g=s.g→P):P:=h.elim fun s1 e=>f s1 e.1 e.2.1 e.2.2.1 e.2.2.2
theorem aV(h1:a8 g Γ c1 d1 C1)(h2:a8 g Γ c2 d2 C2)(f:∀s s1 s',s.g=g→s1.g=g→Ext s1 s'→C1 s s1→C2 s1 s'→C s s'):a8 g Γ (c1+c2) (d2+d1) C:=
 ak (fun s s' hg ζ e=>e.el fun s1 a b x eg=>f s s1 s' hg (eg.trans hg) x a b) (bo h1 h2)
def Ins(i:I)(s s':PS):Prop:=s'=s.add i∧∀n,Ct (n+1) 101 [.ref 103,.int i.w.1,i.w.2] s .none s'
theorem cu(hi:Ins i s s')(F:Fin E s')(hf:ws.fault=.no)(st:E.sf.code[s.code.length]?=some i→Step E.sf E.lo ⟨S,s.code.length,h,ws⟩ ⟨S',s.code.length+1,h',ws'⟩)(q:Goes E ⟨S',s'.code.length,h',ws'⟩ r Q):Goes E ⟨S,s.code.length,h,ws⟩ r Q:=by
 obtain⟨rfl,_⟩:=hi;exact b9 F hf st q
theorem aq(i:I):a8 g Γ 1 0 (Ins i):=fun s M d' ζ hM hi=>⟨s.add i,f9 i hi,gq i,rfl,fun n=>n5 i (Zl (Z4 hi.code (Nat.le_of_succ_le hM)) (by decide))⟩
theorem xB{p:Prop}[Decidable p](h1:p→a8 g Γ c d C1)(h2:¬p→a8 g Γ c d C2):a8 g Γ c d (fun s s'=>(p∧C1 s s')∨(¬p∧C2 s s')):=by
 by_cases h:p
 ·exact ak (fun ζ ζ ζ ζ e=>.inl ⟨h,e⟩) (h1 h)
 ·exact ak (fun ζ ζ ζ ζ e=>.inr ⟨h,e⟩) (h2 h)
end
end
section
variable{n:Nat}{s0 s1 s2 s3 s4 s5 s6 s7 s8 s9 sa sb:PS}{v w x5 v2 v3 v4 v5 a0 a1 a2:V}{k:Int}{r r1 r2:List V}
noncomputable def fC{f:Nat}{vs:List V}(h:Ct n f vs s0 v s1):Fa:=.c ⟨_,_,h⟩
theorem bN(h:Ct n 22 [.ref 103,v] s0 .none s1):Ct (n+1) 106 [.ref 103,v] s0 .none s1:=run [fC h] (by kernel_rfl)
theorem mW(h:Ct n 23 [.ref 103,v] s0 .none s1):Ct (n+1) 107 [.ref 103,v] s0 .none s1:=run [fC h] (by kernel_rfl)
theorem Ce(h:Ct n 20 [.ref 103,v] s0 w s1):Ct (n+1) 104 [.ref 103,v] s0 w s1:=run [fC h] (by kernel_rfl)
theorem Dw(h:Ct n 21 [.ref 103,v] s0 .none s1):Ct (n+1) 105 [.ref 103,v] s0 .none s1:=run [fC h] (by kernel_rfl)
theorem A1(h1:Ct n 101 [.ref 103,.int 32,.int 0] s0 .none s1)(h2:Ct n 101 [.ref 103,.int 65025,.int 0] s1 .none s2):Ct (n+1) 36 [.ref 103] s0 .none s2:=run [fC h1,fC h2] (by kernel_rfl)
theorem rJ(h:Ct n 33 [.ref 103,.int k,w] s0 .none s1):Ct (n+1) 112 [v,.ref 103,.tup [.int 1,.int k,w]] s0 .none s1:=run [fC h] (by kernel_rfl)
theorem HF(h:Ct n 34 [.ref 103,.int k] s0 .none s1):Ct (n+1) 113 [v,.ref 103,.tup [.int 12,.int k]] s0 .none s1:=run [fC h] (by kernel_rfl)
theorem Kh(h1:Ct n 101 [.ref 103,.int 208,.int k] s0 .none s1)(h2:Ct n 101 [.ref 103,.int 40,.tup [.int 25,.int 202,.tup []]] s1 .none s2):Ct (n+1) 114 [v,.ref 103,.tup [.int 29,.int 25,.int k]] s0 .none s2:=run [fC h1,fC h2] (by kernel_rfl)
theorem Kp:Ct (n+1) 115 [v,.ref 103,w] s0 .none s0:=run [] (by kernel_rfl)
theorem AL{x y l:Int}(hx:decide (x=y)=true)(h1:Ct n 101 [.ref 103,.int 56,.int l] s0 .none s1):Ct (n+1) 116 [v,.ref 103,.tup [.int 1,.int k,.int x],.int y,.int l] s0 .none s1:=run [fB hx,fC h1] (by kernel_rfl)
theorem Ao{x y l:Int}(hx:decide (x=y)=false):Ct (n+1) 116 [v,.ref 103,.tup [.int 1,.int k,.int x],.int y,.int l] s0 .none s0:=run [fB hx] (by kernel_rfl)
theorem DT(h1:Ct n 106 [.ref 103,w] s0 .none s1)(h2:Ct n 36 [.ref 103] s1 .none s2):Ct (n+1) 117 [v,.ref 103,.tup [.int 13,.int k,.str 49,w,x5]] s0 .none s2:=run [fC h1,fC h2] (by kernel_rfl)
theorem DQ{c:Int}(h1:Ct n 106 [.ref 103,w] s0 .none s1)(h2:Ct n 101 [.ref 103,.int 102,.int 0] s1 .none s2):Ct (n+1) 117 [v,.ref 103,.tup [.int 13,.int k,.str 39,w,.int c]] s0 .none s2:=run [fC h1,fC h2] (by kernel_rfl)
theorem El(h1:Ct n 106 [.ref 103,w] s0 .none s1)(h2:Ct n 101 [.ref 103,.int 101,.int 0] s1 .none s2):Ct (n+1) 117 [v,.ref 103,.tup [.int 13,.int k,.str 38,w,.int 0]] s0 .none s2:=run [fC h1,fC h2] (by kernel_rfl)
theorem zU(h0:Ct n 33 [.ref 103,.int k,.int 0] s0 .none s1)(h1:Ct n 106 [.ref 103,w] s1 .none s2)(h2:Ct n 101 [.ref 103,.int 218,.int 0] s2 .none s3):Ct (n+1) 117 [v,.ref 103,.tup [.int 13,.int k,.str 38,w,.int 1]] s0 .none s3:=run [fC h0,fC h1,fC h2] (by kernel_rfl)
theorem Bx{y l z:Int}(hz:1-y=z)(h1:Ct n 26 [.ref 103,w,.int z,.int l] s0 .none s1):Ct (n+1) 118 [v,.ref 103,.tup [.int 13,.int k,.str 49,w,x5],.int y,.int l] s0 .none s1:=by
 subst hz;exact run [fC h1] (by kernel_rfl)
theorem yQ(h1:Ct n 13 [.ref 1,.int k] s0 (.bool true) s0)(h2:Ct n 101 [.ref 103,.int 140,.int k] s0 .none s1):Ct (n+1) 30 [.ref 103,.int k] s0 .none s1:=run [fC h1,fC h2] (by kernel_rfl)
theorem lZ(h1:Ct n 13 [.ref 1,.int k] s0 (.bool false) s0):Ct (n+1) 30 [.ref 103,.int k] s0 .none s0:=run [fC h1] (by kernel_rfl)
theorem GV{c1 k1 c2 k2:Int}(h1:Ct n 106 [.ref 103,.tup (.int c1::.int k1::r1)] s0 .none s1)(h2:Ct n 30 [.ref 103,.int k1] s1 .none s2)(h3:Ct n 106 [.ref 103,.tup (.int c2::.int k2::r2)] s2 .none s3)(h4:Ct n 30 [.ref 103,.int k2] s3 .none s4):
  Ct (n+1) 37 [.ref 103,.tup (a0::a1::a2::.tup (.int c1::.int k1::r1)::.tup (.int c2::.int k2::r2)::r)] s0 .none s4:=run [fC h1,fC h2,fC h3,fC h4] (by kernel_rfl)
theorem zz{wide:Bool}{c1 k1 k2 y z p:Int}(hp':Ct n 17 [.ref 0,.int k1] s0 (.int p) s0)(hw:Ct n 32 [.int p] s0 (.bool wide) s0)(hz:bitAnd y (if wide then 63 else 31)=z)
  (h1:Ct n 106 [.ref 103,.tup (.int c1::.int k1::r1)] s0 .none s1) (h2:Ct n 101 [.ref 103,.int 32,.int z] s1 .none s2):
  Ct (n+1) 38 [.ref 103,.tup (a0::a1::a2::.tup (.int c1::.int k1::r1)::.tup [.int 1,.int k2,.int y]::r)] s0 .none s2:=by
 subst hz
 induction wide<;>exact run [fC hp',fC hw,fC h1,fC h2] (by kernel_rfl)
theorem Av{wide:Bool}{c1 k1 c2 z p:Int}(hp':Ct n 17 [.ref 0,.int k1] s0 (.int p) s0)(hw:Ct n 32 [.int p] s0 (.bool wide) s0)(hz:(if wide then 63 else 31)=z)(hc:decide (c2=1)=false)
  (h1:Ct n 106 [.ref 103,.tup (.int c1::.int k1::r1)] s0 .none s1) (h2:Ct n 106 [.ref 103,.tup (.int c2::r2)] s1 .none s2) (h3:Ct n 101 [.ref 103,.int 32,.int z] s2 .none s3) (h4:Ct n 101 [.ref 103,.int 95,.int 0] s3 .none s4):
  Ct (n+1) 38 [.ref 103,.tup (a0::a1::a2::.tup (.int c1::.int k1::r1)::.tup (.int c2::r2)::r)] s0 .none s4:=by
 subst hz
 induction wide<;>exact run [fC hp',fC hw,fC h1,fB hc,fC h2,fC h3,fC h4] (by kernel_rfl)
noncomputable abbrev IJ(f:Bool→Bool→Int):V:=.tup [.int (f false false),.int (f true false),.int (f false true),.int (f true true)]
theorem A6{s:Nat}{f:Bool→Bool→Int}{u ck:Bool}{c1 k1:Int}(hs:s=40∨s=41)(ht:cF (.str s) (prog.cd 3)=some (IJ f))
  (h1:Ct n 38 [.ref 103,.tup [.int 14,.int k,.str s,.tup (.int c1::.int k1::r1),v4,.int (ag ck)]] s0 .none s1) (hu:Ct n 35 [.ref 103,.int k1] s1 (.bool u) s1) (h2:Ct n 101 [.ref 103,.int (f u ck),.int 0] s1 .none s2):
  Ct (n+1) 119 [v,.ref 103,.tup [.int 14,.int k,.str s,.tup (.int c1::.int k1::r1),v4,.int (ag ck)]] s0 .none s2:=by
 rcases hs with rfl|rfl<;>induction u<;>induction ck<;>exact run [fC h1,fC hu,.v ⟨_,_,ht⟩,fC h2] (by kernel_rfl)
theorem ER{s:Nat}{f:Bool→Bool→Int}{u ck:Bool}{c1 k1:Int}(hs:decide (s=40)=false∧decide (s=41)=false)(hg:cF (.str s) (prog.cd 4)=none)(ht:cF (.str s) (prog.cd 3)=some (IJ f))
  (h1:Ct n 37 [.ref 103,.tup [.int 14,.int k,.str s,.tup (.int c1::.int k1::r1),v4,.int (ag ck)]] s0 .none s1) (hu:Ct n 35 [.ref 103,.int k1] s1 (.bool u) s1) (h2:Ct n 101 [.ref 103,.int (f u ck),.int 0] s1 .none s2):
  Ct (n+1) 119 [v,.ref 103,.tup [.int 14,.int k,.str s,.tup (.int c1::.int k1::r1),v4,.int (ag ck)]] s0 .none s2:=by
 induction u<;>induction ck<;>exact run [fB hs.1,fB hs.2,fC h1,fC hu,.c ⟨some ((cF (.str s) (prog.cd 4)).getD .none,hp s1),some (.none,hp s1),by rw[hg];rfl⟩,.v ⟨_,_,ht⟩,fC h2] (by kernel_rfl)
theorem Aq{s:Nat}{f:Bool→Int}{u ck tn:Bool}{c1 k1:Int}(hs:decide (s=40)=false∧decide (s=41)=false)(hg:cF (.str s) (prog.cd 4)=some (.tup [.int (f false),.int (f true),.int (ag tn)]))
  (h1:Ct n 37 [.ref 103,.tup [.int 14,.int k,.str s,.tup (.int c1::.int k1::r1),v4,.int (ag ck)]] s0 .none s1) (hu:Ct n 35 [.ref 103,.int k1] s1 (.bool u) s1) (h2:Ct n 101 [.ref 103,.int (f u),.int 0] s1 .none s2) (h3:if tn then Ct n 36 [.ref 103] s2 .none s3 else s3=s2):
  Ct (n+1) 119 [v,.ref 103,.tup [.int 14,.int k,.str s,.tup (.int c1::.int k1::r1),v4,.int (ag ck)]] s0 .none s3:=by
 have hq:some ((cF (.str s) (prog.cd 4)).getD .none,hp s1)=some (.tup [.int (f false),.int (f true),.int (ag tn)],hp s1):=by rw[hg];rfl
 induction tn
 ·have h3:s3=s2:=h3
  subst h3
  induction u<;>exact run [fB hs.1,fB hs.2,fC h1,fC hu,.c ⟨_,_,hq⟩,fC h2] (by kernel_rfl)
 ·have h3:Ct n 36 [.ref 103] s2 .none s3:=h3
  induction u<;>exact run [fB hs.1,fB hs.2,fC h1,fC hu,.c ⟨_,_,hq⟩,fC h2,fC h3] (by kernel_rfl)
theorem D7{s:Nat}{f:Bool→Bool→Int}{l:Int}{u wh:Bool}{c1 k1:Int}(hg:cF (.str s) (prog.cd 5)=some (.tup [.int (f false true),.int (f true true),.int (f false false),.int (f true false)]))
  (h1:Ct n 37 [.ref 103,.tup [.int 14,.int k,.str s,.tup (.int c1::.int k1::r1),v4,v5]] s0 .none s1) (hu:Ct n 35 [.ref 103,.int k1] s1 (.bool u) s1) (h2:Ct n 101 [.ref 103,.int (f u wh),.int l] s1 .none s2):
  Ct (n+1) 120 [v,.ref 103,.tup [.int 14,.int k,.str s,.tup (.int c1::.int k1::r1),v4,v5],.int (ag wh),.int l] s0 .none s2:=by
 have hq:some ((cF (.str s) (prog.cd 5)).getD .none,hp s0)=some (.tup [.int (f false true),.int (f true true),.int (f false false),.int (f true false)],hp s0):=by rw[hg];rfl
 induction wh<;>induction u<;>exact run [.c ⟨_,_,hq⟩,fC h1,fC hu,fC h2] (by kernel_rfl)
theorem Ht{s:Nat}{l:Int}{wh:Bool}(hg:cF (.str s) (prog.cd 5)=none)(h1:Ct n 106 [.ref 103,.tup [a0,a1,.str s,v3,v4,v5]] s0 .none s1)(h2:Ct n 101 [.ref 103,.int (if wh then 58 else 57),.int l] s1 .none s2):
  Ct (n+1) 120 [v,.ref 103,.tup [a0,a1,.str s,v3,v4,v5],.int (ag wh),.int l] s0 .none s2:=by
 have hq:some ((cF (.str s) (prog.cd 5)).getD .none,hp s0)=some (.none,hp s0):=by rw[hg];rfl
 induction wh<;>exact run [.c ⟨_,_,hq⟩,fC h1,fC h2] (by kernel_rfl)
theorem Hp{no en:Int}(h1:Ct n 103 [.ref 103] s0 (.int no) s1)(h2:Ct n 103 [.ref 103] s1 (.int en) s2)(h3:Ct n 26 [.ref 103,w,.int 0,.int no] s2 .none s3)(h4:Ct n 101 [.ref 103,.int 32,.int 1] s3 .none s4)(h5:Ct n 101 [.ref 103,.int 56,.int en] s4 .none s5)
  (h6:Ct n 102 [.ref 103,.int no] s5 .none s6) (h7:Ct n 101 [.ref 103,.int 32,.int 0] s6 .none s7) (h8:Ct n 102 [.ref 103,.int en] s7 .none s8):Ct (n+1) 121 [v,.ref 103,w] s0 .none s8:=run [fC h1,fC h2,fC h3,fC h4,fC h5,fC h6,fC h7,fC h8] (by kernel_rfl)
theorem RO{y l:Int}(h:Ct n 39 [.ref 103,w,.int 0,.int y,.int l] s0 .none s1):Ct (n+1) 122 [v,.ref 103,w,.int y,.int l] s0 .none s1:=run [fC h] (by kernel_rfl)
theorem Sq{y l:Int}(h:Ct n 39 [.ref 103,w,.int 1,.int y,.int l] s0 .none s1):Ct (n+1) 123 [v,.ref 103,w,.int y,.int l] s0 .none s1:=run [fC h] (by kernel_rfl)
theorem zY{a b x l:Int}(h1:Ct n 26 [.ref 103,v2,.int x,.int l] s0 .none s1)(h2:Ct n 26 [.ref 103,v3,.int x,.int l] s1 .none s2):Ct (n+1) 39 [.ref 103,.tup [.int a,.int b,v2,v3],.int x,.int x,.int l] s0 .none s2:=run [fB (Z1 (rfl:x=x)),fC h1,fC h2] (by kernel_rfl)
theorem As{a b x y l sk:Int}(hx:decide (y=x)=false)(h0:Ct n 103 [.ref 103] s0 (.int sk) s1)(h1:Ct n 26 [.ref 103,v2,.int x,.int sk] s1 .none s2)(h2:Ct n 26 [.ref 103,v3,.int y,.int l] s2 .none s3)(h3:Ct n 102 [.ref 103,.int sk] s3 .none s4):
  Ct (n+1) 39 [.ref 103,.tup [.int a,.int b,v2,v3],.int x,.int y,.int l] s0 .none s4:=run [fB hx,fC h0,fC h1,fC h2,fC h3] (by kernel_rfl)
theorem u0(h1:Ct n 106 [.ref 103,w] s0 .none s1):Ct (n+1) 41 [.ref 103,w,.int (-1)] s0 .none s1:=run [fC h1] (by kernel_rfl)
theorem Fg{p:Int}(hp':0≤p)(h1:Ct n 106 [.ref 103,w] s0 .none s1)(h2:Ct n 101 [.ref 103,.int 65038,.int p] s1 .none s2):Ct (n+1) 41 [.ref 103,w,.int p] s0 .none s2:=run [fC h1,fB (Z1 hp'),fC h2] (by kernel_rfl)
theorem DW{b0 no en:Int}(h1:Ct n 103 [.ref 103] s0 (.int no) s1)(h2:Ct n 103 [.ref 103] s1 (.int en) s2)(hl:Ct n 40 [.ref 103,.int k] s2 (.bool false) s2)(h3:Ct n 26 [.ref 103,v2,.int 0,.int no] s2 .none s3)(h4:Ct n 41 [.ref 103,v3,.int (-1)] s3 .none s4)
  (h5:Ct n 101 [.ref 103,.int 56,.int en] s4 .none s5) (h6:Ct n 102 [.ref 103,.int no] s5 .none s6) (h7:Ct n 41 [.ref 103,v4,.int (-1)] s6 .none s7) (h8:Ct n 102 [.ref 103,.int en] s7 .none s8):
  Ct (n+1) 124 [v,.ref 103,.tup [.int b0,.int k,v2,v3,v4]] s0 .none s8:=run [fC h1,fC h2,fC hl,fC h3,fC h4,fC h5,fC h6,fC h7,fC h8] (by kernel_rfl)
theorem EI{b0 no en p:Int}(hp':0≤p)(h1:Ct n 103 [.ref 103] s0 (.int no) s1)(h2:Ct n 103 [.ref 103] s1 (.int en) s2)(hl:Ct n 40 [.ref 103,.int k] s2 (.bool true) s2)(ht:Ct n 104 [.ref 103,.int k] s2 (.int p) s3)(h3:Ct n 26 [.ref 103,v2,.int 0,.int no] s3 .none s4)(h4:Ct n 41 [.ref 103,v3,.int p] s4 .none s5)
  (h5:Ct n 101 [.ref 103,.int 56,.int en] s5 .none s6) (h6:Ct n 102 [.ref 103,.int no] s6 .none s7) (h7:Ct n 41 [.ref 103,v4,.int p] s7 .none s8) (h8:Ct n 102 [.ref 103,.int en] s8 .none s9) (h9:Ct n 101 [.ref 103,.int 65036,.int p] s9 .none sa) (h10:Ct n 105 [.ref 103,.int p] sa .none sb):
  Ct (n+1) 124 [v,.ref 103,.tup [.int b0,.int k,v2,v3,v4]] s0 .none sb:=run [fC h1,fC h2,fC hl,fC ht,fC h3,fC h4,fC h5,fC h6,fC h7,fC h8,fB (Z1 hp'),fC h9,fC h10] (by kernel_rfl)
theorem zD{b0 no en:Int}(h1:Ct n 103 [.ref 103] s0 (.int no) s1)(h2:Ct n 103 [.ref 103] s1 (.int en) s2)(h3:Ct n 26 [.ref 103,v2,.int 0,.int no] s2 .none s3)(h4:Ct n 107 [.ref 103,v3] s3 .none s4)(h5:Ct n 101 [.ref 103,.int 56,.int en] s4 .none s5)
  (h6:Ct n 102 [.ref 103,.int no] s5 .none s6) (h7:Ct n 107 [.ref 103,v4] s6 .none s7) (h8:Ct n 102 [.ref 103,.int en] s7 .none s8):Ct (n+1) 125 [v,.ref 103,.tup [.int b0,.int k,v2,v3,v4]] s0 .none s8:=run [fC h1,fC h2,fC h3,fC h4,fC h5,fC h6,fC h7,fC h8] (by kernel_rfl)
theorem DY{b0:Int}(h:Ct n 34 [.ref 103,.int k] s0 .none s1):Ct (n+1) 126 [v,.ref 103,.tup [.int b0,.int k,v2,.int 8,v4]] s0 .none s1:=run [fC h] (by kernel_rfl)
theorem Cc{b0 c1 k1 p q:Int}(h1:Ct n 106 [.ref 103,.tup (.int c1::.int k1::r1)] s0 .none s1)(h2:Ct n 17 [.ref 0,.int k1] s1 (.int p) s1)(h3:Ct n 17 [.ref 0,.int k] s1 (.int q) s1)(h4:Ct n 42 [.ref 103,.int p,.int q,v4] s1 .none s2):
  Ct (n+1) 126 [v,.ref 103,.tup [.int b0,.int k,.tup (.int c1::.int k1::r1),.int 1,v4]] s0 .none s2:=run [fC h1,fC h2,fC h3,fC h4] (by kernel_rfl)
theorem EV{b0 c1 k1:Int}(h1:Ct n 106 [.ref 103,.tup (.int c1::.int k1::r1)] s0 .none s1)(h2:Ct n 101 [.ref 103,.int 140,.int k1] s1 .none s2):Ct (n+1) 126 [v,.ref 103,.tup [.int b0,.int k,.tup (.int c1::.int k1::r1),.int 4,v4]] s0 .none s2:=run [fC h1,fC h2] (by kernel_rfl)
theorem wi{b0:Int}(h1:Ct n 106 [.ref 103,v2] s0 .none s1)(h2:Ct n 101 [.ref 103,.int 165,.int k] s1 .none s2):Ct (n+1) 126 [v,.ref 103,.tup [.int b0,.int k,v2,.int 5,v4]] s0 .none s2:=run [fC h1,fC h2] (by kernel_rfl)
theorem zE{b0 c1 k1:Int}{rf:Bool}(h1:Ct n 106 [.ref 103,.tup (.int c1::.int k1::r1)] s0 .none s1)(h2:Ct n 30 [.ref 103,.int k1] s1 .none s2)(h3:Ct n 12 [.ref 1,.int k] s2 (.bool rf) s2)(h4:Ct n 101 [.ref 103,.int (if rf then 116 else 165),.int k] s2 .none s3):
  Ct (n+1) 126 [v,.ref 103,.tup [.int b0,.int k,.tup (.int c1::.int k1::r1),.int 3,v4]] s0 .none s3:=by induction rf<;>exact run [fC h1,fC h2,fC h3,fC h4] (by kernel_rfl)
theorem zb{b0:Int}{w:Int}(hw:w=2∨w=10)(h1:Ct n 106 [.ref 103,v2] s0 .none s1):Ct (n+1) 126 [v,.ref 103,.tup [.int b0,.int k,v2,.int w,v4]] s0 .none s1:=by
 rcases hw with rfl|rfl<;>exact run [fC h1] (by kernel_rfl)
theorem KL{c1 k1 k2 i z:Int}{bv bx:Bool}(hz:(if i<0 then k2 else i)=z)(h1:Ct n 106 [.ref 103,.tup (.int c1::.int k1::r1)] s0 .none s1)(h2:Ct n 11 [.ref 1,.int k1] s1 (.bool bv) s1)(h3:Ct n 13 [.ref 1,.int k1] s1 (.bool bx) s1)(h4:if bv||bx then Ct n 101 [.ref 103,.int 140,.int k1] s1 .none s2 else s2=s1)
  (h5:Ct n 29 [.ref 1,.int k2] s2 (.int i) s2) (h6:Ct n 101 [.ref 103,.int 117,.int z] s2 .none s3):Ct (n+1) 43 [.ref 103,.tup (.int c1::.int k1::r1),.int k2] s0 .none s3:=by
 have key:∀b,decide (i<0)=b→Ct n 101 [.ref 103,.int 117,.int (if b then k2 else i)] s2 .none s3→Ct (n+1) 43 [.ref 103,.tup (.int c1::.int k1::r1),.int k2] s0 .none s3:=by
  intro b d h6
  induction bv
  ·induction bx
   ·have h4:s2=s1:=h4
    subst h4
    induction b<;>exact run [fC h1,fC h2,fC h3,fC h5,fB d,fC h6] (by kernel_rfl)
   ·have h4:Ct n 101 [.ref 103,.int 140,.int k1] s1 .none s2:=h4
    induction b<;>exact run [fC h1,fC h2,fC h3,fC h4,fC h5,fB d,fC h6] (by kernel_rfl)
  ·have h4:Ct n 101 [.ref 103,.int 140,.int k1] s1 .none s2:=by induction bx<;>exact h4
   induction b<;>exact run [fC h1,fC h2,fC h4,fC h5,fB d,fC h6] (by kernel_rfl)
 subst hz
 by_cases hi:i<0
 ·exact key true (Z1 hi) (by rw[if_pos hi]at h6;exact h6)
 ·exact key false (Z2 hi) (by rw[if_neg hi]at h6;exact h6)
theorem RY{b0 b1 aim:Int}(h1:Ct n 43 [.ref 103,v2,.int aim] s0 .none s1)(h2:Ct n 101 [.ref 103,.int 20,.int 0] s1 .none s2)(h3:Ct n 101 [.ref 103,.int 65027,.int 0] s2 .none s3):Ct (n+1) 127 [v,.ref 103,.tup [.int b0,.int b1,v2,.int aim,v4]] s0 .none s3:=run [fC h1,fC h2,fC h3] (by kernel_rfl)
theorem Q6{b0 b1 aim l:Int}{wh:Bool}(h1:Ct n 43 [.ref 103,v2,.int aim] s0 .none s1)(h2:Ct n 101 [.ref 103,.int (if wh then 58 else 57),.int l] s1 .none s2):Ct (n+1) 128 [v,.ref 103,.tup [.int b0,.int b1,v2,.int aim,v4],.int (ag wh),.int l] s0 .none s2:=by induction wh<;>exact run [fC h1,fC h2] (by kernel_rfl)
theorem RI{b0:Int}{rf:Bool}(h1:Ct n 43 [.ref 103,v2,.int k] s0 .none s1)(h2:Ct n 12 [.ref 1,.int k] s1 (.bool rf) s1)(h3:if rf then s2=s1 else Ct n 101 [.ref 103,.int 165,.int k] s1 .none s2):Ct (n+1) 129 [v,.ref 103,.tup [.int b0,.int k,v2]] s0 .none s2:=by
 induction rf
 ·have h3:Ct n 101 [.ref 103,.int 165,.int k] s1 .none s2:=h3
  exact run [fC h1,fC h2,fC h3] (by kernel_rfl)
 ·have h3:s2=s1:=h3
  subst h3
  exact run [fC h1,fC h2] (by kernel_rfl)
theorem PF{b0 lid p:Int}(h1:Ct n 27 [.ref 103,.int lid] s0 (.int p) s1)(h2:Ct n 101 [.ref 103,.int 65036,.int p] s1 .none s2):Ct (n+1) 130 [v,.ref 103,.tup [.int b0,.int k,.int lid]] s0 .none s2:=run [fC h1,fC h2] (by kernel_rfl)
theorem AN{x y p:Int}(h1:Ct n 17 [.ref 0,.int k] s0 (.int p) s0)(h2:Ct n 32 [.int p] s0 (.bool true) s0)(h3:Ct n 31 [.int x,.int 64] s0 (.int y) s0)(h4:Ct n 101 [.ref 103,.int 33,.int y] s0 .none s1):Ct (n+1) 33 [.ref 103,.int k,.int x] s0 .none s1:=run [fC h1,fC h2,fC h3,fC h4] (by kernel_rfl)
theorem pS{x y p:Int}{b:Bool}(h1:Ct n 17 [.ref 0,.int k] s0 (.int p) s0)(h2:Ct n 32 [.int p] s0 (.bool false) s0)(hi:Ct n 15 [.int p] s0 (.bool true) s0)(h3:Ct n 31 [.int x,.int 32] s0 (.int y) s0)(h4:Ct n 101 [.ref 103,.int 32,.int y] s0 .none s1)(hb:decide (p=11)=b)(h5:if b then Ct n 101 [.ref 103,.int 211,.int 0] s1 .none s2 else s2=s1):
  Ct (n+1) 33 [.ref 103,.int k,.int x] s0 .none s2:=by
 induction b
 ·have h5:s2=s1:=h5
  subst h5
  exact run [fC h1,fC h2,fC hi,fC h3,fC h4,fB hb] (by kernel_rfl)
 ·have h5:Ct n 101 [.ref 103,.int 211,.int 0] s1 .none s2:=h5
  exact run [fC h1,fC h2,fC hi,fC h3,fC h4,fB hb,fC h5] (by kernel_rfl)
theorem zf{c:Nat}{p:Int}(h1:Ct n 17 [.ref 0,.int k] s0 (.int p) s0)(h2:Ct n 32 [.int p] s0 (.bool false) s0)(hi:Ct n 15 [.int p] s0 (.bool false) s0)(h4:Ct n 101 [.ref 103,.int 114,.str c] s0 .none s1):Ct (n+1) 33 [.ref 103,.int k,.str c] s0 .none s1:=run [fC h1,fC h2,fC hi,fC h4] (by kernel_rfl)
theorem zj{p:Int}(h1:Ct n 17 [.ref 0,.int k] s0 (.int p) s0)(h2:Ct n 32 [.int p] s0 (.bool false) s0)(hi:Ct n 15 [.int p] s0 (.bool false) s0)(h4:Ct n 34 [.ref 103,.int k] s0 .none s1):Ct (n+1) 33 [.ref 103,.int k,.none] s0 .none s1:=run [fC h1,fC h2,fC hi,fC h4] (by kernel_rfl)
theorem z7{p:Int}(h1:Ct n 17 [.ref 0,.int k] s0 (.int p) s0)(hi:Ct n 15 [.int p] s0 (.bool true) s0)(h4:Ct n 33 [.ref 103,.int p,.int 0] s0 .none s1):Ct (n+1) 34 [.ref 103,.int k] s0 .none s1:=run [fC h1,fC hi,fC h4] (by kernel_rfl)
theorem qd{p:Int}(h1:Ct n 17 [.ref 0,.int k] s0 (.int p) s0)(hi:Ct n 15 [.int p] s0 (.bool false) s0)(hr:Ct n 12 [.ref 1,.int k] s0 (.bool true) s0)(h4:Ct n 101 [.ref 103,.int 20,.int 0] s0 .none s1):Ct (n+1) 34 [.ref 103,.int k] s0 .none s1:=run [fC h1,fC hi,fC hr,fC h4] (by kernel_rfl)
theorem Ak{x p:Int}(h1:Ct n 17 [.ref 0,.int k] s0 (.int p) s0)(hi:Ct n 15 [.int p] s0 (.bool false) s0)(hr:Ct n 12 [.ref 1,.int k] s0 (.bool false) s0)(h4:Ct n 104 [.ref 103,.int k] s0 (.int x) s1)(h5:Ct n 101 [.ref 103,.int 65037,.int x] s1 .none s2)(h6:Ct n 101 [.ref 103,.int 65045,.int k] s2 .none s3)(h7:Ct n 101 [.ref 103,.int 65036,.int x] s3 .none s4)(h8:Ct n 105 [.ref 103,.int x] s4 .none s5):
  Ct (n+1) 34 [.ref 103,.int k] s0 .none s5:=run [fC h1,fC hi,fC hr,fC h4,fC h5,fC h6,fC h7,fC h8] (by kernel_rfl)
end
section
variable{n:Nat}{st st1 s0 s1 s2:PS}
abbrev Xe(c:Int)(r f:Nat):Prop:=∀{n:Nat} {vs:List V} {s0 s1:PS},Ct n f [.ref r,.ref 103,.tup (.int c::vs)] s0 .none s1→Ct (n+1) 22 [.ref 103,.tup (.int c::vs)] s0 .none s1
abbrev Xf(c:Int)(r f:Nat):Prop:=∀{n:Nat} {vs:List V} {s0 s1:PS},Ct n f [.ref r,.ref 103,.tup (.int c::vs)] s0 .none s1→Ct (n+1) 23 [.ref 103,.tup (.int c::vs)] s0 .none s1
abbrev Xj(c:Int)(r f:Nat):Prop:=∀{n:Nat} {vs:List V} {y l:Int} {s0 s1:PS},Ct n f [.ref r,.ref 103,.tup (.int c::vs),.int y,.int l] s0 .none s1→Ct (n+1) 26 [.ref 103,.tup (.int c::vs),.int y,.int l] s0 .none s1
theorem OI:Xe 2 118 130:=fun h=>run [.oc,fC h] (by kernel_rfl)
theorem qy:Xe 1 119 112:=fun h=>run [.oc,fC h] (by kernel_rfl)
theorem Ie:Xe 12 120 113:=fun h=>run [.oc,fC h] (by kernel_rfl)
theorem KY:Xe 29 121 114:=fun h=>run [.oc,fC h] (by kernel_rfl)
theorem Lv:Xe 13 124 117:=fun h=>run [.oc,fC h] (by kernel_rfl)
theorem BR:Xe 14 125 119:=fun h=>run [.oc,fC h] (by kernel_rfl)
theorem Nc:Xe 15 126 121:=fun h=>run [.oc,fC h] (by kernel_rfl)
theorem R4:Xe 16 127 121:=fun h=>run [.oc,fC h] (by kernel_rfl)
theorem BW:Xe 17 128 124:=fun h=>run [.oc,fC h] (by kernel_rfl)
theorem kN:Xe 19 134 126:=fun h=>run [.oc,fC h] (by kernel_rfl)
theorem Sj:Xe 20 135 127:=fun h=>run [.oc,fC h] (by kernel_rfl)
theorem R9:Xe 21 136 129:=fun h=>run [.oc,fC h] (by kernel_rfl)
theorem AV:Xf 1 122 115:=fun h=>run [.oc,fC h] (by kernel_rfl)
theorem Bd:Xf 17 129 125:=fun h=>run [.oc,fC h] (by kernel_rfl)
theorem pO:Xj 1 123 116:=fun h=>run [.oc,fC h] (by kernel_rfl)
theorem KS:Xj 13 130 118:=fun h=>run [.oc,fC h] (by kernel_rfl)
theorem yO:Xj 14 131 120:=fun h=>run [.oc,fC h] (by kernel_rfl)
theorem FV:Xj 15 132 122:=fun h=>run [.oc,fC h] (by kernel_rfl)
theorem KH:Xj 16 133 123:=fun h=>run [.oc,fC h] (by kernel_rfl)
theorem J7:Xj 20 137 128:=fun h=>run [.oc,fC h] (by kernel_rfl)
section
variable{c k:Int}{r f:Nat}{vs:List V}
theorem bJ(R:Xe c r f)(h:Ct n f [.ref r,.ref 103,.tup (.int c::vs)] s0 .none s1):Ct (n+1) 22 [.ref 103,.tup (.int c::vs)] s0 .none s1:=R h
theorem vh(R:Xf c r f)(h:Ct n f [.ref r,.ref 103,.tup (.int c::vs)] s0 .none s1):Ct (n+1) 23 [.ref 103,.tup (.int c::vs)] s0 .none s1:=R h
theorem g6{y l:Int}(R:Xj c r f)(h:Ct n f [.ref r,.ref 103,.tup (.int c::vs),.int y,.int l] s0 .none s1):Ct (n+1) 26 [.ref 103,.tup (.int c::vs),.int y,.int l] s0 .none s1:=R h
theorem An(hc:c≠1)(hc2:c≠17)(hne:k≠0)(h:Ct n 22 [.ref 103,.tup (.int c::.int k::vs)] s0 .none s1)(h2:Ct n 101 [.ref 103,.int 38,.int 0] s1 .none s2):Ct (n+1) 23 [.ref 103,.tup (.int c::.int k::vs)] s0 .none s2:=by
 have hq:some ((au c [((1:Int),V.ref 122),(17,.ref 129)]).getD .none,hp s0)=some (.none,hp s0):=by simp only[au,hc,hc2,if_false,Option.getD_none]
 exact run [.c ⟨_,_,hq⟩,fC h,fB (show (!decide (k=0))=true by rw[Z2 hne];rfl),fC h2] (by kernel_rfl)
theorem Fj{l:Int}{wh:Bool}(hc:c≠1∧c≠13∧c≠14∧c≠15∧c≠16∧c≠20)(h:Ct n 22 [.ref 103,.tup (.int c::vs)] s0 .none s1)(h2:Ct n 101 [.ref 103,.int (if wh then 58 else 57),.int l] s1 .none s2):
  Ct (n+1) 26 [.ref 103,.tup (.int c::vs),.int (ag wh),.int l] s0 .none s2:=by
 obtain⟨a,b,c',d,e,f⟩:=hc
 have hq:some ((au c [((1:Int),V.ref 123),(13,.ref 130),(14,.ref 131),(15,.ref 132),(16,.ref 133),(20,.ref 137)]).getD .none,hp s0)=some (.none,hp s0):=by simp only[au,a,b,c',d,e,f,if_false,Option.getD_none]
 induction wh<;>exact run [.c ⟨_,_,hq⟩,fC h,fC h2] (by kernel_rfl)
theorem DL{b:B}{x:Int}{H:H}:aa prog (n+1) 31 [.int x,.int b.w] H=some (.int ((x+b.h).fmod b.m-b.h),H):=by induction b<;>exact run [] (by kernel_rfl)
theorem tj(b:B)(x:Int):(x+b.h).fmod b.m-b.h=sgn b x:=by
 have hp:=b.gI
 have hm:=b.mh
 have h1:=Zy x hp
 have h2:=Int.fmod_lt_of_pos x hp
 have e:(x+b.h).fmod b.m=(x.fmod b.m+b.h).fmod b.m:=by
  simp only[Zn _ (Zp hp)]
  rw[Int.emod_add_emod]
 unfold sgn
 rw[e]
 split
 ·have:(x.fmod b.m+b.h).fmod b.m=x.fmod b.m+b.h-b.m:=by
   have e2:x.fmod b.m+b.h=(x.fmod b.m+b.h-b.m)+b.m:=by lia
   rw[e2,Int.add_fmod_right,fg ⟨by lia,by lia⟩];lia
  rw[this];lia
 ·rw[fg ⟨by lia,by lia⟩];lia
theorem En{x:Int}{H:H}:aa prog (n+1) 31 [.int x,.int 64] H=some (.int (sgn .b64 x),H):=by rw[←tj];exact DL (b:=.b64)
theorem sM{x:Int}{H:H}:aa prog (n+1) 31 [.int x,.int 32] H=some (.int (sgn .b32 x),H):=by rw[←tj];exact DL (b:=.b32)
end
end
section
variable{n:Nat}{E:FE}{s s':PS}{S:List Cell}{h:dP}{ws:WS}{r:Val×WS}{Q:aD}{k:K}{x:Int}{g:G}{Γ:List (K×Val)}{i:I}
theorem fU(hk:k≠.enm):aA g k=k:=K.off (f:=aA g) (g:=id) (c:=fun k=>decide (k=.enm)) rfl k (Z2 hk)
theorem pF(hn:n11 (aA g k)=true):aj g k=aA g k:=by
 by_cases e:k=.enm
 ·subst e;rfl
 ·rw[fU e]at hn⊢;exact K.on (f:=aj g) (g:=id) (c:=n11) rfl k hn
theorem kR(hk:nue k=true):n11 (aA g k)=true∧aj g k=aA g k:=by
 have e:n11 (aA g k)=true:=G.imp (b:=fun g k=>n11 (aA g k)) (by kernel_rfl) g k hk
 exact⟨e,pF e⟩
theorem tY:aA g (aA g k)=aA g k:=by
 by_cases e:k=.enm
 ·subst e;obtain⟨u,c⟩:=g;induction u<;>rfl
 ·rw[fU e,fU e]
theorem zq(hn:n11 (aA g k)=true):cE g k=.int 0:=by
 by_cases e:k=.enm
 ·subst e;rfl
 ·rw[fU e]at hn;exact K.on (f:=fun k=>cE g k) (g:=fun ζ=>.int 0) (c:=n11) rfl k hn
theorem rB(hk:aU k=true):aj g k=k∧cE g k=.none∧aW (az g k)=false:=
 ⟨K.on (f:=aj g) (g:=id) (c:=aU) rfl k hk,K.on (f:=cE g) (g:=fun ζ=>.none) (c:=aU) rfl k hk,K.on (f:=fun k=>aW (az g k)) (g:=fun ζ=>false) (c:=aU) rfl k hk⟩
theorem G1(hk:aU k=true):bS k=4:=K.on (f:=bS) (g:=fun ζ=>4) (c:=aU) rfl k hk
theorem Hd(hk:aU k=true):∀v:Val,iZ k v=v
 |.int x=>congrArg Val.int (K.on (f:=fun k=>fT k x) (g:=fun ζ=>x) (c:=aU) rfl k hk)
 |.none|.ob .. |.tok .. =>rfl
theorem bW{v:Val}{k3:Int}(hk:aU k=true):cellK g k v k3=⟨4,v,k3⟩:=by
 unfold cellK;rw[(rB hk).1,G1 hk,Hd hk]
def vF(c:Int→Cell)(s s':PS):Prop:=∀E,Fin E s'→∀S h ws r Q,ws.fault=.no→(∀k3,Goes E ⟨c k3::S,s'.code.length,h,ws⟩ r Q)→Goes E ⟨S,s.code.length,h,ws⟩ r Q
def Makes(k:K)(v:G→Val)(s s':PS):Prop:=∀E,Fin E s'→∀S h ws r Q,ws.fault=.no→aL E h→(∀h' k3,aL E h'→Goes E ⟨cellK E.g k (v E.g) k3::S,s'.code.length,h',ws⟩ r Q)→Goes E ⟨S,s.code.length,h,ws⟩ r Q
theorem vF.makes{c:Int→Cell}{v:G→Val}(p:vF c s s')(e:∀E,Fin E s'→∀k3,c k3=cellK E.g k (v E.g) k3):Makes k v s s':=fun E F S h ws r Q hf H q=>p E F S h ws r Q hf fun k3=>(e E F k3).symm▸q h k3 H
def KD(p:K)(k:K)(x:Int)(s s':PS):Prop:=(∀n,Ct (n+5) 33 [.ref 103,.int k.n,.int x] s .none s')∧vF (fun k3=>⟨bS p,.int (fT p x),k3⟩) s s'
theorem iT{p:K}(hp':aA g k=p)(hn:n11 p=true)(hx:p=.jk→sgn .b32 x=x):a8 g Γ 2 0 (KD p k x):=by
 have w1:=fun s n=>fP (n:=n) (H:=hp s) p
 have i1:=fun s n=>gZ (n:=n) (H:=hp s) p
 have p1:∀s n,s.g=g→Ct (n+4) 17 [.ref 0,.int k.n] s (.int p.n) s:=fun s n e=>by rw[←hp',←e];exact gf k
 rw[hn]at i1
 induction hw:c8 p
 ·rw[hw]at w1
  by_cases hi:p=.jk
  ·subst hi
   refine ak (fun s s' hg ζ ⟨s1,⟨e1,c1⟩,⟨e2,c2⟩,ζ0⟩=>?_) (bo (aq (.num 32 (sgn .b32 x))) (aq (.op 211)))
   subst e1 e2
   refine ⟨fun n=>pS (b:=true) (p1 s _ hg) (w1 s _) (i1 s _) sM (c1 _) rfl (c2 _),fun E F S h ws r Q hf q=>?_⟩
   refine b9 (F.back (bI _)) hf .tP (b9 F hf .Jm ?_)
   have q:=q 11
   rw[hx rfl]at q⊢;exact q
  ·have hd:decide (p.n=11)=false:=Z2 fun e=>hi (K.eN (y:=.jk) e)
   refine ai (ak (fun s s' hg ζ ⟨e1,c1⟩=>?_) (aq (.num 32 (sgn .b32 x)))) (by decide) (Z5 _)
   subst e1
   refine ⟨fun n=>pS (b:=false) (s1:=s.add (.num 32 (sgn .b32 x))) (p1 s _ hg) (w1 s _) (i1 s _) sM (c1 _) hd rfl,fun E F S h ws r Q hf q=>b9 F hf .tP ?_⟩
   have e:=K.on (f:=fun p=>Cell.mk 1 (.int (sgn .b32 x)) 0) (g:=fun p=>⟨bS p,.int (fT p x),0⟩) (c:=fun p=>n11 p&&(!c8 p&& !decide (p=.jk))) rfl p (by rw[hn,hw,Z2 hi];rfl)
   rw[e];exact q 0
 ·rw[hw]at w1
  refine ai (ak (fun s s' hg ζ ⟨e1,c1⟩=>?_) (aq (.num 33 (sgn .b64 x)))) (by decide) (Z5 _)
  subst e1
  refine ⟨fun n=>AN (p1 s _ hg) (w1 s _) En (c1 _),fun E F S h ws r Q hf q=>b9 F hf .Nq ?_⟩
  rw[K.on (f:=fun p=>Cell.mk 2 (.int (sgn .b64 x)) 0) (g:=fun p=>⟨bS p,.int (fT p x),0⟩) (c:=c8) rfl p hw];exact q 0
def RF(k:K)(s s':PS):Prop:=(∀n,Ct (n+7) 34 [.ref 103,.int k.n] s .none s')∧Makes k (fun g=>cE g k) s s'
theorem mN(hk:dfk k=true):a8 g Γ 4 1 (RF k):=by
 have i1:=fun s n=>gZ (n:=n) (H:=hp s) (aA g k)
 have p1:∀s n,s.g=g→Ct (n+4) 17 [.ref 0,.int k.n] s (.int (aA g k).n) s:=fun s n e=>by rw[←e];exact gf k
 induction hi:n11 (aA g k)<;>rw[hi]at i1
 ·have r1:=fun s n=>jT (n:=n) (st:=s) k
  induction hr:aU k<;>rw[hr]at r1
  ·intro s M d' hg hM hv
   obtain⟨s1,v1,m1,q1,p,t1,c1⟩:=xA (B:=s.a9) k hv (Z4 (Z8 _ _) hM)
   have v4:=f9 (.num 65036 (p:Nat)) (f9 (.kind 65045 k) (f9 (.num 65037 (p:Nat)) v1))
   have m4:=((m1.trans (gq (.num 65037 (p:Nat)))).trans (gq (.kind 65045 k))).trans (gq (.num 65036 (p:Nat)))
   have t4:=((t1.mono (bI (.num 65037 (p:Nat)))).mono (bI (.kind 65045 k))).mono (bI (.num 65036 (p:Nat)))
   obtain⟨s5,v5,m5,q5,c5⟩:=yy (B:=s.a9) v4 t4 (Z4 (Z7 _) hM)
   have l1:∀j,j≤2→s1.code.length+j<LIM:=fun j hj=>kA (Z4 (Nat.add_le_add v1.code (Z4 hj (by decide))) hM)
   have i1':=fun n=>n5 (n:=n) (st:=s1) (.num 65037 (p:Nat)) (l1 0 (by decide))
   have i2:=fun n=>n5 (n:=n) (st:=s1.add (.num 65037 (p:Nat))) (.kind 65045 k) (by rw[dM];exact l1 1 (by decide))
   have i3:=fun n=>n5 (n:=n) (st:=(s1.add (.num 65037 (p:Nat))).add (.kind 65045 k)) (.num 65036 (p:Nat)) (by rw[dM,dM];exact l1 2 (by decide))
   refine ⟨s5,v5,m4.trans m5,fun n=>Ak (p1 s _ hg) (i1 s _) (r1 s _) (Ce (c1 _)) (i1' _) (i2 _) (i3 _) (Dw (c5 _)),fun E F S h ws r Q hf H q=>?_⟩
   have F4:=F.back m5.ext
   have tf:=t4.mono F4.ext
   have hl:=H.lt tf
   rw[←q1]
   rw[q5]at q
   refine b9 ((F4.back (bI _)).back (bI _)) hf .Dm (b9 (F4.back (bI _)) hf (fun e=>.xR e tf.1 hl) (b9 F4 hf (fun e=>.ld e (List.getElem?_set_self hl) tf.1) ?_))
   rw[F4.Jw tf]
   exact q _ _ (H.set tf)
  ·refine ai (ak (fun s s' hg ζ ⟨e1,c1⟩=>?_) (aq (.op 20))) (by decide) (Nat.zero_le _)
   subst e1
   refine ⟨fun n=>qd (p1 s _ hg) (i1 s _) (r1 s _) (c1 _),fun E F S h ws r Q hf H q=>b9 F hf .qk ?_⟩
   have q:=q h 14 H
   rw[bW hr,show (fun g=>cE g k) E.g=Val.none from (rB hr).2.1]at q
   exact q
 ·refine ai (ak (fun s s' hg ζ ⟨c1,p⟩=>?_) (iT (k:=aA g k) (x:=0) tY hi fun ζ=>rfl)) (by decide) (Nat.zero_le _)
  exact⟨fun n=>z7 (p1 s _ hg) (i1 s _) (c1 _),p.makes fun E F k3=>by
   have e:E.g=g:=F.ext.g.trans (by exact (‹Ext s s'›.g.trans hg))
   rw[e,zq hi];unfold cellK;rw[pF hi];rfl⟩
end
section
variable{n:Nat}{E:FE}{s s':PS}{S:List Cell}{h:dP}{ws:WS}{r:Val×WS}{Q:aD}{k:K}{x:Int}{g:G}{Γ:List (K×Val)}{i:I}
def EC(n:Nat)(t:Tr)(s s':PS):Prop:=Ct (n+13) 22 [.ref 103,t.v] s .none s'∧EOk t s s'
def EP(t:Tr):Prop:=∀g Γ n,8*t.dp≤n→WT g Γ t→a8 g Γ (16*t.sz) t.lc (EC n t)
theorem fZ{l:gc}{pc:Nat}{ws':WS}{c:Cell}{k3:Int}(hw:D0 ws l=ws')(e:c=cellK E.g l.kind (pU E.g (aI E.Γ) l) k3)(H:aL E h):Goes E ⟨c::S,pc,h,ws'⟩ (aN E.g (aI E.Γ) (.leaf l) ws) (oI E S pc l.kind false):=by
 subst hw;exact bX (r:=(pU E.g (aI E.Γ) l,D0 ws l)) (fun ζ=>e) H b4
theorem Kn(k:K)(lid:Int):EP (.loc k lid):=fun g Γ n ζ hw s M d' hg hM hi=>by
 obtain⟨i,rfl,v,hv,hk⟩:=hw
 obtain⟨s1,v1,m1,q1,p,t1,c1⟩:=CK (B:=s.a9) hv hi
 have i1:=fun n=>n5 (n:=n) (st:=s1) (.num 65036 (p:Nat)) (kA (Z4 v1.code (Z4 (Z8 _ _) hM)))
 refine ⟨_,(f9 (.num 65036 (p:Nat)) v1).up (Zf (show 1≤16 by decide) M),m1.trans (gq _),bJ OI (PF (c1 _) (i1 _)),fun E F hw' S h ws hf H=>?_⟩
 obtain⟨i',e',v',hv',hk'⟩:=hw'
 obtain rfl:=succ_inj e'
 have F1:=(F.back (bI _)).ext
 have hm:=F1.ofl.1.subset t1.1
 rw[←q1]
 refine b9 F hf (fun e=>.ld e (H.var _ hm _ hv') (cL F1.locals t1.2)) (fZ (l:=.loc k ((i:Int)+1)) (k3:=k.n) ?_ ?_ H)
 ·unfold gH;rw[F.lo1 _ hm];rfl
 ·rw[show pU E.g (aI E.Γ) (.loc k ((i:Int)+1))=v' from vc hv'];rfl
theorem Cw(k:K):EP (.cK k):=fun g Γ n ζ hw=>ai (ak (fun s s' hg ζ e=>⟨bJ Ie (HF (e.1 _)),fun E F ζ S h ws hf H=>e.2 E F S h ws _ _ hf H fun h' k3 H'=>fZ rfl rfl H'⟩) (mN hw)) (show 4≤16 by decide) (Z5 _)
theorem Mb(k:K):EP (.nul k):=fun g Γ n ζ hw=>ai (ak (fun s s' hg ζ e=>⟨bJ kN (DY (e.1 _)),fun E F ζ S h ws hf H=>e.2 E F S h ws _ _ hf H fun h' k3 H'=>fZ rfl rfl H'⟩) (mN (K.imp (a:=fun k=>decide (k=.obj)||(decide (k=.nab)||rk k)) (b:=dfk) rfl k hw))) (show 4≤16 by decide) (Z5 _)
theorem IC(k:K):EP (.fY k):=fun g Γ n ζ hw=>ai (aV (aq (.kind 208 k)) (aq .call) fun s s1 s' ζ ζ x1 e1 e2=>⟨bJ KY (Kh (e1.2 _) (e2.2 _)),fun E F ζ S h ws hf H=>cu e1 (F.back x1) hf .Jl (cu e2 F hf .call (fZ rfl (k3:=_) rfl H))⟩) (show 2≤16 by decide) (Z5 _)
theorem DM(k:K)(p:Option Pay):EP (.const k p):=fun g Γ n ζ hw=>by
 have p1:∀s n,s.g=g→Ct (n+4) 17 [.ref 0,.int k.n] s (.int (aA g k).n) s:=fun s n e=>by rw[←e];exact gf k
 match p,hw with
 |some (.i x),hw=>
  have hn:=kR (g:=g) hw.1
  refine ai (ak (fun s s' hg xt e=>⟨bJ qy (rJ (e.1 _)),fun E F ζ S h ws hf H=>e.2 E F S h ws _ _ hf fun k3=>fZ (k3:=k3) rfl (by
   rw[←hn.2,←hg,←xt.g,←F.ext.g];rfl) H⟩) (iT (k:=k) (x:=x) rfl hn.1 fun e=>?_)) (show 2≤16 by decide) (Z5 _)
  have hx:=hw.2
  unfold inR at hx
  rw[hn.2,e]at hx
  exact ji (b:=.b32) ⟨hx.1,Zz hx.2 (by decide)⟩
 |some (.s c),hw=>
  obtain rfl:k=.bj:=hw
  exact ai (ak (fun s s' hg xt e=>⟨bJ qy (rJ (zf (p1 s _ hg) (fP .bj) (gZ .bj) (e.2 _))),fun E F ζ S h ws hf H=>cu e F hf .JH (fZ rfl (k3:=_) rfl H)⟩) (aq (.str c))) (show 1≤16 by decide) (Z5 _)
 |none,hw=>
  have hr:aU k=true∧n11 (aA g k)=false∧c8 (aA g k)=false:=by rcases hw with rfl|rfl<;>exact⟨rfl,rfl,rfl⟩
  have w1:=fun s n=>fP (n:=n) (H:=hp s) (aA g k)
  have i1:=fun s n=>gZ (n:=n) (H:=hp s) (aA g k)
  have r1:=fun s n=>jT (n:=n) (st:=s) k
  rw[hr.2.2]at w1
  rw[hr.2.1]at i1
  rw[hr.1]at r1
  exact ai (ak (fun s s' hg xt e=>⟨bJ qy (rJ (zj (p1 s _ hg) (w1 s _) (i1 s _) (qd (p1 s _ hg) (i1 s _) (r1 s _) (e.2 _)))),fun E F ζ S h ws hf H=>cu e F hf .qk (fZ (k3:=14) rfl (bW hr.1).symm H)⟩) (aq (.op 20))) (show 1≤16 by decide) (Z5 _)
end
section
variable{n:Nat}{E:FE}{s s':PS}{S:List Cell}{h:dP}{ws:WS}{r:Val×WS}{Q:aD}{k ke:K}{x:Int}{g:G}{Γ:List (K×Val)}{i:I}{e:Tr}{o:One}{v:Val}{c:Bool}
def Tail(ke:K)(o:One)(s s':PS):Prop:=∀E,Fin E s'→o.ok E.g ke→∀S h ws v k3,ws.fault=.no→aL E h→aE E.g ke v→Goes E ⟨cellK E.g ke v k3::S,s.code.length,h,ws⟩ (dU ws (gA E.g ke v ws.made o)) (oI E S s'.code.length o.kind false)
theorem jL{a n:Nat}{P:Nat→Prop}(h:8*(a+1)≤n)(f:∀m,8*a≤m→P (m+8)):P n:=
 Nat.sub_add_cancel (Z4 (Nat.le_add_left 8 (8*a)) h)▸f (n-8) (Nat.le_sub_of_add_le h)
noncomputable abbrev Wk:=PS→PS→Prop
theorem gL{W:Wk}(j:Nat)(ie:EP e)(T:∀g Γ,o.ok g e.kind→a8 g Γ 16 0 (fun s s'=>W s s'∧Tail e.kind o s s'))
  (w:∀g n s s1 s',s.g=g→o.ok g e.kind→Ct (n+j+13) 22 [.ref 103,e.v] s .none s1→W s1 s'→Ct (n+21) 22 [.ref 103,(Tr.one o e).v] s .none s'):EP (.one o e):=fun g Γ n hd hw=>
 jL (P:=fun n=>a8 g Γ (16*(e.sz+1)) e.lc (EC n (.one o e))) hd fun m hd=>
 ai (aV (ie g Γ (m+j) (Z4 hd (Z8 m j)) hw.1) (T g Γ hw.2) fun s s1 s' hg ζ x1 e1 e2=>⟨w g _ s s1 s' hg hw.2 e1.1 e2.1,fun E F hw' S h ws hf H=>bZ (e1.2 E (F.back x1) hw'.1 S h ws hf H) fun hf2 h' k3 H' ζ=>e2.2 E F hw'.2 S h' _ _ k3 hf2 H' (aR e ws hw'.1 hf2)⟩) (Z5 _) (Zi (Nat.zero_add _))
theorem Of{m:Int}(hf:ws.fault=.no):{ws with made:=m}=ws.to .no m:=by obtain⟨a,b,c⟩:=ws;cases hf;rfl
theorem dN(hf:ws.fault=.no):ws.to .no ws.made=ws:=by obtain⟨a,b,c⟩:=ws;cases hf;rfl
theorem J3{m:Int}(hk:aU k=true):bH g k v m=(v,m):=by
 unfold bH Iw;rw[(rB (g:=g) hk).2.2];induction v<;>rfl
def zA(b:Bool)(ke:K)(s s':PS):Prop:=(if b then∀n,Ct (n+1) 101 [.ref 103,.int 140,.int ke.n] s .none s' else s'=s)∧
 ∀E,Fin E s'→∀S h ws v k3 r Q,ws.fault=.no→aE E.g ke v→(∀k3,Goes E ⟨⟨4,(bH E.g ke v ws.made).1,k3⟩::S,s'.code.length,h,ws.to .no (bH E.g ke v ws.made).2⟩ r Q)→Goes E ⟨cellK E.g ke v k3::S,s.code.length,h,ws⟩ r Q
theorem gX{b:Bool}(hb:(b||aU ke)=true):a8 g Γ 1 0 (zA b ke):=by
 induction b
 ·refine ai (ak (fun s s' hg xt e=>?_) eQ) (Nat.zero_le _) (Z5 _)
  subst e
  refine ⟨rfl,fun E F S h ws v k3 r Q hf hv q=>?_⟩
  have q:=q k3
  rw[J3 hb,dN hf]at q
  rw[bW hb];exact q
 ·exact ak (fun s s' hg xt e=>⟨e.2,fun E F S h ws v k3 r Q hf hv q=>cu e F hf (fun e=>.box e hv) (Of hf▸q ke.n)⟩) (aq (.kind 140 ke))
noncomputable def cvI(k:K):Int:=if aU k then 116 else 165
theorem KJ(ie:EP e):EP (.conv k .box e c):=by
 obtain⟨c1,r1,se⟩:=e.shape
 refine gL (W:=zA true e.kind) 5 ie (fun g Γ hk=>ai (ak (fun s s' hg xt p=>⟨p,fun E F hk S h ws v k3 hf H hv=>?_⟩) (gX rfl)) (by decide) (Z5 _)) fun g n s s1 s' hg hk c w=>?_
 ·obtain rfl:=Z0 (band hk).1
  exact p.2 E F S h ws v k3 _ _ hf hv fun k3=>bX (k:=.obj) (r:=dU ws (gA E.g e.kind v ws.made (.conv .obj .box _))) (k3:=k3) (fun ζ=>(bW rfl).symm) H b4
 ·refine bJ kN ?_
  show Ct _ _ [_,_,.tup [_,_,e.v,_,_]] _ _ _
  rw[se]at c⊢
  exact EV (bN c) (w.1 _)
theorem yj{w:Way}(hw:w=.ref∨w=.same)(ie:EP e):EP (.conv k w e c):=by
 refine gL (W:=fun s s'=>s'=s) 5 ie (fun g Γ hk=>ai (ak (fun s s' hg xt p=>⟨p,fun E F hk S h ws v k3 hf H hv=>?_⟩) eQ) (Nat.zero_le _) (Z5 _)) fun g n s s1 s' hg hk c w=>?_
 ·subst p
  have cl:cellK E.g e.kind v k3=cellK E.g k v k3:=by
   rcases hw with rfl|rfl
   ·rcases (Bool.or_eq_true _ _).mp hk with h|h<;>have h:=band h
    ·cases Z0 h.1;rw[bW (k:=.obj) rfl,bW (K.imp (a:=fun k=>rk k||decide (k=.typ)) (b:=aU) rfl _ h.2)]
    ·rw[Z0 h.2,bW (k:=.cl1) rfl,bW (K.imp (a:=fun k=>decide (k=.cl0)||decide (k=.ifc)) (b:=aU) rfl _ h.1)]
   ·rw[Z0 (band hk).2]
  have e:dU ws (gA E.g e.kind v ws.made (.conv k w c))=(v,ws):=by rcases hw with rfl|rfl<;>exact congrArg (Prod.mk v) (dN hf)
  rw[e,cl]
  exact bX (r:=(v,ws)) (fun ζ=>rfl) H b4
 ·subst w
  exact bJ kN (zb (by rcases hw with rfl|rfl;exact .inl rfl;exact .inr rfl) (bN c))
theorem D8(ie:EP e):EP (.conv k .unbox e c):=by
 refine gL (W:=Ins (.kind 165 k)) 5 ie (fun g Γ hk=>ai (ak (fun s s' hg xt p=>⟨p,fun E F hk S h ws v k3 hf H hv=>?_⟩) (aq _)) (by decide) (Z5 _)) fun g n s s1 s' hg hk c w=>bJ kN (wi (bN c) (w.2 _))
 rw[Z0 (band hk).1]at hv⊢
 rw[bW rfl]
 exact cu p F hf (fun e=>.unbox e hv) (bX (r:=dU ws (gA E.g .obj v ws.made (.conv k .unbox c))) (k:=k) (k3:=k.n) (fun ζ=>rfl) H b4)
theorem Qn{s s':PS}(i:Ins (.kind (cvI k) k) s s')(E:FE)(F:Fin E s')(hk:(decide (k=.var)||rk k)=true){kk:Int}(hf:ws.fault=.no)(hv:aE E.g .obj v)(H:aL E h):Goes E ⟨⟨4,v,kk⟩::S,s.code.length,h,ws⟩ ((aG E.g k v).1,ws.to (aG E.g k v).2 ws.made) (oI E S s'.code.length k false):=by
 rcases (Bool.or_eq_true _ _).mp hk with hk|hk
 ·cases Z0 hk
  exact cu i F hf (fun e=>.unbox e hv) (bX (r:=((aG E.g .var v).1,ws.to (aG E.g .var v).2 ws.made)) (k:=.var) (k3:=K.var.n) (fun ζ=>rfl) H b4)
 ·have hr:=K.imp (b:=aU) rfl k hk
  rw[show cvI k=116 from if_pos hr]at i
  exact cu i F hf (fun e=>.cast e hk hv) (bX (r:=((aG E.g k v).1,ws.to (aG E.g k v).2 ws.made)) (k:=k) (k3:=k.n) (fun ζ=>(bW hr).symm) H b4)
theorem Hi(ie:EP e):EP (.conv k .cast e c):=by
 obtain⟨c1,r1,se⟩:=e.shape
 refine gL (W:=Seq (zA (cj e.kind) e.kind) (Ins (.kind (cvI k) k))) 5 ie (fun g Γ hk=>ai (ak (fun s s' hg xt p=>⟨p,fun E F hk S h ws v k3 hf H hv=>?_⟩) (bo (gX ?_) (aq _))) (by decide) (Z5 _)) fun g n s s1 s' hg hk c ⟨s2,w1,w2,ζ0⟩=>?_
 ·have hkk:(decide (k=.var)||rk k)=true:=((Bool.or_eq_true _ _).mp hk).elim (fun h=>by rw[(band h).1];rfl) fun h=>by rw[(band h).1,Bool.or_true]
  exact p.el fun s1 p1 i x1 ζ=>p1.2 E (F.back x1) S h ws v k3 _ _ hf hv fun k3=>Qn i E F hkk rfl (d8 hv) H
 ·rcases (Bool.or_eq_true _ _).mp hk with h|h
  ·rw[Z0 (band h).2];rfl
  ·rcases (Bool.or_eq_true _ _).mp (band h).2 with h|h
   ·rw[Z0 h];rfl
   ·rw[Z0 (band h).1];rfl
 ·refine bJ kN ?_
  show Ct _ _ [_,_,.tup [_,_,e.v,_,_]] _ _ _
  have v1:=gR (n:=n+15) (st:=s1) e.kind
  have r2:=jT (n:=n+16) (st:=s2) k
  rw[se]at c⊢
  refine zE (bN c) (s2:=s2) ?_ r2 (w2.2 _)
  have w:=w1.1
  induction hb:cj e.kind<;>rw[hb]at v1 w
  ·obtain rfl:s2=s1:=w
   exact lZ v1
  ·exact yQ v1 (w _)
end
section
variable{n:Nat}{E:FE}{s s':PS}{S:List Cell}{h:dP}{ws:WS}{r:Val×WS}{Q:aD}{k ke:K}{x:Int}{g:G}{Γ:List (K×Val)}{i:I}{e:Tr}{o:One}{v:Val}{c:Bool}
noncomputable def A8(ke:K):Bool:=rj ke||cj ke
noncomputable def pX(k ke:K):Wk:=Seq (zA (A8 ke) ke) (Ins (.kind 117 (unb k)))
noncomputable def isW(g:G)(k:K)(w:Val):Val:=if isV g k w then w else .none
theorem HC(w:Val):isV g (unb k) w=isV g k w:=by
 by_cases h:k=.nab
 ·subst h;induction w<;>rfl
 ·rw[show unb k=k from if_neg h]
theorem IB:unb k≠.nab:=Z0 (K.all (p:=fun k=>decide (unb k≠.nab)) rfl k)
theorem kn(hb:(A8 ke||aU ke)=true):a8 g Γ 2 0 (pX k ke):=bo (gX hb) (aq _)
theorem pX.run(t:pX k ke s s')(F:Fin E s'){k3:Int}(hf:ws.fault=.no)(hv:aE E.g ke v)(q:∀k3,Goes E ⟨⟨4,isW E.g k (bH E.g ke v ws.made).1,k3⟩::S,s'.code.length,h,ws.to .no (bH E.g ke v ws.made).2⟩ r Q):Goes E ⟨cellK E.g ke v k3::S,s.code.length,h,ws⟩ r Q:=by
 refine t.el fun s1 p1 i x1 ζ=>p1.2 E (F.back x1) S h ws v k3 _ _ hf hv fun k3=>cu i F rfl (fun e=>.Bu e IB (d8 hv)) ?_
 rw[HC];exact q _
theorem w3{s1:PS}(c:Ct (n+4) 106 [.ref 103,e.v] s .none s1)(t:pX k e.kind s1 s'):Ct (n+5) 43 [.ref 103,e.v,.int k.n] s .none s':=by
 obtain⟨s2,w1,w2,_⟩:=t
 obtain⟨c1,r1,se⟩:=e.shape
 rw[se]at c⊢
 refine KL ?_ c (vL _) (gR _) (s2:=s2) ?_ (HH k) (w2.2 _)
 ·exact K.eqf (f:=fun k=>if (if k=.nab then (7:Int)else-1)<0 then k.n else (if k=.nab then 7 else-1)) (g:=fun k=>(unb k).n) (by kernel_rfl) k
 ·have w:=w1.1
  unfold A8 at w
  induction hb:rj e.kind||cj e.kind<;>rw[hb]at w
  ·exact w
  ·exact w _
theorem gU:∀b:Bool,cellK g .bool (.int (ag b)) x=⟨1,.int (ag b),x⟩
 |true|false=>rfl
theorem Dl:∀w:Val,(!decide (isW g k w=.none))=isV g k w
 |.none|.int _|.tok .. =>rfl
 |.ob x p id=>by
  unfold isW
  induction isV g k (.ob x p id)
  ·rfl
  ·exact congrArg (!·) (Z2 fun e=>nomatch e)
theorem Jj{aim:K}(ie:EP e):EP (.is e aim):=by
 refine gL (W:=Seq (pX aim e.kind) (Seq (Ins (.op 20)) (Ins (.op 65027)))) 4 ie (fun g Γ hk=>ai (ak (fun s s' hg xt p=>⟨p,fun E F hk S h ws v k3 hf H hv=>?_⟩) (bo (kn ?_) (bo (aq _) (aq _)))) (by decide) (Z5 _)) fun g n s s1 s' hg hk c p=>p.el fun s2 t p ζ ζ=>p.el fun s3 i3 i4 ζ ζ=>bJ Sj (RY (w3 (bN c) t) (i3.2 _) (i4.2 _))
 ·refine p.el fun s2 t p x2 ζ=>p.el fun s3 i3 i4 x3 ζ=>t.run (F.back x2) hf hv fun k3=>cu i3 (F.back x3) rfl .qk (cu i4 F rfl .cmn (bX (r:=dU ws (gA E.g e.kind v ws.made (.is aim))) (k:=.bool) (k3:=0) (fun ζ=>?_) H b4))
  rw[Dl];exact (gU _).symm
 ·exact K.imp (a:=xn) (b:=fun ke=>A8 ke||aU ke) (by kernel_rfl) _ hk.1
theorem BJ{w:Val}(hv:aE g .obj w)(hk:k=.nab∨aW (az g k)=false):aG g k (isW g k w)=(asV g k w,.no):=by
 have n0:aG g k .none=(.none,.no):=if_neg (by
  rcases hk with rfl|h
  ·exact Zc
  ·rw[(Bool.or_eq_false_iff.mp h).1];decide)
 unfold isW
 induction hz:isV g k w
 ·rw[if_neg (by decide),n0]
  unfold asV;rw[hz];rfl
 ·rw[if_pos rfl]
  match w,hv with
  |.none,_=>cases hz
  |.int x,hv=>cases hz
  |.tok a b,hv=>cases hz
  |.ob x p id,hv=>
   by_cases hn:k=.nab
   ·subst hn
    obtain rfl:x=.i4:=Z0 (K.imp (a:=fun x=>isK x .i4) (b:=fun x=>decide (x=.i4)) rfl x hz)
    match p,hv.2.2 with
    |.i y,_=>rfl
    |.s c,ho=>cases ho
   ·have hf:=hk.resolve_left hn
    rw[rN hn]
    have hz:isK x (if k=.nab then .i4 else az g k)=true:=hz
    rw[if_neg hn]at hz
    unfold aG c6
    dsimp only
    rw[show unB (az g k) x=true by unfold unB;rw[hf];exact hz,hz,hf];rfl
theorem NC(hr:aU k=true):k≠.nab:=of_decide_eq_false (K.imn (a:=aU) (b:=fun k=>decide (k=.nab)) rfl k hr)
theorem Pz(ie:EP e):EP (.as k e):=by
 refine gL (W:=Seq (pX k e.kind) (fun s s'=>(aU k=true∧s'=s)∨(¬aU k=true∧Ins (.kind 165 k) s s'))) 4 ie (fun g Γ hk=>ai (ak (fun s s' hg xt p=>⟨p,fun E F hk S h ws v k3 hf H hv=>?_⟩) (bo (kn ?_) (xB (fun ζ=>ai eQ (Nat.zero_le 1) (Z5 _)) (fun ζ=>aq _)))) (by decide) (Z5 _)) fun g n s s1 s' hg hk c ⟨s2,t,w,ζ0⟩=>?_
 ·obtain⟨s2,t,w,x2,_⟩:=p
  have hb:=d8 (m:=ws.made) hv
  refine t.run (F.back x2) hf hv fun k3=>?_
  rcases w with ⟨hr,rfl⟩|⟨hr,rfl,_⟩
  ·refine bX (r:=dU ws (gA E.g e.kind v ws.made (.as k))) (k3:=k3) (fun ζ=>?_) H b4
   refine Eq.trans ?_ (bW hr).symm
   have hn:k≠.nab:=NC hr
   refine congrArg (fun v=>Cell.mk 4 v k3) ?_
   show isW _ _ (bH E.g e.kind v ws.made).1=asV _ _ (bH E.g e.kind v ws.made).1
   generalize (bH E.g e.kind v ws.made).1=w at hb
   match w,hb with
   |.none,_=>rfl
   |.int x,hb=>exact absurd (show aW .obj=true from hb.1) (by decide)
   |.tok a b,hb=>exact hb.elim
   |.ob x p id,hb=>exact (congrArg (fun b:Bool=>if b then Val.ob x p id else .none) (show isK x (if k=.nab then .i4 else az _ k)=_ by rw[if_neg hn])).trans (rN hn).symm
  ·refine b9 F rfl (fun e=>.unbox (k:=k) (v:=isW E.g k (bH E.g _ v ws.made).1) e ?_) ?_
   ·unfold isW;split;exact hb;exact rfl
   ·rw[BJ hb (yq hk)]
    exact bX (r:=dU ws (gA E.g e.kind v ws.made (.as k))) (k:=k) (k3:=k.n) (fun ζ=>rfl) H b4
 ·rcases (Bool.or_eq_true _ _).mp hk with h|h
  ·rcases (Bool.or_eq_true _ _).mp h with h|h
   ·rw[Z0 (band h).2];rfl
   ·rw[Z0 (band (band h).1).2];rfl
  ·rcases (Bool.or_eq_true _ _).mp (band h).2 with h|h
   ·rw[Z0 h];rfl
   ·rw[Z0 (band h).1];rfl
 ·refine bJ R9 (RI (w3 (bN c) t) (jT k) ?_)
  rcases w with ⟨hr,e⟩|⟨hr,_,c5⟩
  ·rw[if_pos hr];exact e
  ·rw[if_neg hr];exact c5 _
end
section
variable{n:Nat}{E:FE}{s s' s3 s4 s7:PS}{S:List Cell}{h:dP}{ws:WS}{r:Val×WS}{Q:aD}{k:K}{g:G}{Γ:List (K×Val)}
noncomputable def PS.no(s:PS):Int:=s.a9-1
noncomputable def PS.en(s:PS):Int:=s.a9-1-1
noncomputable def PS.br5(s s4:PS):PS:=s4.add (.num 56 s.en)
noncomputable def PS.br6(s s4:PS):PS:=(s.br5 s4).put s.no
structure cV (s s3 s4 s7 s':PS):Prop where
 e3:Ext s.lab.lab s3
 e4:Ext s3 s4
 e7:Ext (s.br6 s4) s7
 eq:s'=s7.put s.en
 br:∀n,Ct (n+1) 101 [.ref 103,.int 56,.int s.en] s4 .none (s.br5 s4)
 m1:∀n,Ct (n+1) 102 [.ref 103,.int s.no] (s.br5 s4) .none (s.br6 s4)
 m2:∀n,Ct (n+1) 102 [.ref 103,.int s.en] s7 .none s'
 f1:gv (s.br5 s4) s.no
 f2:gv s7 s.en
def HQ{α:Type}(CJ:Int→α→PS→PS→Prop)(CA CB:α→PS→PS→Prop)(s s':PS):Prop:=∃a s3 s4 s7,cV s s3 s4 s7 s'∧CJ s.no a s.lab.lab s3∧CA a s3 s4∧CB a (s.br6 s4) s7
theorem lC:s.no<s.a9:=Int.sub_lt_self _ (by decide)
theorem nu:s.en<s.no:=Int.sub_lt_self _ (by decide)
theorem eY{α:Type}{cJ cA cB dJ dA dB:Nat}{CJ:Int→α→PS→PS→Prop}{CA CB:α→PS→PS→Prop}(J:∀l,a8 g Γ cJ dJ (fun s s'=>∃a,CJ l a s s'))(A:∀a,a8 g Γ cA dA (CA a))(B:∀a,a8 g Γ cB dB (CB a)):a8 g Γ (cJ+cA+1+1+cB+1) (dB+dA+dJ) (HQ CJ CA CB):=fun s M d' hg hM hi=>by
 have q:M+(cJ+cA+1+1+cB+1)=M+cJ+cA+1+1+cB+1:=by simp only[Nat.add_assoc]
 rw[←Nat.add_assoc,←Nat.add_assoc]at hi
 rw[q]at hM⊢
 have h6:M+cJ+cA+1+1+cB≤30000:=Nat.le_of_succ_le hM
 have h5:M+cJ+cA+1+1≤30000:=Z4 (Z8 _ _) h6
 have h3:M+cJ+cA≤30000:=Nat.le_of_succ_le (Nat.le_of_succ_le h5)
 obtain⟨s3,i3,e3,a,j3⟩:=J s.no s.lab.lab M _ hg (Z4 (Z8 _ _) h3) (qh (qh hi))
 have g3:s3.g=g:=e3.ext.g.trans hg
 obtain⟨s4,i4,e4,a4⟩:=A a s3 _ _ g3 h3 i3
 have el:s.lab.lab.a9≤s.a9:=Zp (Int.lt_trans nu lC)
 have e34:Ems s.lab.lab.a9 s.lab.lab s4:=e3.trans (e4.up e3.em)
 have e5:Ems s.lab.lab.a9 s.lab.lab (s.br5 s4):=e34.trans (gq _)
 have ge:∀l,l<s.a9→gv s.lab.lab l:=fun l hl p hp e=>absurd (hi.lab p hp) (Int.not_le.mpr (e▸hl))
 have f1:gv (s.br5 s4) s.no:=e5.fresh (ge _ lC) (Zp nu)
 have i5:=f9 (.num 56 s.en) i4
 have em4:s4.a9≤s.en:=e34.em
 have i6:bT (s.br6 s4) Γ _ _:=ra (l:=s.no) i5 (Zg em4 (Zp nu))
 obtain⟨s7,i7,e7,b7⟩:=B a (s.br6 s4) _ _ (e34.ext.g.trans hg) h6 i6
 have f5:gv (s.br5 s4) s.en:=e5.fresh (ge _ (Int.lt_trans nu lC)) (Int.le_refl _)
 have f6:gv (s.br6 s4) s.en:=fun p hp e=>(Zv hp).elim (fun h=>f5 p h e) fun h=>absurd nu (Int.not_lt.mpr (by rw[←e,Zs h];exact Int.le_refl _))
 have f2:gv s7 s.en:=e7.fresh f6 em4
 have em7:s7.a9≤s.en:=Zg e7.em em4
 refine ⟨s7.put s.en,ra i7 em7,?_,a,s3,s4,s7,⟨e3.ext,e4.ext,e7.ext,rfl,fun n=>n5 (.num 56 s.en) (kA (Z4 i4.code h3)),fun n=>wk f1 (kA (Z4 i5.code (Nat.le_of_succ_le h5))) (kA (Z4 i5.f7 (Nat.le_of_succ_le h5))),fun n=>wk f2 (kA (Z4 i7.code h6)) (kA (Z4 i7.f7 h6)),f1,f2⟩,j3,a4,b7⟩
 have a1:Ems s.a9 s (s.br6 s4):=((rD.trans rD).trans (e5.up el)).trans (qR (Zg em4 (Zp nu)) lC)
 exact (a1.trans (e7.up (Zg em4 el))).trans (qR em7 (Int.lt_trans nu lC))
section
variable(b:cV s s3 s4 s7 s')
include b
theorem cV.len:s'.code.length=s7.code.length:=by rw[b.eq];rfl
theorem cV.l1:Ct (n+1) 103 [.ref 103] s (.int s.no) s.lab:=BU
theorem cV.l2:Ct (n+1) 103 [.ref 103] s.lab (.int s.en) s.lab.lab:=BU
theorem cV.x7:Ext s7 s':=by rw[b.eq];exact lX
theorem cV.x6:Ext (s.br6 s4) s':=b.e7.trans b.x7
theorem cV.x5:Ext (s.br5 s4) s':=lX.trans b.x6
theorem cV.x4:Ext s4 s':=(bI _).trans b.x5
theorem cV.x3:Ext s3 s':=b.e4.trans b.x4
theorem cV.noL(F:Fin E s'):dg E.sf s.no (s.br6 s4).code.length:=kj (s:=s.br5 s4) b.f1 (b.x6.trans F.ext)
theorem cV.enL(F:Fin E s'):dg E.sf s.en s7.code.length:=kj (s:=s7) b.f2 (b.eq▸F.ext)
theorem cV.le:s3.code.length≤(s.br6 s4).code.length:=(b.e4.code.trans (bI (.num 56 s.en)).code).length_le
theorem cV.over(F:Fin E s')(hf:ws.fault=.no)(q:Goes E ⟨S,s'.code.length,h,ws⟩ r Q):Goes E ⟨S,s4.code.length,h,ws⟩ r Q:=
 fI hf (.br (code_at (b.x5.trans F.ext)) (b.enL F) (Z4 (Zi dM.symm) b.e7.code.length_le)) (b.len▸q)
end
end
section
variable{n M:Nat}{E:FE}{s s' s1 s2:PS}{S:List Cell}{h:dP}{ws:WS}{r:Val×WS}{Q:aD}{k:K}{g:G}{Γ:List (K×Val)}{t a b:Tr}{w:Bool}{l:Int}
def JC(n:Nat)(t:Tr)(w:Bool)(l:Int)(s s':PS):Prop:=Ct (n+16) 26 [.ref 103,t.v,.int (ag w),.int l] s .none s'∧JOk t w l s s'
def JP(t:Tr):Prop:=∀g Γ n w l,8*t.dp≤n→WT g Γ t→t.kind=.bool→a8 g Γ (16*t.sz+1) t.lc (JC n t w l)
def JL(n:Nat)(t:Tr)(w:Bool)(l:Int)(s s':PS):Prop:=Ct (n+19) 26 [.ref 103,t.v,.int (ag w),.int l] s .none s'∧JOk t w l s s'
theorem gw{a b n:Nat}(h:8*max a b≤n):8*a≤n:=Z4 (Nat.mul_le_mul_left 8 (Nat.le_max_left a b)) h
theorem gx{a b n:Nat}(h:8*max a b≤n):8*b≤n:=Z4 (Nat.mul_le_mul_left 8 (Nat.le_max_right a b)) h
theorem qD{v:Val}{w:Bool}{x y:Nat}(h:decide (v.toI=0)=w):jpc w x y v=x:=if_pos h
theorem rM{v:Val}{w:Bool}{x y:Nat}(h:decide (v.toI=0)= !w):jpc w x y v=y:=if_neg (by rw[h];induction w<;>decide)
theorem Eg{p:Prop}[Decidable p]{a:Bool}(h:¬decide p=a):decide p= !a:=by induction a<;>induction hd:decide p<;>rw[hd]at h<;>first|rfl|exact absurd rfl h
theorem JE{x l r:Tr}{a:Bool}{lb:Int}(c:Ct (n+17) 39 [.ref 103,(Tr.bz a l r).v,.int (ag (!a)),.int (ag w),.int lb] s .none s'):Ct (n+19) 26 [.ref 103,(Tr.bz a l r).v,.int (ag w),.int lb] s .none s':=by
 induction a
 ·exact g6 KH (Sq c)
 ·exact g6 FV (RO c)
theorem sN{a:Bool}{l r:Tr}(il:JP l)(ir:JP r)(w:Bool)(lb:Int)(hn:8*max l.dp r.dp≤n)(hw:WT g Γ (.bz a l r)):a8 g Γ (16*l.sz+1+(16*r.sz+1)+1) (r.lc+l.lc) (JL n (.bz a l r) w lb):=by
 by_cases hwa:w= !a
 ·subst hwa
  refine ai (aV (il g Γ n (!a) lb (gw hn) hw.1 hw.2.2.1) (ir g Γ n (!a) lb (gx hn) hw.2.1 hw.2.2.2) fun s s1 s' ζ ζ x1 e1 e2=>⟨JE (x:=l) (zY e1.1 e2.1),fun E F hw' pos hp hl S h ws hf H=>?_⟩) (Z7 _) (Z5 _)
  refine lV (e1.2 E (F.back x1) hw'.1 pos hp (Z4 x1.code.length_le hl) S h ws hf H) fun hf2 h' H'=>?_
  by_cases hz:decide ((aN E.g (aI E.Γ) l ws).1.toI=0)=a
  ·rw[if_pos hz,rM (by rw[hz,Bool.not_not])]
   exact bw (r:=(.int (ag (!a)),_)) fun ζ=>⟨rfl,(rM (by induction a<;>rfl)).symm,H'⟩
  ·rw[if_neg hz,qD (Eg hz)]
   exact e2.2 E F hw'.2.1 pos hp hl S h' _ hf2 H'
 ·obtain rfl:w=a:=by induction w<;>induction a<;>first|rfl|exact absurd rfl hwa
  intro s M d' hg hM hi
  rw[←Nat.add_assoc]at hi
  have q:M+(16*l.sz+1+(16*r.sz+1)+1)=M+(16*l.sz+1)+(16*r.sz+1)+1:=by rw[←Nat.add_assoc,←Nat.add_assoc]
  rw[q]at hM⊢
  have hM2:=Nat.le_of_succ_le hM
  obtain⟨s1,i1,e1,c1,j1⟩:=il g Γ n (!w) s.no (gw hn) hw.1 hw.2.2.1 s.lab M _ hg (Z4 (Z8 _ _) hM2) (qh hi)
  obtain⟨s2,i2,e2,c2,j2⟩:=ir g Γ n w lb (gx hn) hw.2.1 hw.2.2.2 s1 _ _ (e1.ext.g.trans hg) hM2 i1
  have e12:=e1.trans (e2.up e1.em)
  have f2:gv s2 s.no:=e12.fresh (fun p hp e=>absurd (hi.lab p hp) (Int.not_le.mpr (e▸lC))) (Int.le_refl _)
  refine ⟨s2.put s.no,ra i2 e12.em,(rD.trans (e12.up (Zp lC))).trans (qR e12.em lC),JE (x:=l) (As (by induction w<;>rfl) BU c1 c2 (wk f2 (kA (Z4 i2.code hM2)) (kA (Z4 i2.f7 hM2)))),fun E F hw' pos hp hl S h ws hf H=>?_⟩
  have F2:=F.back lX
  refine lV (j1 E (F2.back e2.ext) hw'.1 s2.code.length (kj f2 F.ext) e2.ext.code.length_le S h ws hf H) fun hf2 h' H'=>?_
  by_cases hz:decide ((aN E.g (aI E.Γ) l ws).1.toI=0)=w
  ·rw[if_pos hz,rM (by rw[hz,Bool.not_not])]
   exact bw (r:=(.int (ag (!w)),_)) fun ζ=>⟨rfl,(qD (by induction w<;>rfl)).symm,H'⟩
  ·rw[if_neg hz,qD (Eg hz)]
   exact j2 E F2 hw'.2.1 pos hp hl S h' _ hf2 H'
theorem sz2{a b:Nat}:16*a+1+(16*b+1)+1+1+1+1+1+1≤16*(a+b+1):=by lia
theorem E5{a:Bool}{l r:Tr}(il:JP l)(ir:JP r):JP (.bz a l r):=fun g Γ n w lb hn hw ζ=>
 jL (P:=fun n=>a8 g Γ (16*(l.sz+r.sz+1)+1) (l.lc+r.lc) (JC n (.bz a l r) w lb)) hn fun m hm=>ai (ak (fun s s' ζ ζ e=>e) (sN (n:=m+5) il ir w lb (Z4 hm (Z8 m 5)) hw)) (Z4 (Z8 _ 5) (Zq sz2)) (Zi (Nat.add_comm _ _))
theorem td{a:Bool}{l r:Tr}(il:JP l)(ir:JP r):EP (.bz a l r):=fun g Γ n hn hw=>
 jL (P:=fun n=>a8 g Γ (16*(l.sz+r.sz+1)) (l.lc+r.lc) (EC n (.bz a l r))) hn fun m hm=>by
 refine ai (ak (fun s s' hg xt e=>?_) (eY (α:=Unit) (CJ:=fun lb ζ=>JL m (.bz a l r) false lb) (CA:=fun ζ=>Ins (.num 32 1)) (CB:=fun ζ=>Ins (.num 32 0)) (fun lb=>ak (fun s s' ζ ζ e=>⟨(),e⟩) (sN (n:=m) il ir false lb hm hw)) (fun ζ=>aq _) (fun ζ=>aq _))) sz2 (Zi ((Nat.zero_add _).trans (Nat.add_comm _ _)))
 obtain⟨_,s3,s4,s7,br,⟨c3,j3⟩,⟨e4,c4⟩,⟨e7,c7⟩⟩:=e
 have hlv:∃c k rest,(Tr.bz a l r).v=.tup (.int c::.int k::rest)∧Xe c (if a then 126 else 127) 121:=by
  induction a
  ·exact⟨16,1,_,rfl,R4⟩
  ·exact⟨15,1,_,rfl,Nc⟩
 refine ⟨?_,fun E F hw' S h ws hf H=>?_⟩
 ·obtain⟨c,k,rest,ev,R⟩:=hlv
  rw[ev]at c3⊢
  exact bJ R (Hp br.l1 br.l2 c3 (c4 _) (br.br _) (br.m1 _) (c7 _) (br.m2 _))
 ·refine eC (k:=.bool) (tied:=false) ?_ fun hf2 h' k3 H' ζ=>bX (fun ζ=>rfl) H' b4
  refine kE (j3 E (F.back br.x3) hw' _ (br.noL F) br.le S h ws hf H) fun hf2 h' H'=>?_
  refine hU (aR (.bz a l r) ws hw' hf2) fun b eb=>?_
  have F7:=F.back br.x7
  rw[eb]
  induction b
  ·rw[show jpc false s3.code.length _ (.int (ag false))=(s.br6 s4).code.length from rfl]
   subst e7
   refine b9 F7 hf2 .tP (br.len▸bX (k3:=0) (fun ζ=>?_) H' b4)
   rw[eb];rfl
  ·rw[show jpc false s3.code.length _ (.int (ag true))=s3.code.length from rfl]
   have F4:=F.back br.x4
   subst e4
   refine b9 F4 hf2 .tP (br.over F hf2 (bX (k3:=0) (fun ζ=>?_) H' b4))
   rw[eb];rfl
end
section
variable{n M:Nat}{E:FE}{s s' s1 s2:PS}{S:List Cell}{h:dP}{ws:WS}{r:Val×WS}{Q:aD}{k:K}{g:G}{Γ:List (K×Val)}{t a b:Tr}{w:Bool}{l:Int}
def FC(n:Nat)(t:Tr)(s s':PS):Prop:=Ct (n+16) 23 [.ref 103,t.v] s .none s'∧FOk t s s'
def FP(t:Tr):Prop:=∀g Γ n,8*t.dp≤n→WT g Γ t→a8 g Γ (16*t.sz+1) t.lc (FC n t)
theorem sz3{a b c:Nat}:16*a+1+(16*b+1)+1+1+(16*c+1)+1+1+1≤16*(a+b+c+1):=by lia
theorem sz4{a b c:Nat}:16*a+1+16*b+1+1+16*c+1≤16*(a+b+c+1):=by lia
theorem lc4{a b c:Nat}:0+c+(0+b)+(a+1)≤a+b+c+1:=by lia
theorem lc3{a b c:Nat}:c+b+a≤a+b+c+1:=by lia
theorem mM{s3 s4 s7:PS}(br:cV s s3 s4 s7 s')(F:Fin E s')(hw:WT E.g E.Γ (.cond k t a b))(j:JOk t false s.no s.lab.lab s3)(hf:ws.fault=.no)(H:aL E h)
  (ya:∀ws h,ws.fault=.no→aL E h→Goes E ⟨S,s3.code.length,h,ws⟩ (aN E.g (aI E.Γ) a ws) Q) (yb:∀ws h,ws.fault=.no→aL E h→Goes E ⟨S,(s.br6 s4).code.length,h,ws⟩ (aN E.g (aI E.Γ) b ws) Q):Goes E ⟨S,s.lab.lab.code.length,h,ws⟩ (aN E.g (aI E.Γ) (.cond k t a b) ws) Q:=
 lV (j E (F.back br.x3) hw.1 _ (br.noL F) br.le S h ws hf H) fun hf2 h' H'=>by
  by_cases hz:(aN E.g (aI E.Γ) t ws).1.toI=0
  ·rw[if_pos hz,rM (w:=false) (Z1 hz)];exact yb _ h' hf2 H'
  ·rw[if_neg hz,qD (Z2 hz)];exact ya _ h' hf2 H'
theorem vA(k:K)(t a b:Tr):(Tr.cond k t a b).v=.tup [.int 17,.int k.n,t.v,a.v,b.v]:=rfl
theorem DF(hl:fk k=false)(it:JP t)(ia:EP a)(ib:EP b):EP (.cond k t a b):=fun g Γ n hn hw=>
 jL (P:=fun n=>a8 g Γ (16*(t.sz+a.sz+b.sz+1)) (t.lc+a.lc+b.lc+1) (EC n (.cond k t a b))) hn fun m hm=>by
 have hm2:=gx hm
 refine ai (ak (fun s s' hg xt e=>?_) (eY (α:=Unit) (CJ:=fun lb ζ=>JC (m+3) t false lb) (CA:=fun ζ=>EC (m+4) a) (CB:=fun ζ=>EC (m+4) b) (fun lb=>ak (fun s s' ζ ζ e=>⟨(),e⟩) (it g Γ (m+3) false lb (Z4 (gw hm) (Z8 _ _)) hw.1 hw.2.2.2.1)) (fun ζ=>ia g Γ (m+4) (Z4 (gw hm2) (Z8 _ _)) hw.2.1) (fun ζ=>ib g Γ (m+4) (Z4 (gx hm2) (Z8 _ _)) hw.2.2.1))) sz4 lc3
 obtain⟨_,s3,s4,s7,br,⟨c3,j3⟩,⟨c4,r4⟩,⟨c7,r7⟩⟩:=e
 refine ⟨?_,fun E F hw' S h ws hf H=>?_⟩
 ·have lo:=yW (n:=m+15) (st:=s.lab.lab) k
  rw[hl]at lo
  rw[vA]
  exact bJ BW (DW br.l1 br.l2 lo c3 (u0 (bN c4)) (br.br _) (br.m1 _) (u0 (bN c7)) (br.m2 _))
 ·have ti:(Tr.cond k t a b).ti=false:=hl
  rw[ti]
  refine mM br F hw' j3 hf H (fun ws h hf H=>?_) (fun ws h hf H=>?_)
  ·have q:=r4 E (F.back br.x4) hw'.2.1 S h ws hf H
   rw[hw'.2.2.2.2.1]at q
   exact eC q fun hf h' k3 H' ζ=>br.over F hf (bX (fun ζ=>rfl) H' b4)
  ·have q:=r7 E (F.back br.x7) hw'.2.2.1 S h ws hf H
   rw[hw'.2.2.2.2.2.1]at q
   exact eC q fun hf h' k3 H' ζ=>br.len▸bX (fun ζ=>rfl) H' b4
noncomputable def Jo(n:Nat)(t:Tr)(p:Nat):Wk:=Seq (EC n t) (Ins (.num 65038 (p:Nat)))
theorem BK{p:Nat}(c:Jo n t p s s'):Ct (n+15) 41 [.ref 103,t.v,.int (p:Nat)] s .none s':=by
 obtain⟨s1,⟨c1,_⟩,⟨_,c2⟩,_⟩:=c
 exact Fg (Int.natCast_nonneg p) (bN c1) (c2 _)
noncomputable def InP(E:FE)(S:List Cell)(k:K)(p:Nat)(pc:Nat):aD:=fun v S' pc' h'=>S'=S∧pc'=pc∧aL E h'∧∃k3,h'[p]?=some (some (cellK E.g k v k3))
theorem sO{p:Nat}(c:Jo n t p s s')(F:Fin E s')(tk:t.kind=k)(tm:Tmp E.sf p k)(hw:WT E.g E.Γ t)(hf:ws.fault=.no)(H:aL E h):Goes E ⟨S,s.code.length,h,ws⟩ (aN E.g (aI E.Γ) t ws) (InP E S k p s'.code.length):=by
 obtain⟨s1,⟨_,r1⟩,⟨rfl,_⟩,x1,_⟩:=c
 subst tk
 have hl:=fun h (H:aL E h)=>H.lt tm
 exact eC (r1 E (F.back x1) hw S h ws hf H) fun hf2 h' k3 H' ζ=>b9 F hf2 (fun e=>.stl e tm.1 (aR t ws hw hf2) (hl _ H')) (bw fun ζ=>⟨rfl,rfl,H'.set tm,k3,List.getElem?_set_self (hl _ H')⟩)
theorem wH{x:Val×WS}{m:MS}{p pc:Nat}(h:Goes E m x (InP E S k p pc))(q:x.2.fault=.no→∀h k3,aL E h→h[p]?=some (some (cellK E.g k x.1 k3))→Goes E ⟨S,pc,h,x.2⟩ x Q):Goes E m x Q:=
 n9 h fun hf ζ ζ h' ⟨e1,e2,H,k3,e⟩=>by subst e1 e2;exact q hf h' k3 H e
theorem EM(hl:fk k=true)(it:JP t)(ia:EP a)(ib:EP b):EP (.cond k t a b):=fun g Γ n hn hw=>
 jL (P:=fun n=>a8 g Γ (16*(t.sz+a.sz+b.sz+1)) (t.lc+a.lc+b.lc+1) (EC n (.cond k t a b))) hn fun m hm=>by
 have hm2:=gx hm
 have J:∀lb,a8 g Γ (16*t.sz+1) (t.lc+1) (fun s s'=>∃p,∃s2,Tmp s2 p k∧(∀n,Ct (n+1) 20 [.ref 103,.int k.n] s (.int (p:Nat)) s2)∧s2.code=s.code∧Ext s2 s'∧JC (m+3) t false lb s2 s'):=fun lb s M d' hg hM hi=>by
  rw[←Nat.add_assoc]at hi
  obtain⟨s2,i2,e2,q2,p,tm,c2⟩:=xA (B:=s.a9) k hi (Z4 (Z8 _ _) hM)
  obtain⟨s3,i3,e3,j⟩:=it g Γ (m+3) false lb (Z4 (gw hm) (Z8 _ _)) hw.1 hw.2.2.2.1 s2 M d' (e2.ext.g.trans hg) hM i2
  exact⟨s3,i3,e2.trans (e3.up e2.em),p,s2,tm,c2,q2,e3.ext,j⟩
 intro s M d' hg hM hi
 have q:=sz3 (a:=t.sz) (b:=a.sz) (c:=b.sz)
 have hM:=Z4 (Zf q M) hM
 obtain⟨s8,i8,e8,p,s3,s4,s7,br,⟨s2,tm,ct,q2,x3,c3,j3⟩,sA,sB⟩:=eY J (fun p=>bo (ia g Γ (m+4) (Z4 (gw hm2) (Z8 _ _)) hw.2.1) (aq (.num 65038 (p:Nat)))) (fun p=>bo (ib g Γ (m+4) (Z4 (gx hm2) (Z8 _ _)) hw.2.2.1) (aq (.num 65038 (p:Nat)))) s M d' hg (Z4 (Zf (Z4 (Z7 _) (Z7 _)) M) hM) (hi.dn (Zf lc4 d'))
 have i9:=f9 (.num 65036 (p:Nat)) i8
 have t9:=(tm.mono (x3.trans br.x3)).mono (bI (.num 65036 (p:Nat)))
 obtain⟨s10,i10,e10,q10,c10⟩:=yy (B:=s.a9) i9 t9 (Z4 (Z7 _) hM)
 have i1:=fun n=>n5 (n:=n) (st:=s8) (.num 65036 (p:Nat)) (kA (Z4 i8.code (Z4 (Zf (Z4 (Z7 _) (Z7 _)) M) hM)))
 refine ⟨s10,i10.up (Zf q M),(e8.trans (gq _)).trans e10,?_,fun E F hw' S h ws hf H=>?_⟩
 ·have lo:=yW (n:=m+15) (st:=s.lab.lab) k
  rw[hl]at lo
  rw[vA]
  exact bJ BW (EI (Int.natCast_nonneg p) br.l1 br.l2 lo (Ce (ct _)) c3 (BK sA) (br.br _) (br.m1 _) (BK sB) (br.m2 _) (i1 _) (Dw (c10 _)))
 ·have F9:=F.back e10.ext
  have F8:=F9.back (bI _)
  have tE:=t9.mono F9.ext
  have ti:(Tr.cond k t a b).ti=true:=hl
  rw[ti,q10]
  refine wH ?_ fun hf2 h' k3 H' eh=>b9 F9 hf2 (fun e=>.ld e eh tE.1) (by rw[F9.Jw tE];exact bX (fun ζ=>rfl) H' fun ζ=>rfl)
  have jj:JOk t false s.no s.lab.lab s3:=by unfold JOk;rw[←q2];exact j3
  refine mM br F8 hw' jj hf H (fun ws h hf H=>?_) (fun ws h hf H=>?_)
  ·exact wH (sO sA (F8.back br.x4) hw'.2.2.2.2.1 tE hw'.2.1 hf H) fun hf h' k3 H' eh=>br.over F8 hf (bw fun ζ=>⟨rfl,rfl,H',k3,eh⟩)
  ·exact wH (sO sB (F8.back br.x7) hw'.2.2.2.2.2.1 tE hw'.2.2.1 hf H) fun hf h' k3 H' eh=>br.len▸bw fun ζ=>⟨rfl,rfl,H',k3,eh⟩
theorem yl(it:JP t)(ia:EP a)(ib:EP b):EP (.cond k t a b):=by
 induction h:fk k
 ·exact DF h it ia ib
 ·exact EM h it ia ib
theorem Ha(it:JP t)(ia:FP a)(ib:FP b):FP (.cond k t a b):=fun g Γ n hn hw=>
 jL (P:=fun n=>a8 g Γ (16*(t.sz+a.sz+b.sz+1)+1) (t.lc+a.lc+b.lc+1) (FC n (.cond k t a b))) hn fun m hm=>by
 have hm2:=gx hm
 refine ai (ak (fun s s' hg xt e=>?_) (eY (α:=Unit) (CJ:=fun lb ζ=>JC (m+6) t false lb) (CA:=fun ζ=>FC (m+5) a) (CB:=fun ζ=>FC (m+5) b) (fun lb=>ak (fun s s' ζ ζ e=>⟨(),e⟩) (it g Γ (m+6) false lb (Z4 (gw hm) (Z8 _ _)) hw.1 hw.2.2.2.1)) (fun ζ=>ia g Γ (m+5) (Z4 (gw hm2) (Z8 _ _)) hw.2.1) (fun ζ=>ib g Γ (m+5) (Z4 (gx hm2) (Z8 _ _)) hw.2.2.1))) (Z4 (Z8 _ 2) (Zq sz3)) lc3
 obtain⟨_,s3,s4,s7,br,⟨c3,j3⟩,⟨c4,r4⟩,⟨c7,r7⟩⟩:=e
 refine ⟨?_,fun E F hw' S h ws hf H=>?_⟩
 ·rw[vA]
  exact vh Bd (zD br.l1 br.l2 c3 (mW c4) (br.br _) (br.m1 _) (mW c7) (br.m2 _))
 ·refine mM br F hw' j3 hf H (fun ws h hf H=>?_) (fun ws h hf H=>?_)
  ·exact kE (r4 E (F.back br.x4) hw'.2.1 S h ws hf H) fun hf h' H'=>br.over F hf (bw fun ζ=>⟨rfl,rfl,H'⟩)
  ·exact kE (r7 E (F.back br.x7) hw'.2.2.1 S h ws hf H) fun hf h' H'=>br.len▸bw fun ζ=>⟨rfl,rfl,H'⟩
end
section
variable{n M:Nat}{E:FE}{s s' s1 s2:PS}{S:List Cell}{h:dP}{ws:WS}{r:Val×WS}{Q:aD}{k:K}{g:G}{Γ:List (K×Val)}{t a b e:Tr}{w c:Bool}{l:Int}
theorem B1{p:Option Pay}:FP (.const k p):=fun g Γ n ζ hw=>ai (ak (fun s s' ζ ζ e=>by
 subst e
 exact⟨vh AV Kp,fun E F hw' S h ws hf H=>bw (r:=(pU E.g (aI E.Γ) (.const k p),ws)) fun ζ=>⟨rfl,rfl,H⟩⟩) eQ) (Nat.zero_le _) (Nat.zero_le _)
theorem Fi(k:K):k.n≠0:=Z0 (K.all (p:=fun k=>decide (k.n≠0)) rfl k)
theorem gQ(ht:t.code≠1∧t.code≠17)(ie:EP t):FP t:=fun g Γ n hn hw=>ai (aV (ie g Γ (n+2) (Zq hn) hw) (aq (.op 38)) fun s s1 s' ζ ζ x1 e1 e2=>⟨by
 have c1:=e1.1
 obtain⟨r,ev⟩:=t.n8
 rw[ev]at c1⊢
 exact An ht.1 ht.2 (Fi _) c1 (e2.2 _),fun E F hw' S h ws hf H=>eC (e1.2 E (F.back x1) hw' S h ws hf H) fun hf2 h' k3 H' ζ=>cu e2 F hf2 .pop (bw fun ζ=>⟨rfl,rfl,H'⟩)⟩) (Z5 _) (Zi (Nat.zero_add _))
theorem AR:∀b:Bool,full (.int (ag b))=b
 |true|false=>rfl
noncomputable def jI(w:Bool):Int:=if w then 58 else 57
theorem A7{x:Val×WS}{b:Bool}{cl:Cell}{pos:Nat}(F:Fin E (s.add (.num (jI w) l)))(hp:dg E.sf l pos)(hl:(s.add (.num (jI w) l)).code.length≤pos)(ht:cl.tag=1∨cl.tag=4)(hb:full cl.v=b)(hv:x.1=.int (ag b))(hf:x.2.fault=.no)(H:aL E h):
  Goes E ⟨cl::S,s.code.length,h,x.2⟩ x (At E S (jpc w (s.add (.num (jI w) l)).code.length pos)):=by
 refine fI hf (.brb (code_at F.ext) (by induction w;exact .inl rfl;exact .inr rfl) hp (dM (s:=s)▸hl) ht) (bw fun ζ=>⟨rfl,?_,H⟩)
 rw[hb,hv,dM]
 induction w<;>induction b<;>rfl
theorem BP(hk:t.kind=.bool)(ho:EOk t s s1):JOk t w l s (s1.add (.num (jI w) l)):=fun E F hw pos hp hl S h ws hf H=>by
 refine eC (ho E (F.back (bI _)) hw S h ws hf H) fun hf2 h' k3 H' ζ=>?_
 refine hU (hk▸aR t ws hw hf2) fun b eb=>?_
 rw[hk,eb,gU]
 exact A7 F hp hl (.inl rfl) (AR b) eb hf2 H'
theorem vj(ht:t.code≠1∧t.code≠13∧t.code≠14∧t.code≠15∧t.code≠16∧t.code≠20)(ie:EP t):JP t:=fun g Γ n w l hn hw hk=>ai (aV (ie g Γ (n+2) (Zq hn) hw) (aq (.num (jI w) l)) fun s s1 s' ζ ζ x1 e1 e2=>⟨by
 have c1:=e1.1
 obtain⟨r,ev⟩:=t.n8
 rw[ev]at c1⊢
 exact Fj ht c1 (e2.2 _),e2.1▸BP hk e1.2⟩) (Z5 _) (Zi (Nat.zero_add _))
theorem CF{p:Option Pay}:JP (.const k p):=fun g Γ n w l hn hw hk=>by
 obtain rfl:k=.bool:=hk
 obtain⟨b,rfl⟩:∃b:Bool,p=some (.i (ag b)):=by
  match p,hw with
  |none,hw=>rcases hw with h|h<;>cases h
  |some (.s c),hw=>exact absurd hw (by intro h;cases h)
  |some (.i x),hw=>exact hU (has_int rfl hw.2) fun b e=>⟨b,by cases e;rfl⟩
 by_cases hb:b=w
 ·subst hb
  refine ai (ak (fun s s' ζ ζ ⟨e1,c1⟩=>?_) (aq (.num 56 l))) (show 1≤17 by decide) (Z5 _)
  subst e1
  exact⟨g6 pO (AL (Z1 rfl) (c1 _)),fun E F hw' pos hp hl S h ws hf H=>fI hf (.br (code_at F.ext) hp (dM (s:=s)▸hl)) (bw (r:=(.int (ag b),ws)) fun ζ=>⟨rfl,by induction b<;>rfl,H⟩)⟩
 ·refine ai (ak (fun s s' ζ ζ e=>?_) eQ) (Nat.zero_le _) (Nat.zero_le _)
  subst e
  exact⟨g6 pO (Ao (by induction b<;>induction w<;>first|rfl|exact absurd rfl hb)),fun E F hw' pos hp hl S h ws hf H=>bw (r:=(.int (ag b),ws)) fun ζ=>⟨rfl,by induction b<;>induction w<;>first|rfl|exact absurd rfl hb,H⟩⟩
theorem Kv(ij:JP e):JP (.un k .not e c):=fun g Γ n w l hn hw hk=>
 jL (P:=fun n=>a8 g Γ (16*(e.sz+1)+1) e.lc (JC n (.un k .not e c) w l)) hn fun m hm=>by
 have ke:e.kind=.bool:=hw.2.1.trans hk
 refine ai (ak (C1:=JC (m+6) e (!w) l) (fun s s' ζ ζ ⟨c1,j1⟩=>⟨g6 KS (Bx (by induction w<;>rfl) c1),fun E F hw' pos hp hl S h ws hf H=>?_⟩) (ij g Γ (m+6) (!w) l (Zq hm) hw.1 ke)) (Nat.succ_le_succ (Nat.mul_le_mul_left 16 (Z7 _))) (Z5 _)
 refine lV (j1 E F hw'.1 pos hp hl S h ws hf H) fun hf2 h' H'=>hU (ke▸aR e ws hw'.1 hf2) fun b eb=>?_
 rw[eb]
 have q:∀pc,pc=jpc w s'.code.length pos (.int (1-ag b))→Goes E ⟨S,pc,h',(aN E.g (aI E.Γ) e ws).2⟩ (.int (1-ag b),(aN E.g (aI E.Γ) e ws).2) (At E S (jpc w s'.code.length pos)):=fun pc h=>bw (r:=(.int (1-ag b),(aN E.g (aI E.Γ) e ws).2)) fun ζ=>⟨rfl,h,H'⟩
 have e2:dU (aN E.g (aI E.Γ) e ws).2 (gA E.g e.kind (.int (ag b)) (aN E.g (aI E.Γ) e ws).2.made (.un k .not c))=(.int (1-ag b),(aN E.g (aI E.Γ) e ws).2):=congrArg (Prod.mk _) (dN hf2)
 rw[e2]
 refine q _ ?_
 induction b<;>induction w<;>rfl
theorem CV:∀v:Val,full (isW g k v)=isV g k v
 |.none|.int _|.tok .. =>rfl
 |.ob x p id=>by
  unfold isW
  induction isV g k (.ob x p id)<;>rfl
theorem ND{aim:K}(ie:EP e):JP (.is e aim):=fun g Γ n w l hn hw hk=>
 jL (P:=fun n=>a8 g Γ (16*(e.sz+1)+1) e.lc (JC n (.is e aim) w l)) hn fun m hm=>by
 refine ai (aV (ie g Γ (m+7) (Zq hm) hw.1) (bo (kn (K.imp (a:=xn) (b:=fun ke=>A8 ke||aU ke) (by kernel_rfl) _ hw.2.1)) (aq (.num (jI w) l))) fun s s1 s' ζ ζ x1 e1 e2=>e2.el fun s2 t i2 x2 ζ=>⟨g6 J7 (Q6 (w3 (bN e1.1) t) (i2.2 _)),fun E F hw' pos hp hl S h ws hf H=>?_⟩) (Zf (show 3≤17 by decide) _) (Zi (Nat.zero_add _))
 refine bZ (e1.2 E (F.back x1) hw'.1 S h ws hf H) fun hf2 h' k3 H' ζ=>?_
 refine t.run (F.back x2) hf2 (aR e ws hw'.1 hf2) fun k3=>?_
 have e2:=i2.1
 subst e2
 refine A7 (x:=dU _ (gA E.g e.kind _ _ (.is aim))) F hp hl (.inr rfl) ?_ rfl rfl H'
 exact (CV _).trans rfl
end
theorem g7(w:Nat)(a b:Int):BitVec.ofInt w (a-b)=BitVec.ofInt w a-BitVec.ofInt w b:=by
 rw[Int.sub_eq_add_neg,BitVec.ofInt_add,BitVec.ofInt_neg,BitVec.sub_eq_add_neg]
theorem KU(w:Nat):BitVec.ofInt w 1=1#w:=rfl
theorem gE(w:Nat)(z:Int):BitVec.ofInt w (bitNot z)= ~~~ BitVec.ofInt w z:=by
 rw[show bitNot z= -z-1 from rfl,g7,BitVec.ofInt_neg,BitVec.not_eq_neg_add,KU]
theorem uw{w:Nat}(X Y:BitVec w):X-(X &&& ~~~Y)=X &&& Y:=by
 rw[BitVec.sub_eq_iff_eq_add,BitVec.add_eq_or_of_and_eq_zero]
 ·rw[←BitVec.and_or_distrib_left,BitVec.or_not_self,BitVec.and_allOnes]
 ·rw[BitVec.and_comm X (~~~Y),←BitVec.and_assoc,BitVec.and_assoc X,BitVec.and_not_self,show X &&& (0:BitVec w)=0#w from BitVec.and_zero,BitVec.zero_and]
theorem kD{w m:Nat}:BitVec.ofInt w (m:Int)=BitVec.ofNat w m:=BitVec.ofInt_natCast w m
theorem vy{y:Int}(h:¬0≤y):∃m:Nat,bitNot y=m:=⟨(bitNot y).toNat,(Int.toNat_of_nonneg (by show 0≤ -y-1;lia)).symm⟩
theorem q8{w a b:Nat}:BitVec.ofInt w ((a &&& b:Nat):Int)=BitVec.ofInt w a &&& BitVec.ofInt w b:=by rw[kD,kD,kD,BitVec.ofNat_and]
theorem q0(w:Nat)(x y:Int):BitVec.ofInt w (bitAnd x y)=BitVec.ofInt w x &&& BitVec.ofInt w y:=by
 unfold bitAnd
 by_cases h1:0≤x
 ·obtain⟨a,rfl⟩:=Int.eq_ofNat_of_zero_le h1
  rw[Z1 h1]
  by_cases h2:0≤y
  ·obtain⟨b,rfl⟩:=Int.eq_ofNat_of_zero_le h2
   rw[Z1 h2];exact q8
  ·obtain⟨b,hb⟩:=vy h2
   rw[Z2 h2,hb]
   show BitVec.ofInt w ((a:Int)-((a &&& b:Nat):Int))=_
   rw[g7,q8,←hb,gE,uw]
 ·obtain⟨a,ha⟩:=vy h1
  rw[Z2 h1,ha]
  by_cases h2:0≤y
  ·obtain⟨b,rfl⟩:=Int.eq_ofNat_of_zero_le h2
   rw[Z1 h2]
   show BitVec.ofInt w ((b:Int)-((b &&& a:Nat):Int))=_
   rw[g7,q8,←ha,gE,uw,BitVec.and_comm]
  ·obtain⟨b,hb⟩:=vy h2
   rw[Z2 h2,hb]
   show BitVec.ofInt w (bitNot ((a ||| b:Nat):Int))=_
   rw[gE,kD,BitVec.ofNat_or,←kD,←kD,←ha,←hb,gE,gE,BitVec.not_or,BitVec.not_not,BitVec.not_not]
theorem Dh(w:Nat)(x y:Int):BitVec.ofInt w (bitOr x y)=BitVec.ofInt w x ||| BitVec.ofInt w y:=by
 unfold bitOr
 rw[gE,q0,gE,gE,BitVec.not_and,BitVec.not_not,BitVec.not_not]
theorem Fe(w:Nat)(x y:Int):BitVec.ofInt w (bitXor x y)=BitVec.ofInt w x ^^^ BitVec.ofInt w y:=by
 unfold bitXor
 rw[g7,q0,Dh]
 generalize BitVec.ofInt w x=X
 generalize BitVec.ofInt w y=Y
 rw[BitVec.sub_eq_iff_eq_add,BitVec.add_eq_or_of_and_eq_zero]
 ·ext i;simp only[BitVec.getElem_or,BitVec.getElem_xor,BitVec.getElem_and];induction X[i]<;>induction Y[i]<;>rfl
 ·ext i;simp only[BitVec.getElem_xor,BitVec.getElem_and,BitVec.getElem_zero];induction X[i]<;>induction Y[i]<;>rfl
structure iJ (f:Int→Int→Int)(F:∀w,BitVec w→BitVec w→BitVec w):Prop where
 of:∀w x y,BitVec.ofInt w (f x y)=F w (BitVec.ofInt w x) (BitVec.ofInt w y)
 sx:∀w v X Y,BitVec.signExtend v (F w X Y)=F v (BitVec.signExtend v X) (BitVec.signExtend v Y)
 m:∀w X Y,X.msb=false→Y.msb=false→(F w X Y).msb=false
theorem LA:iJ bitAnd fun ζ=>(· &&& ·):=⟨q0,fun ζ ζ ζ ζ=>BitVec.signExtend_and,fun ζ ζ ζ h k=>by rw[BitVec.msb_and,h];rfl⟩
theorem QG:iJ bitOr fun ζ=>(· ||| ·):=⟨Dh,fun ζ ζ ζ ζ=>BitVec.signExtend_or,fun ζ ζ ζ h k=>by rw[BitVec.msb_or,h,k];rfl⟩
theorem Lj:iJ bitXor fun ζ=>(· ^^^ ·):=⟨Fe,fun ζ ζ ζ ζ=>BitVec.signExtend_xor,fun ζ ζ ζ h k=>by rw[BitVec.msb_xor,h,k];rfl⟩
theorem big(r:Int)(n:Nat):(BitVec.ofInt (n+r.natAbs+1) r).toInt=r:=by
 have h:((r.natAbs:Nat):Int)<((2^(n+r.natAbs):Nat):Int):=Int.ofNat_lt.mpr (Zl (Nat.le_add_left _ n) Nat.lt_two_pow_self)
 rw[Int.natCast_pow]at h
 refine BitVec.toInt_ofInt_eq_self (Nat.succ_pos _) ?_ ?_
 ·show-2^(n+r.natAbs)≤r;lia
 ·show r<2^(n+r.natAbs);lia
section
variable{f:Int→Int→Int}{F:∀w,BitVec w→BitVec w→BitVec w}{n:Nat}{x y:Int}
theorem iJ.eq(b:iJ f F)(X Y:BitVec n):f X.toInt Y.toInt=(F n X Y).toInt:=by
 have h:=big (f X.toInt Y.toInt) n
 rw[b.of]at h
 rw[←h]
 show (F _ (BitVec.signExtend _ X) (BitVec.signExtend _ Y)).toInt=_
 rw[←b.sx,BitVec.toInt_signExtend_of_le (Z4 (Z8 _ _) (Z7 _))]
theorem iJ.sg(b:iJ f F)(hx: -2^n≤x∧x<2^n)(hy: -2^n≤y∧y<2^n): -2^n≤f x y∧f x y<2^n:=by
 have ex:=BitVec.toInt_ofInt_eq_self (Nat.succ_pos n) hx.1 hx.2
 have ey:=BitVec.toInt_ofInt_eq_self (Nat.succ_pos n) hy.1 hy.2
 rw[←ex,←ey,b.eq]
 exact⟨BitVec.le_toInt _,BitVec.toInt_lt⟩
theorem wx(hx: -2^n≤x∧x<2^n):(BitVec.ofInt (n+1) x).msb=decide (x<0):=by rw[BitVec.msb_eq_toInt,BitVec.toInt_ofInt_eq_self (Nat.succ_pos n) hx.1 hx.2]
theorem iJ.un(b:iJ f F)(hx:0≤x∧x<2^n)(hy:0≤y∧y<2^n):0≤f x y∧f x y<2^n:=by
 have p: -(2:Int)^n≤0:=Int.neg_nonpos_of_nonneg (Zp (Int.pow_pos (by decide)))
 have hx':=And.intro (Zg p hx.1) hx.2
 have hy':=And.intro (Zg p hy.1) hy.2
 have r:=b.sg hx' hy'
 have m:=b.m (n+1) (BitVec.ofInt _ x) (BitVec.ofInt _ y) ((wx hx').trans (Z2 (Int.not_lt.mpr hx.1))) ((wx hy').trans (Z2 (Int.not_lt.mpr hy.1)))
 rw[←b.of,wx r]at m
 exact⟨Int.not_lt.mp (of_decide_eq_false m),r.2⟩
end
theorem vU(b:B)(w:Nat)(hb:(b.m=((2^w:Nat):Int))∧b.h=(((2^w:Nat):Int)+1) / 2)(z:Int):sgn b z=(BitVec.ofInt w z).toInt:=by
 rw[BitVec.toInt_ofInt,Int.bmod_def]
 unfold sgn
 rw[Zn _ (Zp b.gI),hb.2,hb.1]
 by_cases h:z % ((2^w:Nat):Int)<(((2^w:Nat):Int)+1) / 2
 ·rw[if_pos h,if_neg (Int.not_le.mpr h)]
 ·rw[if_neg h,if_pos (Int.not_lt.mp h)]
def Carries(f:Int→Int→Int):Prop:=∃F:∀w,BitVec w→BitVec w→BitVec w,∀w x y,BitVec.ofInt w (f x y)=F w (BitVec.ofInt w x) (BitVec.ofInt w y)
theorem Carries.go{f:Int→Int→Int}(h:Carries f)(b:B)(w:Nat)(hb:(b.m=((2^w:Nat):Int))∧b.h=(((2^w:Nat):Int)+1) / 2)(x y:Int):sgn b (f (sgn b x) (sgn b y))=sgn b (f x y):=by
 obtain⟨F,hF⟩:=h
 have e:∀x,BitVec.ofInt w (sgn b x)=BitVec.ofInt w x:=fun x=>by rw[vU b w hb,BitVec.ofInt_toInt]
 rw[vU b w hb (f _ _),hF,e,e,←hF,←vU b w hb]
theorem Carries.sg{f:Int→Int→Int}(h:Carries f){b:B}(hb:b=.b32∨b=.b64)(x y:Int):sgn b (f (sgn b x) (sgn b y))=sgn b (f x y):=by
 rcases hb with rfl|rfl
 ·exact h.go .b32 32 (by decide) x y
 ·exact h.go .b64 64 (by decide) x y
theorem wX:∀op:BOp,(op.ar&& !op.bL)=true→Carries (aZ op)
 |.add,_=>⟨fun ζ=>(· + ·),fun ζ ζ ζ=>BitVec.ofInt_add _ _⟩
 |.sub,_=>⟨fun ζ=>(· - ·),fun ζ ζ ζ=>g7 _ _ _⟩
 |.mul,_=>⟨fun ζ=>(· * ·),fun ζ ζ ζ=>BitVec.ofInt_mul _ _⟩
 |.and,_=>⟨_,q0⟩
 |.or,_=>⟨_,Dh⟩
 |.xor,_=>⟨_,Fe⟩
 |.div,h|.rem,h|.shl,h|.shr,h|.eq,h|.ne,h|.lt,h|.gt,h|.le,h|.ge,h=>absurd h Zc
section
variable{k p:K}{g:G}{op:BOp}{c:Bool}{x y n:Int}
noncomputable def bP(k:K):B:=if c8 k then .b64 else .b32
theorem gs(k:K):bP k=.b32∨bP k=.b64:=by unfold bP;split;exact .inr rfl;exact .inl rfl
noncomputable def pk9:K→Bool:=inL [.bool,.chr,.i1,.u1,.i2,.u2,.i4,.u4,.i8,.u8]
theorem gM(h:pk9 p=true)(x:Int):fT p x=sgn (bP p) x∧bS p=aS (bP p):=
 Prod.mk.inj (K.on (f:=fun p=>(fT p x,bS p)) (g:=fun p=>(sgn (bP p) x,aS (bP p))) (c:=pk9) rfl p h)
theorem di{k3:Int}(h:pk9 (aj g k)=true):cellK g k (.int x) k3=⟨aS (bP (aj g k)),.int (sgn (bP (aj g k)) x),k3⟩:=by
 show Cell.mk (bS _) (.int (fT _ x)) k3=_
 rw[(gM h x).1,(gM h x).2]
theorem yg:a4 p=true→pk9 p=true:=K.imp rfl p
def inK(k:K)(x:Int):Prop:=loK k≤x∧x≤hiK k
theorem cT(h:pk9 p=true)(hx:inK p x):uns (bg p) (bP p).m (sgn (bP p) x)=x:=by
 have key:=K.imp (a:=pk9) (b:=fun p=>if bg p then decide (0≤loK p∧hiK p<(bP p).m)else decide (-(bP p).h≤loK p∧hiK p<(bP p).h)) (by kernel_rfl) p h
 unfold uns
 induction hu:bg p<;>rw[hu]at key
 ·have r:=Z0 (p:= -(bP p).h≤loK p∧hiK p<(bP p).h) key
  rw[if_neg (by decide)]
  exact ji ⟨Zg r.1 hx.1,Zz hx.2 r.2⟩
 ·have r:=Z0 (p:=0≤loK p∧hiK p<(bP p).m) key
  rw[if_pos rfl,g5]
  exact fg ⟨Zg r.1 hx.1,Zz hx.2 r.2⟩
theorem Ib(h:pk9 p=true)(hx:inK p x)(hy:inK p y)(e:sgn (bP p) x=sgn (bP p) y):x=y:=by
 rw[←cT h hx,←cT h hy,e]
noncomputable def loP(k:K):Int:=if bg k then 0 else-(bP k).h
theorem mV(h:a4 k=true):loK k=loP k∧hiK k+1=loP k+(bP k).m∧hiK k-loK k+1=(bP k).m:=
 Z0 (K.imp (a:=a4) (b:=fun k=>decide (loK k=loP k∧hiK k+1=loP k+(bP k).m∧hiK k-loK k+1=(bP k).m)) (by kernel_rfl) k h)
theorem fS{b:B}(h:x.fmod b.m=y.fmod b.m):sgn b x=sgn b y:=by unfold sgn;rw[h]
theorem hC(b:B)(x:Int):small (sgn b x)=true:=by
 have h:b.h≤9223372036854775808:=by induction b<;>decide
 have r:=Ip b x
 exact hZ ⟨Zr (Int.neg_lt_neg (Zz h (by decide))) r.1,Zr r.2 (Zg h (by decide))⟩
theorem yu(h:inK (aj g k) n):dj g k n c=(n,.no):=if_pos h
theorem mr(h:a4 k=true):(dj g k n false).2=.no∧sgn (bP k) (dj g k n false).1=sgn (bP k) n:=by
 unfold dj cX
 rw[oA h]
 by_cases hr:loK k≤n∧n≤hiK k
 ·rw[if_pos hr];exact⟨rfl,rfl⟩
 ·rw[if_neg hr,(mV h).2.2]
  refine ⟨rfl,fS ?_⟩
  show (loK k+(n-loK k).fmod (bP k).m).fmod (bP k).m=n.fmod (bP k).m
  have e:=fun a=>Zn a (Zp (bP k).gI)
  rw[e,e,e,Int.add_emod_emod,Int.add_comm,Int.sub_add_cancel]
theorem FQ(h:a4 k=true):dj g k n true=if loP k≤n∧n<loP k+(bP k).m then (n,.no)else (0,.over):=by
 obtain⟨r1,r2,_⟩:=mV h
 unfold dj cX
 rw[oA h,←r2,←r1]
 by_cases hr:loK k≤n∧n≤hiK k
 ·rw[if_pos hr,if_pos ⟨hr.1,Int.lt_add_one_of_le hr.2⟩]
 ·rw[if_neg hr,if_pos rfl,if_neg (show ¬(loK k≤n∧n<hiK k+1)from fun h=>hr ⟨h.1,Int.le_of_lt_add_one h.2⟩)]
noncomputable def eK:K→Nat
 |.bool=>1|.u4=>32|.u8=>64|.i8=>63|_=>31
theorem Kr:∀op:BOp,op.log=true→∃F,iJ (aZ op) F
 |.and,_=>⟨_,LA⟩
 |.or,_=>⟨_,QG⟩
 |.xor,_=>⟨_,Lj⟩
 |.add,h|.sub,h|.mul,h|.div,h|.rem,h|.shl,h|.shr,h|.eq,h|.ne,h|.lt,h|.gt,h|.le,h|.ge,h=>absurd h Zc
theorem Il(h:(a4 k||decide (k=.bool))=true)(ho:op.log=true)(hx:inK k x)(hy:inK k y):inK k (aZ op x y):=by
 obtain⟨F,b⟩:=Kr op ho
 have key:=Z0 (K.imp (a:=fun k=>a4 k||decide (k=.bool)) (b:=fun k=>decide (loK k=(if bg k then 0 else-2^eK k)∧hiK k+1=2^eK k)) (by kernel_rfl) k h)
 have up:∀{x:Int},x≤hiK k↔x<2^eK k:=fun {x}=>key.2▸Int.lt_add_one_iff.symm
 unfold inK at hx hy⊢
 rw[up]at hx hy⊢
 rw[key.1]at hx hy⊢
 induction hu:bg k<;>rw[hu]at hx hy
 ·exact b.sg hx hy
 ·exact b.un hx hy
theorem OT(x y:Int):tq x y=x.tdiv y:=by
 have q:∀{a b:Int},0≤a→0≤b→a.fdiv b=a.tdiv b:=fun ha hb=>by rw[Int.fdiv_eq_ediv_of_nonneg _ hb,Int.tdiv_eq_ediv_of_nonneg ha]
 have n:∀{a:Int},a<0→0≤ -a:=fun h=>Int.neg_nonneg_of_nonpos (Zp h)
 unfold tq g9
 by_cases h1:x<0<;>by_cases h2:y<0
 ·rw[Z1 h1,Z1 h2,if_pos (show (true==true)=true from rfl),if_pos h1,if_pos h2,q (n h1) (n h2),Int.neg_tdiv_neg]
 ·rw[Z1 h1,Z2 h2,if_neg (by decide),if_pos h1,if_neg h2,q (n h1) (Int.not_lt.mp h2),Int.neg_tdiv,Int.neg_neg]
 ·rw[Z2 h1,Z1 h2,if_neg (by decide),if_neg h1,if_pos h2,q (Int.not_lt.mp h1) (n h2),Int.tdiv_neg,Int.neg_neg]
 ·rw[Z2 h1,Z2 h2,if_pos (show (false==false)=true from rfl),if_neg h1,if_neg h2,q (Int.not_lt.mp h1) (Int.not_lt.mp h2)]
theorem Nz(x y:Int):x-tq x y*y=x.tmod y:=by rw[OT,Int.tmod_def,Int.mul_comm]
theorem QK{hi:Int}(hx:0≤x∧x≤hi)(hy:0≤y):(0≤x.tdiv y∧x.tdiv y≤hi)∧(0≤x.tmod y∧x.tmod y≤hi):=by
 obtain⟨a,rfl⟩:=Int.eq_ofNat_of_zero_le hx.1
 obtain⟨b,rfl⟩:=Int.eq_ofNat_of_zero_le hy
 exact⟨⟨Int.natCast_nonneg (a / b),Zg (Int.ofNat_le.mpr (Nat.div_le_self a b)) hx.2⟩,⟨Int.natCast_nonneg (a % b),Zg (Int.ofNat_le.mpr (Nat.mod_le a b)) hx.2⟩⟩
theorem rI{h:Nat}{z:Int}(hz:z.natAbs<h): -(h:Int)≤z∧z<h:=by lia
theorem Om{h:Nat}(hx: -(h:Int)≤x∧x<h)(hy: -(h:Int)≤y∧y<h)(h0:y≠0)(hm:¬(y= -1∧x= -(h:Int))):(-(h:Int)≤x.tdiv y∧x.tdiv y<h)∧(-(h:Int)≤x.tmod y∧x.tmod y<h):=by
 have dn:=Int.natAbs_tdiv x y
 have mn:=Int.natAbs_tmod x y
 have ax:x.natAbs≤h:=by lia
 have ay:0<y.natAbs∧y.natAbs≤h:=by lia
 refine ⟨?_,rI (mn▸ZA (Nat.mod_lt _ ay.1) ay.2)⟩
 by_cases hx1:x.natAbs<h
 ·exact rI (dn▸Zl (Nat.div_le_self _ _) hx1)
 ·have hxe:x= -(h:Int):=by lia
  by_cases hy1:y=1
  ·rw[hy1,Int.tdiv_one];exact hx
  ·exact rI (dn▸ZA (Nat.div_lt_self (by lia) (by lia)) ax)
theorem IU(hk:a4 k=true)(hd:op.bL=true)(hx:inK k x)(hy:inK k y)(h0:y≠0)(hm:¬(y= -1∧x=loK k)):inK k (aZ op x y):=by
 have key:inK k (x.tdiv y)∧inK k (x.tmod y):=by
  obtain⟨r1,r2,_⟩:=mV hk
  have up:∀{x:Int},x≤hiK k↔x<loP k+(bP k).m:=fun {x}=>r2▸Int.lt_add_one_iff.symm
  unfold inK at hx hy⊢
  rw[r1]at hx hy hm⊢
  unfold loP at r1 hx hy hm up⊢
  induction hu:bg k<;>rw[hu]at hx hy hm up
  ·have e:(bP k).h=((bP k).h.toNat:Nat):=(Int.toNat_of_nonneg (Zp (bP k).Nf)).symm
   have e2: -(bP k).h+(bP k).m=(bP k).h:=by rw[(bP k).mh];lia
   simp only[Bool.false_eq_true,if_false,e2]at hx hy hm up⊢
   rw[up]at hx hy
   rw[up,up]
   rw[e]at hx hy hm⊢
   exact Om hx hy h0 hm
  ·exact QK hx hy.1
 induction op<;>first|exact absurd hd Zc|skip
 ·show inK k (tq x y);rw[OT];exact key.1
 ·show inK k (x-tq x y*y);rw[Nz];exact key.2
noncomputable def arV(op:BOp)(c:Bool):Bool:=c&&(decide (op=.add)||(decide (op=.sub)||decide (op=.mul)))
noncomputable def arU(op:BOp)(u c:Bool):Bool:=u&&(op.bL||(arV op c||decide (op=.shr)))
theorem I6{α:Type}{p:Prop}[Decidable p]{a b:α}:(if false=true∧p then a else b)=b:=if_neg fun e=>absurd e.1 Zc
def su(g:G)(k:K)(op:BOp)(c:Bool)(x y:Int):Prop:=(gz op (arU op (bg k) c) (arV op c) (bP k) (sgn (bP k) x) (sgn (bP k) y)).2=(dI g k op c x y).2∧((dI g k op c x y).2=.no→(gz op (arU op (bg k) c) (arV op c) (bP k) (sgn (bP k) x) (sgn (bP k) y)).1=sgn (bP k) (dI g k op c x y).1)
theorem yz{u ov:Bool}{b:B}(hd:op.bL=false):gz op u ov b x y=(sgn b (aZ op (uns u b.m x) (uns u b.m y)),if ov=true∧¬((if u then 0 else-b.h)≤aZ op (uns u b.m x) (uns u b.m y)∧aZ op (uns u b.m x) (uns u b.m y)<(if u then 0 else-b.h)+b.m)then .over else .no):=by
 unfold gz
 rw[hd,if_neg (fun e=>absurd e.1 Zc),if_neg (fun e=>absurd e.1 Zc)]
theorem P0(h:op.ar=true)(hd:op.bL=false)(hv:arV op c=false)(ft:(dj g k (aZ op x y) c).2=.no∧sgn (bP k) (dj g k (aZ op x y) c).1=sgn (bP k) (aZ op x y)):su g k op c x y:=by
 have eu:arU op (bg k) c=false:=by
  unfold arU;rw[hd,hv,BOp.on (f:=fun op=>decide (op=.shr)) (g:=fun ζ=>false) (c:=BOp.ar) rfl op h];exact Bool.and_false _
 unfold su
 rw[mC (by rw[h,hd];rfl),yz hd,hv,eu,ft.1,ft.2,I6]
 exact⟨rfl,fun ζ=>(wX op (by rw[h,hd];rfl)).sg (gs k) x y⟩
theorem Pt(h:op.ar=true)(hd:op.bL=false)(hv:arV op c=true)(hk:a4 k=true)(bx:uns (bg k) (bP k).m (sgn (bP k) x)=x)(bY:uns (bg k) (bP k).m (sgn (bP k) y)=y):su g k op c x y:=by
 have hc:=band hv
 have eu:arU op (bg k) c=bg k:=by unfold arU;rw[hv,Bool.true_or,Bool.or_true,Bool.and_true]
 unfold su
 rw[mC (by rw[h,hd];rfl),yz hd,hv,eu,bx,bY,hc.1,FQ hk]
 by_cases hr:loP k≤aZ op x y∧aZ op x y<loP k+(bP k).m
 ·rw[if_pos hr];exact⟨if_neg fun e=>e.2 hr,fun ζ=>rfl⟩
 ·rw[if_neg hr];exact⟨if_pos ⟨rfl,hr⟩,fun e=>nomatch e⟩
theorem Qz(hk:a4 k=true)(hy:inK k y)(e:y= -1):loK k= -(bP k).h:=by
 have r:=hy.1
 rw[e,(mV hk).1]at r
 rw[(mV hk).1]
 unfold loP at r⊢
 induction hu:bg k
 ·rfl
 ·rw[hu]at r;exact absurd (show (0:Int)≤ -1 from r) (by decide)
theorem OF(hd:op.bL=true)(hk:a4 k=true)(hx:inK k x)(hy:inK k y)(hu:aj g k=k)(bx:uns (bg k) (bP k).m (sgn (bP k) x)=x)(bY:uns (bg k) (bP k).m (sgn (bP k) y)=y):su g k op c x y:=by
 have eu:arU op (bg k) c=bg k:=by unfold arU;rw[hd,Bool.true_or,Bool.and_true]
 have ev:arV op c=false:=by unfold arV;rw[BOp.on (f:=fun op=>decide (op=.add)||(decide (op=.sub)||decide (op=.mul))) (g:=fun ζ=>false) (c:=BOp.bL) rfl op hd,Bool.and_false]
 unfold su gz
 rw[tX hd,eu,ev,bx,bY]
 by_cases h0:y=0
 ·rw[if_pos ⟨hd,h0⟩,if_pos h0];exact⟨rfl,fun e=>nomatch e⟩
 ·rw[if_neg fun e=>h0 e.2,if_neg h0]
  by_cases hm:y= -1∧x=loK k
  ·rw[if_pos ⟨hd,hm.1,hm.2.trans (Qz hk hy hm.1)⟩,if_pos hm];exact⟨rfl,fun e=>nomatch e⟩
  ·rw[if_neg fun e=>hm ⟨e.2.1,e.2.2.trans (Qz hk hy e.2.1).symm⟩,if_neg hm,yu (by rw[hu];exact IU hk hd hx hy h0 hm),I6]
   exact⟨rfl,fun ζ=>rfl⟩
theorem yh(h:op.ar=true)(hk:(a4 k||(decide (k=.bool)&&op.log))=true)(hx:inK k x)(hy:inK k y):su g k op c x y:=by
 have hk1:(a4 k||decide (k=.bool))=true:=by
  rcases (Bool.or_eq_true _ _).mp hk with h|h
  ·rw[h];rfl
  ·rw[(band h).1,Bool.or_true]
 have hp:pk9 k=true:=K.imp (a:=fun k=>a4 k||decide (k=.bool)) rfl k hk1
 have hu:aj g k=k:=K.on (f:=aj g) (g:=id) (c:=fun k=>a4 k||decide (k=.bool)) rfl k hk1
 have h4:op.log=false→a4 k=true:=fun hl=>by rwa [hl,Bool.and_false,Bool.or_false]at hk
 by_cases hd:op.bL=true
 ·exact OF hd (h4 (by rw[BOp.on (f:=BOp.log) (g:=fun ζ=>false) (c:=BOp.bL) rfl op hd])) hx hy hu (cT hp hx) (cT hp hy)
 ·have hd:=(Bool.not_eq_true _).mp hd
  by_cases hv:arV op c=true
  ·exact Pt h hd hv (h4 ((Bool.not_eq_true' _).mp (BOp.imp (a:=fun op=>decide (op=.add)||(decide (op=.sub)||decide (op=.mul))) (b:=fun o=> !o.log) rfl op (band hv).2))) (cT hp hx) (cT hp hy)
  ·have hv:=(Bool.not_eq_true _).mp hv
   refine P0 h hd hv ?_
   by_cases hl:op.log=true
   ·rw[yu (by rw[hu];exact Il hk1 hl hx hy)];exact⟨rfl,rfl⟩
   ·have hl:=(Bool.not_eq_true _).mp hl
    have hc:c=false:=(Bool.not_eq_true _).mp fun e=>Zc (hv.symm.trans (e▸BOp.on (f:=fun op=>arV op true) (g:=fun ζ=>true) (c:=fun op=>op.ar&&(!op.bL&& !op.log)) rfl op (by rw[h,hd,hl];rfl)))
    rw[hc];exact mr (h4 hl)
end
section
variable{n:Nat}{E:FE}{s s':PS}{S:List Cell}{h:dP}{ws:WS}{r:Val×WS}{Q:aD}{k p q:K}{g:G}{Γ:List (K×Val)}{op:BOp}{c:Bool}{x y k3:Int}
theorem Jr(h:a4 k=true)(y:Int):0≤fm k y∧fm k y<(bP k).w:=by
 rw[←K.on (f:=fun k=>y9 (decide (8<k.n))) (g:=fun k=>(bP k).w) (c:=a4) (by kernel_rfl) k h]
 exact⟨Zy _ (hV _).1,Int.fmod_lt_of_pos _ (hV _).1⟩
theorem tF(n:Nat):∀y:Int,bitAnd y ((2^n-1:Nat):Int)=y.fmod ((2^n:Nat):Int)
 |.ofNat m=>by
  rw[Zn _ (Int.natCast_nonneg _)]
  unfold bitAnd
  rw[show decide (0≤Int.ofNat m)=true from Z1 (Int.natCast_nonneg m),Z1 (Int.natCast_nonneg _)]
  exact congrArg Int.ofNat (Nat.and_two_pow_sub_one_eq_mod m n)
 |.negSucc m=>by
  have hp:=Nat.two_pow_pos n
  rw[Zn _ (Int.natCast_nonneg _),Int.negSucc_emod m (Int.ofNat_lt.mpr hp)]
  unfold bitAnd
  rw[Z2 (Int.not_le.mpr (Int.negSucc_lt_zero m)),Z1 (Int.natCast_nonneg _)]
  show ((2^n-1:Nat):Int)-(((2^n-1:Nat) &&& (bitNot (Int.negSucc m)).toNat:Nat):Int)=_
  rw[show (bitNot (Int.negSucc m)).toNat=m from congrArg Int.toNat (show-(Int.negSucc m)-1=(m:Int)by rw[Int.neg_negSucc];exact Int.add_sub_cancel (m:Int) 1),Nat.and_comm,Nat.and_two_pow_sub_one_eq_mod,Int.natCast_sub hp]
  rfl
theorem tH(h:a4 k=true)(y:Int):bitAnd y (if c8 k then 63 else 31)=fm k y:=by
 unfold fm
 rw[←K.on (f:=fun k=>c8 k) (g:=fun k=>decide (8<k.n)) (c:=a4) (by kernel_rfl) k h]
 induction c8 k
 ·exact tF 5 y
 ·exact tF 6 y
theorem K6(ho:op.shf=true)(ha:a4 k=true)(hx:inK k x):shC op (arU op (bg k) c) (bP k) (sgn (bP k) x) (fm k y)=sgn (bP k) (dI g k op c x y).1∧(dI g k op c x y).2=.no:=by
 rcases (Bool.or_eq_true _ _).mp ho with h|h<;>cases Z0 h
 ·have f:=mr (g:=g) (n:=x*2^(fm k y).toNat) ha
  refine ⟨?_,f.1⟩
  show sgn (bP k) (sgn (bP k) x*2^(fm k y).toNat)=sgn (bP k) (dj g k (x*2^(fm k y).toNat) false).1
  have m:=(wX .mul rfl).sg (gs k)
  have s2:sgn (bP k) (sgn (bP k) x)=sgn (bP k) x:=fS (g5 _ _)
  rw[f.2]
  refine (m (sgn (bP k) x) (2^(fm k y).toNat)).symm.trans ?_
  rw[s2];exact m _ _
 ·refine ⟨?_,rfl⟩
  show sgn (bP k) ((uns (arU .shr (bg k) c) (bP k).m (sgn (bP k) x)).fdiv _)=_
  rw[show arU .shr (bg k) c=bg k by unfold arU;rw[show decide (BOp.shr=.shr)=true from rfl,Bool.or_true,Bool.or_true,Bool.and_true],cT (yg ha) hx];rfl
noncomputable def bQ:K→B
 |.i1|.u1=>.b8
 |.chr|.i2|.u2=>.b16
 |.i8|.u8=>.b64
 |_=>.b32
noncomputable def sQ(k:K):Bool:= !bg k
noncomputable def Fd(h:nk q=true):loK q=tV (bQ q) (sQ q)∧hiK q+1=tV (bQ q) (sQ q)+(bQ q).m∧hiK q-loK q+1=(bQ q).m:=
 Z0 (K.imp (a:=nk) (b:=fun q=>decide (loK q=tV (bQ q) (sQ q)∧hiK q+1=tV (bQ q) (sQ q)+(bQ q).m∧hiK q-loK q+1=(bQ q).m)) (by kernel_rfl) q h)
theorem pE:nk p=true→pk9 p=true:=K.imp rfl p
noncomputable def vQ(q:K)(x:Int):Int:=(cX (loK q) (hiK q) x false).1
theorem Pf(h:nk q=true)(x:Int):inK q (vQ q x):=yf ((Fd h).2.2▸ (bQ q).gI) (by unfold cX;split<;>rfl)
theorem Jc(hx:inK q x):vQ q x=x:=congrArg Prod.fst (if_pos hx)
theorem vZ(hc:c=false∨inK q x):cX (loK q) (hiK q) x c=(vQ q x,.no):=by
 by_cases hr:inK q x
 ·rw[Jc hr];exact if_pos hr
 ·cases hc.resolve_right hr
  unfold vQ cX
  rw[if_neg (show ¬(loK q≤x∧x≤hiK q)from hr)];rfl
theorem mod_mod{b:B}(x l:Int):(l+(x-l).fmod b.m).fmod b.m=x.fmod b.m:=by
 have e:=fun a=>Zn a (Zp b.gI)
 rw[e,e,e,Int.add_emod_emod,Int.add_comm,Int.sub_add_cancel]
theorem Eo(h:nk q=true)(x:Int):(vQ q x).fmod (bQ q).m=x.fmod (bQ q).m:=by
 unfold vQ cX
 rw[(Fd h).2.2]
 by_cases hr:loK q≤x∧x≤hiK q
 ·rw[if_pos hr]
 ·rw[if_neg hr];exact mod_mod x _
theorem vI{sg:Bool}(h:nk q=true)(hs:sg=sQ q∨bQ q=.b64){N:Int}(e:N.fmod (bQ q).m=x.fmod (bQ q).m):cvX (bQ q) sg N=fT q (vQ q x):=by
 have r:=Pf h x
 have m:=e.trans (Eo h x).symm
 generalize vQ q x=v at r m
 rw[(gM (pE h) v).1]
 by_cases h3:bQ q=bP q
 ·have hb:bQ q=.b32∨bQ q=.b64:=h3▸gs q
  unfold cvX
  rw[if_pos (.inr hb),←h3];exact fS m
 ·have hs:=hs.resolve_right fun e=>h3 (Z0 (K.imp (a:=fun q=>nk q&&decide (bQ q=.b64)) (b:=fun q=>decide (bQ q=bP q)) (by kernel_rfl) q (by rw[h,Z1 e];rfl)))
  have f:=Z0 (K.imp (a:=fun q=>nk q&& !decide (bQ q=bP q)) (b:=fun q=>decide ((bP q).h=2147483648∧bQ q≠.b32∧bQ q≠.b64∧ -2147483648≤loK q∧hiK q<2147483648∧(if sQ q then-(bQ q).h≤loK q∧hiK q<(bQ q).h else 0≤loK q∧hiK q<(bQ q).m))) (by kernel_rfl) q (by rw[h,Z2 h3];rfl))
  rw[ji (b:=bP q) ⟨by rw[f.1];exact Zg f.2.2.2.1 r.1,by rw[f.1];exact Zz r.2 f.2.2.2.2.1⟩,hs]
  have g:=f.2.2.2.2.2
  unfold cvX
  induction hq:sQ q<;>rw[hq]at g
  ·rw[if_neg (by rintro (h|h|h);cases h;exact f.2.1 h;exact f.2.2.1 h),m]
   exact fg ⟨Zg g.1 r.1,Zz r.2 g.2⟩
  ·rw[if_pos (.inl rfl),fS m]
   exact ji ⟨Zg g.1 r.1,Zz r.2 g.2⟩
theorem FT{b bb:B}{x y:Int}(hd:b.m % bb.m=0)(h:y.fmod b.m=x.fmod b.m):y.fmod bb.m=x.fmod bb.m:=by
 have d:bb.m ∣ b.m:=Int.dvd_of_emod_eq_zero hd
 rw[Zn _ (Zp b.gI),Zn _ (Zp b.gI)]at h
 rw[Zn _ (Zp bb.gI),Zn _ (Zp bb.gI),←Int.emod_emod_of_dvd y d,h,Int.emod_emod_of_dvd x d]
noncomputable def cvR:K→Int×Int×Int
 |.i1=>(103,179,130)|.u1=>(210,180,134)|.i2=>(104,181,131)|.u2=>(209,182,135)|.chr=>(209,182,135)
 |.i4=>(105,183,132)|.u4=>(109,184,136)|.i8=>(106,185,133)|_=>(110,186,137)
noncomputable def iI(p q:K):Bool:=decide (FL q≤FL p)&&decide (xT p≤xT q)
noncomputable def fi(c:Bool)(p q:K):Option (Int×B×Bool×Int):=
 if p=q then none
 else if c&& !iI p q then some (if bg p then ((cvR q).2.2,bQ q,sQ q,2)else ((cvR q).2.1,bQ q,sQ q,1))
 else if c8 q then (if c8 p then none else some (if bg p then (110,.b64,false,0)else (106,.b64,true,0)))
 else if decide (q=.i4)||decide (q=.u4)then (if c8 p then some ((cvR q).1,bQ q,sQ q,0)else none)
 else if iI p q then none else some ((cvR q).1,bQ q,sQ q,0)
def PL(c:Bool)(p q:K)(sg:Bool)(how:Int):Prop:=c=true∧sg=sQ q∧(bg p=false∧how=1∨bg p=true∧how=2)
def N4(c:Bool)(p q:K)(sg:Bool)(how:Int):Prop:=(!c||iI p q)=true∧how=0∧(sg=sQ q∧(bP p).m % (bQ q).m=0∨sg=(!bg p)∧bQ q=.b64)
noncomputable def vm(c:Bool)(p q:K):Bool:=(fi c p q).elim (decide (bS p=bS q∧bP p=bP q∧(!c||iI p q)=true∧(bQ q=bP q∨iI p q=true))) fun t=>
 decide ((103≤t.1∧t.1≤210)∧cvT t.2.1 t.2.2.1=bS q∧t.2.1=bQ q∧((c=true∧t.2.2.1=sQ q∧(bg p=false∧t.2.2.2=1∨bg p=true∧t.2.2.2=2))∨((!c||iI p q)=true∧t.2.2.2=0∧(t.2.2.1=sQ q∧(bP p).m % (bQ q).m=0∨t.2.2.1=(!bg p)∧bQ q=.b64))))
noncomputable def nk2(p q:K):Bool:=nk p&&nk q
theorem K.Py{a b:K→K→Bool}(h:(dR.all fun p=>dR.all fun q=> !a p q||b p q)=true)(p q:K):a p q=true→b p q=true:=K.imp (K.all h p) q
theorem B5(p q:K)(h:nk2 p q=true):vm c p q=true:=by
 induction c
 ·exact K.Py (a:=nk2) (b:=vm false) (by kernel_rfl) p q h
 ·exact K.Py (a:=nk2) (b:=vm true) (by kernel_rfl) p q h
noncomputable abbrev CvT:=Int×B×Bool×Int
noncomputable def nA:CvT:=(110,.b64,false,0)
theorem Gi(p q:K)(h:nk2 p q=true)(H:H):aJ prog (.cd 10) (.int ((fi c p q).getD nA).1) H=some (.tup [.int ((fi c p q).getD nA).2.1.w,.int (ag ((fi c p q).getD nA).2.2.1),.int ((fi c p q).getD nA).2.2.2]):=by
 induction c<;>(revert p q;exact @(K.at2 (c:=nk2) (b:=true) (by kernel_rfl)))
theorem EA(l:List Fo):∀n,psO (List.replicate n .oc++l)=psO l
 |0=>rfl
 |n+1=>EA l n
noncomputable def Rb(c:Bool)(p q:K):Nat:=2+(if c&& !iI p q then 0 else if c8 q||(decide (q=.i4)||decide (q=.u4))then 2 else 1)
theorem Ca{p q:K}(hk:(nk2 p q&&(fi c p q).isNone)=true):Ct (n+3) 42 [.ref 103,.int p.n,.int q.n,.int (ag c)] s .none s:=by
 induction c
 ·refine fK [] ?_ trivial
  revert p q;exact @(K.at2 (c:=fun p q=>nk2 p q&&(fi false p q).isNone) (b:=true) (by kernel_rfl))
 ·refine fK [] ?_ trivial
  revert p q;exact @(K.at2 (c:=fun p q=>nk2 p q&&(fi true p q).isNone) (b:=true) (by kernel_rfl))
theorem B9{p q:K}(hk:(nk2 p q&&(fi c p q).isSome)=true)(h:Ct (n+2) 101 [.ref 103,.int ((fi c p q).getD nA).1,.int 0] s .none s'):Ct (n+3) 42 [.ref 103,.int p.n,.int q.n,.int (ag c)] s .none s':=by
 induction c
 ·refine fK (List.replicate (Rb false p q) .oc++[.c ⟨_,_⟩]) ?_ (by rw[EA];exact⟨h,trivial⟩)
  clear h;revert p q;exact @(K.at2 (c:=fun p q=>nk2 p q&&(fi false p q).isSome) (b:=true) (by kernel_rfl))
 ·refine fK (List.replicate (Rb true p q) .oc++[.c ⟨_,_⟩]) ?_ (by rw[EA];exact⟨h,trivial⟩)
  clear h;revert p q;exact @(K.at2 (c:=fun p q=>nk2 p q&&(fi true p q).isSome) (b:=true) (by kernel_rfl))
noncomputable def Cs(c:Bool)(p q:K):Wk:=fun s s'=>((fi c p q).isNone=true∧s'=s)∨(¬(fi c p q).isNone=true∧Ins (.op ((fi c p q).getD nA).1) s s')
theorem Cs.walk(h:Cs c p q s s')(hk:nk2 p q=true):Ct (n+3) 42 [.ref 103,.int p.n,.int q.n,.int (ag c)] s .none s':=by
 rcases h with ⟨e,rfl⟩|⟨e,_,i⟩
 ·exact Ca (by rw[hk,e];rfl)
 ·exact B9 (by rw[hk];induction h:fi c p q;rw[h]at e;exact absurd rfl e;rfl) (i _)
theorem rO(h:nk p=true):FL p=loK p∧xT p=hiK p:=Prod.mk.inj (K.on (f:=fun p=>(FL p,xT p)) (g:=fun p=>(loK p,hiK p)) (c:=nk) (by kernel_rfl) p h)
theorem yN(hp':nk p=true)(hq:nk q=true)(hx:inK p x)(h:iI p q=true):inK q x:=by
 unfold iI at h
 rw[(rO hp').1,(rO hp').2,(rO hq).1,(rO hq).2]at h
 exact⟨Zg (Z0 (band h).1) hx.1,Zg hx.2 (Z0 (band h).2)⟩
theorem Jp(hp':nk p=true)(hq:nk q=true)(hx:inK p x)(h:(!c||iI p q)=true):c=false∨inK q x:=
 ((Bool.or_eq_true _ _).mp h).imp GD (yN hp' hq hx)
theorem R6{bb:B}{sg:Bool}{N:Int}:cvF bb sg 0 N=.no:=if_neg fun e=>absurd e.1 (by decide)
theorem My(hk:nk2 p q=true){t:CvT}(ht:fi c p q=some t){C:Prop}(f:103≤t.1∧t.1≤210→cvT t.2.1 t.2.2.1=bS q→t.2.1=bQ q→PL c p q t.2.2.1 t.2.2.2∨N4 c p q t.2.2.1 t.2.2.2→C):C:=by
 have ok:=B5 (c:=c) p q hk
 unfold vm at ok
 rw[ht]at ok
 have ok:=Z0 ok
 exact f ok.1 ok.2.1 ok.2.2.1 ok.2.2.2
def NuR(c:Bool)(q:K)(x:Int)(sg:Bool)(how N:Int):Prop:=cvF (bQ q) sg how N=(cX (loK q) (hiK q) x c).2∧((cX (loK q) (hiK q) x c).2=.no→cvX (bQ q) sg N=fT q (cX (loK q) (hiK q) x c).1)
theorem MM(hp':nk p=true)(hx:inK p x){sg:Bool}{how:Int}(h:bg p=false∧how=1∨bg p=true∧how=2):cvN sg how (bP p) (sgn (bP p) x)=x:=by
 have back:=cT (pE hp') hx
 rcases h with ⟨h1,h2⟩|⟨h1,h2⟩<;>rw[h1]at back<;>rw[h2]
 ·exact (if_neg (by rintro (h|⟨h,_⟩)<;>cases h)).trans back
 ·exact (if_pos (.inl rfl)).trans back
theorem GQ(hp':nk p=true)(hq:nk q=true)(hx:inK p x){sg:Bool}{how:Int}(h:PL c p q sg how):NuR c q x sg how (cvN sg how (bP p) (sgn (bP p) x)):=by
 obtain⟨rfl,rfl,h⟩:=h
 have h0:0<how:=by rcases h with h|h<;>rw[h.2]<;>decide
 rw[MM hp' hx h]
 obtain⟨r1,r2,_⟩:=Fd hq
 unfold NuR cvF
 by_cases hr:inK q x
 ·rw[vZ (.inr hr),if_neg fun e=>e.2 ⟨r1▸hr.1,r2▸Int.lt_add_one_of_le hr.2⟩]
  exact⟨rfl,fun ζ=>vI hq (.inl rfl) rfl⟩
 ·rw[if_pos ⟨h0,fun e=>hr ⟨r1.symm▸e.1,Int.le_of_lt_add_one (r2.symm▸e.2)⟩⟩,show cX (loK q) (hiK q) x true=(0,.over)from (if_neg hr).trans (if_pos rfl)]
  exact⟨rfl,fun e=>nomatch e⟩
theorem IL{sg:Bool}:(cvN sg 0 (bP p) (sgn (bP p) x)).fmod (bP p).m=x.fmod (bP p).m:=by
 unfold cvN
 split
 ·exact (fg ⟨Zy _ (bP p).gI,Int.fmod_lt_of_pos _ (bP p).gI⟩).trans (g5 _ _)
 ·exact g5 _ _
theorem MR(hp':nk p=true)(hx:inK p x):cvN (!bg p) 0 (bP p) (sgn (bP p) x)=x:=by
 have back:=cT (pE hp') hx
 unfold cvN
 induction hu:bg p<;>rw[hu]at back
 ·exact (if_neg (by rintro (h|⟨_,h⟩)<;>cases h)).trans back
 ·exact (if_pos (.inr ⟨rfl,rfl⟩)).trans back
theorem G7(hp':nk p=true)(hq:nk q=true)(hx:inK p x){sg:Bool}{how:Int}(h:N4 c p q sg how):NuR c q x sg how (cvN sg how (bP p) (sgn (bP p) x)):=by
 obtain⟨h1,rfl,h⟩:=h
 unfold NuR
 rw[vZ (Jp hp' hq hx h1),R6]
 refine ⟨rfl,fun ζ=>?_⟩
 rcases h with ⟨rfl,h⟩|⟨rfl,h⟩
 ·exact vI hq (.inl rfl) (FT h IL)
 ·exact vI hq (.inr h) (congrArg (Int.fmod · _) (MR hp' hx))
theorem HP(hk:nk2 p q=true)(hx:inK p x){t:CvT}(ht:fi c p q=some t):(103≤t.1∧t.1≤210)∧CvI t.1 t.2.1 t.2.2.1 t.2.2.2∧cvT t.2.1 t.2.2.1=bS q∧cvF t.2.1 t.2.2.1 t.2.2.2 (cvN t.2.2.1 t.2.2.2 (bP p) (sgn (bP p) x))=(cX (loK q) (hiK q) x c).2∧
  ((cX (loK q) (hiK q) x c).2=.no→cvX t.2.1 t.2.2.1 (cvN t.2.2.1 t.2.2.2 (bP p) (sgn (bP p) x))=fT q (cX (loK q) (hiK q) x c).1):=
 My hk ht fun o1 o2 o3 h=>⟨o1,⟨fun H=>(show t=(fi c p q).getD nA by rw[ht];rfl)▸Gi (c:=c) p q hk H,h.elim (fun h=>.inr (h.2.2.imp (·.2) (·.2))) fun h=>.inl h.2.1⟩,o2,o3.symm▸h.elim (GQ (band hk).1 (band hk).2 hx) (G7 (band hk).1 (band hk).2 hx)⟩
theorem C4(hk:nk2 p q=true)(hx:inK p x)(ht:fi c p q=none):bS p=bS q∧cX (loK q) (hiK q) x c=(vQ q x,.no)∧fT p x=fT q (vQ q x):=by
 have hq:=(band hk).2
 have ok:=B5 (c:=c) p q hk
 unfold vm at ok
 rw[ht]at ok
 have ok:=Z0 ok
 refine ⟨ok.1,vZ (Jp (band hk).1 hq hx ok.2.2.1),?_⟩
 rw[(gM (pE (band hk).1) x).1,(gM (pE hq) _).1,ok.2.1]
 rcases ok.2.2.2 with h|h
 ·have m:=Eo hq x
  rw[h]at m
  exact (fS m).symm
 ·rw[Jc (yN (band hk).1 hq hx h)]
end
section
variable{n:Nat}{E:FE}{s s' s1 s2:PS}{S:List Cell}{h:dP}{ws:WS}{r:Val×WS}{Q:aD}{k p q:K}{g:G}{Γ:List (K×Val)}{op:BOp}{c b:Bool}{x y k3:Int}{e:Tr}{v:Val}
theorem qX{k:K}(h:nke k=true):nk (aj g k)=true∧aA g k=aj g k:=
 ⟨G.imp (b:=fun g k=>nk (aj g k)) (by kernel_rfl) g k h,(kR (iY h)).2.symm⟩
theorem Bb{pc:Nat}{ws':WS}(hf:r.2.fault≠.no)(e:ws'=r.2):Goes E ⟨S,pc,h,ws'⟩ r Q:=by
 subst e;exact bw fun e=>absurd e hf
theorem BF(c:Bool)(p q:K):a8 g Γ 1 0 (Cs c p q):=xB (fun ζ=>ai eQ (Nat.zero_le 1) (Z5 _)) fun ζ=>aq _
theorem GP(hn:Cs c p q s s')(F:Fin E s')(hk:nk2 p q=true)(hx:inK p x)(hf:ws.fault=.no)
  (y:∀k4,Goes E ⟨⟨bS q,.int (fT q (cX (loK q) (hiK q) x c).1),k4⟩::S,s'.code.length,h,ws.to (cX (loK q) (hiK q) x c).2 ws.made⟩ r Q) (y2:(cX (loK q) (hiK q) x c).2≠.no→r.2=ws.to (cX (loK q) (hiK q) x c).2 ws.made):Goes E ⟨⟨bS p,.int (fT p x),k3⟩::S,s.code.length,h,ws⟩ r Q:=by
 rcases hn with ⟨ht,rfl⟩|⟨ht,rfl,_⟩
 ·obtain⟨e1,e2,e3⟩:=C4 (c:=c) hk hx (Option.isNone_iff_eq_none.mp ht)
  have y:=y k3
  rw[e2,←e1,←e3,dN hf]at y
  exact y
 ·induction hT:fi c p q with
  |none=>rw[hT]at ht;exact absurd rfl ht
  |some t=>
   obtain⟨o1,o2,o3,o4,o5⟩:=HP hk hx hT
   rw[hT]at F y
   have rp:=gM (pE (band hk).1) x
   rw[rp.1,rp.2]
   refine b9 F hf (fun e=>.cv e o1 o2 (gs p)) ?_
   rw[o3,o4]
   by_cases hf3:(cX (loK q) (hiK q) x c).2=.no
   ·rw[o5 hf3];exact y 0
   ·have er:=y2 hf3
    exact Bb (by rw[er];exact hf3) er.symm
theorem Mp(ie:EP e):EP (.conv k .num e c):=by
 obtain⟨c1,r1,se⟩:=e.shape
 have T:∀g Γ,(One.conv k .num c).ok g e.kind→a8 g Γ 16 0 (fun s s'=>Cs c (aA g e.kind) (aA g k) s s'∧Tail e.kind (.conv k .num c) s s'):=fun g Γ hk=>ai (ak (fun s s' hg xt p=>⟨p,fun E F hk' S h ws v k3 hf H hv=>?_⟩) (BF c (aA g e.kind) (aA g k))) (by decide) (Z5 _)
 ·refine fun g Γ n hd hw=>jL (P:=fun n=>a8 g Γ (16*(e.sz+1)) e.lc (EC n (.conv k .num e c))) hd fun m hd=>ai (aV (ie g Γ (m+5) (Z4 hd (Z8 m 5)) hw.1) (T g Γ hw.2) fun s s1 s' ζ eg x1 e1 e2=>⟨?_,fun E F hw' S h ws hf H=>bZ (e1.2 E (F.back x1) hw'.1 S h ws hf H) fun hf2 h' k3 H' ζ=>e2.2 E F hw'.2 S h' _ _ k3 hf2 H' (aR e ws hw'.1 hf2)⟩) (Z5 _) (Zi (Nat.zero_add _))
  have hb:=band hw.2
  have n1:=qX (g:=g) hb.1
  have n2:=qX (g:=g) hb.2
  have p1:=gf (n:=m+15) (st:=s1) e.kind
  have p2:=gf (n:=m+15) (st:=s1) k
  rw[eg]at p1 p2
  have nw:=e2.1.walk (n:=m+16) (by unfold nk2;rw[n1.2,n2.2,n1.1,n2.1];rfl)
  refine bJ kN ?_
  show Ct _ _ [_,_,.tup [_,_,e.v,_,_]] _ _ _
  have c1:=e1.1
  rw[se]at c1⊢
  exact Cc (bN c1) p1 p2 nw
 ·have eg:E.g=g:=F.ext.g.trans (xt.g.trans hg)
  subst eg
  have hb:=band hk'
  have n1:=qX (g:=E.g) hb.1
  have n2:=qX (g:=E.g) hb.2
  refine bq (iY hb.2) hv fun x ex hx=>?_
  subst ex
  rw[n1.2,n2.2]at p
  refine GP p F (by unfold nk2;rw[n1.1,n2.1];rfl) hx hf (fun k4=>bX (r:=dU ws (gA E.g e.kind (.int x) ws.made (.conv k .num c))) (fun ζ=>rfl) H b4) fun ζ=>rfl
theorem lq:a8 g Γ 2 0 (Seq (Ins (.num 32 0)) (Ins (.op 65025))):=bo (aq _) (aq _)
noncomputable abbrev xH:Wk:=Seq (Ins (.num 32 0)) (Ins (.op 65025))
theorem uM(t:xH s s'):Ct (n+2) 36 [.ref 103] s .none s':=by
 obtain⟨s1,⟨_,c1⟩,⟨_,c2⟩,_⟩:=t
 exact A1 (c1 _) (c2 _)
theorem Qg:OpI 65025 .eq false:=⟨fun ζ=>rfl,fun ζ=>rfl⟩
theorem oE(t:xH s s')(F:Fin E s')(hf:ws.fault=.no)(q:Goes E ⟨⟨1,.int (ag (!b)),0⟩::S,s'.code.length,h,ws⟩ r Q):Goes E ⟨⟨1,.int (ag b),k3⟩::S,s.code.length,h,ws⟩ r Q:=by
 obtain⟨s1,⟨rfl,_⟩,⟨rfl,_⟩,_⟩:=t
 refine b9 (F.back (bI _)) hf .tP (b9 F hf (fun e=>.cm (b:=.b32) (x:=ag b) (y:=0) (u:=false) (w:=.eq) e (by decide) Qg rfl (.inl rfl)) ?_)
 rw[show lF .eq (uns false (B.b32).m (ag b)) (uns false (B.b32).m 0)= !b by induction b<;>rfl]
 exact q
theorem Kf(ie:EP e):EP (.un k .not e c):=gL (W:=xH) 5 ie (fun g Γ hk=>ai (ak (fun s s' hg xt p=>⟨p,fun E F hk S h ws v k3 hf H hv=>by
  obtain⟨ke,kb⟩:=hk
  obtain rfl:=Z0 kb
  rw[ke]at hv⊢
  refine hU hv fun b e=>?_
  subst e
  rw[gU]
  refine oE p F hf ?_
  have er:dU ws (gA E.g .bool (.int (ag b)) ws.made (.un .bool .not c))=(.int (ag (!b)),ws):=by induction b<;>exact congrArg (Prod.mk _) (dN hf)
  rw[er]
  exact bX (r:=(.int (ag (!b)),ws)) (k:=.bool) (k3:=0) (fun ζ=>(gU _).symm) H b4⟩) lq) (by decide) (Z5 _)) fun g n s s1 s' hg hk c w=>bJ Lv (DT (bN c) (uM w))
noncomputable def UOp.o:UOp→Int
 |.neg=>101
 |_=>102
noncomputable def UOp.f(x:Int):UOp→Int
 |.neg=> -x
 |_=> -1-x
theorem neg_num(op:UOp)(hk:a4 k=true):sgn (bP k) (op.f (sgn (bP k) x))=sgn (bP k) (dj g k (op.f x) false).1:=by
 have h1:=(wX .sub rfl).sg (gs k)
 have h0:sgn (bP k) 0=0∧sgn (bP k) (-1)= -1:=by rcases gs k with h|h<;>rw[h]<;>exact⟨rfl,rfl⟩
 rw[(mr (g:=g) hk).2]
 induction op with
 |neg=>
  have h1:=h1 0 x
  rw[h0.1]at h1
  show sgn (bP k) (-(sgn (bP k) x))=sgn (bP k) (-x)
  rw[←Int.zero_sub,←Int.zero_sub];exact h1
 |not=>have h1:=h1 (-1) x;rw[h0.2]at h1;exact h1
 |inv=>have h1:=h1 (-1) x;rw[h0.2]at h1;exact h1
theorem DN{op:UOp}(ho:op=.neg∧c=false∨op=.inv)(ie:EP e):EP (.un k op e c):=by
 refine gL (W:=Ins (.op op.o)) 5 ie (fun g Γ hk=>ai (ak (fun s s' hg xt p=>⟨p,fun E F hk S h ws v k3 hf H hv=>?_⟩) (aq _)) (by decide) (Z5 _)) fun g n s s1 s' hg hk c1 w=>?_
 ·obtain⟨rfl,_⟩:=p
  have h4:a4 k=true:=by
   rcases ho with ⟨rfl,_⟩|rfl
   ·exact K.imp (a:=fun k=>tc k .neg) (b:=a4) rfl k hk.2
   ·exact hk.2
  rw[show e.kind=k from hk.1]at hv⊢
  refine bq (fH h4) hv fun x ex hx=>?_
  subst ex
  have er:dU ws (gA E.g k (.int x) ws.made (.un k op c))=(.int (dj E.g k (op.f x) false).1,ws):=by
   have f:=(mr (g:=E.g) (n:=op.f x) h4).1
   have:gA E.g k (.int x) ws.made (.un k op c)=w5 (dj E.g k (op.f x) false) ws.made:=by
    rcases ho with ⟨rfl,rfl⟩|rfl<;>rfl
   rw[this]
   show (Val.int _,ws.to (dj E.g k (op.f x) false).2 ws.made)=_
   rw[f,dN hf]
  have hp:=yg h4
  have hu:=oA (g:=E.g) h4
  rw[er,di (by rw[hu];exact hp),hu]
  refine b9 F hf (fun e=>.neg (b:=bP k) e (by rcases ho with ⟨rfl,_⟩|rfl;exact .inl rfl;exact .inr rfl) (gs k)) (bX (r:=(.int (dj E.g k (op.f x) false).1,ws)) (k:=k) (k3:=0) (fun ζ=>?_) H b4)
  rw[di (by rw[hu];exact hp),hu,←neg_num op h4]
  rcases ho with ⟨rfl,_⟩|rfl<;>rfl
 ·refine bJ Lv ?_
  rcases ho with ⟨rfl,rfl⟩|rfl
  ·exact El (bN c1) (w.2 _)
  ·exact DQ (bN c1) (w.2 _)
theorem xN{f f':Flt}{v:Val}{pc:Nat}{cl:Cell}(e1:f=f')(y:f'=.no→∃k3,cl=cellK E.g k v k3∧aL E h):Goes E ⟨cl::S,pc,h,{ws with fault:=f}⟩ (v,ws.to f' ws.made) (oI E S pc k false):=by
 subst e1
 exact bw (r:=(v,ws.to f ws.made)) fun hf=>(y hf).elim fun k3 e=>⟨k3,congrArg (· ::S) e.1,rfl,e.2,b4⟩
theorem FR(ie:EP e):EP (.un k .neg e true):=fun g Γ n hd hw=>by
 have hb:tc k .neg=true:=hw.2.2
 have h4:=K.imp (a:=fun k=>tc k .neg) (b:=a4) rfl k hb
 have hp:=yg h4
 have h11:n11 k=true:=K.imp (a:=a4) (b:=n11) rfl k h4
 have hpl:aA g k=k:=fU fun e=>by rw[e]at h11;cases h11
 refine jL (P:=fun n=>a8 g Γ (16*(e.sz+1)) e.lc (EC n (.un k .neg e true))) hd fun m hd=>ai (aV (iT (x:=0) hpl h11 fun ζ=>rfl) (bo (ie g Γ (m+5) (Z4 hd (Z8 m 5)) hw.1) (aq (.op 218))) fun s s1 s' ζ ζ x1 e1 e2=>e2.el fun s2 a2 i2 x2 ζ=>⟨bJ Lv (zU (e1.1 _) (bN a2.1) (i2.2 _)),fun E F hw' S h ws hf H=>?_⟩) ?_ (Zi ((congrArg (· +0) (Nat.zero_add _)).trans rfl))
 ·refine e1.2 E (F.back x1) S h ws _ _ hf fun k0=>bZ (a2.2 E (F.back x2) hw'.1 _ h ws hf H) fun hf2 h' k3 H' ζ=>?_
  have ty:=aR e ws hw'.1 hf2
  rw[show e.kind=k from hw'.2.1]at ty⊢
  refine bq (fH h4) ty fun x ex hx=>?_
  rw[ex]
  have hu:=oA (g:=E.g) h4
  have hx:inK k x:=hu▸hx
  rw[di (by rw[hu];exact hp),hu,(gM hp 0).1,(gM hp 0).2]
  have un:bg k=false:=K.imn (a:=fun k=>tc k .neg) (b:=bg) rfl k hb
  have r0:inK k 0:=Z0 (p:=loK k≤0∧0≤hiK k) (K.all (p:=fun k=>decide (loK k≤0∧0≤hiK k)) rfl k)
  have t:=yh (g:=E.g) (op:=.sub) (c:=true) rfl (by rw[h4];rfl) r0 hx
  unfold su at t
  rw[un,mC rfl,show aZ .sub 0 x= -x from Int.zero_sub x]at t
  refine cu i2 F hf2 (fun e=>.two (u:=false) (w:=.sub) e (by decide) ⟨fun ζ=>rfl,fun ζ=>rfl⟩ rfl (gs k) (hC _ _) (hC _ _)) ?_
  refine xN t.1 fun hf3=>⟨k0,?_,H'⟩
  show _=cellK E.g k (.int (dj E.g k (-x) true).1) k0
  rw[di (by rw[hu];exact hp),hu]
  exact congrArg (fun z=>Cell.mk _ (.int z) _) (t.2 hf3)
 ·show 2+(16*e.sz+1)≤16*e.sz+16
  rw[Nat.add_comm];exact Zf (by decide:3≤16) _
end
section
variable{n:Nat}{E:FE}{s s' s1 s2:PS}{S:List Cell}{h:dP}{ws:WS}{r0:Val×WS}{Q:aD}{k p q kl kr:K}{g:G}{Γ:List (K×Val)}{op:BOp}{c b u w:Bool}{x y k3 l0:Int}{l r:Tr}{v:Val}
noncomputable def arO:BOp→Bool→Bool→Int
 |.add,u,c=>if c then (if u then 215 else 214)else 88
 |.sub,u,c=>if c then (if u then 219 else 218)else 89
 |.mul,u,c=>if c then (if u then 217 else 216)else 90
 |.div,u,_=>if u then 92 else 91
 |.rem,u,_=>if u then 94 else 93
 |.and,_,_=>95
 |.or,_,_=>96
 |.xor,_,_=>97
 |.shl,_,_=>98
 |_,u,_=>if u then 100 else 99
noncomputable def cU(op:BOp)(u:Bool):Bool:=u&& !op.en
noncomputable def cW(op:BOp):BOp:=match op with
 |.eq|.ne=>.eq
 |.lt|.ge=>.lt
 |_=>.gt
noncomputable def cO(op:BOp)(u:Bool):Int:=match op with
 |.eq|.ne=>65025
 |.lt|.ge=>if u then 65029 else 65028
 |_=>if u then 65027 else 65026
noncomputable def cTn(op:BOp):Bool:=match op with
 |.ne|.le|.ge=>true
 |_=>false
noncomputable def BOp.opp(op:BOp)(w:Bool):BOp:=match op with
 |.eq=>if w then .eq else .ne
 |.ne=>if w then .ne else .eq
 |.lt=>if w then .lt else .ge
 |.ge=>if w then .ge else .lt
 |.le=>if w then .le else .gt
 |_=>if w then .gt else .le
noncomputable def bO(op:BOp)(u w:Bool):Int:=match op.opp w with
 |.eq=>59
 |.ne=>64
 |.lt=>if u then 68 else 63
 |.ge=>if u then 65 else 60
 |.le=>if u then 67 else 62
 |_=>if u then 66 else 61
noncomputable def BOp.cal(op:BOp):Bool:=op.ar||op.shf
theorem J5(h:op.cal=true)(u c:Bool):OpI (arO op u c) op (arU op u c):=
 ⟨fun H=>by induction u<;>induction c<;>exact BOp.on (f:=fun op=>aJ prog (.cd 9) (.int (arO op _ _)) H) (g:=fun op=>some (.str op.c)) (c:=BOp.cal) (by kernel_rfl) op h,fun H=>by induction u<;>induction c<;>exact BOp.on (f:=fun op=>isIn prog (.int (arO op _ _)) (prog.gl 66) H) (g:=fun op=>some (arU op _ _)) (c:=BOp.cal) (by kernel_rfl) op h⟩
theorem Ry(h:op.ar=true)(u c:Bool):(88≤arO op u c∧arO op u c≤219∧(arO op u c≤97∨214≤arO op u c))∧decide (214≤arO op u c)=arV op c:=by
 induction u<;>induction c<;>exact Z0 (BOp.imp (a:=BOp.ar) (b:=fun op=>decide ((88≤arO op _ _∧arO op _ _≤219∧(arO op _ _≤97∨214≤arO op _ _))∧decide (214≤arO op _ _)=arV op _)) (by kernel_rfl) op h)
theorem Bi(h:op.cal=true):cF (.str op.c) (prog.cd 3)=some (IJ (arO op)):=BOp.on (f:=fun op=>cF (.str op.c) (prog.cd 3)) (g:=fun op=>some (IJ (arO op))) (c:=BOp.cal) (by kernel_rfl) op h
theorem Fh(h:op.cmp=true):cF (.str op.c) (prog.cd 4)=some (.tup [.int (cO op false),.int (cO op true),.int (ag (cTn op))]):=BOp.on (f:=fun op=>cF (.str op.c) (prog.cd 4)) (g:=fun op=>some (.tup [.int (cO op false),.int (cO op true),.int (ag (cTn op))])) (c:=BOp.cmp) (by kernel_rfl) op h
theorem KR(h:op.cmp=true):cF (.str op.c) (prog.cd 5)=some (.tup [.int (bO op false true),.int (bO op true true),.int (bO op false false),.int (bO op true false)]):=BOp.on (f:=fun op=>cF (.str op.c) (prog.cd 5)) (g:=fun op=>some (.tup [.int (bO op false true),.int (bO op true true),.int (bO op false false),.int (bO op true false)])) (c:=BOp.cmp) (by kernel_rfl) op h
theorem E2(h:op.cmp=false):cF (.str op.c) (prog.cd 4)=none∧cF (.str op.c) (prog.cd 5)=none:=Prod.mk.inj (BOp.on (f:=fun op=>(cF (.str op.c) (prog.cd 4),cF (.str op.c) (prog.cd 5))) (g:=fun ζ=>(none,none)) (c:=fun op=> !op.cmp) (by kernel_rfl) op (by rw[h];rfl))
theorem JJ(h:op.shf=false):decide (op.c=40)=false∧decide (op.c=41)=false:=Prod.mk.inj (BOp.on (f:=fun op=>(decide (op.c=40),decide (op.c=41))) (g:=fun ζ=>(false,false)) (c:=fun op=> !op.shf) (by kernel_rfl) op (by rw[h];rfl))
theorem Jh(h:op.cmp=true)(u:Bool):(65025≤cO op u∧cO op u≤65029)∧(cW op).cmp=true:=by
 induction u<;>exact Z0 (BOp.imp (a:=BOp.cmp) (b:=fun op=>decide ((65025≤cO op _∧cO op _≤65029)∧(cW op).cmp=true)) (by kernel_rfl) op h)
theorem Ga(h:op.cmp=true)(u:Bool):OpI (cO op u) (cW op) (cU op u):=
 ⟨fun H=>by induction u<;>exact BOp.on (f:=fun op=>aJ prog (.cd 9) (.int (cO op _)) H) (g:=fun op=>some (.str (cW op).c)) (c:=BOp.cmp) (by kernel_rfl) op h,fun H=>by induction u<;>exact BOp.on (f:=fun op=>isIn prog (.int (cO op _)) (prog.gl 66) H) (g:=fun op=>some (cU op _)) (c:=BOp.cmp) (by kernel_rfl) op h⟩
theorem Hg(h:op.cmp=true)(u w:Bool):(59≤bO op u w∧bO op u w≤68)∧(op.opp w).cmp=true∧(op.opp w).en=op.en:=by
 induction u<;>induction w<;>exact Z0 (BOp.imp (a:=BOp.cmp) (b:=fun op=>decide ((59≤bO op _ _∧bO op _ _≤68)∧(op.opp _).cmp=true∧(op.opp _).en=op.en)) (by kernel_rfl) op h)
theorem wM(h:op.cmp=true)(u w:Bool):OpI (bO op u w) (op.opp w) (cU op u):=
 ⟨fun H=>by induction u<;>induction w<;>exact BOp.on (f:=fun op=>aJ prog (.cd 9) (.int (bO op _ _)) H) (g:=fun op=>some (.str (op.opp _).c)) (c:=BOp.cmp) (by kernel_rfl) op h,fun H=>by induction u<;>induction w<;>exact BOp.on (f:=fun op=>isIn prog (.int (bO op _ _)) (prog.gl 66) H) (g:=fun op=>some (cU op _)) (c:=BOp.cmp) (by kernel_rfl) op h⟩
theorem MT(h:op.cmp=true):∀e p q,oK (cW op) e p q=(oK op e p q^^cTn op):=by
 intro e p q;induction e<;>induction p<;>induction q<;>exact BOp.on (f:=fun op=>oK (cW op) _ _ _) (g:=fun op=>oK op _ _ _^^cTn op) (c:=BOp.cmp) (by kernel_rfl) op h
theorem Hf(h:op.cmp=true):∀e p q w,oK (op.opp w) e p q=(oK op e p q==w):=by
 intro e p q w;induction e<;>induction p<;>induction q<;>induction w<;>exact BOp.on (f:=fun op=>oK (op.opp _) _ _ _) (g:=fun op=>oK op _ _ _==_) (c:=BOp.cmp) (by kernel_rfl) op h
structure Cmp (op:BOp)(u:Bool)(ca cb:Cell)(b:Bool):Prop where
 val:∀{st lo S pc h ws},st.code[pc]?=some (.op (cO op u))→Step st lo ⟨cb::ca::S,pc,h,ws⟩ ⟨⟨1,.int (ag (b^^cTn op)),0⟩::S,pc+1,h,ws⟩
 jmp:∀{st lo S pc h ws w l pos},st.code[pc]?=some (.num (bO op u w) l)→dg st l pos→pc+1≤pos→Step st lo ⟨cb::ca::S,pc,h,ws⟩ ⟨S,if (b==w)=true then pos else pc+1,h,ws⟩
theorem HJ{bb:B}{ka kb:Int}(h:op.cmp=true)(hb:bb=.b32∨bb=.b64):Cmp op u ⟨aS bb,.int x,ka⟩ ⟨aS bb,.int y,kb⟩ (lF op (uns (cU op u) bb.m x) (uns (cU op u) bb.m y)):=
 ⟨fun e=>MT h _ _ _▸ .cm e (Jh h u).1 (Ga h u) (Jh h u).2 hb,fun {st lo S pc hh ws w l pos} e hl hp=>Hf h _ _ _ w▸ .brc e (Hg h u w).1 (wM h u w) (Hg h u w).2.1 hb hl hp⟩
theorem qz:op.en=true→op.cmp=true:=BOp.imp rfl op
theorem n7{v z:Val}{ka kb:Int}(h:op.en=true):Cmp op u ⟨4,v,ka⟩ ⟨4,z,kb⟩ (decide (v=z) ==decide (op=.eq)):=by
 have hc:=qz h
 rcases (Bool.or_eq_true _ _).mp h with e|e<;>cases Z0 e
 ·exact⟨fun e=>by rw[show ((decide (v=z) ==decide (BOp.eq=.eq))^^cTn .eq)=decide (v=z)by induction decide (v=z)<;>rfl];exact .cmq e,fun {st lo S pc hh ws w l pos} e hl hp=>by
   have:=Step.brq (lo:=lo) (S:=S) (h:=hh) (ws:=ws) (v:=v) (z:=z) (ka:=ka) (kb:=kb) e (Hg hc u w).1 (wM hc u w) (by induction w;exact .inr rfl;exact .inl rfl) hl hp
   rw[show ((decide (v=z) ==decide (BOp.eq=.eq)) ==w)=(decide (v=z) ==decide (BOp.opp .eq w=.eq))by induction decide (v=z)<;>induction w<;>rfl]
   exact this⟩
 ·exact⟨fun e=>by rw[show ((decide (v=z) ==decide (BOp.ne=.eq))^^cTn .ne)=decide (v=z)by induction decide (v=z)<;>rfl];exact .cmq e,fun {st lo S pc hh ws w l pos} e hl hp=>by
   have:=Step.brq (lo:=lo) (S:=S) (h:=hh) (ws:=ws) (v:=v) (z:=z) (ka:=ka) (kb:=kb) e (Hg hc u w).1 (wM hc u w) (by induction w;exact .inl rfl;exact .inr rfl) hl hp
   rw[show ((decide (v=z) ==decide (BOp.ne=.eq)) ==w)=(decide (v=z) ==decide (BOp.opp .ne w=.eq))by induction decide (v=z)<;>induction w<;>rfl]
   exact this⟩
end
section
variable{n:Nat}{E:FE}{s s' s1 s2:PS}{S:List Cell}{h:dP}{ws:WS}{r0:Val×WS}{Q:aD}{k p q kl kr:K}{g:G}{Γ:List (K×Val)}{op:BOp}{c b u w:Bool}{x y k3 l0:Int}{l r:Tr}{v:Val}{nl nr:Bool}
def Ge(n:Nat)(l r:Tr)(s s':PS):Prop:=∀a0 a1 a2 rest,Ct (n+15) 37 [.ref 103,.tup (a0::a1::a2::l.v::r.v::rest)] s .none s'
theorem I7{s3 s4:PS}(c1:Ct (n+13) 22 [.ref 103,l.v] s .none s1)(h2:Ct (n+14) 30 [.ref 103,.int l.kind.n] s1 .none s2)(c3:Ct (n+13) 22 [.ref 103,r.v] s2 .none s3)(h4:Ct (n+14) 30 [.ref 103,.int r.kind.n] s3 .none s4):Ge n l r s s4:=fun a0 a1 a2 rest=>by
 obtain⟨_,_,e1⟩:=l.shape
 obtain⟨_,_,e2⟩:=r.shape
 rw[e1]at c1⊢
 rw[e2]at c3⊢
 exact GV (bN c1) h2 (bN c3) h4
def Qd(l r:Tr)(s s':PS):Prop:=∀E,Fin E s'→WT E.g E.Γ l→WT E.g E.Γ r→∀S h ws (f:Val→Val→WS→Val×WS) Q,ws.fault=.no→aL E h→
 (∀a b ws' h' ka kb,ws'.fault=.no→aL E h'→aE E.g l.kind a→aE E.g r.kind b→Goes E ⟨cellK E.g r.kind b kb::cellK E.g l.kind a ka::S,s'.code.length,h',ws'⟩ (f a b ws') Q)→
 Goes E ⟨S,s.code.length,h,ws⟩ (andM (aN E.g (aI E.Γ) l ws) fun a w=>andM (aN E.g (aI E.Γ) r w) (f a)) Q
theorem nq(il:EP l)(ir:EP r)(dl:8*l.dp≤n)(dr:8*r.dp≤n)(wl:WT g Γ l)(wr:WT g Γ r)(vl:cj l.kind=false)(vr:cj r.kind=false):a8 g Γ (16*l.sz+16*r.sz) (r.lc+l.lc) (fun s s'=>Ge n l r s s'∧Qd l r s s'):=
 aV (il g Γ n dl wl) (ir g Γ n dr wr) fun s s1 s' ζ ζ x1 e1 e2=>⟨I7 e1.1 (lZ (vl▸gR _)) e2.1 (lZ (vr▸gR _)),fun E F wl wr S h ws f Q hf H q=>
  bZ (e1.2 E (F.back x1) wl S h ws hf H) fun hf2 h' k3 H' ζ=>bZ (e2.2 E F wr _ h' _ hf2 H') fun hf3 h'' k4 H'' ζ=>q _ _ _ _ _ _ hf3 H'' (aR l ws wl hf2) (aR r _ wr hf3)⟩
def zO(n:Nat)(op:BOp)(l r:Tr)(c u:Bool)(s s':PS):Prop:=Ge n l r s s'∧∀E,Fin E s'→WT E.g E.Γ l→WT E.g E.Γ r→∀S h ws Q,ws.fault=.no→aL E h→
 (∀ca cb b ws' h',Cmp op u ca cb b→ws'.fault=.no→aL E h'→Goes E ⟨cb::ca::S,s'.code.length,h',ws'⟩ (.int (ag b),ws') Q)→Goes E ⟨S,s.code.length,h,ws⟩ (aN E.g (aI E.Γ) (.bin .bool op l r c) ws) Q
theorem yE{g:G}{a b:Val}{m:Int}(h:op.en=true)(hv:¬(kl=.var∨kr=.var)):dq g kl kr op c a b m=(.int (ag (decide (a=b) ==decide (op=.eq))),.no,m):=(if_pos h).trans (if_neg hv)
theorem AZ{z:Val}{m:Int}(hf:ws.fault=.no)(hm:m=ws.made):dU ws (z,.no,m)=(z,ws):=congrArg (Prod.mk z) (hm▸dN hf)
theorem NL(h:op.en=false)(ho:op.cmp=true)(x y:Int):lF op x y=vG op x y:=BOp.on (f:=fun op=>oK op _ _ _) (g:=fun op=>J0 op _ _) (c:=fun op=>op.cmp&& !op.en) rfl op (by rw[h,ho];rfl)
theorem LB(h:op.en=true)(x y:Int):lF op x y=(decide (x=y) ==decide (op=.eq)):=by
 rcases (Bool.or_eq_true _ _).mp h with e|e<;>cases Z0 e
 ·show decide (x=y)=(decide (x=y) ==true);induction decide (x=y)<;>rfl
 ·show (!decide (x=y))=(decide (x=y) ==false);induction decide (x=y)<;>rfl
noncomputable def cmk(k:K):Bool:=nke k||decide (k=.bool)
theorem zy{m:Int}{ka kb:Int}(ho:op.cmp=true)(hk:cmk k=true)(hx:inK (aj g k) x)(hy:inK (aj g k) y):∃b,Cmp op (bg (aj g k)) (cellK g k (.int x) ka) (cellK g k (.int y) kb) b∧dq g k k op c (.int x) (.int y) m=(.int (ag b),.no,m):=by
 have hp:pk9 (aj g k)=true:=G.imp (b:=fun g k=>pk9 (aj g k)) (by kernel_rfl) g k hk
 have hv:k≠.var:=Z0 (K.imp (a:=cmk) (b:=fun k=>decide (k≠.var)) rfl k hk)
 rw[di hp,di hp]
 refine ⟨_,HJ ho (gs _),?_⟩
 have bx:=cT hp hx
 have bY:=cT hp hy
 induction he:op.en
 ·rw[show cU op (bg (aj g k))=bg (aj g k)by unfold cU;rw[he];exact Bool.and_true _,bx,bY,NL he ho]
  exact (if_neg (by rw[he];decide)).trans (congrArg (w5 · m) (BOp.on (f:=fun op=>dI g k op c x y) (g:=fun op=>(ag (vG op x y),.no)) (c:=fun op=>op.cmp&& !op.en) rfl op (by rw[he,ho];rfl)))
 ·rw[yE he (fun e=>e.elim hv hv),show cU op (bg (aj g k))=false by unfold cU;rw[he];exact Bool.and_false _,LB he]
  show (Val.int (ag (decide (Val.int x=Val.int y) ==_)),_)=(Val.int (ag (decide (sgn _ x=sgn _ y) ==_)),_)
  have e:decide (Val.int x=Val.int y)=decide (sgn (bP (aj g k)) x=sgn (bP (aj g k)) y):=decide_eq_decide.mpr ⟨fun e=>by cases e;rfl,fun e=>congrArg Val.int (Ib hp hx hy e)⟩
  rw[e]
theorem sH:∀{t:Tr},t.isNul=true→t=.const .obj none
 |.leaf (.const k p),h=>by
  have h:=band (show (decide (k=.obj)&&p.isNone)=true from h)
  rw[Z0 h.1,Option.isNone_iff_eq_none.mp h.2]
 |.leaf (.loc ..),h|.leaf (.cK _),h|.leaf (.fY _),h|.leaf (.nul _),h|.one ..,h|.bin ..,h|.bz ..,h|.cond ..,h=>absurd h Zc
theorem Ju{ke:K}(w:if cj ke then∀n,Ct (n+1) 101 [.ref 103,.int 140,.int ke.n] s .none s' else s'=s):Ct (n+4) 30 [.ref 103,.int ke.n] s .none s':=by
 have v1:=gR (n:=n) (st:=s) ke
 induction hb:cj ke<;>rw[hb]at v1 w
 ·obtain rfl:s'=s:=w
  exact lZ v1
 ·exact yQ v1 (w _)
theorem nX{C:PS→PS→Prop}(il:EP l)(ir:EP r)(dl:8*l.dp≤n)(dr:8*r.dp≤n)(wl:WT g Γ l)(wr:WT g Γ r)(bl:(cj l.kind||aU l.kind)=true)(br:(cj r.kind||aU r.kind)=true)
  (f:∀s s1 s2 s3 s',Ge n l r s s'→EOk l s s1→zA (cj l.kind) l.kind s1 s2→EOk r s2 s3→zA (cj r.kind) r.kind s3 s'→Ext s1 s'→Ext s2 s'→Ext s3 s'→C s s'):a8 g Γ (16*l.sz+16*r.sz+2) (r.lc+l.lc) C:=
 ai (aV (bo (il g Γ n dl wl) (gX bl)) (bo (ir g Γ n dr wr) (gX br)) fun s s2 s' ζ ζ x2 e1 e2=>e1.el fun s1 a1 b1 x1 ζ=>e2.el fun s3 a3 b3 x3 ζ=>f s s1 s2 s3 s' (I7 a1.1 (Ju (n:=n+10) b1.1) a3.1 (Ju (n:=n+10) b3.1)) a1.2 b1 a3.2 b3 (x1.trans x2) x2 x3)
  (Zi (Nat.add_add_add_comm _ 1 _ 1)) (Zi (by rw[Nat.zero_add,Nat.zero_add]))
theorem jz{a:MS}{r r':Val×WS}(e:r=r')(h:Goes E a r' Q):Goes E a r Q:=e▸h
theorem KA(he:op.en=true):dU ws (dq g .var .obj op c v .none ws.made)=(.int (ag (decide ((bH g .var v ws.made).1=.none) ==decide (op=.eq))),ws.to .no (bH g .var v ws.made).2):=by
 unfold dq;rw[if_pos he,if_pos (.inl rfl)];rfl
theorem Le(he:op.en=true):dU ws (dq g .obj .var op c .none v ws.made)=(.int (ag (decide (.none=(bH g .var v ws.made).1) ==decide (op=.eq))),ws.to .no (bH g .var v ws.made).2):=by
 unfold dq;rw[if_pos he,if_pos (.inr rfl)];rfl
theorem FW(il:EP l)(ir:EP r)(dl:8*l.dp≤n)(dr:8*r.dp≤n)(wl:WT g Γ l)(wr:WT g Γ r)(he:op.en=true)(el:l.kind=.var)(em:r.isNul=true):a8 g Γ (16*l.sz+16*r.sz+2) (r.lc+l.lc) (zO n op l r c u):=by
 obtain rfl:=sH em
 refine nX il ir dl dr wl wr (by rw[el];rfl) rfl fun s s1 s2 s3 s' c1 r1 b1 r3 b3 x1 x2 x3=>⟨c1,fun E F wl wr S h ws Q hf H q=>?_⟩
 refine bZ (r1 E (F.back x1) wl S h ws hf H) fun hf2 h' k3 H' ζ=>b1.2 E (F.back x2) S h' _ _ k3 _ _ hf2 (aR l ws wl hf2) fun k4=>?_
 rw[el]
 refine jz ((hX (x:=(.none,(aN E.g (aI E.Γ) l ws).2)) (f:=fun b w=>dU w (dq E.g .var .obj op c (aN E.g (aI E.Γ) l ws).1 b w.made)) hf2).trans (KA he)) ?_
 exact bZ (x:=(.none,(aN E.g (aI E.Γ) l ws).2.to .no _)) (f:=fun b w=>(.int (ag (decide ((bH E.g .var (aN E.g (aI E.Γ) l ws).1 (aN E.g (aI E.Γ) l ws).2.made).1=b) ==decide (op=.eq))),w)) (r3 E (F.back x3) wr _ h' _ rfl H') fun hf3 h'' k5 H'' ζ=>b3.2 E F _ h'' _ .none k5 _ _ hf3 rfl fun k6=>q _ _ _ _ _ (n7 he) hf3 H''
theorem HI(il:EP l)(ir:EP r)(dl:8*l.dp≤n)(dr:8*r.dp≤n)(wl:WT g Γ l)(wr:WT g Γ r)(he:op.en=true)(er:r.kind=.var)(em:l.isNul=true):a8 g Γ (16*l.sz+16*r.sz+2) (r.lc+l.lc) (zO n op l r c u):=by
 obtain rfl:=sH em
 refine nX il ir dl dr wl wr rfl (by rw[er];rfl) fun s s1 s2 s3 s' c1 r1 b1 r3 b3 x1 x2 x3=>⟨c1,fun E F wl wr S h ws Q hf H q=>?_⟩
 refine bZ (r1 E (F.back x1) wl S h ws hf H) fun hf2 h' k3 H' ζ=>b1.2 E (F.back x2) S h' ws .none k3 _ _ hf rfl fun k4=>?_
 refine (dN hf).symm▸?_
 refine bZ (r3 E (F.back x3) wr _ h' ws hf H') fun hf3 h'' k5 H'' ζ=>b3.2 E F _ h'' _ _ k5 _ _ hf3 (aR r ws wr hf3) fun k6=>?_
 rw[er]
 exact jz (Le he)<|q _ _ _ _ _ (n7 he) rfl H''
theorem vp(il:EP l)(ir:EP r)(dl:8*l.dp≤n)(dr:8*r.dp≤n)(wl:WT g Γ l)(wr:WT g Γ r)(ho:op.cmp=true)(hb:fG .bool kl kr op nl nr)(el:l.kind=kl)(er:r.kind=kr)(en:l.isNul=nl)(em:r.isNul=nr):
  a8 g Γ (16*l.sz+16*r.sz+2) (r.lc+l.lc) (zO n op l r c (bg (aA g kl))):=by
 have A:cj l.kind=false→cj r.kind=false→(∀a b m ka kb,aE g kl a→aE g kr b→∃z,Cmp op (bg (aA g kl)) (cellK g kl a ka) (cellK g kr b kb) z∧dq g kl kr op c a b m=(.int (ag z),.no,m))→a8 g Γ (16*l.sz+16*r.sz+2) (r.lc+l.lc) (zO n op l r c (bg (aA g kl))):=fun vl vr f=>by
  subst el er
  refine ai (ak (fun s s' hg xt e=>⟨e.1,fun E F wl wr S h ws Q hf H q=>?_⟩) (nq il ir dl dr wl wr vl vr)) (Z8 _ _) (Z5 _)
  have eg:E.g=g:=F.ext.g.trans (xt.g.trans hg)
  refine e.2 E F wl wr S h ws (fun a b w=>dU w (dq E.g l.kind r.kind op c a b w.made)) Q hf H fun a b ws' h' ka kb hf' H' ha hb=>?_
  obtain⟨z,cz,ez⟩:=f a b ws'.made ka kb (eg▸ha) (eg▸hb)
  rw[eg]
  show Goes E _ (dU ws' _) Q
  rw[ez,AZ hf' rfl]
  exact q _ _ _ _ _ cz hf' H'
 have N:cmk kl=true→kl=kr→a8 g Γ (16*l.sz+16*r.sz+2) (r.lc+l.lc) (zO n op l r c (bg (aA g kl))):=fun hk e=>by
  subst e
  have hn:nue kl=true:=K.imp (a:=cmk) rfl kl hk
  have hv:cj kl=false:=K.imn (a:=cmk) rfl kl hk
  refine A (el▸hv) (er▸hv) fun a b m ka kb ha hb=>bq hn ha fun x ex hx=>bq hn hb fun y ey hy=>?_
  subst ex ey
  rw[←(kR (g:=g) hn).2]
  exact zy ho hk hx hy
 have R:aU kl=true→op.en=true→kl=kr→a8 g Γ (16*l.sz+16*r.sz+2) (r.lc+l.lc) (zO n op l r c (bg (aA g kl))):=fun hk he e=>by
  subst e
  have hv:cj kl=false:=K.imn (a:=aU) rfl kl hk
  have hv':kl≠.var:=Z0 (K.imp (a:=aU) (b:=fun k=>decide (k≠.var)) rfl kl hk)
  refine A (el▸hv) (er▸hv) fun a b m ka kb ζ ζ=>?_
  rw[bW hk,bW hk]
  exact⟨_,n7 he,yE he fun e=>e.elim hv' hv'⟩
 cases hb with
 |ar ho' _=>exact absurd (ho.symm.trans (BOp.on (f:=BOp.cmp) (g:=fun ζ=>false) (c:=BOp.ar) rfl op ho')) (by decide)
 |lg ho'=>exact absurd (ho.symm.trans (BOp.on (f:=BOp.cmp) (g:=fun ζ=>false) (c:=BOp.log) rfl op ho')) (by decide)
 |sh ho' _=>exact absurd (ho.symm.trans (BOp.on (f:=BOp.cmp) (g:=fun ζ=>false) (c:=BOp.shf) rfl op ho')) (by decide)
 |cm _ hk=>exact N (by unfold cmk;rw[hk];rfl) rfl
 |eq he hk=>
  rcases (Bool.or_eq_true _ _).mp hk with h|h
  ·rw[Z0 h]at N⊢;exact N rfl rfl
  ·exact R (K.imp (a:=fun k=>decide (k=.obj)||(decide (k=.cl0)||decide (k=.bj))) (b:=aU) rfl kl h) he rfl
 |vo he=>exact FW il ir dl dr wl wr he el em
 |ov he=>exact HI il ir dl dr wl wr he er en
end
section
variable{n:Nat}{E:FE}{s s' s1 s2:PS}{S:List Cell}{h:dP}{ws:WS}{r0:Val×WS}{Q:aD}{k p q kl kr:K}{g:G}{Γ:List (K×Val)}{op:BOp}{c b u w tn:Bool}{x y k3 l0:Int}{l r t:Tr}{v:Val}{nl nr:Bool}
noncomputable def TnC(tn:Bool):Wk:=fun s s'=>if tn then xH s s' else s'=s
theorem Gz:∀{tn},a8 g Γ 2 0 (TnC tn)
 |true=>lq
 |false=>ai eQ (Nat.zero_le _) (Z5 _)
theorem RA:∀{tn},TnC tn s s'→if tn then Ct (n+2) 36 [.ref 103] s .none s' else s'=s
 |true,t=>uM t
 |false,t=>t
theorem JT(t:TnC tn s s')(F:Fin E s')(hf:ws.fault=.no)(H:aL E h):Goes E ⟨⟨1,.int (ag (b^^tn)),0⟩::S,s.code.length,h,ws⟩ (.int (ag b),ws) (oI E S s'.code.length .bool false):=by
 have q:Goes E ⟨⟨1,.int (ag b),0⟩::S,s'.code.length,h,ws⟩ (.int (ag b),ws) (oI E S s'.code.length .bool false):=bX (r:=(.int (ag b),ws)) (k:=.bool) (k3:=0) (fun ζ=>(gU _).symm) H b4
 induction tn
 ·obtain rfl:s'=s:=t
  rw[Bool.xor_false];exact q
 ·exact oE t F hf (by rw[Bool.xor_true,Bool.not_not];exact q)
theorem yd(eg:s.g=g)(e:l.kind=k):Ct (n+5) 35 [.ref 103,.int l.kind.n] s (.bool (bg (aA g k))) s:=eg▸e▸Qe _
theorem GR(ho:op.cmp=true):op.shf=false:=BOp.on (f:=BOp.shf) (g:=fun ζ=>false) (c:=BOp.cmp) rfl op ho
theorem r8(ho:op.cmp=true)(il:EP l)(ir:EP r):EP (.bin .bool op l r c):=fun g Γ n hd hw=>
 jL (P:=fun n=>a8 g Γ (16*(l.sz+r.sz+1)) (l.lc+r.lc) (EC n (.bin .bool op l r c))) hd fun m hm=>by
 refine ai (aV (vp (n:=m+4) (c:=c) il ir (Zq (gw hm)) (Zq (gx hm)) hw.1 hw.2.1 ho hw.2.2 rfl rfl rfl rfl) (bo (aq (.op (cO op (bg (aA g l.kind))))) (Gz (tn:=cTn op))) fun s s1 s' hg g1 x1 e1 e2=>e2.el fun s2 i2 t x2 ζ=>⟨?_,fun E F hw' S h ws hf H=>?_⟩) ?_ (Zi ((congrArg (· +_) (Nat.zero_add 0)).trans ((Nat.zero_add _).trans (Nat.add_comm _ _))))
 ·refine bJ BR ?_
  have w:=e1.1 (.int 14) (.int K.bool.n) (.str op.c) [.int (ag c)]
  have hu:=yd (n:=m+14) (k:=l.kind) (l:=l) g1 rfl
  show Ct _ _ [_,_,.tup [_,_,_,l.v,_,_]] _ _ _
  obtain⟨_,_,e1⟩:=l.shape
  rw[e1]at w⊢
  exact Aq (f:=cO op) (JJ (GR ho)) (Fh ho) w hu (i2.2 _) (RA t)
 ·exact e1.2 E (F.back x1) hw'.1 hw'.2.1 S h ws _ hf H fun ca cb b ws' h' cz hf' H'=>cu i2 (F.back x2) hf' cz.val (JT t F hf' H')
 ·show 16*l.sz+16*r.sz+2+(1+2)≤16*(l.sz+r.sz+1)
  rw[Nat.mul_add,Nat.mul_add];exact Zf (by decide:5≤16) _
theorem K8(ho:op.cmp=true)(il:EP l)(ir:EP r):JP (.bin .bool op l r c):=fun g Γ n w l0 hd hw ζ=>
 jL (P:=fun n=>a8 g Γ (16*(l.sz+r.sz+1)+1) (l.lc+r.lc) (JC n (.bin .bool op l r c) w l0)) hd fun m hm=>by
 refine ai (aV (vp (n:=m+7) (c:=c) il ir (Zq (gw hm)) (Zq (gx hm)) hw.1 hw.2.1 ho hw.2.2 rfl rfl rfl rfl) (aq (.num (bO op (bg (aA g l.kind)) w) l0)) fun s s1 s' hg g1 x1 e1 e2=>⟨?_,fun E F hw' pos hp hl S h ws hf H=>?_⟩) ?_ (Zi ((Nat.zero_add _).trans (Nat.add_comm _ _)))
 ·refine g6 yO ?_
  have w1:=e1.1 (.int 14) (.int K.bool.n) (.str op.c) [.int (ag c)]
  have hu:=yd (n:=m+17) (k:=l.kind) (l:=l) g1 rfl
  show Ct _ _ [_,_,.tup [_,_,_,l.v,_,_],_,_] _ _ _
  obtain⟨_,_,e1⟩:=l.shape
  rw[e1]at w1⊢
  exact D7 (f:=bO op) (KR ho) w1 hu (e2.2 _)
 ·have e3:=e2.1
  subst e3
  exact e1.2 E (F.back x1) hw'.1 hw'.2.1 S h ws _ hf H fun ca cb b ws' h' cz hf' H'=>fI hf' (cz.jmp (code_at F.ext) hp (dM (s:=s1)▸hl)) (bw (r:=(.int (ag b),ws')) fun ζ=>⟨rfl,by rw[dM];induction b<;>induction w<;>rfl,H'⟩)
 ·show 16*l.sz+16*r.sz+2+1≤16*(l.sz+r.sz+1)+1
  rw[Nat.mul_add,Nat.mul_add];exact Zf (by decide:3≤17) _
theorem IW(ho:op.cmp=false)(ie:EP (.bin k op l r c)):JP (.bin k op l r c):=fun g Γ n w l0 hd hw hk=>
 ai (aV (ie g Γ n hd hw) (aq (.num (jI w) l0)) fun s s1 s' ζ ζ x1 e1 e2=>⟨g6 yO (Ht (E2 ho).2 (bN e1.1) (e2.2 _)),e2.1▸BP hk e1.2⟩) (Z5 _) (Zi (Nat.zero_add _))
theorem pN(b:B)(x:Int):∀u,small (uns u b.m (sgn b x))=true
 |false=>hC b x
 |true=>hZ ⟨Zr (by decide) (Zy _ b.gI),Zr (Int.fmod_lt_of_pos _ b.gI) (by induction b<;>decide)⟩
noncomputable def arK(k:K)(op:BOp):Bool:=a4 k||(decide (k=.bool)&&op.log)
theorem Jk(ho:op.ar=true)(hk:arK k op=true)(el:l.kind=k)(er:r.kind=k)(il:EP l)(ir:EP r):EP (.bin k op l r c):=fun g Γ n hd hw=>
 jL (P:=fun n=>a8 g Γ (16*(l.sz+r.sz+1)) (l.lc+r.lc) (EC n (.bin k op l r c))) hd fun m hm=>by
 have hb:cmk k=true:=by
  rcases (Bool.or_eq_true _ _).mp hk with h|h
  ·exact K.imp (a:=a4) rfl k h
  ·rw[Z0 (band h).1];rfl
 have h5:(a4 k||decide (k=.bool))=true:=by
  rcases (Bool.or_eq_true _ _).mp hk with h|h
  ·rw[h];rfl
  ·rw[(band h).1,Bool.or_true]
 have hv:cj k=false:=K.imn (a:=cmk) rfl k hb
 have hn:nue k=true:=K.imp (a:=cmk) rfl k hb
 have hg:∀g,aA g k=k∧aj g k=k:=fun g=>Prod.mk.inj (K.on (f:=fun k=>(aA g k,aj g k)) (g:=fun k=>(k,k)) (c:=fun k=>a4 k||decide (k=.bool)) rfl k h5)
 have hp:pk9 k=true:=K.imp (a:=fun k=>a4 k||decide (k=.bool)) rfl k h5
 have he:op.cal=true:=BOp.imp (a:=BOp.ar) rfl op ho
 have hz:op.cmp=false∧op.shf=false∧op.en=false:=⟨BOp.on (f:=BOp.cmp) (g:=fun ζ=>false) (c:=BOp.ar) rfl op ho,BOp.on (f:=BOp.shf) (g:=fun ζ=>false) (c:=BOp.ar) rfl op ho,BOp.on (f:=BOp.en) (g:=fun ζ=>false) (c:=BOp.ar) rfl op ho⟩
 have ao:=Ry ho (bg k) c
 refine ai (aV (nq (n:=m+4) il ir (Zq (gw hm)) (Zq (gx hm)) hw.1 hw.2.1 (el▸hv) (er▸hv)) (aq (.op (arO op (bg k) c))) fun s s1 s' eg g1 x1 e1 e2=>⟨?_,fun E F hw' S h ws hf H=>?_⟩) ?_ (Zi ((Nat.zero_add _).trans (Nat.add_comm _ _)))
 ·refine bJ BR ?_
  have w:=e1.1 (.int 14) (.int k.n) (.str op.c) [.int (ag c)]
  have hu:=yd (n:=m+14) (k:=k) (l:=l) g1 el
  rw[(hg g).1]at hu
  show Ct _ _ [_,_,.tup [_,_,_,l.v,_,_]] _ _ _
  obtain⟨_,_,e1⟩:=l.shape
  rw[e1]at w⊢
  exact ER (f:=arO op) (JJ hz.2.1) (E2 hz.1).1 (Bi he) w hu (e2.2 _)
 ·refine e1.2 E (F.back x1) hw'.1 hw'.2.1 S h ws (fun a b w=>dU w (dq E.g l.kind r.kind op c a b w.made)) _ hf H fun a b ws' h' ka kb hf' H' ha hb=>?_
  rw[el,er]at*
  refine bq hn ha fun x ex hx=>bq hn hb fun y ey hy=>?_
  subst ex ey
  have hu:=(hg E.g).2
  have hx:inK k x:=hu▸hx
  have hy:inK k y:=hu▸hy
  have t:=yh (g:=E.g) (c:=c) ho hk hx hy
  refine jz (congrArg (dU ws') (eM hz.2.2)) ?_
  rw[di (by rw[hu];exact hp),di (by rw[hu];exact hp),hu]
  unfold su at t
  rw[←ao.2]at t
  refine cu e2 F hf' (fun e=>.two e ao.1 (J5 he (bg k) c) ho (gs k) (pN _ _ _) (pN _ _ _)) (xN t.1 fun hf3=>⟨ka,?_,H'⟩)
  show _=cellK E.g k (.int (dI E.g k op c x y).1) ka
  rw[di (by rw[hu];exact hp),hu]
  exact congrArg (fun z=>Cell.mk _ (.int z) _) (t.2 hf3)
 ·show 16*l.sz+16*r.sz+1≤16*(l.sz+r.sz+1)
  rw[Nat.mul_add,Nat.mul_add];exact Zf (by decide:1≤16) _
end
section
variable{n:Nat}{E:FE}{s s' s1 s2:PS}{S:List Cell}{h:dP}{ws:WS}{r0:Val×WS}{Q:aD}{k p q kl kr:K}{g:G}{Γ:List (K×Val)}{op:BOp}{c b u w tn:Bool}{x y k3 l0:Int}{l r t:Tr}{v:Val}{nl nr:Bool}
theorem BQ:∀t:Tr,(∃k p,t=.const k p)∨decide (t.code=1)=false
 |.leaf (.const k p)=>.inl ⟨k,p,rfl⟩
 |.leaf (.loc ..)|.leaf (.cK _)|.leaf (.fY _)|.leaf (.nul _)|.one (.un ..) _|.one (.conv ..) _|.one (.is _) _|.one (.as _) _|.bin .. |.cond .. |.bz true _ _|.bz false _ _=>.inr rfl
theorem Rq(h:op.shf=true)(u c:Bool):(op=.shl∧arU op u c=false∧arO op u c=98)∨(op=.shr∧((arU op u c=false∧arO op u c=99)∨(arU op u c=true∧arO op u c=100))):=by
 induction u<;>induction c<;>exact Z0 (BOp.imp (a:=BOp.shf) (b:=fun op=>decide ((op=.shl∧arU op _ _=false∧arO op _ _=98)∨(op=.shr∧((arU op _ _=false∧arO op _ _=99)∨(arU op _ _=true∧arO op _ _=100))))) (by kernel_rfl) op h)
def ShC(n:Nat)(k:K)(l r:Tr)(s s':PS):Prop:=(∀a0 a1 a2 rest,Ct (n+15) 38 [.ref 103,.tup (a0::a1::a2::l.v::r.v::rest)] s .none s')∧∀E,Fin E s'→WT E.g E.Γ l→WT E.g E.Γ r→∀S h ws (f:Val→Val→WS→Val×WS) Q,ws.fault=.no→aL E h→
 (∀a y ws' h' ka kb,ws'.fault=.no→aL E h'→aE E.g l.kind a→Goes E ⟨⟨1,.int (fm k y),kb⟩::cellK E.g l.kind a ka::S,s'.code.length,h',ws'⟩ (f a (.int y) ws') Q)→
 Goes E ⟨S,s.code.length,h,ws⟩ (andM (aN E.g (aI E.Γ) l ws) fun a w=>andM (aN E.g (aI E.Γ) r w) (f a)) Q
theorem Gq(hk:a4 k=true)(hx:inK .i4 y):gz .and false (decide ((214:Int)≤95)) .b32 (sgn .b32 y) (if c8 k then 63 else 31)=(fm k y,.no):=by
 have y32:sgn .b32 y=y:=cT (p:=.i4) rfl hx
 have cb:=Jr hk y
 have:sgn .b32 (aZ .and (uns false (B.b32).m (sgn .b32 y)) (uns false (B.b32).m (if c8 k then 63 else 31)))=fm k y:=by
  show sgn .b32 (bitAnd (sgn .b32 y) (if c8 k then 63 else 31))=_
  rw[y32,tH hk]
  exact ji (b:=.b32) ⟨Zg (by decide) cb.1,Zr cb.2 (by rcases gs k with h|h<;>rw[h]<;>decide)⟩
 unfold gz
 rw[this,if_neg fun e=>absurd e.1 Zc,if_neg fun e=>absurd e.1 Zc]
 rfl
theorem wa(hk:a4 k=true)(el:l.kind=k)(er:r.kind=.i4)(il:EP l)(ir:EP r)(dl:8*l.dp≤n)(dr:8*r.dp≤n)(wl:WT g Γ l)(wr:WT g Γ r):a8 g Γ (16*l.sz+16*r.sz+2) (r.lc+l.lc) (ShC n k l r):=by
 have hg:∀g,aA g k=k:=fun g=>K.on (f:=aA g) (g:=id) (c:=a4) rfl k hk
 have pv:∀s,Ct (n+14) 17 [.ref 0,.int l.kind.n] s (.int k.n) s:=fun s=>by
  have:=gf (n:=n+10) (st:=s) l.kind
  rw[el,hg]at this
  rw[el];exact this
 rcases BQ r with ⟨k',o,rfl⟩|hc
 ·obtain rfl:k'=.i4:=er
  obtain⟨y,rfl⟩:∃y,o=some (.i y):=by
   match o,wr with
   |none,hw=>rcases hw with h|h<;>cases h
   |some (.s c),hw=>exact absurd hw (by intro h;cases h)
   |some (.i x),hw=>exact⟨x,rfl⟩
  refine ai (aV (il g Γ n dl wl) (aq (.num 32 (fm k y))) fun s s1 s' ζ ζ x1 e1 e2=>⟨fun a0 a1 a2 rest=>?_,fun E F wl wr S h ws f Q hf H q=>?_⟩) (Nat.add_le_add (Z8 _ _) (by decide)) (Z4 (Zi (Nat.zero_add _)) (Nat.le_add_left _ _))
  ·show Ct _ _ [_,.tup (_::_::_::l.v::.tup [.int 1,.int K.i4.n,.int y]::_)] _ _ _
   have w:=pv s
   have c1:=e1.1
   obtain⟨_,_,el⟩:=l.shape
   rw[el]at c1⊢
   exact zz w (fP k) (tH hk y) (bN c1) (e2.2 _)
  ·exact bZ (e1.2 E (F.back x1) wl S h ws hf H) fun hf2 h' k3 H' ζ=>jz (hX (x:=(.int y,_)) hf2) (cu e2 F hf2 .tP (q _ y _ _ _ _ hf2 H' (aR l ws wl hf2)))
 ·refine ai (aV (bo (il g Γ n dl wl) (ir g Γ n dr wr)) (bo (aq (.num 32 (if c8 k then 63 else 31))) (aq (.op 95))) fun s s2 s' ζ ζ x2 ea eb=>ea.el fun s1 e1 e2 x1 ζ=>eb.el fun s3 e3 e4 x3 ζ=>⟨fun a0 a1 a2 rest=>?_,fun E F wl wr S h ws f Q hf H q=>?_⟩) (Z5 _) (Zi (Nat.zero_add _))
  ·have w:=pv s
   have c1:=e1.1
   have c2:=e2.1
   obtain⟨_,_,el⟩:=l.shape
   obtain⟨_,er⟩:=r.n8
   rw[el]at c1⊢
   rw[er]at c2⊢
   exact Av w (fP k) rfl hc (bN c1) (bN c2) (e3.2 _) (e4.2 _)
  ·have F2:=F.back x2
   refine bZ (e1.2 E (F2.back x1) wl S h ws hf H) fun hf2 h' k3 H' ζ=>bZ (e2.2 E F2 wr _ h' _ hf2 H') fun hf3 h'' k4 H'' ζ=>?_
   have ty:=aR r _ wr hf3
   rw[er]at ty⊢
   refine bq rfl ty fun y ey hy=>?_
   rw[ey]
   have st:=fun e=>Step.two (st:=E.sf) (lo:=E.lo) (S:=cellK E.g l.kind (aN E.g (aI E.Γ) l ws).1 k3::S) (pc:=s3.code.length) (h:=h'') (ws:=(aN E.g (aI E.Γ) r (aN E.g (aI E.Γ) l ws).2).2) (b:=.b32) (x:=sgn .b32 y) (y:=if c8 k then 63 else 31) (ka:=k4) (kb:=0) (o:=95) (w:=.and) (u:=false) e (by decide) ⟨fun ζ=>rfl,fun ζ=>rfl⟩ rfl (.inl rfl) (hC _ _) (by induction c8 k<;>rfl)
   have ew:({ (aN E.g (aI E.Γ) r (aN E.g (aI E.Γ) l ws).2).2 with fault:=(fm k y,Flt.no).2}:WS)=(aN E.g (aI E.Γ) r (aN E.g (aI E.Γ) l ws).2).2:=dN hf3
   rw[Gq hk hy,ew]at st
   exact cu e3 (F.back x3) hf3 .tP (cu e4 F hf3 st (q _ y _ _ _ _ hf3 H'' (aR l ws wl hf2)))
theorem O1(ho:op.shf=true)(hk:a4 k=true)(el:l.kind=k)(er:r.kind=.i4)(il:EP l)(ir:EP r):EP (.bin k op l r c):=fun g Γ n hd hw=>
 jL (P:=fun n=>a8 g Γ (16*(l.sz+r.sz+1)) (l.lc+r.lc) (EC n (.bin k op l r c))) hd fun m hm=>by
 have hn:nue k=true:=K.imp (a:=a4) rfl k hk
 have hg:∀g,aA g k=k∧aj g k=k:=fun g=>Prod.mk.inj (K.on (f:=fun k=>(aA g k,aj g k)) (g:=fun k=>(k,k)) (c:=a4) rfl k hk)
 have hp:=yg hk
 have he:op.cal=true:=BOp.imp (a:=BOp.shf) rfl op ho
 have hz:op.en=false:=BOp.on (f:=BOp.en) (g:=fun ζ=>false) (c:=BOp.shf) rfl op ho
 refine ai (aV (wa (n:=m+4) hk el er il ir (Zq (gw hm)) (Zq (gx hm)) hw.1 hw.2.1) (aq (.op (arO op (bg k) c))) fun s s1 s' eg g1 x1 e1 e2=>⟨?_,fun E F hw' S h ws hf H=>?_⟩) ?_ (Zi ((Nat.zero_add _).trans (Nat.add_comm _ _)))
 ·refine bJ BR ?_
  have w:=e1.1 (.int 14) (.int k.n) (.str op.c) [.int (ag c)]
  have hu:=yd (n:=m+14) (k:=k) (l:=l) g1 el
  rw[(hg g).1]at hu
  show Ct _ _ [_,_,.tup [_,_,_,l.v,_,_]] _ _ _
  obtain⟨_,_,e3⟩:=l.shape
  rw[e3]at w⊢
  exact A6 (f:=arO op) (by rcases (Bool.or_eq_true _ _).mp ho with e|e<;>rw[Z0 e];exact .inl rfl;exact .inr rfl) (Bi he) w hu (e2.2 _)
 ·refine e1.2 E (F.back x1) hw'.1 hw'.2.1 S h ws (fun a b w=>dU w (dq E.g l.kind r.kind op c a b w.made)) _ hf H fun a y ws' h' ka kb hf' H' ha=>?_
  rw[el]at*
  refine bq hn ha fun x ex hx=>?_
  subst ex
  have hu:=(hg E.g).2
  have hx:inK k x:=hu▸hx
  have t:=K6 (g:=E.g) (c:=c) (y:=y) ho hk hx
  refine jz ((congrArg (dU ws') (eM hz)).trans (congrArg (Prod.mk _) (show ws'.to (dI E.g k op c x y).2 ws'.made=ws' by rw[t.2];exact dN hf'))) ?_
  rw[di (by rw[hu];exact hp),hu]
  refine cu e2 F hf' (fun e=>.sh (w:=op) e (Rq ho _ _) (gs k) (Jr hk y)) (bX (r:=(.int (dI E.g k op c x y).1,ws')) (k:=k) (k3:=ka) (fun ζ=>?_) H' b4)
  rw[di (by rw[hu];exact hp),hu,t.1]
 ·show 16*l.sz+16*r.sz+2+1≤16*(l.sz+r.sz+1)
  rw[Nat.mul_add,Nat.mul_add];exact Zf (by decide:3≤16) _
end
section
variable{k kl kr:K}{op:BOp}{c:Bool}{l r t e:Tr}{nl nr:Bool}
theorem Gx(hb:fG k kl kr op nl nr)(el:l.kind=kl)(er:r.kind=kr)(il:EP l)(ir:EP r):EP (.bin k op l r c):=by
 induction hb with
 |ar ho h4=>exact Jk ho (by unfold arK;rw[h4];rfl) el er il ir
 |lg ho=>exact Jk (rt ho).1 (by unfold arK;rw[ho];rfl) el er il ir
 |sh ho h4=>exact O1 ho h4 el er il ir
 |cm ho _=>exact r8 ho il ir
 |eq ho _=>exact r8 (qz ho) il ir
 |vo ho=>exact r8 (qz ho) il ir
 |ov ho=>exact r8 (qz ho) il ir
theorem wF(il:EP l)(ir:EP r):EP (.bin k op l r c):=fun g Γ n hd hw=>Gx hw.2.2 rfl rfl il ir g Γ n hd hw
theorem MK(il:EP l)(ir:EP r):JP (.bin k op l r c):=by
 induction hc:op.cmp
 ·exact IW hc (wF il ir)
 ·exact fun g Γ n w l0 hd hw hk=>by
   obtain rfl:k=.bool:=hk
   exact K8 hc il ir g Γ n w l0 hd hw rfl
theorem tri(x:Int)(ie:EP t)(e:t.code=x)(h:(x≠1∧x≠13∧x≠14∧x≠15∧x≠16∧x≠20)∧x≠17:=by decide):EP t∧JP t∧FP t:=by
 subst e;exact⟨ie,vj h.1 ie,gQ ⟨h.1.1,h.2⟩ ie⟩
theorem IZ(ie:EP e):∀op,EP (.un k op e c)
 |.not=>Kf ie
 |.neg=>match c with
  |true=>FR ie
  |false=>DN (.inl ⟨rfl,rfl⟩) ie
 |.inv=>DN (.inr rfl) ie
theorem Nd(ij:JP e):∀op,JP (.un k op e c)
 |.not=>Kv ij
 |.neg=>fun g Γ n w l0 hd hw hk=>by
  obtain rfl:k=.bool:=hk
  exact absurd hw.2.2 (by decide)
 |.inv=>fun g Γ n w l0 hd hw hk=>by
  obtain rfl:k=.bool:=hk
  exact absurd hw.2.2 (by decide)
theorem Hk(ie:EP e):∀w,EP (.conv k w e c)
 |.num=>Mp ie
 |.box=>KJ ie
 |.cast=>Hi ie
 |.unbox=>D8 ie
 |.ref=>yj (.inl rfl) ie
 |.same=>yj (.inr rfl) ie
theorem aB:∀t:Tr,EP t∧JP t∧FP t
 |.leaf (.loc k lid)=>tri 2 (Kn k lid) rfl
 |.leaf (.const k p)=>⟨DM k p,CF,B1⟩
 |.leaf (.cK k)=>tri 12 (Cw k) rfl
 |.leaf (.fY k)=>tri 29 (IC k) rfl
 |.leaf (.nul k)=>tri 19 (Mb k) rfl
 |.one (.un k op c) e=>⟨IZ (aB e).1 op,Nd (aB e).2.1 op,gQ ⟨show (13:Int)≠1 by decide,show (13:Int)≠17 by decide⟩ (IZ (aB e).1 op)⟩
 |.one (.conv k w c) e=>tri 19 (Hk (aB e).1 w) rfl
 |.one (.is k) e=>⟨Jj (aB e).1,ND (aB e).1,gQ ⟨show (20:Int)≠1 by decide,show (20:Int)≠17 by decide⟩ (Jj (aB e).1)⟩
 |.one (.as k) e=>tri 21 (Pz (aB e).1) rfl
 |.bin k op l r c=>⟨wF (aB l).1 (aB r).1,MK (aB l).1 (aB r).1,gQ ⟨show (14:Int)≠1 by decide,show (14:Int)≠17 by decide⟩ (wF (aB l).1 (aB r).1)⟩
 |.bz a l r=>⟨td (aB l).2.1 (aB r).2.1,E5 (aB l).2.1 (aB r).2.1,gQ (by induction a;exact⟨show (16:Int)≠1 by decide,show (16:Int)≠17 by decide⟩;exact⟨show (15:Int)≠1 by decide,show (15:Int)≠17 by decide⟩) (td (aB l).2.1 (aB r).2.1)⟩
 |.cond k t a b=>⟨yl (aB t).2.1 (aB a).1 (aB b).1,vj (show (17:Int)≠1∧(17:Int)≠13∧(17:Int)≠14∧(17:Int)≠15∧(17:Int)≠16∧(17:Int)≠20 by decide) (yl (aB t).2.1 (aB a).1 (aB b).1),Ha (aB t).2.1 (aB a).2.2 (aB b).2.2⟩
end
noncomputable def psC(u:U)(c:Cl)(ns:List Int)(now:Int):PS:={g:=⟨u,c⟩,nums:=ns,now:=now,left:=0,aF:=[],eG:=[],vals:=[],log:=[],fault:=.no,made:=0,code:=[],aO:=[],a9:=0,locals:=[],aK:=[],free:=[],dyn:=[]}
noncomputable def HB(u:Int):H:=((pre (psC .i1 .i4 [] 0)).take 99).set 27 (.inst 1 [(82,(.int 64)),(83,(.str 73)),(5,(.int 5)),(24,(.int 0)),(84,(.int (-1))),(85,(.ref 28)),(86,(.ref 29)),(87,(.ref 30)),(88,(.ref 31)),(89,(.ref 32)),(90,(.ref 33)),(91,(.int 0)),(92,(.int 0)),(6,(.int u)),(93,(.ref 34)),(94,(.ref 35)),(95,(.ref 36)),(96,(.int 0)),(97,(.int 0))])
noncomputable def dw(now:Int)(x:List (Nat×V)):List (Nat×V):=[(33,.ref 99),(32,.int now),(37,.int 0),(22,.ref 87),(36,.ref 100),(57,.ref 101),(52,.str 0),(53,.int 0)]++x
noncomputable def op5(u:Int)(ns:List Int)(now:Int)(x:List (Nat×V)):H:=HB u++[.list (ns.map V.int),.aM [],.list [],.aP (dw now x)]
noncomputable def lz(vs:List V)(l:List (Option V)):Loc:=[some (.fl vs),some (.ref 0),some (.ref 87),some (.ref 96)]++l
theorem Nw(vs:List V):bB prog (aa prog 169) (dX.take 3) [some (.fl vs),none,none,none,none,none,none,none,none,none,none,none,none,none,none,none,none] []=some (.next,lz vs [none,none,none,none,none,none,none,none,none,none,none,none,none],HB (-1)):=by kernel_rfl
theorem Nx{ks:List Int}(hk:ks.length≤1048576):bB prog (aa prog 169) ((dX.drop 3).take 1) (lz (ks.map V.int) [none,none,none,none,none,none,none,none,none,none,none,none,none]) (HB (-1))=some (.next,lz (ks.map V.int) [some (.ref 102),none,none,none,none,none,none,none,none,none,none,none,none],op5 (-1) (ks.take 40) 0 []):=by
 have e:(if (ks.map V.int).length≤LIM then some (V.ref (HB (-1)).length,HB (-1)++[.list ((ks.map V.int).take 40)])else none)=some (V.ref 99,HB (-1)++[.list ((ks.take 40).map V.int)]):=by
  rw[if_pos (by rw[Z9];exact hk),List.map_take];rfl
 show ((((evE prog (aa prog 169) (.slice (.loc 0) 40) _ _).bind _).bind _).bind _).bind _=_
 rw[show evE prog (aa prog 169) (.slice (.loc 0) 40) (lz (ks.map V.int) [none,none,none,none,none,none,none,none,none,none,none,none,none]) (HB (-1))=some (V.ref 99,HB (-1)++[.list ((ks.take 40).map V.int)])from e]
 kernel_rfl
theorem QZ{ns:List Int}(hl:ns.length≤40){C:Prop}(k:∀ns' m,ns'.length≤40→aa prog 169 50 [.ref 102] (op5 (-1) ns 0 [])=some (.none,op5 (-1) ns' m [])→C):C:=by
 induction ns with
 |nil=>exact k [] 0 (Nat.zero_le _) (run [] (by kernel_rfl))
 |cons x r=>
  have l1:(r.map V.int).length+1≤LIM:=by
   rw[Z9];exact Z4 hl (by decide)
  have e:(op5 (-1) (x::r) 0 [])[99]?=some (.list (.int x::r.map V.int)):=rfl
  exact k r (x.fmod (2^30)) (Nat.le_of_succ_le hl) (run [.b ⟨_,_,lQ e l1⟩,.c ⟨_,_,DU e l1⟩] (by kernel_rfl))
theorem vb{α:Type}(l:List α)(f:α→V){u now:Int}{ns:List Int}{x:List (Nat×V)}(hx:(dw now x).length<LIM)(h0:decide (0<(l.length:Int)∧(l.length:Int)<100)=true){C:Prop}
  (k:∀a∈l,∀d m,0≤d→d<(l.length:Int)→aa prog 169 49 [.ref 102,.int (l.length:Int)] (op5 u ns now x)=some (.int d,op5 u ns m x)→(∀h,aJ prog (.tup (l.map f)) (.int d) h=some (f a))→C):C:=by
 have h0:=Z0 (p:=0<(l.length:Int)∧(l.length:Int)<100) h0
 have n1:=Zy now h0.1
 have n2:=Int.fmod_lt_of_pos now h0.1
 have p:=ye (n:=168) (show (op5 u ns now x)[102]?=some (.aP (dw now x))from rfl) (show au 32 (dw now x)=some (.int now)from rfl) h0.1 (Int.lt_trans h0.2 (by decide)) hx
 have e:(op5 u ns now x).set 102 (.aP (cg 32 (.int (now.fdiv (l.length:Int))) (dw now x)))=op5 u ns (now.fdiv (l.length:Int)) x:=rfl
 obtain⟨i,ei⟩:=Int.eq_ofNat_of_zero_le n1
 rw[ei]at n1 n2 p
 have p:=p.trans (congrArg (fun h=>some (V.int (i:Int),h)) e)
 have hi:=Int.ofNat_lt.mp n2
 refine (fun q:∀h,aJ prog (.tup (l.map f)) (.int (i:Int)) h=some (f l[i])=>?_) fun h=>?_
 have p':aa prog 169 49 [.ref 102,.int (l.length:Int)] (op5 u ns now x)=some (.int (i:Int),op5 u ns (now.fdiv (l.length:Int)) x):=p
 exact k l[i] (List.getElem_mem hi) (i:Int) (now.fdiv (l.length:Int)) n1 n2 p' q
 exact vY (fh (Nat.lt_trans hi (Int.ofNat_lt.mp (Int.lt_trans h0.2 (by decide))))) (by rw[Int.toNat_natCast,Zu,Zo hi];rfl)
noncomputable def roots:List K:=[.u4,.bool,.i8,.u8,.i4,.obj,.u1,.u2,.i1,.enm,.cl0,.ifc,.arr,.dlg,.nab,.var,.stc,.bj,.chr,.i2,.jk,.cl1]
theorem MH(vs:List V){ns:List Int}(hl:ns.length≤40){C:Prop}(k:∀(u:U) (c:Cl) (ns':List Int) (now:Int) (k1 k2:K) (v:Int),ns'.length≤40→lk k1=true→lk k2=true→0≤v→v<2→
  bB prog (aa prog 169) ((dX.drop 4).take 12) (lz vs [some (.ref 102),none,none,none,none,none,none,none,none,none,none,none,none]) (op5 (-1) ns 0 [])=some (.next,lz vs [some (.ref 102),some (.fl [.int k1.n,.int k2.n]),some (.int v),some (.ref 103),some .none,none,none,none,none,none,none,none,none],hp (psC u c ns' now))→C):C:=
 QZ hl fun ns' m0 hn t0=>vb [U.u1,.i1,.i2,.u2,.i4,.u4,.i8,.u8] (fun u=>.int u.k.n) (u:= -1) (now:=m0) (x:=[]) (ns:=ns') (Z0 rfl) rfl fun u ζ d1 m1 ζ ζ p1 q1=>
 vb [Cl.i4,.cl0,.stc] (fun c=>.int c.k.n) (u:= -1) (now:=m1) (x:=[(6,.int u.k.n)]) (ns:=ns') (Z0 rfl) rfl fun c ζ d2 m2 ζ ζ p2 q2=>
 vb roots K.v (u:=u.k.n) (now:=m2) (x:=[(6,.int u.k.n),(34,.int c.k.n)]) (ns:=ns') (Z0 rfl) rfl fun k1 h1 d3 m3 ζ ζ p3 q3=>
 vb roots K.v (u:=u.k.n) (now:=m3) (x:=[(6,.int u.k.n),(34,.int c.k.n)]) (ns:=ns') (Z0 rfl) rfl fun k2 h2 d4 m4 ζ ζ p4 q4=>
 vb [(0:Int),1] V.int (u:=u.k.n) (now:=m4) (x:=[(6,.int u.k.n),(34,.int c.k.n)]) (ns:=ns') (Z0 rfl) rfl fun ζ ζ d5 m5 a5 b5 p5 ζ=>
 k u c ns' m5 k1 k2 d5 hn (Zk (show roots.all lk=true from rfl) k1 h1) (Zk (show roots.all lk=true from rfl) k2 h2) a5 b5
  (Bp [.c ⟨_,_,t0⟩,.c ⟨_,_,p1⟩,.s ⟨_,_,q1 (op5 (-1) ns' m1 [])⟩,.c ⟨_,_,p2⟩,.s ⟨_,_,q2 (op5 (-1) ns' m2 [(6,.int u.k.n)])⟩,.c ⟨_,_,p3⟩,.s ⟨_,_,q3 (op5 u.k.n ns' m3 [(6,.int u.k.n),(34,.int c.k.n)])⟩,.c ⟨_,_,p4⟩,.s ⟨_,_,q4 (op5 u.k.n ns' m4 [(6,.int u.k.n),(34,.int c.k.n)])⟩,.c ⟨_,_,p5⟩] (by kernel_rfl))
section
variable{n m d:Nat}{st st':PS}{Γ Γ' Δ:List (K×Val)}{g:G}{k:K}{t:Tr}{ws:WS}{B:Int}
theorem zB(h:bT st Γ m d)(s:eV st st')(gi:cP st' Γ')(p:Γ<+:Γ')(hv:Γ'.length<900):bT st' Γ' m d:=
 ⟨s.code▸h.code,s.aO▸h.f7,s.free▸h.free,s.free▸fun q hq=>(h.bU q hq).imp fun l e=>⟨cL s.dyn e.1,e.2.1,fun x hx=>⟨s.locals▸ (e.2.2 x hx).1,s.aK▸ (e.2.2 x hx).2⟩⟩,s.locals▸h.locs,s.aO▸s.a9▸h.lab,
  s.aK▸s.locals▸fun q hq=>(h.ofl q hq).imp fun r e=>⟨cL p e.1,e.2⟩,s.aK▸s.locals▸h.lG,s.aK▸h.uniq,s.free▸h.keys,gi.dy,hv⟩
theorem Hb(h:bT st Γ m d):bT (st.wt ws) Γ m d:=⟨h.code,h.f7,h.free,h.bU,h.locs,h.lab,h.ofl,h.lG,h.uniq,h.keys,h.vars,h.nB⟩
theorem Bo(h:cP st Γ)(e:Ems B st st'):cP st' Γ:=by
 have c:=e.core
 have vr:st'.aF=st.aF:=congrArg (·.2.2.2.1) c
 exact⟨(congrArg (·.2.2.2.2.2.1) c).trans h.vals,vr▸h.vr,(congrArg (fun c=>c.2.2.2.2.1.length) c).trans h.ld,fun i p hp=>(h.dy i p hp).imp fun j e1=>⟨vr▸e1.1,e.vars j _ _ e1.2⟩,Z4 (Zi (congrArg (fun c=>c.1.length) c)) h.nums,(congrArg (·.2.2.1) c:st'.left=st.left)▸h.cnt,e.ext.g▸h.has⟩
structure Turn (val:Bool)(st:PS)(Γ:List (K×Val))(k:K)(m d:Nat)(t:Tr)(s1 s2 s3:PS)(Γ':List (K×Val))(mv:V):Prop where
 c1:subset prog (.ref 102) (.str 37) (.int 20) (hp st)=some (hp s1)
 c2:aa prog 169 54 [.ref 102,.int k.n,.int 0] (hp s1)=some (t.v,hp s2)
 c3:aa prog 169 68 [.ref 102,t.v] (hp s2)=some (mv,hp (s2.wt s3.ws))
 c4:Ct 169 (if val then 106 else 107) [.ref 103,t.v] (s2.wt s3.ws) .none s3
 mv:st.fault=.no→s3.fault=.no→mv=(aN st.g (aI Γ') t st.ws).1.v
 ws:s3.ws=if st.fault=.no then (aN st.g (aI Γ') t st.ws).2 else st.ws
 run:if val then EOk t st s3 else FOk t st s3
 gi:cP s3 Γ'
 ei:bT s3 Γ' (m+1000) d
 pre:Γ<+:Γ'
 num:Γ'.length≤Γ.length+29
 wt:WT st.g Γ' t
 kind:t.kind=k
 log:s3.log.length≤st.log.length+58
 ext:Ext st s3
theorem MN(val:Bool)(h:8*t.dp≤152)(hw:WT g Γ t):a8 g Γ (16*t.sz+1) t.lc fun s s'=>Ct 169 (if val then 106 else 107) [.ref 103,t.v] s .none s'∧if val then EOk t s s' else FOk t s s':=by
 obtain⟨ep,_,fp⟩:=aB t
 induction val
 ·exact ak (fun s s' ζ ζ e=>⟨mW e.1,e.2⟩) (fp g Γ 152 h hw)
 ·exact ai (ak (fun s s' ζ ζ e=>⟨bN e.1,e.2⟩) (ep g Γ 155 (Z4 h (by decide)) hw)) (Z7 _) (Z5 _)
theorem La(h:t.dp≤161)(hw:WT st.g Γ t)(hv:VOk st Γ)(hl:st.log.length+t.sz<LIM):∃mv,aa prog 169 68 [.ref 102,t.v] (hp st)=some (mv,hp (st.wt (if st.fault=.no then (aN st.g (aI Γ) t st.ws).2 else st.ws)))∧(st.fault=.no→(if st.fault=.no then (aN st.g (aI Γ) t st.ws).2 else st.ws).fault=.no→mv=(aN st.g (aI Γ) t st.ws).1.v):=by
 by_cases hf:st.fault=.no
 ·rw[if_pos hf]
  obtain⟨v,e,e1,_⟩:=d6 t 161 st h hf hw hv hl
  exact⟨v,e,fun ζ=>e1⟩
 ·rw[if_neg hf]
  exact⟨.int 0,Jd t hf,fun h=>absurd h hf⟩
theorem yA(val:Bool)(hk:lk k=true)(gi:cP st Γ)(hΓ:Γ.length≤40)(ei:bT st Γ m (d+29))(hm:m≤2000)(hlog:st.log.length≤100){C:Prop}(K:∀t s1 s2 s3 Γ' mv,Turn val st Γ k m d t s1 s2 s3 Γ' mv→C):C:=by
 have gi1:cP {st with left:=20} Γ:=⟨gi.vals,gi.vr,gi.ld,gi.dy,gi.nums,Zg (Int.add_le_add_right (Int.ofNat_le.mpr hΓ) 20) (by decide),gi.has⟩
 obtain⟨t,s2,Γ',c2,R⟩:=H4 169 {st with left:=20} Γ k (by decide) hk gi1 (show (-30:Int)≤20 by decide)
 have lo:(-9:Int)≤s2.left:=Zg (show (-9:Int)≤min (20-1) (2*((0:Nat):Int)-9)by decide) R.lo
 have cnt:(t.lc:Int)+s2.left≤20∧(Γ'.length:Int)+s2.left≤(Γ.length:Int)+20:=R.cnt
 have size:(t.sz:Int)+2*s2.left≤2*20:=R.size
 have dp:t.dp≤4:=R.dp
 have ar:t.lc≤29∧Γ'.length≤Γ.length+29∧t.sz≤58:=by lia
 clear cnt size lo
 have sm:eV st s2:=⟨R.same.g,R.same.log,R.same.fault,R.same.made,R.same.code,R.same.aO,R.same.a9,R.same.locals,R.same.aK,R.same.free,R.same.dyn,R.same.vr⟩
 have e2:=zB ei sm R.inv R.pre (Zl (Z4 ar.2.1 (Nat.add_le_add_right hΓ 29)) (by decide))
 have wt:WT st.g Γ' t:=R.wt
 have ws2:s2.ws=st.ws:=by
  show WS.mk s2.log s2.fault s2.made=_
  rw[sm.log,sm.fault,sm.made]
 obtain⟨mv,c3,hmv⟩:=La (st:=s2) (Z4 dp (by decide)) (sm.g▸wt) R.inv.vok (sm.log▸Zl (Nat.add_le_add hlog ar.2.2) (by decide))
 rw[sm.fault,ws2,sm.g]at c3 hmv
 have lg:(if st.fault=.no then (aN st.g (aI Γ') t st.ws).2 else st.ws).log.length≤st.log.length+58:=by
  split
  ·exact Z4 (cw t st.ws) (Zf ar.2.2 _)
  ·exact Z8 _ _
 generalize hw:(if st.fault=.no then (aN st.g (aI Γ') t st.ws).2 else st.ws)=w at*
 obtain⟨s3,ei3,em,c4,run⟩:=MN (g:=st.g) val (Z4 (Nat.mul_le_mul_left 8 dp) (by decide)) wt (s2.wt w) m d sm.g (Z4 (Nat.add_le_add hm (Nat.succ_le_succ (Nat.mul_le_mul_left 16 ar.2.2))) (by decide)) (Hb (e2.dn (Zf ar.1 d)))
 have ew:s3.ws=w:=by
  have c:=em.core
  show WS.mk s3.log s3.fault s3.made=_
  rw[show s3.log=w.log from congrArg (·.2.2.2.2.2.2.1) c,show s3.fault=w.fault from congrArg (·.2.2.2.2.2.2.2.1) c,show s3.made=w.made from congrArg (·.2.2.2.2.2.2.2.2) c]
 have xt:Ext st s3:=⟨em.ext.g.trans sm.g,sm.code▸em.ext.code,sm.aO▸em.ext.aO,sm.locals▸em.ext.locals,sm.aK▸sm.locals▸em.ext.ofl⟩
 refine K t {st with left:=20} s2 s3 Γ' mv ⟨(js kq nC).trans (congrArg some BN),c2,ew▸c3,ew▸c4,fun h1 h2=>hmv h1 (ew▸h2),ew.trans hw.symm,?_,Bo (st:=s2.wt w) ⟨R.inv.vals,R.inv.vr,R.inv.ld,R.inv.dy,R.inv.nums,R.inv.cnt,R.inv.has⟩ em,ei3.up (Zf (Z4 (Nat.succ_le_succ (Nat.mul_le_mul_left 16 ar.2.2)) (by decide)) m),R.pre,ar.2.1,wt,R.kind,?_,xt⟩
 ·have cd:(s2.wt w).code=st.code:=sm.code
  unfold EOk FOk at run⊢
  rw[cd]at run
  exact run
 ·exact (congrArg (·.log.length) ew:s3.log.length=_)▸lg
theorem eT{x y:Val×WS}{f f':Val→WS→Val×WS}(h:x=y)(k:∀a w,f a w=f' a w):andM x f=andM y f':=by
 subst h;rw[show f=f' from funext fun a=>funext (k a)]
theorem du(hp':Γ<+:Δ):∀(t:Tr) (ws:WS),WT g Γ t→aN g (aI Γ) t ws=aN g (aI Δ) t ws
 |.leaf (.loc k lid),ws,⟨i,e,v,hv,hk⟩=>by
  subst e
  show (aI Γ _,_)=(aI Δ _,_)
  rw[vc hv,vc (cL hp' hv)]
 |.leaf (.const ..),_,_|.leaf (.cK _),_,_|.leaf (.fY _),_,_|.leaf (.nul _),_,_=>rfl
 |.one o e,ws,w=>eT (du hp' e ws w.1) fun ζ ζ=>rfl
 |.bin k op l r c,ws,w=>eT (du hp' l ws w.1) fun a w'=>eT (du hp' r w' w.2.1) fun ζ ζ=>rfl
 |.bz a l r,ws,w=>eT (du hp' l ws w.1) fun x w'=>by rw[du hp' r w' w.2.1]
 |.cond k t a b,ws,w=>eT (du hp' t ws w.1) fun x w'=>by rw[du hp' a w' w.2.1,du hp' b w' w.2.2.1]
end
noncomputable def xM:List S:=[.aC (.loc 4) (.cst (.str 37)) (.cst (.int 20)),.asg 14 (.call 54 [(.loc 4),(.sub (.loc 5) (.loc 9)),(.cst (.int 0))]),.asg 15 (.call 68 [(.loc 4),(.loc 14)]),.ite (.cmp .eq (.loc 9) (.loc 6)) [.asg 8 (.tup [(.loc 14),(.loc 15)]),.ex (.af (.loc 7) 29 [(.loc 14)])] [.ex (.af (.loc 7) 74 [(.loc 14)])]]
noncomputable abbrev lT(vs:List V)(a b:V)(v:Int)(x8 x9 x14 x15:Option V):Loc:=lz vs [some (.ref 102),some (.fl [a,b]),some (.int v),some (.ref 103),x8,x9,none,none,none,none,x14,x15,none]
theorem EY{s0 s1 s2 s3 s4:PS}{vs:List V}{a b tv mv:V}{v i k:Int}{x8 x14 x15:Option V}{eq:Bool}(hi:(i=0∧a=.int k)∨(i=1∧b=.int k))(h1:subset prog (.ref 102) (.str 37) (.int 20) (hp s0)=some (hp s1))(h2:Ct 169 54 [.ref 102,.int k,.int 0] s1 tv s2)(h3:Ct 169 68 [.ref 102,tv] s2 mv s3)
  (he:decide (i=v)=eq) (h4:Ct 169 (if eq then 106 else 107) [.ref 103,tv] s3 .none s4):
  bB prog (aa prog 169) xM (lT vs a b v x8 (some (.int i)) x14 x15) (hp s0)=some (.next,lT vs a b v (if eq then some (.tup [tv,mv])else x8) (some (.int i)) (some tv) (some mv),hp s4):=by
 rcases hi with ⟨rfl,rfl⟩|⟨rfl,rfl⟩<;>induction eq<;>exact Bp [.h ⟨_,_,h1⟩,fC h2,fC h3,fB he,fC h4] (by kernel_rfl)
theorem iV{i:Nat}{ok:H→Bool}{body:Loc→H→Option (Flow×Loc×H)}{v:V}{r:List V}{l l2:Loc}{h h2:H}(ho:ok h=true)(hb:body (l.set i (some v)) h=some (.next,l2,h2)):gC i ok body (v::r) l h=gC i ok body r l2 h2:=by
 show (if ok h=true then (body _ _).bind _ else none)=_
 rw[if_pos ho,hb];rfl
theorem ES{vs:List V}{k1 k2:K}{v:Int}(hv:0≤v∧v<2){st0 s1 s2 s3 q1 q2 q3:PS}{Γ0 Γ1 Γ2:List (K×Val)}{m1 m2 d1 d2:Nat}{t1 t2:Tr}{v1 v2:V}(T1:Turn (decide (0=v)) st0 Γ0 k1 m1 d1 t1 s1 s2 s3 Γ1 v1)(T2:Turn (decide (1=v)) s3 Γ1 k2 m2 d2 t2 q1 q2 q3 Γ2 v2):
  evS prog (aa prog 169) (.forR 9 (.cst (.int 2)) xM) (lT vs (.int k1.n) (.int k2.n) v (some .none) none none none) (hp st0)
  =some (.next,lT vs (.int k1.n) (.int k2.n) v (some (if v=0 then .tup [t1.v,v1]else .tup [t2.v,v2])) (some (.int 1)) (some t2.v) (some v2),hp q3):=by
 have b1:=EY (vs:=vs) (a:=.int k1.n) (b:=.int k2.n) (x8:=some .none) (x14:=none) (x15:=none) (v:=v) (i:=0) (.inl ⟨rfl,rfl⟩) T1.c1 T1.c2 T1.c3 rfl T1.c4
 have b2:=EY (vs:=vs) (a:=.int k1.n) (b:=.int k2.n) (x8:=if decide (0=v)then some (.tup [t1.v,v1])else some .none) (x14:=some t1.v) (x15:=some v1) (v:=v) (i:=1) (.inr ⟨rfl,rfl⟩) T2.c1 T2.c2 T2.c3 rfl T2.c4
 show gC 9 (fun ζ=>true) (fun l h=>bB prog (aa prog 169) xM l h) [.int 0,.int 1] _ _=_
 refine (iV rfl b1).trans ((iV rfl b2).trans ?_)
 have:v=0∨v=1:=by lia
 rcases this with rfl|rfl<;>rfl
section
variable{st:PS}{Γ:List (K×Val)}{i:Nat}{ld:List (Int×V)}{lo:Nat→Option Int}{held:dP}{ws:WS}{q:K×Val}{m d:Nat}{vs:List V}{x5 x6 x8 x9 x10 x12 x13 x14 x15 x16:Option V}{p:Nat}
theorem Ks:(m4 st ld held ws)[(hp st).length+1]?=some (.list (held.map eX)):=d7 (A:=hp st) (i:=1)
theorem MJ:(m4 st ld held ws)[(hp st).length+2]?=some (.aM ld):=d7 (A:=hp st) (i:=2)
theorem f_m:(m4 st ld held ws)[(hp st).length+3]?=some (.aP (eI st ws)):=d7 (A:=hp st) (i:=3)
theorem zx{l:dP}:(m4 st ld held ws).set ((hp st).length+1) (.list (l.map eX))=m4 st ld l ws:=eZ (A:=hp st) (i:=1)
theorem zP{l:List (Int×V)}:(m4 st ld held ws).set ((hp st).length+2) (.aM l)=m4 st l held ws:=eZ (A:=hp st) (i:=2)
noncomputable def Cn:List S:=[.ite (.cmp .inn (.loc 12) (.attr (.loc 7) 21)) [.asg 16 (.sub (.attr (.loc 7) 21) (.loc 12)),.aC (.sub (.loc 11) (.cst (.str 11))) (.loc 16) (.loc 12),.aC (.sub (.loc 11) (.cst (.str 66))) (.loc 16) (.call 74 [(.loc 11),(.sub (.attr (.loc 7) 14) (.loc 16)),(.sub (.sub (.loc 4) (.cst (.str 36))) (.loc 12))])] []]
noncomputable abbrev lK(st:PS)(vs:List V)(x5 x6 x8 x9 x10 x12 x13 x14 x15 x16:Option V):Loc:=lz vs [some (.ref 102),x5,x6,some (.ref 103),x8,x9,x10,some (.ref ((hp st).length+3)),x12,x13,x14,x15,x16]
theorem eB{k j:Int}{v:V}:∀{l:List (Int×V)},au j (cg k v l)=if j=k then some v else au j l
 |[]=>rfl
 |(x,y)::r=>by
  show au j (if k=x then (x,v)::r else (x,y)::cg k v r)=if j=k then some v else if j=x then some y else au j r
  by_cases h:k=x
  ·subst h;rw[if_pos rfl]
   by_cases h2:j=k
   ·rw[if_pos h2];exact if_pos h2
   ·rw[if_neg h2,if_neg h2];exact if_neg h2
  ·rw[if_neg h]
   show (if j=x then some y else au j (cg k v r))=_
   rw[eB]
   by_cases h2:j=x
   ·rw[if_pos h2,if_neg fun e=>h (e.symm.trans h2),if_pos h2]
   ·rw[if_neg h2,if_neg h2]
theorem sR{k:Int}{v:V}:∀{l:List (Int×V)},(cg k v l).length≤l.length+1
 |[]=>Z5 _
 |(x,y)::r=>by
  show (if k=x then (x,v)::r else (x,y)::cg k v r).length≤_
  split
  ·exact Z7 _
  ·exact Nat.succ_le_succ sR
theorem mX{α β:Type}{f:α→β}:∀{l:List α},(l.map f).Nodup→∀{p q:α},p∈l→q∈l→f p=f q→p=q
 |a::r,h,p,q,hp',hq,e=>by
  have h:=List.nodup_cons.mp h
  rcases Zm hp' with h1|h1<;>rcases Zm hq with h2|h2
  ·exact h1.trans h2.symm
  ·exact absurd (h1▸e▸List.mem_map_of_mem h2) h.1
  ·exact absurd (h2▸e▸List.mem_map_of_mem h1) h.1
  ·exact mX h.2 h1 h2 e
structure oP (st:PS)(Γ:List (K×Val))(i:Nat)(ld:List (Int×V))(lo:Nat→Option Int)(held:dP):Prop where
 a:∀p:Nat,au (p:Int) ld=(lo p).map V.int
 l1:∀q∈st.aK,q.1<i→lo q.2=some ((q.1:Int)+1)
 l2:∀p,(∀q∈st.aK,q.2≠p)→lo p=none
 len:held.length=st.locals.length
 h:∀q∈st.aK,q.1<i→∀r,Γ[q.1]?=some r→held[q.2]?=some (some (cellOf st.g r.1 r.2))
 n:ld.length≤i
theorem Nn:oP st Γ 0 [] (fun ζ=>none) (List.replicate st.locals.length none):=⟨fun ζ=>rfl,fun ζ ζ h=>absurd h (Nat.not_lt_zero _),fun ζ ζ=>rfl,List.length_replicate,fun ζ ζ h=>absurd h (Nat.not_lt_zero _),Z5 0⟩
theorem HG(L:oP st Γ i ld lo held)(h:∀q∈st.aK,q.1≠i):oP st Γ (i+1) ld lo held:=
 have lt:∀q∈st.aK,q.1<i+1→q.1<i:=fun q hq hl=>Nat.lt_of_le_of_ne (Nat.le_of_lt_succ hl) (h q hq)
 ⟨L.a,fun q hq hl=>L.l1 q hq (lt q hq hl),L.l2,L.len,fun q hq hl=>L.h q hq (lt q hq hl),Nat.le_succ_of_le L.n⟩
theorem DB(L:oP st Γ i ld lo held)(u:(st.aK.map (·.1)).Nodup∧(st.aK.map (·.2)).Nodup)(hm:(i,p)∈st.aK)(hq:Γ[i]?=some q)(hp':p<st.locals.length):
  oP st Γ (i+1) (cg (p:Int) (.int ((i:Int)+1)) ld) (fun x=>if x=p then some ((i:Int)+1)else lo x) (held.set p (some (cellOf st.g q.1 q.2))):=by
 have key:∀z∈st.aK,z.1<i+1→(z=(i,p))∨(z.1<i∧z.2≠p):=fun z hz hl=>by
  by_cases e:z.2=p
  ·exact .inl (mX u.2 hz hm e)
  ·exact .inr ⟨Nat.lt_of_le_of_ne (Nat.le_of_lt_succ hl) fun e1=>e (congrArg (·.2) (mX u.1 hz hm e1)),e⟩
 refine ⟨fun x=>?_,fun z hz hl=>?_,fun x hx=>?_,by rw[List.length_set];exact L.len,fun z hz hl r hr=>?_,Z4 sR (Nat.succ_le_succ L.n)⟩
 ·rw[eB]
  by_cases e:x=p
  ·rw[if_pos (congrArg Nat.cast e),if_pos e];rfl
  ·rw[if_neg fun h:(x:Int)=p=>e (Int.ofNat.inj h),if_neg e];exact L.a x
 ·rcases key z hz hl with rfl|⟨h1,h2⟩
  ·exact if_pos rfl
  ·exact (if_neg h2).trans (L.l1 z hz h1)
 ·exact (if_neg fun e=>hx _ hm e.symm).trans (L.l2 x hx)
 ·rcases key z hz hl with rfl|⟨h1,h2⟩
  ·cases hq.symm.trans hr
   exact List.getElem?_set_self (by rw[L.len];exact hp')
  ·rw[List.getElem?_set_ne (Ne.symm h2)]
   exact L.h z hz h1 r hr
theorem Bn(ei:bT st Γ m d)(gi:cP st Γ)(hq:Γ[i]?=some q)(hi:i<1000)(L:oP st Γ i ld lo held){C:Prop}
  (go:∀ld' lo' held' y16,oP st Γ (i+1) ld' lo' held'→bB prog (aa prog 169) Cn (lK st vs x5 x6 x8 x9 x10 (some (.int ((i:Int)+1))) x13 x14 x15 x16) (m4 st ld held ⟨[],.no,0⟩)=some (.next,lK st vs x5 x6 x8 x9 x10 (some (.int ((i:Int)+1))) x13 x14 x15 y16,m4 st ld' held' ⟨[],.no,0⟩)→C):C:=by
 have i0:=BA (P:=prog) (h:=m4 st ld held ⟨[],.no,0⟩) (a:=107) (l:=encOf st.aK) (i:=(i:Int)+1) rfl
 rcases BG (i:=i) st.aK with ⟨e,hn⟩|⟨p,hm,e⟩
 ·rw[e]at i0
  exact go _ _ _ x16 (HG L hn) (Bp [.ov,.b ⟨_,_,i0⟩] (by kernel_rfl))
 ·rw[e]at i0
  obtain⟨r,h1,h2⟩:=ei.ofl _ hm
  cases hq.symm.trans h1
  have hpl:=cf h2
  have ll:=ei.locs
  have ix:idx (p:Int)=true:=fh (ZA hpl (Z4 (Nat.le_of_add_right_le ll) (by decide)))
  have s1:=(om (P:=prog) (i:=(p:Int)) (v:=.int ((i:Int)+1)) (MJ (st:=st) (ld:=ld) (held:=held) (ws:=⟨[],.no,0⟩)) (Zl L.n (Nat.lt_trans hi (by decide)))).trans (congrArg some zP)
  have hlt:(p:Int).toNat<(held.map eX).length:=by rw[Int.toNat_natCast,Z9,L.len];exact hpl
  have s2:=(xj (P:=prog) (v:=(cellOf st.g q.1 q.2).val) (Ks (st:=st) (ld:=cg (p:Int) (.int ((i:Int)+1)) ld) (held:=held) (ws:=⟨[],.no,0⟩)) ix hlt).trans (by rw[Int.toNat_natCast,show (held.map eX).set p (cellOf st.g q.1 q.2).val=(held.set p (some (cellOf st.g q.1 q.2))).map eX by rw[List.map_set];rfl,zx])
  have c1:=me (n:=166) (k:=q.1) (v:=q.2) (g:=st.g) (f_m (st:=st) (ld:=cg (p:Int) (.int ((i:Int)+1)) ld) (held:=held) (ws:=⟨[],.no,0⟩)) cY kV fun h=>(CM (gi.has i q hq) (K.imp (a:=fun k=>decide (k.n<11)) (b:=n11) rfl _ (Z1 h))).imp fun ζ e=>e.1
  exact go _ _ _ (some (.int (p:Int))) (DB L ei.uniq hm hq hpl) (Bp [.ov,.b ⟨_,_,i0⟩,.ov,.v ⟨_,_,ot (P:=prog) (h:=m4 st ld held ⟨[],.no,0⟩) (a:=107) rfl e⟩,.v ⟨_,_,bp (P:=prog) (c:=11) (f_m (st:=st) (ld:=ld) (held:=held) (ws:=⟨[],.no,0⟩)) rfl⟩,.h ⟨_,_,s1⟩,
   .ov,.v ⟨_,_,gr (P:=prog) (h:=m4 st (cg (p:Int) (.int ((i:Int)+1)) ld) held ⟨[],.no,0⟩) (a:=106) (v:=.int q.1.n) (l:=st.locals.map K.v) rfl ix (by rw[Int.toNat_natCast,Zu,h2];rfl)⟩,.ov,.v ⟨_,_,ot (P:=prog) (h:=m4 st (cg (p:Int) (.int ((i:Int)+1)) ld) held ⟨[],.no,0⟩) (a:=100) rfl (gi.vok i q hq)⟩,.c ⟨_,_,c1⟩,
   .v ⟨_,_,bp (P:=prog) (c:=66) (f_m (st:=st) (ld:=cg (p:Int) (.int ((i:Int)+1)) ld) (held:=held) (ws:=⟨[],.no,0⟩)) rfl⟩,.h ⟨_,_,s2⟩] (by kernel_rfl))
end
section
variable{st:PS}{Γ:List (K×Val)}{i:Nat}{ld:List (Int×V)}{lo:Nat→Option Int}{held:dP}{ws:WS}{q:K×Val}{m d:Nat}{vs:List V}{x5 x6 x8 x9 x10 x12 x13 x14 x15 x16:Option V}{p:Nat}{h:dP}{S:List Cell}{pc:Nat}
theorem u6(ei:bT st Γ m d)(gi:cP st Γ):∀(R:List (K×Val)) (i:Nat) (ld:List (Int×V)) (lo:Nat→Option Int) (held:dP) (x12 x16:Option V),(∀j,R[j]?=Γ[i+j]?)→i+R.length<1000→oP st Γ i ld lo held→∀{C:Prop},(∀ld' lo' held' y12 y16,oP st Γ (i+R.length) ld' lo' held'→
  gC 12 (hW 100 ((a7 st.vals).map (·.1))) (fun l h=>bB prog (aa prog 169) Cn l h) (((a7 (bC i R)).map (·.1)).map V.int) (lK st vs x5 x6 x8 x9 x10 x12 x13 x14 x15 x16) (m4 st ld held ⟨[],.no,0⟩)=some (.next,lK st vs x5 x6 x8 x9 x10 y12 x13 x14 x15 y16,m4 st ld' held' ⟨[],.no,0⟩)→C)→C
 |[],i,ld,lo,held,x12,x16,_,_,L,_,go=>go _ _ _ x12 x16 L (if_pos (Z1 (rfl:(a7 st.vals).map (·.1)=_)))
 |q::r,i,ld,lo,held,x12,x16,hR,hn,L,_,go=>Bn ei gi (hR 0).symm (Zl (Z8 _ _) hn) L fun ld1 lo1 held1 y16 L1 e1=>
  have e:i+(r.length+1)=i+1+r.length:=(Nat.add_right_comm i 1 r.length).symm
  u6 ei gi r (i+1) ld1 lo1 held1 (some (.int ((i:Int)+1))) y16 (fun j=>(hR (j+1)).trans (by rw[Nat.add_right_comm i 1 j];rfl)) (e▸hn) L1 fun ld2 lo2 held2 y12 z16 L2 e2=>go ld2 lo2 held2 y12 z16 (e▸L2) ((iV (Z1 (rfl:(a7 st.vals).map (·.1)=_)) e1).trans e2)
theorem uH:∀n:Nat,(List.replicate n [V.none]).flatten=((List.replicate n (none:Option Cell)).map eX)
 |0=>rfl
 |n+1=>by rw[List.replicate_succ,List.flatten_cons,uH n];rfl
theorem lE{P:Prog}{call:Nat→List V→H→Option (V×H)}{e:E}{r:List E}{l:Loc}{h h1 h2:H}{v:V}{vs:List V}(a:evE P call e l h=some (v,h1))(b:evL P call r l h1=some (vs,h2)):evL P call (e::r) l h=some (v::vs,h2):=by
 show (evE P call e l h).bind _=_
 rw[a]
 show (evL P call r l h1).bind _=_
 rw[b];rfl
theorem Hn(hl:st.locals.length≤64):bB prog (aa prog 169) ((dX.drop 17).take 2) (lz vs [some (.ref 102),x5,x6,some (.ref 103),x8,x9,none,none,none,none,x14,x15,x16]) (hp st)
  =some (.next,lK st vs x5 x6 x8 x9 (some (.int (st.locals.length:Int))) none none x14 x15 x16,m4 st [] (List.replicate st.locals.length none) ⟨[],.no,0⟩):=by
 have a1:evE prog (aa prog 169) (.len (.attr (.loc 7) 14)) (lz vs [some (.ref 102),x5,x6,some (.ref 103),x8,x9,none,none,none,none,x14,x15,x16]) (hp st)=some (.int (st.locals.length:Int),hp st):=by
  have e:=kg (P:=prog) (h:=hp st) (a:=106) (l:=st.locals.map K.v) rfl (by rw[Z9];exact Z4 hl (by decide))
  rw[Z9]at e
  show ((lenOf prog (.ref 106) (hp st)).bind _)=_
  rw[e];rfl
 have a2:evE prog (aa prog 169) (.rep [(.cst .none)] (.loc 10)) (lz vs [some (.ref 102),x5,x6,some (.ref 103),x8,x9,some (.int (st.locals.length:Int)),none,none,none,x14,x15,x16]) (hp st++[O.list []])=some (.ref (hp st++[O.list []]).length,hp st++[O.list []]++[O.list ((List.replicate st.locals.length (none:Option Cell)).map eX)]):=by
  rw[←uH]
  exact if_pos (Bool.and_eq_true_iff.mpr ⟨Bool.and_eq_true_iff.mpr ⟨Z1 (Int.natCast_nonneg _),Z1 (Int.ofNat_le.mpr hl)⟩,rfl⟩)
 have e:=lE (P:=prog) (call:=aa prog 169) (e:=.sub (.loc 4) (.cst (.str 6))) (l:=lz vs [some (.ref 102),x5,x6,some (.ref 103),x8,x9,some (.int (st.locals.length:Int)),none,none,none,x14,x15,x16]) (h:=hp st) (v:=.int st.g.und.k.n) (h1:=hp st) rfl (lE (e:=.sub (.loc 4) (.cst (.str 34))) (v:=.int st.g.clo.k.n) (h1:=hp st) rfl (lE (e:=.aX []) (v:=.ref (hp st).length) (h1:=hp st++[O.list []]) rfl (lE (e:=.cst (.str 0)) (v:=.str 0) (h1:=hp st++[O.list []]) rfl (lE (e:=.cst (.int 0)) (v:=.int 0) (h1:=hp st++[O.list []]) rfl (lE (e:=.attr (.loc 7) 14) (v:=.ref 106) (h1:=hp st++[O.list []]) rfl (lE a2 (lE (e:=.bE) (r:=[]) (vs:=[]) rfl rfl)))))))
 rw[show (dX.drop 17).take 2=[.asg 10 (.len (.attr (.loc 7) 14)),.asg 11 (.gG [6,34,57,52,53,65,66,11] [.sub (.loc 4) (.cst (.str 6)),.sub (.loc 4) (.cst (.str 34)),.aX [],.cst (.str 0),.cst (.int 0),.attr (.loc 7) 14,.rep [(.cst .none)] (.loc 10),.bE])]from rfl]
 have e2:evE prog (aa prog 169) (.gG [6,34,57,52,53,65,66,11] [.sub (.loc 4) (.cst (.str 6)),.sub (.loc 4) (.cst (.str 34)),.aX [],.cst (.str 0),.cst (.int 0),.attr (.loc 7) 14,.rep [(.cst .none)] (.loc 10),.bE]) (lz vs [some (.ref 102),x5,x6,some (.ref 103),x8,x9,some (.int (st.locals.length:Int)),none,none,none,x14,x15,x16]) (hp st)=some (.ref ((hp st).length+3),m4 st [] (List.replicate st.locals.length none) ⟨[],.no,0⟩):=by
  show (evL _ _ _ _ _).bind _=_
  rw[e]
  unfold m4 eI
  generalize hp st=H0
  simp only[Option.bind_some,Za,List.length_cons,List.length_nil,List.append_assoc,List.zip_cons_cons,List.zip_nil_right,List.cons_append,List.nil_append,Nat.zero_add,Nat.add_assoc,Nat.reduceAdd,List.map_nil]
  rfl
 exact fJ (oa a1) (fJ (oa e2) rfl)
theorem cS{H:H}:∀p:Pay,eqv p.v p.v H=some true
 |.i y=>rH.trans (congrArg some (Z1 rfl))
 |.s c=>xv.trans (congrArg some (Z1 rfl))
theorem Ln{g:G}{k:K}{H:H}:∀{v:Val},aE g k v→aa prog 169 83 [v.v,v.v] H=some (.bool true,H)
 |.none,_=>run [] (by kernel_rfl)
 |.int x,_=>run [.b ⟨_,_,cS (H:=H) (.i x)⟩] (by kernel_rfl)
 |.tok _ _,h=>h.elim
 |.ob x p id,_=>run [.b ⟨_,_,cS (H:=H) (.i x.n)⟩,.b ⟨_,_,cS (H:=H) p⟩,.b ⟨_,_,cS (H:=H) (.i id)⟩] (by kernel_rfl)
theorem rn:∀l:List Int,intsOf (l.map V.int)=some l
 |[]=>rfl
 |x::r=>congrArg (Option.map (x:: ·)) (rn r)
theorem yi{s:MS}(hw:s.ws.log=st.log):eqv (.ref (hp st).length) (.ref 101) (mh st ld s)=some true:=by
 show (lst _ _).bind _=_
 rw[jd Br,Option.bind_some,jd (show (mh st ld s)[101]?=some (.list (st.log.map V.int))from rU rfl),Option.bind_some,rn,Option.bind_some,rn,Option.bind_some,hw,Z1 rfl]
theorem vD{x y:V}{H:H}{b:Bool}(e:eqv x y H=some b):iz prog .ne x y H=some (!b):=by
 show (eqv x y H).bind _=_
 rw[e];rfl
noncomputable abbrev mE(st:PS)(S:List Cell)(pc:Nat)(h:dP):MS:=⟨S,pc,h,st.ws⟩
theorem PR{f:Nat}(ef:st.fault.c=f)(hf:decide (f=0)=false):cR (bB prog (aa prog 169) (dX.drop 21) (lK st vs x5 x6 x8 x9 x10 x12 (some (.ref ((hp st).length+4))) x14 x15 x16) (mh st ld (mE st S pc h)))=some (.bool true,mh st ld (mE st S pc h)):=by
 have g1:=bp (P:=prog) (c:=52) (m_m (st:=st) (ld:=ld) (s:=mE st S pc h)) Dk
 have g2:=bp (P:=prog) (c:=52) (H:=mh st ld (mE st S pc h)) (a:=102) (d:=wd st) (v:=.str st.fault.c) rfl rfl
 rw[show (mE st S pc h).ws.fault.c=f from ef]at g1
 rw[ef]at g2
 exact dz [.v ⟨_,_,g1⟩,.v ⟨_,_,g2⟩,.b ⟨_,_,vD (x:=.str f) (H:=mh st ld (mE st S pc h)) (cS (.s f))⟩,.v ⟨_,_,bp (P:=prog) (c:=57) (m_m (st:=st) (ld:=ld) (s:=mE st S pc h)) rfl⟩,.ov,.b ⟨_,_,vD (yi (s:=mE st S pc h) (ld:=ld) rfl)⟩,.v ⟨_,_,g2⟩,.b ⟨_,_,vD (H:=mh st ld (mE st S pc h)) (xv.trans (congrArg some hf))⟩] (by kernel_rfl)
theorem FA:∀t:Tr,(decide (t.code=17)=true∧fk t.kind=true∧t.ti=true)∨decide (t.code=17)=false∨decide (t.code=17)=true∧fk t.kind=false
 |.cond k _ _ _=>by
  cases h:fk k
  ·exact .inr (.inr ⟨rfl,h⟩)
  ·exact .inl ⟨rfl,h,h⟩
 |.leaf (.loc ..)|.leaf (.const ..)|.leaf (.cK _)|.leaf (.fY _)|.leaf (.nul _)|.one (.un ..) _|.one (.conv ..) _|.one (.is _) _|.one (.as _) _|.bin .. |.bz true _ _|.bz false _ _=>.inr (.inl rfl)
theorem Ob{t:Tr}{v:Val}{k3:Int}(hf:st.fault=.no)(ht:t.ti=true→k3=t.kind.n)(hv:aE st.g t.kind v):
  cR (bB prog (aa prog 169) (dX.drop 21) (lK st vs x5 x6 (some (.tup [t.v,v.v])) x9 x10 x12 (some (.ref ((hp st).length+4))) x14 x15 x16) (mh st ld (mE st [cellK st.g t.kind v k3] pc h)))=some (.bool true,mh st ld (mE st [cellK st.g t.kind v k3] pc h)):=by
 obtain⟨r,e⟩:=t.n8
 rw[e]
 have g1:=bp (P:=prog) (c:=52) (m_m (st:=st) (ld:=ld) (s:=mE st [cellK st.g t.kind v k3] pc h)) (jn hf)
 have g2:=bp (P:=prog) (c:=52) (H:=mh st ld (mE st [cellK st.g t.kind v k3] pc h)) (a:=102) (d:=wd st) (v:=.str 0) rfl (by rw[←show st.fault.c=0 by rw[hf];rfl];rfl)
 have g3:=bp (P:=prog) (c:=57) (m_m (st:=st) (ld:=ld) (s:=mE st [cellK st.g t.kind v k3] pc h)) rfl
 have e0:=vD (x:=.str 0) (H:=mh st ld (mE st [cellK st.g t.kind v k3] pc h)) (cS (.s 0))
 have el:=vD (yi (s:=mE st [cellK st.g t.kind v k3] pc h) (ld:=ld) rfl)
 have ln:=kg (P:=prog) (ub (st:=st) (ld:=ld) (s:=mE st [cellK st.g t.kind v k3] pc h)) (show 1≤LIM by decide)
 have sb:=gr (P:=prog) (i:=0) (v:=(cellK st.g t.kind v k3).val) (ub (st:=st) (ld:=ld) (s:=mE st [cellK st.g t.kind v k3] pc h)) rfl rfl
 have e1:=vD (x:=.int 1) (H:=mh st ld (mE st [cellK st.g t.kind v k3] pc h)) (cS (.i 1))
 have c1:=rF (n:=165) (kk:=k3) (m_m (st:=st) (ld:=ld) (s:=mE st [cellK st.g t.kind v k3] pc h)) cY kV hv
 have c2:=Ln (H:=mh st ld (mE st [cellK st.g t.kind v k3] pc h)) hv
 have i1:=K.eqf (f:=fun k=>isIn prog (.int k.n) (.tup [.int 22,.int 23,.int 24]) (mh st ld (mE st [cellK st.g t.kind v k3] pc h))) (g:=fun k=>some (fk k)) (by kernel_rfl) t.kind
 have ec:=rH (a:=t.code) (b:=17) (h:=mh st ld (mE st [cellK st.g t.kind v k3] pc h))
 rcases FA t with ⟨h1,h2,h3⟩|h1|⟨h1,h2⟩
 ·rw[h1]at ec
  rw[h2]at i1
  have e3:=vD (x:=.int k3) (y:=.int t.kind.n) (H:=mh st ld (mE st [cellK st.g t.kind v k3] pc h)) (rH.trans (congrArg some (Z1 (ht h3))))
  exact dz [.v ⟨_,_,g1⟩,.v ⟨_,_,g2⟩,.b ⟨_,_,e0⟩,.v ⟨_,_,g3⟩,.ov,.b ⟨_,_,el⟩,.v ⟨_,_,g2⟩,.b ⟨_,_,e0⟩,.n ⟨_,_,ln⟩,.b ⟨_,_,e1⟩,.b ⟨_,_,ec⟩,.b ⟨_,_,i1⟩,.v ⟨_,_,sb⟩,.b ⟨_,_,e3⟩,.v ⟨_,_,sb⟩,.c ⟨_,_,c1⟩,.c ⟨_,_,c2⟩,.v ⟨_,_,g1⟩,.b ⟨_,_,cS (H:=mh st ld (mE st [cellK st.g t.kind v k3] pc h)) (.s 0)⟩] (by kernel_rfl)
 ·rw[h1]at ec
  exact dz [.v ⟨_,_,g1⟩,.v ⟨_,_,g2⟩,.b ⟨_,_,e0⟩,.v ⟨_,_,g3⟩,.ov,.b ⟨_,_,el⟩,.v ⟨_,_,g2⟩,.b ⟨_,_,e0⟩,.n ⟨_,_,ln⟩,.b ⟨_,_,e1⟩,.b ⟨_,_,ec⟩,.v ⟨_,_,sb⟩,.c ⟨_,_,c1⟩,.c ⟨_,_,c2⟩,.v ⟨_,_,g1⟩,.b ⟨_,_,cS (H:=mh st ld (mE st [cellK st.g t.kind v k3] pc h)) (.s 0)⟩] (by kernel_rfl)
 ·rw[h1]at ec
  rw[h2]at i1
  exact dz [.v ⟨_,_,g1⟩,.v ⟨_,_,g2⟩,.b ⟨_,_,e0⟩,.v ⟨_,_,g3⟩,.ov,.b ⟨_,_,el⟩,.v ⟨_,_,g2⟩,.b ⟨_,_,e0⟩,.n ⟨_,_,ln⟩,.b ⟨_,_,e1⟩,.b ⟨_,_,ec⟩,.b ⟨_,_,i1⟩,.v ⟨_,_,sb⟩,.c ⟨_,_,c1⟩,.c ⟨_,_,c2⟩,.v ⟨_,_,g1⟩,.b ⟨_,_,cS (H:=mh st ld (mE st [cellK st.g t.kind v k3] pc h)) (.s 0)⟩] (by kernel_rfl)
end
section
section
variable{E:FE}{a b:Val×WS}{A:MS}{q:WS}{P Q:aD}{R:Val→Val→List Cell→Nat→dP→Prop}
theorem uV(h:Goes E A a P)(k:∀S pc h,P a.1 S pc h→Q a.1 S pc h):Goes E A a Q:=h.imp fun ζ h=>h.imp fun ζ h=>h.imp fun ζ h=>⟨h.1,fun hf=>k _ _ _ (h.2 hf)⟩
theorem Cj(g1:Goes E A a P)(h0:a.2.fault≠.no→q=a.2)(h1:a.2.fault=.no→q=b.2∧∀S pc h,P a.1 S pc h→Goes E ⟨S,pc,h,a.2⟩ b (R a.1)):∃S pc h,gy E.sf E.lo A ⟨S,pc,h,q⟩∧(q.fault=.no→a.2.fault=.no∧R a.1 b.1 S pc h):=by
 obtain⟨S,pc,h,st,hP⟩:=g1
 by_cases hf:a.2.fault=.no
 ·obtain⟨e,k⟩:=h1 hf
  obtain⟨S2,pc2,h2,st2,hR⟩:=k S pc h (hP hf)
  subst e
  exact⟨S2,pc2,h2,st.trans st2,fun hq=>⟨hf,hR hq⟩⟩
 ·have e:=h0 hf
  subst e
  exact⟨S,pc,h,st,fun hq=>absurd hq hf⟩
end
variable{vs:List V}{v:Int}{st0 s1 s2 s3 q1 q2 q3:PS}{Γ1 Γ2:List (K×Val)}{k1 k2:K}{m1 m2 d1 d2:Nat}{t1 t2:Tr}{v1 v2:V}{lo:Nat→Option Int}{held:dP}
theorem y1(hv:0≤v∧v<2)(T1:Turn (decide (0=v)) st0 [] k1 m1 d1 t1 s1 s2 s3 Γ1 v1)(T2:Turn (decide (1=v)) s3 Γ1 k2 m2 d2 t2 q1 q2 q3 Γ2 v2)(h0:st0.ws=⟨[],.no,0⟩)(hc:st0.code=[])(F:Fin ⟨q3,lo,Γ2⟩ q3)(H:aL ⟨q3,lo,Γ2⟩ held):
  ∃S pc h,gy q3 lo ⟨[],0,held,⟨[],.no,0⟩⟩ ⟨S,pc,h,q3.ws⟩∧(q3.fault=.no→∃(t:Tr) (x:Val) (k3:Int),(if v=0 then V.tup [t1.v,v1]else .tup [t2.v,v2])=.tup [t.v,x.v]∧S=[cellK q3.g t.kind x k3]∧pc=q3.code.length∧(t.ti=true→k3=t.kind.n)∧aE q3.g t.kind x):=by
 have g2:q3.g=s3.g:=T2.ext.g
 have g1:q3.g=st0.g:=g2.trans T1.ext.g
 have w1:WT q3.g Γ2 t1:=g1▸T1.wt.mono T2.pre
 have w2:WT q3.g Γ2 t2:=g2▸T2.wt
 have F1:=F.back T2.ext
 have f0:st0.fault=.no:=congrArg WS.fault h0
 have e1:aN st0.g (aI Γ1) t1 st0.ws=aN q3.g (aI Γ2) t1 ⟨[],.no,0⟩:=by rw[du T2.pre t1 _ T1.wt,g1,h0]
 have ws1:=T1.ws
 have mv1:=T1.mv f0
 rw[if_pos f0,e1]at ws1
 rw[e1]at mv1
 have ws2:=T2.ws
 have mv2:=T2.mv
 have f3:s3.fault=s3.ws.fault:=rfl
 rw[←g2,ws1]at ws2 mv2
 rw[f3,ws1]at ws2 mv2 mv1
 have r1:=T1.run
 have r2:=T2.run
 have n0:∀{p:(aN q3.g (aI Γ2) t1 ⟨[],.no,0⟩).2.fault≠.no},q3.ws=(aN q3.g (aI Γ2) t1 ⟨[],.no,0⟩).2:=fun {p}=>ws2.trans (if_neg p)
 have n1:∀{p:(aN q3.g (aI Γ2) t1 ⟨[],.no,0⟩).2.fault=.no},q3.ws=(aN q3.g (aI Γ2) t2 (aN q3.g (aI Γ2) t1 ⟨[],.no,0⟩).2).2:=fun {p}=>ws2.trans (if_pos p)
 have hv:v=0∨v=1:=by lia
 rcases hv with rfl|rfl
 ·have go:=Cj (q:=q3.ws) (b:=aN q3.g (aI Γ2) t2 (aN q3.g (aI Γ2) t1 ⟨[],.no,0⟩).2) (R:=fun x ζ S pc h=>∃k3,S=[cellK q3.g t1.kind x k3]∧pc=q3.code.length∧(t1.ti=true→k3=t1.kind.n)) ((show EOk t1 st0 s3 from r1) _ F1 w1 [] held ⟨[],.no,0⟩ rfl H) (fun p=>n0 (p:=p)) fun p=>⟨n1 (p:=p),fun S pc h ⟨k3,eS,ep,H',ht⟩=>by
   subst eS ep
   exact uV ((show FOk t2 s3 q3 from r2) _ F w2 _ h _ p H') fun S pc h e=>⟨k3,e.1,e.2.1,ht⟩⟩
  rw[hc]at go
  obtain⟨S,pc,h,st,hQ⟩:=go
  refine ⟨S,pc,h,st,fun hq=>?_⟩
  obtain⟨p,k3,eS,ep,ht⟩:=hQ hq
  exact⟨t1,_,k3,by rw[if_pos rfl,mv1 p],eS,ep,ht,aR t1 _ w1 p⟩
 ·have go:=Cj (q:=q3.ws) (b:=aN q3.g (aI Γ2) t2 (aN q3.g (aI Γ2) t1 ⟨[],.no,0⟩).2) (R:=fun ζ y S pc h=>∃k3,S=[cellK q3.g t2.kind y k3]∧pc=q3.code.length∧(t2.ti=true→k3=t2.kind.n)) ((show FOk t1 st0 s3 from r1) _ F1 w1 [] held ⟨[],.no,0⟩ rfl H) (fun p=>n0 (p:=p)) fun p=>⟨n1 (p:=p),fun S pc h ⟨eS,ep,H'⟩=>by
   subst eS ep
   exact uV ((show EOk t2 s3 q3 from r2) _ F w2 _ h _ p H') fun S pc h e=>e.imp fun k3 e=>⟨e.1,e.2.1,e.2.2.2⟩⟩
  rw[hc]at go
  obtain⟨S,pc,h,st,hQ⟩:=go
  refine ⟨S,pc,h,st,fun hq=>?_⟩
  obtain⟨p,k3,eS,ep,ht⟩:=hQ hq
  have fq:(aN q3.g (aI Γ2) t2 (aN q3.g (aI Γ2) t1 ⟨[],.no,0⟩).2).2.fault=.no:=n1 (p:=p)▸hq
  exact⟨t2,_,k3,by rw[if_neg (by decide),mv2 p hq],eS,ep,ht,aR t2 _ w2 fq⟩
theorem PX(u:U)(c:Cl)(ns:List Int)(now:Int)(h:ns.length≤40):cP (psC u c ns now) []:=
 ⟨rfl,rfl,rfl,fun i p hp=>(nomatch (show none=some p from hp)),h,by show ((0:Nat):Int)+0≤100;decide,fun i p hp=>nomatch hp⟩
theorem OP(u:U)(c:Cl)(ns:List Int)(now:Int):bT (psC u c ns now) [] 0 64:=
 ⟨Z5 0,Z5 0,Z5 0,fun p hp=>(nomatch hp),Z5 64,fun p hp=>(nomatch hp),fun p hp=>(nomatch hp),Z5 0,⟨List.nodup_nil,List.nodup_nil⟩,List.nodup_nil,fun i q hq=>(nomatch (show none=some q from hq)),by decide⟩
theorem Nu{ld:List (Int×V)}{n:Nat}(hn:∀q∈q3.aK,q.1<n)(L:oP q3 Γ2 n ld lo held):Fin ⟨q3,lo,Γ2⟩ q3∧aL ⟨q3,lo,Γ2⟩ held:=
 ⟨⟨.refl q3,fun q hq=>L.l1 q hq (hn q hq),L.l2⟩,L.len,fun q hq=>L.h q hq (hn q hq)⟩
theorem zm:oC:=fun ks hk=>MH (ks.map V.int) (ns:=ks.take 40) (by rw[List.length_take];exact Nat.min_le_left _ _) fun u c ns now k1 k2 v hn hk1 hk2 a5 b5 p10=>
 yA (st:=psC u c ns now) (Γ:=[]) (m:=0) (d:=35) (decide (0=v)) hk1 (PX u c ns now hn) (Nat.zero_le _) (OP u c ns now) (Nat.zero_le _) (Nat.zero_le _) fun t1 s1 s2 s3 Γ1 v1 T1=>
 have n1:Γ1.length≤29:=Z4 T1.num (by decide)
 yA (d:=6) (decide (1=v)) hk2 T1.gi (Z4 n1 (by decide)) T1.ei (by decide) (Z4 T1.log (show 0+58≤100 by decide)) fun t2 q1 q2 q3 Γ2 v2 T2=>
 have n2:Γ2.length≤58:=Z4 T2.num (Nat.add_le_add_right n1 29)
 u6 (vs:=ks.map V.int) (x5:=some (.fl [.int k1.n,.int k2.n])) (x6:=some (.int v)) (x8:=some (if v=0 then .tup [t1.v,v1]else .tup [t2.v,v2])) (x9:=some (.int 1)) (x10:=some (.int (q3.locals.length:Int))) (x13:=none) (x14:=some t2.v) (x15:=some v2) T2.ei T2.gi Γ2 0 [] (fun ζ=>none) (List.replicate q3.locals.length none) none none (fun j=>by rw[Nat.zero_add]) (by rw[Nat.zero_add];exact Zl n2 (by decide)) Nn fun ld lo held y12 y16 L pk=>by
 have ll:q3.locals.length≤64:=Nat.le_of_add_right_le T2.ei.locs
 obtain⟨F,Hh⟩:=Nu (fun q hq=>(T2.ei.ofl q hq).elim fun r e=>by rw[Nat.zero_add];exact cf e.1) L
 obtain⟨S,pc,h,steps,hval⟩:=y1 ⟨a5,b5⟩ T1 T2 rfl rfl F Hh
 have hfin:q3.ws.fault≠.no∨q3.code.length≤pc:=by
  by_cases hf:q3.ws.fault=.no
  ·obtain⟨_,_,_,_,_,e,_⟩:=hval hf
   exact .inr (Zi e.symm)
  ·exact .inl hf
 have run:=Ld (n:=158) (ld:=ld) (s':=mE q3 S pc h) (Zl T2.ei.code (by decide)) (Zl ll (by decide)) L.a steps hfin (by rw[L.len];exact Zl ll (by decide)) (Nat.zero_le _)
 have tail:cR (bB prog (aa prog 169) (dX.drop 21) (lK q3 (ks.map V.int) (some (.fl [.int k1.n,.int k2.n])) (some (.int v)) (some (if v=0 then .tup [t1.v,v1]else .tup [t2.v,v2])) (some (.int 1)) (some (.int (q3.locals.length:Int))) y12 (some (.ref ((hp q3).length+4))) (some t2.v) (some v2) y16) (mh q3 ld (mE q3 S pc h)))=some (.bool true,mh q3 ld (mE q3 S pc h)):=by
  by_cases hf:q3.fault=.no
  ·obtain⟨t,x,k3,et,eS,_,ht,hx⟩:=hval hf
   subst eS
   rw[et]
   exact Ob hf ht hx
  ·exact PR rfl (Ea hf)
 refine ⟨mh q3 ld (mE q3 S pc h),?_⟩
 rw[lh (np:=1) (nl:=17) (b:=dX) rfl rfl,←tail]
 have o1:=fJ (r:=[]) (X:=some (Flow.next,_,_)) (ES (vs:=ks.map V.int) ⟨a5,b5⟩ T1 T2) rfl
 have o2:evS prog (aa prog 169) (.wW 12 (.sub (.loc 4) (.cst (.str 36))) Cn) (lK q3 (ks.map V.int) (some (.fl [.int k1.n,.int k2.n])) (some (.int v)) (some (if v=0 then .tup [t1.v,v1]else .tup [t2.v,v2])) (some (.int 1)) (some (.int (q3.locals.length:Int))) none none (some t2.v) (some v2) none) (m4 q3 [] (List.replicate q3.locals.length none) ⟨[],.no,0⟩)=some (.next,lK q3 (ks.map V.int) (some (.fl [.int k1.n,.int k2.n])) (some (.int v)) (some (if v=0 then .tup [t1.v,v1]else .tup [t2.v,v2])) (some (.int 1)) (some (.int (q3.locals.length:Int))) y12 none (some t2.v) (some v2) y16,m4 q3 ld held ⟨[],.no,0⟩):=by
  show gC 12 (hW 100 ((a7 q3.vals).map (·.1))) (fun l h=>bB prog (aa prog 169) Cn l h) (((a7 q3.vals).map (·.1)).map V.int) _ _=_
  rw[show ((a7 q3.vals).map (·.1)).map V.int=((a7 (bC 0 Γ2)).map (·.1)).map V.int by rw[T2.gi.vals]]
  exact pk
 have o2:=fJ (r:=[]) (X:=some (Flow.next,_,_)) o2 rfl
 have o3:=fJ (r:=[]) (X:=some (Flow.next,_,_)) (oa (P:=prog) (call:=aa prog 169) (h:=m4 q3 ld held ⟨[],.no,0⟩) (v:=.ref ((hp q3).length+4)) (h1:=mh q3 ld (mE q3 S pc h)) (i:=13) (e:=.call 82 [(.loc 11),(.attr (.loc 7) 75),(.attr (.loc 7) 76)]) (l:=lK q3 (ks.map V.int) (some (.fl [.int k1.n,.int k2.n])) (some (.int v)) (some (if v=0 then .tup [t1.v,v1]else .tup [t2.v,v2])) (some (.int 1)) (some (.int (q3.locals.length:Int))) y12 none (some t2.v) (some v2) y16) run) rfl
 have split:dX=dX.take 3++((dX.drop 3).take 1++((dX.drop 4).take 12++([.forR 9 (.cst (.int 2)) xM]++((dX.drop 17).take 2++([.wW 12 (.sub (.loc 4) (.cst (.str 36))) Cn]++([.asg 13 (.call 82 [(.loc 11),(.attr (.loc 7) 75),(.attr (.loc 7) 76)])]++dX.drop 21)))))):=rfl
 refine congrArg cR ((congrArg (fun b=>bB prog (aa prog 169) b _ _) split).trans ?_)
 refine (dk _ (Nw _)).trans ?_
 refine (dk _ (Nx hk)).trans ?_
 refine (dk _ p10).trans ?_
 refine (dk _ o1).trans ?_
 refine (dk _ (Hn ll)).trans ?_
 refine (dk _ o2).trans ?_
 exact dk _ o3
theorem MW:PySem.Challenge.rw_sj0013_01.Holds:=nE zm
end
end Mini.Internal.Pl
end
end
theorem PySem.Challenge.cw_sj0013_01_holds : PySem.Challenge.rw_sj0013_01.Holds :=
 Mini.Internal.Pl.MW
