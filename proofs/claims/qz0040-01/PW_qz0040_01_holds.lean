import PyProof.Rows.All
import Wide.All
import OpenK.AllK
import Wide.FinOn
import Lean
import PySem.Challenge.RW_qz0040_01
open PySem PySem.W PySem.Calls PyProof.Rows
set_option Elab.async false
set_option maxRecDepth 100000
set_option maxHeartbeats 0
set_option linter.all false
set_option genCtorIdx false
set_option genSizeOf false
set_option genInjectivity false
set_option bootstrap.genMatcherCode false
set_option compiler.extract_closed false
set_option compiler.reuse false
namespace Mine.Internal
noncomputable def kept:Stmt->Bool
 | .Assign [.Name nm _] _ _=>nm !=("__name__" :Str)
 |_=>true
noncomputable def q0:Program:={PySem.Challenge.pw_qz0040_01 with main:={PySem.Challenge.pw_qz0040_01.main with body:=PySem.Challenge.pw_qz0040_01.main.body.filter kept}}
noncomputable def wf(aW:SharedT->Thread->Option (SharedT×Thread))(ok:Thread->Bool):Nat->SharedT->Thread->Option SharedT
 |0,_,_=>none
 |n+1,s,t=>match through t with
  |true=>some s
  |false=>match ok t with
   |false=>none
   |true=>match aW s t with
    |some (s',t')=>wf aW ok n s' t'
    |none=>none
noncomputable def tC:List Obj->Nat->BT->Option (BT×Nat)
 |[],n,t=>some (t,n)
 |o::l,n,t=>match ((t.ins n o).get n).isSome with
  |true=>tC l (n+1) (t.ins n o)
  |false=>none
theorem CT{tb:String->Option Builtin}{p:Program}{w:World}{yL:Nat}{ann:Option Value}: ∀{n:Nat} {s s':SharedT} {t:Thread},wf (stepT (denote tb) p w) (stepOk yL ann) n s t=some s'->topRun tb p w yL ann n s.abs t=some s'.abs
 |0,_,_,_,h=>by cases h
 |n+1,s,s',t,h=>by
  unfold wf at h;unfold topRun
  cases he:through t with
  |true=>rw[he] at h;cases h;rfl
  |false=>
   rw[he] at h
   cases hk:stepOk yL ann t with
   |false=>rw[hk] at h;cases h
   |true=>
    rw[hk] at h
    cases hs:stepT (denote tb) p w s t with
    |none=>rw[hs] at h;cases h
    |some r=>obtain ⟨aZ,yM⟩:=r;rw[hs] at h;rw[stepT_spec hs];exact CT h
theorem CU{life:Life}: ∀{l:List Obj} {n:Nat} {t T:BT} {m:Nat},tC l n t=some (T,m)->absHeap T m life=⟨(t.list n++l).toArray,life⟩
 |[],n,t,T,m,h=>by cases h;rw[List.append_nil];rfl
 |o::l,n,t,T,m,h=>by
  unfold tC at h
  cases he:((t.ins n o).get n).isSome with
  |false=>rw[he] at h;cases h
  |true=>
   rw[he] at h;rw[CU (l:=l) h];have e:=absHeap_ins (life:=life) he;have e1:((t.ins n o).list (n+1)).toArray=(t.list n).toArray.push o:=congrArg Heap.objs e;have e2:(t.ins n o).list (n+1)=t.list n++[o]:=by
    have:=congrArg Array.toList e1;simpa using this
   rw[e2,List.append_assoc];rfl
noncomputable def wh(tb:String->Option Builtin)(p:Program)(w:World)(N:Nat)(s₀:Shared):Option Shared:=
 match s₀.heap.isNs mainGlobals&&s₀.gens.size==0 with
 |true=>match tC s₀.heap.objs.toList 0 .nil with
  |some (T,n)=>(wf (stepT (denote tb) p w) (stepOk s₀.heap.objs.size (s₀.heap.nsMap mainGlobals "__annotations__")) N ⟨T,n,s₀.heap.life,s₀.gens,s₀.drawn,s₀.toks,s₀.os⟩ (topStub p)).bind λak=>
   match staticsOk (importedModules p.main.body) s₀.heap ak.abs.heap&&namesBound p ak.abs.heap&&gensDone ak.abs&&laidKept s₀.heap ak.abs.heap with
   |true=>some ak.abs
   |false=>none
  |none=>none
 |false=>none
theorem CV{p:Program}{w:World}{N:Nat}{α:Type}{f:Shared->α}{x:α}(h:((fencedOpening treeTable p w N).bind (wh treeTable p w N)).map f=some x):(openEnds treeTable p w N).map f=some x:=by
 unfold openEnds;obtain ⟨s,hs,rfl⟩:=Option.map_eq_some_iff.mp h;obtain ⟨s₀,e0,hs⟩:=Option.bind_eq_some_iff.mp hs;rw[e0];show Option.map f (topFrom treeTable p w N s₀)=_
 suffices q:topFrom treeTable p w N s₀=some s by rw[q];rfl
 unfold wh at hs;unfold topFrom
 cases a:(s₀.heap.isNs mainGlobals&&s₀.gens.size==0) with
 |false=>rw[a] at hs;cases hs
 |true=>
  rw[a] at hs
  cases b:tC s₀.heap.objs.toList 0 .nil with
  |none=>rw[b] at hs;cases hs
  |some r=>
   obtain ⟨T,n⟩:=r;rw[b] at hs;obtain ⟨ak,e1,hs⟩:=Option.bind_eq_some_iff.mp hs;have e2:=CT e1;have e3:(⟨T,n,s₀.heap.life,s₀.gens,s₀.drawn,s₀.toks,s₀.os⟩:SharedT).abs=s₀:=by
    have:=CU (life:=s₀.heap.life) b;unfold SharedT.abs;dsimp only;rw[this];rfl
   rw[e3] at e2;dsimp only;rw[e2];dsimp only[Option.bind_some];exact hs
theorem Ke{α β γ:Type}{o:Option α}{f:α->β}{g:α->γ}{a:β}{b:γ}(h1:o.map f=some a)(h2:o.map g=some b):o.map (λs=>(f s,g s))=some (a,b):=by
 cases o with
 |none=>cases h1
 |some s=>cases h1;cases h2;rfl
noncomputable def X0(s:Shared):Bool:=xlAt q0 [] s&&recOk (RowW.records (OpenRow.toRowW (OpenLaw.row PySem.Challenge.rw_qz0040_01))) s
theorem hA(w:World):(openEnds treeTable (OpenLaw.row PySem.Challenge.rw_qz0040_01).prog w 9410).map (openSeen q0 [] (importedModules (OpenLaw.row PySem.Challenge.rw_qz0040_01).prog.main.body) X0 true)=some (openGood q0 []):=by
 refine CV ?_;unfold fencedOpening wh;rw[PySem.W.Fast.te10274390034422433532,PySem.W.Fast.te10156331382660048174,PySem.W.Fast.te11892475500146522536,PySem.W.Fast.te6613529449190102663,PySem.W.Fast.te1435165496053646825,PySem.W.Fast.te14289696077712309145,PySem.W.Fast.te5923862056798008813,PySem.W.Fast.te4187177175401517315,PySem.W.Fast.te14364793385576792824]
 kernel_rfl
local macro_rules | `(tactic|o_head $H:term)=> `(tactic|(
 refine holds_open (q:=q0) (loose:=[]) (Xt:=X0) (XP:=XL q0 []) (Yf:=Hook.obs $H) (Ya:=Hook.val $H) (YP:=Hook.says $H) (N:=9410) ?hl (Hook.of $H) (Hook.keeps $H) (λs e=>xl_of s (Bool.and_eq_true_iff.mp e).1) XL.keeps (by rfl) (by rfl) (by rfl) (λs e=>recFacts_of (Bool.and_eq_true_iff.mp e).2) (by rfl) (by first|assumption|decide+kernel) (by decide+kernel) ⟨rfl,rfl,rfl,rfl,rfl,by decide+kernel⟩ ?hw ?hc
 case hl=>(
  intro w;refine Ke (hA w) (CV ?_);unfold fencedOpening wh
  try rw[PySem.W.Fast.te10274390034422433532]
  try rw[PySem.W.Fast.te10156331382660048174]
  try rw[PySem.W.Fast.te11892475500146522536]
  try rw[PySem.W.Fast.te6613529449190102663]
  try rw[PySem.W.Fast.te1435165496053646825]
  try rw[PySem.W.Fast.te14289696077712309145]
  try rw[PySem.W.Fast.te5923862056798008813]
  try rw[PySem.W.Fast.te4187177175401517315]
  try rw[PySem.W.Fast.te14364793385576792824]
  kernel_rfl)))
theorem Kf:OpenLaw.wellSaid PySem.Challenge.rw_qz0040_01=true:=by kernel_rfl
local macro_rules | `(tactic|o_law)=> `(tactic|refine holds_law Kf λsaid=>?_)
open_top hd for PySem.Challenge.rw_qz0040_01
set_option tactic.hygienic false
@[elab_as_elim] theorem rG{α:Sort u}{a b:α}{p:α->Prop}(h:a=b)(k:p b):p a:=h▸k
@[elab_as_elim] theorem rB{α:Sort u}{a b:α}{p:α->Prop}(h:b=a)(k:p b):p a:=h▸k
@[elab_as_elim] theorem rI{a b:Prop}{p:Prop->Prop}(h:a↔b)(k:p b):p a:=propext h▸k
theorem Tf{p:Prop}(h:true=false):p:=Bool.noConfusion h
theorem Ft{p:Prop}(h:false=true):p:=Bool.noConfusion h
theorem Sn{p:Prop}{α:Type u}{a:α}(h:some a=none):p:=absurd h nofun
theorem Ns{p:Prop}{α:Type u}{a:α}(h:none=some a):p:=absurd h nofun
theorem Cn{p:Prop}{α:Type u}{a:α}{l:List α}(h:a::l=[]):p:=absurd h nofun
theorem Nc{p:Prop}{α:Type u}{a:α}{l:List α}(h:[]=a::l):p:=absurd h nofun
theorem CW{v:Int}(h:0<=v):v=(v.toNat:Int):=(Int.toNat_of_nonneg h).symm
theorem aX{a b c:Nat}(h:a<=b)(k:Nat.blt b c=true):a<c:=Nat.lt_of_le_of_lt h (Nat.blt_eq.mp k)
theorem bI{a b c:Nat}(h:a<b)(k:Nat.ble b c=true):a<c:=Nat.lt_of_lt_of_le h (Nat.le_of_ble_eq_true k)
theorem iS{a b c:Nat}(h:a<=b)(k:Nat.ble b c=true):a<=c:=Nat.le_trans h (Nat.le_of_ble_eq_true k)
theorem pQ{a b c:Nat}(h:a<b)(k:Nat.ble b (c+1)=true):a<=c:=Nat.le_of_lt_succ (Nat.lt_of_lt_of_le h (Nat.le_of_ble_eq_true k))
theorem cr{a b c:Nat}(h:a=b)(k:Nat.blt b c=true):a<c:=aX (Nat.le_of_eq h) k
theorem cF{a n k b c:Nat}(h:a=n+k)(g:n<=b)(q:Nat.blt (b+k) c=true):a<c:=h▸Nat.lt_of_le_of_lt (Nat.add_le_add_right g k) (Nat.blt_eq.mp q)
theorem gy{a n k b c:Nat}(h:a=n+k)(g:n<b)(q:Nat.ble (b+k) c=true):a<c:=h▸Nat.lt_of_lt_of_le (Nat.add_lt_add_right g k) (Nat.le_of_ble_eq_true q)
theorem tD{a n k b c:Nat}(h:a=2*n+k)(g:n<=b)(q:Nat.blt (2*b+k) c=true):a<c:=h▸Nat.lt_of_le_of_lt (Nat.add_le_add_right (Nat.mul_le_mul_left 2 g) k) (Nat.blt_eq.mp q)
theorem cT{a n b c:Nat}(h:a<=n)(g:n<=b)(q:Nat.blt b c=true):a<c:=aX (Nat.le_trans h g) q
theorem tE{a n b c:Nat}(h:a=n)(g:n<=b)(q:Nat.blt b c=true):a<c:=h▸aX g q
theorem tF{a n b c:Nat}(h:a=n)(g:n<b)(q:Nat.ble b c=true):a<c:=h▸bI g q
theorem wi{x a n k:Nat}(h:a=n+(k+1))(g:x<=n):x<a:=h▸Nat.lt_of_le_of_lt g (Nat.lt_add_of_pos_right (Nat.succ_pos k))
theorem eB{x a n k:Nat}(h:a=n+(k+1))(g:x<=n):(x:Int)<(a:Int):=Int.ofNat_lt.mpr (wi h g)
theorem tG{a x n:Nat}(h:a=x)(g:n<x):n<a:=h▸g
theorem oA{v:Int}{l:Nat}(h:0<=v)(g:v<(l:Int)):v.toNat<l:=(Int.toNat_lt h).mpr g
theorem wj{v:Int}{l:Nat}(h:0<=v/\v<(l:Int)):v.toNat<l:=oA h.1 h.2
theorem yN{i:Nat}:(0+(i:Int)).toNat=i:=by rw[Int.zero_add];rfl
theorem gz{a b:Nat}(h:(a:Int)=(b:Int)):a=b:=Int.ofNat.inj h
theorem oB{a b:Nat}(h:a<b):(a:Int)<(b:Int):=Int.ofNat_lt.mpr h
theorem CX{a b:Nat}(h:a<=b):(a:Int)<=(b:Int):=Int.ofNat_le.mpr h
theorem CY{a b:Nat}(h:(a:Int)<(b:Int)):a<b:=Int.ofNat_lt.mp h
theorem yO{a b:Nat}(h:(a:Int)<=(b:Int)):a<=b:=Int.ofNat_le.mp h
theorem yP{x y:Int}(h:x.natAbs=y.natAbs):x=y∨x= -y:=Int.natAbs_eq_natAbs_iff.mp h
theorem CZ{x:Int}{n:Nat}(h:x.natAbs<=n):(-x).natAbs<=n:=by rw[Int.natAbs_neg];exact h
theorem Kg{x:Int}{n:Nat}(h:x.natAbs<n):(-x).natAbs<n:=by rw[Int.natAbs_neg];exact h
theorem yQ{x:Int}(h:x≠0):0<x.natAbs:=Int.natAbs_pos.mpr h
theorem wl{x y:Int}(h:x.natAbs-1=y.natAbs-1)(hx:x≠0)(hy:y≠0):x.natAbs=y.natAbs:=Nat.sub_one_cancel (yQ hx) (yQ hy) h
theorem C0{x y:Int}(h:(x.natAbs:Int).toNat-1=(y.natAbs:Int).toNat-1)(hx:x≠0)(hy:y≠0):(x.natAbs:Int)=(y.natAbs:Int):=congrArg Int.ofNat (wl h hx hy)
theorem tH{x:Int}{n:Nat}(hx:x≠0)(h:x.natAbs<=n):x.natAbs-1<n:=Nat.lt_of_lt_of_le (Nat.sub_lt (yQ hx) Nat.one_pos) h
theorem C1{x:Int}{n b c:Nat}(h:x.natAbs<=n)(g:n<=b)(q:Nat.blt b c=true):(-x).natAbs<c:=Kg (cT h g q)
theorem Kh{x:Int}{n b:Nat}(h:x.natAbs<=n)(g:n<=b):(-x).natAbs<=b:=CZ (Nat.le_trans h g)
theorem yR{a b k c:Nat}(h:a=k)(g:c<=b)(q:Nat.blt k c=true):b≠a:=λe=>absurd (Nat.lt_of_lt_of_le (Nat.blt_eq.mp q) g) (by rw[e,h];exact Nat.lt_irrefl _)
theorem C2{a b k c:Nat}(h:a=k)(g:b<c)(q:Nat.ble c k=true):b≠a:=λe=>absurd (Nat.lt_of_lt_of_le g (Nat.le_of_ble_eq_true q)) (by rw[e,h];exact Nat.lt_irrefl _)
theorem Ki{a b k c:Nat}(h:a=k)(h':b=c)(q:Nat.beq k c=false):a≠b:=λe=>Nat.ne_of_beq_eq_false q (h.symm.trans (e.trans h'))
theorem Kj{x y z:Int}(h:x= -y)(g:x= -z):y=z:=Int.neg_inj.mp (h.symm.trans g)
theorem Kk{x y z:Int}(h:x= -y)(g:y= -z):x=z:=by rw[h,g,Int.neg_neg]
theorem yS{x:Int}(h:0<x):(x.natAbs:Int)=x:=Int.natAbs_of_nonneg (Int.le_of_lt h)
theorem qY{a b:Nat}(h:a<=b)(g: ¬b=a):a+1<=b:=Nat.lt_of_le_of_ne h λe=>g e.symm
theorem wm{a b:Nat}(h:a<b+1)(g:a≠b):a<b:=Nat.lt_of_le_of_ne (Nat.le_of_lt_succ h) g
theorem Kl{l k:Nat}(h:k<l):l-(k+1)<l-k:=Nat.sub_lt_sub_left h (Nat.lt_succ_self k)
theorem qZ{l k v:Nat}(e:v=l-k)(h:k<l):l-(k+1)<v:=e▸Kl h
theorem wn{i l:Nat}(h:0+(i:Int)<(l:Int)):i<l:=by rw[Int.zero_add] at h;exact Int.ofNat_lt.mp h
theorem Km{v:Int}{i l:Nat}(h:v<(l:Int))(e:v=(i:Int)):i<l:=Int.ofNat_lt.mp (e▸h)
theorem Kn{x:Int}{l:Nat}(h:x.natAbs<l)(p:0<x):x<(l:Int):=yS p▸Int.ofNat_lt.mpr h
theorem yT{x:Int}{l:Nat}(p:0<=x)(h:x.toNat<l):x<(l:Int):=(Int.toNat_lt p).mp h
theorem afq{x:Int}{l m:Nat}(h:x<(l:Int))(e:m=l):x<(m:Int):=e▸h
theorem C3{i n j:Nat}(h:i<n):i<max n j:=Nat.lt_of_lt_of_le h (Nat.le_max_left _ _)
theorem C4{i n:Nat}:i<max n (i+1):=Nat.lt_of_lt_of_le (Nat.lt_succ_self _) (Nat.le_max_right _ _)
theorem C5{v:Nat}(h:v≠0):v-1<v:=Nat.sub_lt (Nat.pos_of_ne_zero h) Nat.one_pos
theorem Ko{i:Nat}(h:(0:Int)<0+(i:Int)):i-1<i:=Nat.sub_lt (wn (i:=0) (by rw[Int.zero_add] at h ⊢;exact h)) Nat.one_pos
theorem C6{k b:Nat}{n:Nat}(h:n=k+b):k<=n:=h▸Nat.le_add_right _ _
theorem yU{n b c:Nat}(h:n<=b)(q:Nat.blt (b+1) c=true):n+1<c:=Nat.lt_of_le_of_lt (Nat.succ_le_succ h) (Nat.blt_eq.mp q)
theorem C7{l m b d c:Nat}(h:l<b)(g:m<d)(q:Nat.ble (b+d) c=true):l+m<c:=Nat.lt_of_lt_of_le (Nat.add_lt_add h g) (Nat.le_of_ble_eq_true q)
theorem aE{p q:Prop}{G:Prop}(h:p/\q)(k:p->q->G):G:=k h.1 h.2
theorem b9{p q r:Prop}{G:Prop}(h:p/\q/\r)(k:p->q->r->G):G:=k h.1 h.2.1 h.2.2
theorem gW{p q r s:Prop}{G:Prop}(h:p/\q/\r/\s)(k:p->q->r->s->G):G:=k h.1 h.2.1 h.2.2.1 h.2.2.2
theorem nj{p q r s t:Prop}{G:Prop}(h:p/\q/\r/\s/\t)(k:p->q->r->s->t->G):G:=k h.1 h.2.1 h.2.2.1 h.2.2.2.1 h.2.2.2.2
theorem eK{p q r s t u:Prop}{G:Prop}(h:p/\q/\r/\s/\t/\u)(k:p->q->r->s->t->u->G):G:=k h.1 h.2.1 h.2.2.1 h.2.2.2.1 h.2.2.2.2.1 h.2.2.2.2.2
theorem C8{p q r s t u v:Prop}{G:Prop}(h:p/\q/\r/\s/\t/\u/\v)(k:p->q->r->s->t->u->v->G):G:=k h.1 h.2.1 h.2.2.1 h.2.2.2.1 h.2.2.2.2.1 h.2.2.2.2.2.1 h.2.2.2.2.2.2
theorem yV{p q r s t u v w:Prop}{G:Prop}(h:p/\q/\r/\s/\t/\u/\v/\w)(k:p->q->r->s->t->u->v->w->G):G:=k h.1 h.2.1 h.2.2.1 h.2.2.2.1 h.2.2.2.2.1 h.2.2.2.2.2.1 h.2.2.2.2.2.2.1 h.2.2.2.2.2.2.2
theorem Kp{p q r s t u v w x y z:Prop}{G:Prop}(h:p/\q/\r/\s/\t/\u/\v/\w/\x/\y/\z)(k:p->q->r->s->t->u->v->w->x->y->z->G):G:=k h.1 h.2.1 h.2.2.1 h.2.2.2.1 h.2.2.2.2.1 h.2.2.2.2.2.1 h.2.2.2.2.2.2.1 h.2.2.2.2.2.2.2.1 h.2.2.2.2.2.2.2.2.1 h.2.2.2.2.2.2.2.2.2.1 h.2.2.2.2.2.2.2.2.2.2
theorem ag{α:Sort _}{p:α->Prop}{G:Prop}(h: ∃a,p a)(k: ∀a,p a->G):G:=h.elim λa h=>k a h
theorem ab{α:Sort _}{p q:α->Prop}{G:Prop}(h: ∃a,p a/\q a)(k: ∀a,p a->q a->G):G:=h.elim λa h=>k a h.1 h.2
theorem bX{α:Sort _}{p q r:α->Prop}{G:Prop}(h: ∃a,p a/\q a/\r a)(k: ∀a,p a->q a->r a->G):G:=h.elim λa h=>k a h.1 h.2.1 h.2.2
theorem l8{α:Sort _}{p q r s:α->Prop}{G:Prop}(h: ∃a,p a/\q a/\r a/\s a)(k: ∀a,p a->q a->r a->s a->G):G:=h.elim λa h=>k a h.1 h.2.1 h.2.2.1 h.2.2.2
theorem kj{α:Sort _}{p q r s t:α->Prop}{G:Prop}(h: ∃a,p a/\q a/\r a/\s a/\t a)(k: ∀a,p a->q a->r a->s a->t a->G):G:=h.elim λa h=>k a h.1 h.2.1 h.2.2.1 h.2.2.2.1 h.2.2.2.2
theorem tI{α:Sort _}{p q r s t u:α->Prop}{G:Prop}(h: ∃a,p a/\q a/\r a/\s a/\t a/\u a)(k: ∀a,p a->q a->r a->s a->t a->u a->G):G:=h.elim λa h=>k a h.1 h.2.1 h.2.2.1 h.2.2.2.1 h.2.2.2.2.1 h.2.2.2.2.2
theorem wp{α:Sort _}{p q r s t u v:α->Prop}{G:Prop}(h: ∃a,p a/\q a/\r a/\s a/\t a/\u a/\v a)(k: ∀a,p a->q a->r a->s a->t a->u a->v a->G):G:=h.elim λa h=>k a h.1 h.2.1 h.2.2.1 h.2.2.2.1 h.2.2.2.2.1 h.2.2.2.2.2.1 h.2.2.2.2.2.2
theorem wq{α:Sort _}{p q r s t u v w:α->Prop}{G:Prop}(h: ∃a,p a/\q a/\r a/\s a/\t a/\u a/\v a/\w a)(k: ∀a,p a->q a->r a->s a->t a->u a->v a->w a->G):G:=h.elim λa h=>k a h.1 h.2.1 h.2.2.1 h.2.2.2.1 h.2.2.2.2.1 h.2.2.2.2.2.1 h.2.2.2.2.2.2.1 h.2.2.2.2.2.2.2
theorem C9{α:Sort _}{p q r s t u v w x y:α->Prop}{G:Prop}(h: ∃a,p a/\q a/\r a/\s a/\t a/\u a/\v a/\w a/\x a/\y a)(k: ∀a,p a->q a->r a->s a->t a->u a->v a->w a->x a->y a->G):G:=h.elim λa h=>k a h.1 h.2.1 h.2.2.1 h.2.2.2.1 h.2.2.2.2.1 h.2.2.2.2.2.1 h.2.2.2.2.2.2.1 h.2.2.2.2.2.2.2.1 h.2.2.2.2.2.2.2.2.1 h.2.2.2.2.2.2.2.2.2
theorem afr{α:Sort _}{p q r s t u v w x y z p1:α->Prop}{G:Prop}(h: ∃a,p a/\q a/\r a/\s a/\t a/\u a/\v a/\w a/\x a/\y a/\z a/\p1 a)(k: ∀a,p a->q a->r a->s a->t a->u a->v a->w a->x a->y a->z a->p1 a->G):G:=h.elim λa h=>k a h.1 h.2.1 h.2.2.1 h.2.2.2.1 h.2.2.2.2.1 h.2.2.2.2.2.1 h.2.2.2.2.2.2.1 h.2.2.2.2.2.2.2.1 h.2.2.2.2.2.2.2.2.1 h.2.2.2.2.2.2.2.2.2.1 h.2.2.2.2.2.2.2.2.2.2.1 h.2.2.2.2.2.2.2.2.2.2.2
theorem Kq{α:Sort _}{p q r s t u v w x y z p1 q1 r1:α->Prop}{G:Prop}(h: ∃a,p a/\q a/\r a/\s a/\t a/\u a/\v a/\w a/\x a/\y a/\z a/\p1 a/\q1 a/\r1 a)(k: ∀a,p a->q a->r a->s a->t a->u a->v a->w a->x a->y a->z a->p1 a->q1 a->r1 a->G):G:=h.elim λa h=>k a h.1 h.2.1 h.2.2.1 h.2.2.2.1 h.2.2.2.2.1 h.2.2.2.2.2.1 h.2.2.2.2.2.2.1 h.2.2.2.2.2.2.2.1 h.2.2.2.2.2.2.2.2.1 h.2.2.2.2.2.2.2.2.2.1 h.2.2.2.2.2.2.2.2.2.2.1 h.2.2.2.2.2.2.2.2.2.2.2.1 h.2.2.2.2.2.2.2.2.2.2.2.2.1 h.2.2.2.2.2.2.2.2.2.2.2.2.2
theorem dM{α:Sort _}{β:Sort _}{p:α->β->Prop}{G:Prop}(h: ∃a b,p a b)(k: ∀a b,p a b->G):G:=h.elim λa h=>h.elim λb h=>k a b h
theorem bM{α:Sort _}{β:Sort _}{p q:α->β->Prop}{G:Prop}(h: ∃a b,p a b/\q a b)(k: ∀a b,p a b->q a b->G):G:=h.elim λa h=>h.elim λb h=>k a b h.1 h.2
theorem bE{α:Sort _}{β:Sort _}{p q r:α->β->Prop}{G:Prop}(h: ∃a b,p a b/\q a b/\r a b)(k: ∀a b,p a b->q a b->r a b->G):G:=h.elim λa h=>h.elim λb h=>k a b h.1 h.2.1 h.2.2
theorem dN{α:Sort _}{β:Sort _}{p q r s:α->β->Prop}{G:Prop}(h: ∃a b,p a b/\q a b/\r a b/\s a b)(k: ∀a b,p a b->q a b->r a b->s a b->G):G:=h.elim λa h=>h.elim λb h=>k a b h.1 h.2.1 h.2.2.1 h.2.2.2
theorem gX{α:Sort _}{β:Sort _}{p q r s t:α->β->Prop}{G:Prop}(h: ∃a b,p a b/\q a b/\r a b/\s a b/\t a b)(k: ∀a b,p a b->q a b->r a b->s a b->t a b->G):G:=h.elim λa h=>h.elim λb h=>k a b h.1 h.2.1 h.2.2.1 h.2.2.2.1 h.2.2.2.2
theorem tJ{α:Sort _}{β:Sort _}{p q r s t u:α->β->Prop}{G:Prop}(h: ∃a b,p a b/\q a b/\r a b/\s a b/\t a b/\u a b)(k: ∀a b,p a b->q a b->r a b->s a b->t a b->u a b->G):G:=h.elim λa h=>h.elim λb h=>k a b h.1 h.2.1 h.2.2.1 h.2.2.2.1 h.2.2.2.2.1 h.2.2.2.2.2
theorem yW{α:Sort _}{β:Sort _}{p q r s t u v w:α->β->Prop}{G:Prop}(h: ∃a b,p a b/\q a b/\r a b/\s a b/\t a b/\u a b/\v a b/\w a b)(k: ∀a b,p a b->q a b->r a b->s a b->t a b->u a b->v a b->w a b->G):G:=h.elim λa h=>h.elim λb h=>k a b h.1 h.2.1 h.2.2.1 h.2.2.2.1 h.2.2.2.2.1 h.2.2.2.2.2.1 h.2.2.2.2.2.2.1 h.2.2.2.2.2.2.2
theorem yX{α:Sort _}{β:Sort _}{p q r s t u v w x:α->β->Prop}{G:Prop}(h: ∃a b,p a b/\q a b/\r a b/\s a b/\t a b/\u a b/\v a b/\w a b/\x a b)(k: ∀a b,p a b->q a b->r a b->s a b->t a b->u a b->v a b->w a b->x a b->G):G:=h.elim λa h=>h.elim λb h=>k a b h.1 h.2.1 h.2.2.1 h.2.2.2.1 h.2.2.2.2.1 h.2.2.2.2.2.1 h.2.2.2.2.2.2.1 h.2.2.2.2.2.2.2.1 h.2.2.2.2.2.2.2.2
theorem Db{α:Sort _}{β:Sort _}{p q r s t u v w x y:α->β->Prop}{G:Prop}(h: ∃a b,p a b/\q a b/\r a b/\s a b/\t a b/\u a b/\v a b/\w a b/\x a b/\y a b)(k: ∀a b,p a b->q a b->r a b->s a b->t a b->u a b->v a b->w a b->x a b->y a b->G):G:=h.elim λa h=>h.elim λb h=>k a b h.1 h.2.1 h.2.2.1 h.2.2.2.1 h.2.2.2.2.1 h.2.2.2.2.2.1 h.2.2.2.2.2.2.1 h.2.2.2.2.2.2.2.1 h.2.2.2.2.2.2.2.2.1 h.2.2.2.2.2.2.2.2.2
theorem Kr{α:Sort _}{β:Sort _}{p q r s t u v w x y z p1:α->β->Prop}{G:Prop}(h: ∃a b,p a b/\q a b/\r a b/\s a b/\t a b/\u a b/\v a b/\w a b/\x a b/\y a b/\z a b/\p1 a b)(k: ∀a b,p a b->q a b->r a b->s a b->t a b->u a b->v a b->w a b->x a b->y a b->z a b->p1 a b->G):G:=h.elim λa h=>h.elim λb h=>k a b h.1 h.2.1 h.2.2.1 h.2.2.2.1 h.2.2.2.2.1 h.2.2.2.2.2.1 h.2.2.2.2.2.2.1 h.2.2.2.2.2.2.2.1 h.2.2.2.2.2.2.2.2.1 h.2.2.2.2.2.2.2.2.2.1 h.2.2.2.2.2.2.2.2.2.2.1 h.2.2.2.2.2.2.2.2.2.2.2
theorem Dc{α:Sort _}{β:Sort _}{γ:Sort _}{p:α->β->γ->Prop}{G:Prop}(h: ∃a b c,p a b c)(k: ∀a b c,p a b c->G):G:=h.elim λa h=>h.elim λb h=>h.elim λc h=>k a b c h
theorem cM{α:Sort _}{β:Sort _}{γ:Sort _}{p q:α->β->γ->Prop}{G:Prop}(h: ∃a b c,p a b c/\q a b c)(k: ∀a b c,p a b c->q a b c->G):G:=h.elim λa h=>h.elim λb h=>h.elim λc h=>k a b c h.1 h.2
theorem bJ{α:Sort _}{β:Sort _}{γ:Sort _}{p q r:α->β->γ->Prop}{G:Prop}(h: ∃a b c,p a b c/\q a b c/\r a b c)(k: ∀a b c,p a b c->q a b c->r a b c->G):G:=h.elim λa h=>h.elim λb h=>h.elim λc h=>k a b c h.1 h.2.1 h.2.2
theorem jI{α:Sort _}{β:Sort _}{γ:Sort _}{p q r s:α->β->γ->Prop}{G:Prop}(h: ∃a b c,p a b c/\q a b c/\r a b c/\s a b c)(k: ∀a b c,p a b c->q a b c->r a b c->s a b c->G):G:=h.elim λa h=>h.elim λb h=>h.elim λc h=>k a b c h.1 h.2.1 h.2.2.1 h.2.2.2
theorem Ks{α:Sort _}{β:Sort _}{γ:Sort _}{p q r s t u v w:α->β->γ->Prop}{G:Prop}(h: ∃a b c,p a b c/\q a b c/\r a b c/\s a b c/\t a b c/\u a b c/\v a b c/\w a b c)(k: ∀a b c,p a b c->q a b c->r a b c->s a b c->t a b c->u a b c->v a b c->w a b c->G):G:=h.elim λa h=>h.elim λb h=>h.elim λc h=>k a b c h.1 h.2.1 h.2.2.1 h.2.2.2.1 h.2.2.2.2.1 h.2.2.2.2.2.1 h.2.2.2.2.2.2.1 h.2.2.2.2.2.2.2
theorem yY{α:Sort _}{β:Sort _}{γ:Sort _}{p q r s t u v w x y:α->β->γ->Prop}{G:Prop}(h: ∃a b c,p a b c/\q a b c/\r a b c/\s a b c/\t a b c/\u a b c/\v a b c/\w a b c/\x a b c/\y a b c)(k: ∀a b c,p a b c->q a b c->r a b c->s a b c->t a b c->u a b c->v a b c->w a b c->x a b c->y a b c->G):G:=h.elim λa h=>h.elim λb h=>h.elim λc h=>k a b c h.1 h.2.1 h.2.2.1 h.2.2.2.1 h.2.2.2.2.1 h.2.2.2.2.2.1 h.2.2.2.2.2.2.1 h.2.2.2.2.2.2.2.1 h.2.2.2.2.2.2.2.2.1 h.2.2.2.2.2.2.2.2.2
theorem Dd{α:Sort _}{β:Sort _}{γ:Sort _}{p q r s t u v w x y z:α->β->γ->Prop}{G:Prop}(h: ∃a b c,p a b c/\q a b c/\r a b c/\s a b c/\t a b c/\u a b c/\v a b c/\w a b c/\x a b c/\y a b c/\z a b c)(k: ∀a b c,p a b c->q a b c->r a b c->s a b c->t a b c->u a b c->v a b c->w a b c->x a b c->y a b c->z a b c->G):G:=h.elim λa h=>h.elim λb h=>h.elim λc h=>k a b c h.1 h.2.1 h.2.2.1 h.2.2.2.1 h.2.2.2.2.1 h.2.2.2.2.2.1 h.2.2.2.2.2.2.1 h.2.2.2.2.2.2.2.1 h.2.2.2.2.2.2.2.2.1 h.2.2.2.2.2.2.2.2.2.1 h.2.2.2.2.2.2.2.2.2.2
theorem wr{α:Sort _}{β:Sort _}{γ:Sort _}{p q r s t u v w x y z p1 q1 r1:α->β->γ->Prop}{G:Prop}(h: ∃a b c,p a b c/\q a b c/\r a b c/\s a b c/\t a b c/\u a b c/\v a b c/\w a b c/\x a b c/\y a b c/\z a b c/\p1 a b c/\q1 a b c/\r1 a b c)(k: ∀a b c,p a b c->q a b c->r a b c->s a b c->t a b c->u a b c->v a b c->w a b c->x a b c->y a b c->z a b c->p1 a b c->q1 a b c->r1 a b c->G):G:=h.elim λa h=>h.elim λb h=>h.elim λc h=>k a b c h.1 h.2.1 h.2.2.1 h.2.2.2.1 h.2.2.2.2.1 h.2.2.2.2.2.1 h.2.2.2.2.2.2.1 h.2.2.2.2.2.2.2.1 h.2.2.2.2.2.2.2.2.1 h.2.2.2.2.2.2.2.2.2.1 h.2.2.2.2.2.2.2.2.2.2.1 h.2.2.2.2.2.2.2.2.2.2.2.1 h.2.2.2.2.2.2.2.2.2.2.2.2.1 h.2.2.2.2.2.2.2.2.2.2.2.2.2
theorem yZ{α:Sort _}{β:Sort _}{γ:Sort _}{δ:Sort _}{p:α->β->γ->δ->Prop}{G:Prop}(h: ∃a b c d,p a b c d)(k: ∀a b c d,p a b c d->G):G:=h.elim λa h=>h.elim λb h=>h.elim λc h=>h.elim λd h=>k a b c d h
theorem tK{α:Sort _}{β:Sort _}{γ:Sort _}{δ:Sort _}{p q:α->β->γ->δ->Prop}{G:Prop}(h: ∃a b c d,p a b c d/\q a b c d)(k: ∀a b c d,p a b c d->q a b c d->G):G:=h.elim λa h=>h.elim λb h=>h.elim λc h=>h.elim λd h=>k a b c d h.1 h.2
theorem f4{α:Sort _}{β:Sort _}{γ:Sort _}{δ:Sort _}{p q r:α->β->γ->δ->Prop}{G:Prop}(h: ∃a b c d,p a b c d/\q a b c d/\r a b c d)(k: ∀a b c d,p a b c d->q a b c d->r a b c d->G):G:=h.elim λa h=>h.elim λb h=>h.elim λc h=>h.elim λd h=>k a b c d h.1 h.2.1 h.2.2
theorem nn{α:Sort _}{β:Sort _}{γ:Sort _}{δ:Sort _}{p q r s:α->β->γ->δ->Prop}{G:Prop}(h: ∃a b c d,p a b c d/\q a b c d/\r a b c d/\s a b c d)(k: ∀a b c d,p a b c d->q a b c d->r a b c d->s a b c d->G):G:=h.elim λa h=>h.elim λb h=>h.elim λc h=>h.elim λd h=>k a b c d h.1 h.2.1 h.2.2.1 h.2.2.2
theorem wt{α:Sort _}{β:Sort _}{γ:Sort _}{δ:Sort _}{p q r s t:α->β->γ->δ->Prop}{G:Prop}(h: ∃a b c d,p a b c d/\q a b c d/\r a b c d/\s a b c d/\t a b c d)(k: ∀a b c d,p a b c d->q a b c d->r a b c d->s a b c d->t a b c d->G):G:=h.elim λa h=>h.elim λb h=>h.elim λc h=>h.elim λd h=>k a b c d h.1 h.2.1 h.2.2.1 h.2.2.2.1 h.2.2.2.2
theorem Kt{α:Sort _}{β:Sort _}{γ:Sort _}{δ:Sort _}{p q r s t u:α->β->γ->δ->Prop}{G:Prop}(h: ∃a b c d,p a b c d/\q a b c d/\r a b c d/\s a b c d/\t a b c d/\u a b c d)(k: ∀a b c d,p a b c d->q a b c d->r a b c d->s a b c d->t a b c d->u a b c d->G):G:=h.elim λa h=>h.elim λb h=>h.elim λc h=>h.elim λd h=>k a b c d h.1 h.2.1 h.2.2.1 h.2.2.2.1 h.2.2.2.2.1 h.2.2.2.2.2
theorem De{α:Sort _}{β:Sort _}{γ:Sort _}{δ:Sort _}{p q r s t u v:α->β->γ->δ->Prop}{G:Prop}(h: ∃a b c d,p a b c d/\q a b c d/\r a b c d/\s a b c d/\t a b c d/\u a b c d/\v a b c d)(k: ∀a b c d,p a b c d->q a b c d->r a b c d->s a b c d->t a b c d->u a b c d->v a b c d->G):G:=h.elim λa h=>h.elim λb h=>h.elim λc h=>h.elim λd h=>k a b c d h.1 h.2.1 h.2.2.1 h.2.2.2.1 h.2.2.2.2.1 h.2.2.2.2.2.1 h.2.2.2.2.2.2
theorem Df{α:Sort _}{β:Sort _}{γ:Sort _}{δ:Sort _}{ε:Sort _}{p q r s:α->β->γ->δ->ε->Prop}{G:Prop}(h: ∃a b c d e,p a b c d e/\q a b c d e/\r a b c d e/\s a b c d e)(k: ∀a b c d e,p a b c d e->q a b c d e->r a b c d e->s a b c d e->G):G:=h.elim λa h=>h.elim λb h=>h.elim λc h=>h.elim λd h=>h.elim λe h=>k a b c d e h.1 h.2.1 h.2.2.1 h.2.2.2
theorem wu{α:Sort _}{β:Sort _}{γ:Sort _}{δ:Sort _}{ε:Sort _}{p q r s t:α->β->γ->δ->ε->Prop}{G:Prop}(h: ∃a b c d e,p a b c d e/\q a b c d e/\r a b c d e/\s a b c d e/\t a b c d e)(k: ∀a b c d e,p a b c d e->q a b c d e->r a b c d e->s a b c d e->t a b c d e->G):G:=h.elim λa h=>h.elim λb h=>h.elim λc h=>h.elim λd h=>h.elim λe h=>k a b c d e h.1 h.2.1 h.2.2.1 h.2.2.2.1 h.2.2.2.2
theorem afs{α:Sort _}{β:Sort _}{γ:Sort _}{δ:Sort _}{ε:Sort _}{p q r s t u:α->β->γ->δ->ε->Prop}{G:Prop}(h: ∃a b c d e,p a b c d e/\q a b c d e/\r a b c d e/\s a b c d e/\t a b c d e/\u a b c d e)(k: ∀a b c d e,p a b c d e->q a b c d e->r a b c d e->s a b c d e->t a b c d e->u a b c d e->G):G:=h.elim λa h=>h.elim λb h=>h.elim λc h=>h.elim λd h=>h.elim λe h=>k a b c d e h.1 h.2.1 h.2.2.1 h.2.2.2.1 h.2.2.2.2.1 h.2.2.2.2.2
theorem afu{α:Sort _}{β:Sort _}{γ:Sort _}{δ:Sort _}{ε:Sort _}{p q r s t u v w x y z p1 q1 r1:α->β->γ->δ->ε->Prop}{G:Prop}(h: ∃a b c d e,p a b c d e/\q a b c d e/\r a b c d e/\s a b c d e/\t a b c d e/\u a b c d e/\v a b c d e/\w a b c d e/\x a b c d e/\y a b c d e/\z a b c d e/\p1 a b c d e/\q1 a b c d e/\r1 a b c d e)(k: ∀a b c d e,p a b c d e->q a b c d e->r a b c d e->s a b c d e->t a b c d e->u a b c d e->v a b c d e->w a b c d e->x a b c d e->y a b c d e->z a b c d e->p1 a b c d e->q1 a b c d e->r1 a b c d e->G):G:=h.elim λa h=>h.elim λb h=>h.elim λc h=>h.elim λd h=>h.elim λe h=>k a b c d e h.1 h.2.1 h.2.2.1 h.2.2.2.1 h.2.2.2.2.1 h.2.2.2.2.2.1 h.2.2.2.2.2.2.1 h.2.2.2.2.2.2.2.1 h.2.2.2.2.2.2.2.2.1 h.2.2.2.2.2.2.2.2.2.1 h.2.2.2.2.2.2.2.2.2.2.1 h.2.2.2.2.2.2.2.2.2.2.2.1 h.2.2.2.2.2.2.2.2.2.2.2.2.1 h.2.2.2.2.2.2.2.2.2.2.2.2.2
theorem oC{α:Sort _}{β:Sort _}{γ:Sort _}{δ:Sort _}{ε:Sort _}{ζ:Sort _}{p:α->β->γ->δ->ε->ζ->Prop}{G:Prop}(h: ∃a b c d e f,p a b c d e f)(k: ∀a b c d e f,p a b c d e f->G):G:=h.elim λa h=>h.elim λb h=>h.elim λc h=>h.elim λd h=>h.elim λe h=>h.elim λf h=>k a b c d e f h
theorem Ku{α:Sort _}{β:Sort _}{γ:Sort _}{δ:Sort _}{ε:Sort _}{ζ:Sort _}{p q:α->β->γ->δ->ε->ζ->Prop}{G:Prop}(h: ∃a b c d e f,p a b c d e f/\q a b c d e f)(k: ∀a b c d e f,p a b c d e f->q a b c d e f->G):G:=h.elim λa h=>h.elim λb h=>h.elim λc h=>h.elim λd h=>h.elim λe h=>h.elim λf h=>k a b c d e f h.1 h.2
theorem Kv{α:Sort _}{β:Sort _}{γ:Sort _}{δ:Sort _}{ε:Sort _}{ζ:Sort _}{p q r:α->β->γ->δ->ε->ζ->Prop}{G:Prop}(h: ∃a b c d e f,p a b c d e f/\q a b c d e f/\r a b c d e f)(k: ∀a b c d e f,p a b c d e f->q a b c d e f->r a b c d e f->G):G:=h.elim λa h=>h.elim λb h=>h.elim λc h=>h.elim λd h=>h.elim λe h=>h.elim λf h=>k a b c d e f h.1 h.2.1 h.2.2
theorem Dg{α:Sort _}{β:Sort _}{γ:Sort _}{δ:Sort _}{ε:Sort _}{ζ:Sort _}{p q r s t u v w:α->β->γ->δ->ε->ζ->Prop}{G:Prop}(h: ∃a b c d e f,p a b c d e f/\q a b c d e f/\r a b c d e f/\s a b c d e f/\t a b c d e f/\u a b c d e f/\v a b c d e f/\w a b c d e f)(k: ∀a b c d e f,p a b c d e f->q a b c d e f->r a b c d e f->s a b c d e f->t a b c d e f->u a b c d e f->v a b c d e f->w a b c d e f->G):G:=h.elim λa h=>h.elim λb h=>h.elim λc h=>h.elim λd h=>h.elim λe h=>h.elim λf h=>k a b c d e f h.1 h.2.1 h.2.2.1 h.2.2.2.1 h.2.2.2.2.1 h.2.2.2.2.2.1 h.2.2.2.2.2.2.1 h.2.2.2.2.2.2.2
theorem tL{p:Prop}[d:Decidable p](h:(!decide p)=true): ¬p:=of_decide_eq_false (Bool.not_eq_true' _|>.mp h)
theorem wv{p:Prop}[d:Decidable p](h:(!decide p)=false):p:=of_decide_eq_true (Bool.not_eq_false' ..|>.mp h)
theorem re{α β:Type}[BEq α][LawfulBEq α]{x:α}{b:β}{l:List (α×β)}:((x,b)::l).lookup x=some b:=List.lookup_cons_self
theorem tM{α β:Type}[BEq α][LawfulBEq α]{x y:α}{b:β}{l:List (α×β)}(h: ¬x=y):((y,b)::l).lookup x=l.lookup x:=by rw[List.lookup_cons,beq_false_of_ne h]
theorem rh{α β:Type}[BEq α][LawfulBEq α]{x:α}{k:β}{l:List (α×β)}(h:l.lookup x=some k):(x,k)∈l:=by
 induction l with
 |nil=>cases h
 |cons p l ih=>
  obtain ⟨y,j⟩:=p;by_cases e:x=y
  .subst e;rw[re] at h;cases h;exact .head _
  .rw[tM e] at h;exact .tail _ (ih h)
theorem aV{a b:Bool}(h:(a&&b)=true):a=true:=by cases a;cases h;rfl
theorem aY{a b:Bool}(h:(a&&b)=true):b=true:=by cases a;cases h;exact h
theorem fN{a b:Bool}(h:(a&&b)=true):a=true/\b=true:=⟨aV h,aY h⟩
theorem gA{a b c:Bool}(h:(a&&(b&&c))=true):a=true/\b=true/\c=true:=⟨aV h,fN (aY h)⟩
theorem np{a b c d:Bool}(h:(a&&(b&&(c&&d)))=true):a=true/\b=true/\c=true/\d=true:=⟨aV h,gA (aY h)⟩
theorem rj{a b c d f:Bool}(h:(a&&(b&&(c&&(d&&f))))=true):a=true/\b=true/\c=true/\d=true/\f=true:=⟨aV h,np (aY h)⟩
theorem fg{a b c d f g:Bool}(h:(a&&(b&&(c&&(d&&(f&&g)))))=true):a=true/\b=true/\c=true/\d=true/\f=true/\g=true:=⟨aV h,rj (aY h)⟩
theorem y5{a b:Bool}(h:a=true)(k:b=true):(a&&b)=true:=by rw[h];exact k
namespace LA
section
set_option genInjectivity false
set_option genSizeOf false
inductive LX where
 |v (i:Nat)|k (n:Nat)|add (a b:LX)|sub (a b:LX)|mul (n:Nat) (a:LX)|neg (a:LX)|of (a:LX)|ww (a:LX)|abs (a:LX)|min (a b:LX)|max (a b:LX)
inductive LQ where
 |le (s:Bool) (a b:LX)|lt (s:Bool) (a b:LX)|eq (s:Bool) (a b:LX)|and (p q:LQ)|or (p q:LQ)|imp (p q:LQ)|rq
end
section
variable(e:List Int)(m:Nat)
noncomputable def lD:LX->Nat×Int
 | .v i=>((e.getD i 0).toNat,e.getD i 0)
 | .k n=>(n,(n:Int))
 | .add a b=>((lD a).1+(lD b).1,(lD a).2+(lD b).2)
 | .sub a b=>((lD a).1-(lD b).1,(lD a).2-(lD b).2)
 | .mul n a=>(n*(lD a).1,(n:Int)*(lD a).2)
 | .neg a=>(0,-(lD a).2)
 | .of a=>(0,((lD a).1:Int))
 | .ww a=>((lD a).2.toNat,0)
 | .abs a=>((lD a).2.natAbs,0)
 | .min a b=>(Min.min (lD a).1 (lD b).1,Min.min (lD a).2 (lD b).2)
 | .max a b=>(Max.max (lD a).1 (lD b).1,Max.max (lD a).2 (lD b).2)
noncomputable def jJ:LQ->Prop
 | .le s a b=>cond s ((lD e a).1<=(lD e b).1) ((lD e a).2<=(lD e b).2)
 | .lt s a b=>cond s ((lD e a).1<(lD e b).1) ((lD e a).2<(lD e b).2)
 | .eq s a b=>cond s ((lD e a).1=(lD e b).1) ((lD e a).2=(lD e b).2)
 | .and p q=>jJ p/\jJ q
 | .or p q=>jJ p∨jJ q
 | .imp p q=>jJ p->jJ q
 | .rq=>False
end
noncomputable def dot:List Int->List Int->Int
 |[],_=>0
 |c::cs,e=>c*e.headD 0+dot cs e.tail
noncomputable def pR:List Int->List Int->List Int
 |[],b=>b
 |x::a,b=>(x+b.headD 0)::pR a b.tail
abbrev LF:=Int×List Int
noncomputable def pS(p q:LF):LF:=(p.1+q.1,pR p.2 q.2)
noncomputable def ip(k:Int)(p:LF):LF:=(k*p.1,p.2.map (k* ·))
noncomputable def jK(p q:LF):LF:=pS p (ip (-1) q)
noncomputable def ev(e:List Int)(p:LF):Int:=p.1+dot p.2 e
noncomputable def one:Nat->List Int
 |0=>[1]
 |i+1=>0::one i
noncomputable def iq(m:Nat):LX->Bool->(LF->List LF->Bool)->Bool
 | .v i=>λs k=>(!s||Nat.blt i m)&&k (0,one i) []
 | .k n=>λU k=>k ((n:Int),[]) []
 | .add a b=>λs k=>iq m a s λx c=>iq m b s λy d=>k (pS x y) (c++d)
 | .sub a b=>λs k=>iq m a s λx c=>iq m b s λy d=>cond s (k (jK x y) (jK x y::(c++d))&&k (0,[]) (jK y x::(c++d))) (k (jK x y) (c++d))
 | .mul n a=>λs k=>iq m a s λx c=>k (ip n x) c
 | .neg a=>λs k=>!s&&iq m a false λx c=>k (ip (-1) x) c
 | .of a=>λs k=>!s&&iq m a true k
 | .ww a=>λs k=>s&&iq m a false λx c=>k x (x::c)&&k (0,[]) (ip (-1) x::c)
 | .abs a=>λs k=>s&&iq m a false λx c=>k x (x::c)&&k (ip (-1) x) (ip (-1) x::c)
 | .min a b=>λs k=>iq m a s λx c=>iq m b s λy d=>k x (jK y x::(c++d))&&k y (jK x y::(c++d))
 | .max a b=>λs k=>iq m a s λx c=>iq m b s λy d=>k y (jK y x::(c++d))&&k x (jK x y::(c++d))
noncomputable def two(m:Nat)(s:Bool)(a b:LX)(k:LF->List LF->Bool):Bool:=iq m a s λx c=>iq m b s λy d=>k (jK y x) (c++d)
noncomputable def kle(t:Bool)(k:List LF->Bool)(z:LF)(c:List LF):Bool:=cond t (k (z::c)) (k (jK (-1,[]) z::c))
noncomputable def klt(t:Bool)(k:List LF->Bool)(z:LF)(c:List LF):Bool:=cond t (k (pS (-1,[]) z::c)) (k (ip (-1) z::c))
noncomputable def Dh(t:Bool)(k:List LF->Bool)(z:LF)(c:List LF):Bool:=cond t (k (z::ip (-1) z::c)) (k (pS (-1,[]) z::c)&&k (jK (-1,[]) z::c))
noncomputable def jf(m:Nat):LQ->Bool->(List LF->Bool)->Bool
 | .le s a b=>λt k=>two m s a b (kle t k)
 | .lt s a b=>λt k=>two m s a b (klt t k)
 | .eq s a b=>λt k=>two m s a b (Dh t k)
 | .and p q=>λt k=>cond t (jf m p true λc=>jf m q true λd=>k (c++d)) (jf m p false k&&jf m q false k)
 | .or p q=>λt k=>cond t (jf m p true k&&jf m q true k) (jf m p false λc=>jf m q false λd=>k (c++d))
 | .imp p q=>λt k=>cond t (jf m p false k&&jf m q true k) (jf m p true λc=>jf m q false λd=>k (c++d))
 | .rq=>λt k=>t||k []
noncomputable def tl(p:LF):LF:=(p.1,p.2.tail)
noncomputable def cU(p:LF):Int:=p.2.headD 0
noncomputable def pos(i:Int):Bool:=Nat.blt 0 i.toNat
noncomputable def fm:Nat->List LF->Bool
 |0,cs=>cs.any λc=>c.2.isEmpty&&pos (-c.1)
 |n+1,cs=>fm n (((cs.filter λc=>!pos (cU c)&&!pos (-cU c)).map tl)++(cs.filter λc=>pos (cU c)).flatMap λa=>(cs.filter λc=>pos (-cU c)).map λb=>tl (pS (ip (-cU b) a) (ip (cU a) b)))
noncomputable def Di(n m:Nat)(p:LQ):Bool:=jf m p false λc=>fm n (c++(List.range m).map λi=>(0,one i))
theorem Dj(c e:List Int):dot c e=c.headD 0*e.headD 0+dot c.tail e.tail:=by
 cases c with
 |nil=>show (0:Int)=0*_+0;rw[Int.zero_mul];rfl
 |cons _ _=>rfl
theorem Dk: ∀(a b e:List Int),dot (pR a b) e=dot a e+dot b e
 |[],b,e=>(Int.zero_add _).symm
 |x::a,b,e=>by
  rw[Dj b e];show (x+b.headD 0)*e.headD 0+dot (pR a b.tail) e.tail=(x*e.headD 0+dot a e.tail)+_
  rw[Dk,Int.add_mul,Int.add_assoc,Int.add_assoc,Int.add_left_comm (dot a e.tail)]
theorem Dl(k:Int): ∀(a e:List Int),dot (a.map (k* ·)) e=k*dot a e
 |[],e=>(Int.mul_zero _).symm
 |x::a,e=>by
  show k*x*e.headD 0+dot (a.map (k* ·)) e.tail=k*(x*e.headD 0+dot a e.tail);rw[Dl k a,Int.mul_add,Int.mul_assoc]
theorem wx: ∀(i:Nat) (e:List Int),dot (one i) e=e.getD i 0
 |0,[]=>rfl
 |0,x::e=>by show 1*x+0=x;rw[Int.one_mul,Int.add_zero]
 |i+1,[]=>by show 0*0+dot (one i) []=0;rw[wx i];rfl
 |i+1,x::e=>by show 0*x+dot (one i) e=_;rw[wx i,Int.zero_mul,Int.zero_add];rfl
section
variable{e:List Int}{m:Nat}{x y:LF}{s:Bool}
theorem tN:ev e (pS x y)=ev e x+ev e y:=by
 show x.1+y.1+dot (pR x.2 y.2) e=_+_;rw[Dk,Int.add_assoc,Int.add_left_comm y.1,<-Int.add_assoc];rfl
theorem wy{k:Int}:ev e (ip k x)=k*ev e x:=by
 show k*x.1+dot (x.2.map (k* ·)) e=k*(_+_);rw[Dl,Int.mul_add]
theorem pT:ev e (ip (-1) x)= -ev e x:=by rw[wy,Int.neg_mul,Int.one_mul]
theorem ls:ev e (jK x y)=ev e x-ev e y:=by rw[jK,tN,pT];rfl
theorem pU{k:Int}:ev e (k,[])=k:=Int.add_zero k
theorem Dm(h:pos (cU x)=false)(g:pos (-cU x)=false):ev e.tail (tl x)=ev e x:=by
 have h0:cU x=0:=by
  have a: ∀{i:Int},pos i=false->i<=0:=λ{i} h=>Int.not_lt.mp λq=>by
   rw[show pos i=true from Nat.blt_eq.mpr (Int.lt_toNat.mpr q)] at h;cases h
  exact Int.le_antisymm (a h) (Int.neg_nonpos_iff _|>.mp (a g))
 show _=x.1+dot x.2 e;rw[Dj,show x.2.headD 0=0 from h0,Int.zero_mul,Int.zero_add];rfl
theorem y6{i:Int}:pos i=true↔0<i:=⟨λh=>Int.lt_toNat.mp (Nat.blt_eq.mp h),λh=>Nat.blt_eq.mpr (Int.lt_toNat.mpr h)⟩
noncomputable def gY(e:List Int)(s:Bool)(t:LX):Int:=cond s ((lD e t).1:Int) (lD e t).2
noncomputable def All(e:List Int)(c:List LF):Prop:= ∀y,y∈c->0<=ev e y
theorem All.app{c d:List LF}(h:All e c)(g:All e d):All e (c++d):=λy z=>(List.mem_append.mp z).elim (h y) (g y)
theorem All.cons{c:List LF}(h:0<=ev e x)(g:All e c):All e (x::c):=λy z=>(List.mem_cons.mp z).elim (λq=>q▸h) (g y)
theorem All.nil:All e []:=λU z=>absurd z List.not_mem_nil
inductive LK(e:List Int)(v:Int)(k:LF->List LF->Bool):Prop
 |mk (x:LF) (c:List LF) (h:k x c=true) (q:ev e x=v) (a:All e c)
theorem Do(hm: ∀i,i<m->0<=e.getD i 0)(t:LX): ∀(s:Bool) (k:LF->List LF->Bool),iq m t s k=true->LK e (gY e s t) k:=by
 induction t with
 |v i=>
  intro s k h;obtain ⟨h1,h2⟩:=Bool.and_eq_true_iff.mp h;refine⟨_,_,h2,?_,.nil⟩;show 0+dot (one i) e=_
  rw[wx,Int.zero_add]
  cases s with
  |false=>rfl
  |true=>exact(Int.toNat_of_nonneg (hm i (Nat.blt_eq.mp h1))).symm
 |k n=>
  intro s k h;exact⟨_,_,h,by cases s<;>exact pU,.nil⟩
 |add a b gZ pV=>
  intro s k h;obtain ⟨x,c,h,q,g⟩:=gZ s _ h;obtain ⟨y,d,h,q',g'⟩:=pV s _ h;exact⟨_,_,h,by rw[tN,q,q'];cases s<;>rfl,g.app g'⟩
 |sub a b gZ pV=>
  intro s k h;obtain ⟨x,c,h,q,g⟩:=gZ s _ h;obtain ⟨y,d,h,q',g'⟩:=pV s _ h
  cases s with
  |false=>exact⟨_,_,h,by rw[ls,q,q'];rfl,g.app g'⟩
  |true=>
   obtain ⟨h1,h2⟩:=Bool.and_eq_true_iff.mp h;by_cases z:(lD e b).1<=(lD e a).1
   .exact⟨_,_,h1,by rw[ls,q,q'];exact(Int.ofNat_sub z).symm,.cons (by rw[ls,q,q'];exact Int.sub_nonneg.mpr (Int.ofNat_le.mpr z)) (g.app g')⟩
   .have z:=Nat.le_of_lt (Nat.lt_of_not_le z);exact⟨_,_,h2,by rw[pU];exact(congrArg Int.ofNat (Nat.sub_eq_zero_of_le z)).symm,.cons (by rw[ls,q,q'];exact Int.sub_nonneg.mpr (Int.ofNat_le.mpr z)) (g.app g')⟩
 |mul n a gZ=>
  intro s k h;obtain ⟨x,c,h,q,g⟩:=gZ s _ h;exact⟨_,_,h,by rw[wy,q];cases s<;>rfl,g⟩
 |neg a gZ=>
  intro s k h
  cases s with
  |true=>cases h
  |false=>
   obtain ⟨x,c,h,q,g⟩:=gZ _ _ h;exact⟨_,_,h,by rw[pT,q];rfl,g⟩
 |of a gZ=>
  intro s k h
  cases s with
  |true=>cases h
  |false=>exact gZ _ _ h
 |ww a gZ=>
  intro s k h
  cases s with
  |false=>cases h
  |true=>
   obtain ⟨x,c,h,q,g⟩:=gZ _ _ h;obtain ⟨h1,h2⟩:=Bool.and_eq_true_iff.mp h;rcases Int.le_total 0 (lD e a).2 with z|z
   .exact⟨_,_,h1,q.trans (Int.toNat_of_nonneg z).symm,.cons (q▸z) g⟩
   .exact⟨_,_,h2,pU.trans (congrArg Int.ofNat (Int.toNat_of_nonpos z)).symm,.cons (by rw[pT,q];exact Int.neg_nonneg_of_nonpos z) g⟩
 |abs a gZ=>
  intro s k h
  cases s with
  |false=>cases h
  |true=>
   obtain ⟨x,c,h,q,g⟩:=gZ _ _ h;obtain ⟨h1,h2⟩:=Bool.and_eq_true_iff.mp h;rcases Int.le_total 0 (lD e a).2 with z|z
   .exact⟨_,_,h1,q.trans (Int.natAbs_of_nonneg z).symm,.cons (q▸z) g⟩
   .exact⟨_,_,h2,by rw[pT,q];exact(Int.ofNat_natAbs_of_nonpos z).symm,.cons (by rw[pT,q];exact Int.neg_nonneg_of_nonpos z) g⟩
 |min a b gZ pV=>
  intro s k h;obtain ⟨x,c,h,q,g⟩:=gZ s _ h;obtain ⟨y,d,h,q',g'⟩:=pV s _ h;obtain ⟨h1,h2⟩:=Bool.and_eq_true_iff.mp h;rcases Int.le_total (gY e s a) (gY e s b) with z|z
  .exact⟨_,_,h1,q.trans (by cases s;exact(Int.min_eq_left z).symm;exact congrArg Int.ofNat (Nat.min_eq_left (Int.ofNat_le.mp z)).symm),.cons (by rw[ls,q,q'];exact Int.sub_nonneg.mpr z) (g.app g')⟩
  .exact⟨_,_,h2,q'.trans (by cases s;exact(Int.min_eq_right z).symm;exact congrArg Int.ofNat (Nat.min_eq_right (Int.ofNat_le.mp z)).symm),.cons (by rw[ls,q,q'];exact Int.sub_nonneg.mpr z) (g.app g')⟩
 |max a b gZ pV=>
  intro s k h;obtain ⟨x,c,h,q,g⟩:=gZ s _ h;obtain ⟨y,d,h,q',g'⟩:=pV s _ h;obtain ⟨h1,h2⟩:=Bool.and_eq_true_iff.mp h;rcases Int.le_total (gY e s a) (gY e s b) with z|z
  .exact⟨_,_,h1,q'.trans (by cases s;exact(Int.max_eq_right z).symm;exact congrArg Int.ofNat (Nat.max_eq_right (Int.ofNat_le.mp z)).symm),.cons (by rw[ls,q,q'];exact Int.sub_nonneg.mpr z) (g.app g')⟩
  .exact⟨_,_,h2,q.trans (by cases s;exact(Int.max_eq_left z).symm;exact congrArg Int.ofNat (Nat.max_eq_left (Int.ofNat_le.mp z)).symm),.cons (by rw[ls,q,q'];exact Int.sub_nonneg.mpr z) (g.app g')⟩
theorem y7(hm: ∀i,i<m->0<=e.getD i 0){s:Bool}{a b:LX}{k:LF->List LF->Bool}(h:two m s a b k=true):LK e (gY e s b-gY e s a) k:=by
 obtain ⟨x,c,h,q,g⟩:=Do hm a s _ h;obtain ⟨y,d,h,q',g'⟩:=Do hm b s _ h;exact⟨_,_,h,by rw[ls,q,q'],g.app g'⟩
inductive Kw(e:List Int)(k:List LF->Bool):Prop
 |mk (c:List LF) (h:k c=true) (a:All e c)
theorem Kx(hm: ∀i,i<m->0<=e.getD i 0)(p:LQ): ∀(t:Bool) (k:List LF->Bool),jf m p t k=true->cond t (jJ e p) (¬jJ e p)->Kw e k:=by
 induction p with
 |le s a b=>
  intro t k h g;obtain ⟨z,c,h,q,w⟩:=y7 hm (show two m s a b (kle t k)=true from h)
  cases t with
  |true=>exact⟨_,h,.cons (by rw[q];cases s;exact Int.sub_nonneg.mpr g;exact Int.sub_nonneg.mpr (Int.ofNat_le.mpr g)) w⟩
  |false=>
   have z:gY e s b<gY e s a:=by cases s;exact Int.not_le.mp g;exact Int.ofNat_lt.mpr (Nat.lt_of_not_le g)
   exact⟨_,h,.cons (by rw[ls,pU,q];omega) w⟩
 |lt s a b=>
  intro t k h g;obtain ⟨z,c,h,q,w⟩:=y7 hm (show two m s a b (klt t k)=true from h)
  cases t with
  |true=>
   have z:gY e s a<gY e s b:=by cases s;exact g;exact Int.ofNat_lt.mpr g
   exact⟨_,h,.cons (by rw[tN,pU,q];omega) w⟩
  |false=>
   have z:gY e s b<=gY e s a:=by cases s;exact Int.not_lt.mp g;exact Int.ofNat_le.mpr (Nat.le_of_not_lt g)
   exact⟨_,h,.cons (by rw[pT,q];omega) w⟩
 |eq s a b=>
  intro t k h g;obtain ⟨z,c,h,q,w⟩:=y7 hm (show two m s a b (Dh t k)=true from h)
  cases t with
  |true=>
   have z:gY e s a=gY e s b:=by cases s;exact g;exact congrArg Int.ofNat g
   exact⟨_,h,.cons (by rw[q];omega) (.cons (by rw[pT,q];omega) w)⟩
  |false=>
   have z:gY e s a≠gY e s b:=by cases s;exact g;exact λz=>g (Int.ofNat.inj z)
   obtain ⟨h1,h2⟩:=Bool.and_eq_true_iff.mp h;rcases Int.lt_or_gt_of_ne z with z|z
   .exact⟨_,h1,.cons (by rw[tN,pU,q];omega) w⟩
   .exact⟨_,h2,.cons (by rw[ls,pU,q];omega) w⟩
 |and p r oE oF=>
  intro t k h g
  cases t with
  |true=>
   obtain ⟨c,h,w⟩:=oE true _ h g.1;obtain ⟨d,h,w'⟩:=oF true _ h g.2;exact⟨_,h,w.app w'⟩
  |false=>
   obtain ⟨h1,h2⟩:=Bool.and_eq_true_iff.mp h;by_cases z:jJ e p
   .exact oF false _ h2 λq=>g ⟨z,q⟩
   .exact oE false _ h1 z
 |or p r oE oF=>
  intro t k h g
  cases t with
  |true=>
   obtain ⟨h1,h2⟩:=Bool.and_eq_true_iff.mp h;exact g.elim (oE true _ h1) (oF true _ h2)
  |false=>
   obtain ⟨c,h,w⟩:=oE false _ h λq=>g (.inl q);obtain ⟨d,h,w'⟩:=oF false _ h λq=>g (.inr q);exact⟨_,h,w.app w'⟩
 |imp p r oE oF=>
  intro t k h g
  cases t with
  |true=>
   obtain ⟨h1,h2⟩:=Bool.and_eq_true_iff.mp h;by_cases z:jJ e p
   .exact oF true _ h2 (g z)
   .exact oE false _ h1 z
  |false=>
   have z:jJ e p:=Classical.byContradiction λz=>g λq=>absurd q z;obtain ⟨c,h,w⟩:=oE true _ h z;obtain ⟨d,h,w'⟩:=oF false _ h λq=>g λU=>q;exact⟨_,h,w.app w'⟩
 |rq=>
  intro t k h g
  cases t with
  |true=>exact g.elim
  |false=>exact⟨_,h,.nil⟩
theorem Dp: ∀(n:Nat) (e:List Int) (cs:List LF),fm n cs=true-> ¬All e cs
 |0,e,cs,h,g=>by
  obtain ⟨c,hc,h⟩:=List.any_eq_true.mp h;obtain ⟨h1,h2⟩:=Bool.and_eq_true_iff.mp h;have:=g c hc;unfold ev at this;rw[List.isEmpty_iff.mp h1] at this;have h2:=y6.mp h2;have:0<=c.1+0:=this
  omega
 |n+1,e,cs,h,g=>by
  refine Dp n e.tail _ h λy hy=>?_;rcases List.mem_append.mp hy with z|z
  .obtain ⟨c,hc,rfl⟩:=List.mem_map.mp z;obtain ⟨h0,h1⟩:=List.mem_filter.mp hc;obtain ⟨h1,h2⟩:=Bool.and_eq_true_iff.mp h1;rw[Dm (Bool.not_eq_true' _|>.mp h1) (Bool.not_eq_true' _|>.mp h2)];exact g c h0
  .obtain ⟨a,ha,z⟩:=List.mem_flatMap.mp z;obtain ⟨b,hb,rfl⟩:=List.mem_map.mp z;obtain ⟨ha,pa⟩:=List.mem_filter.mp ha;obtain ⟨hb,pb⟩:=List.mem_filter.mp hb;have pa:=y6.mp pa;have pb:=y6.mp pb;have z:cU (pS (ip (-cU b) a) (ip (cU a) b))=0:=by
    have hh: ∀(p q:List Int),(pR p q).headD 0=p.headD 0+q.headD 0:=λp q=>by cases p;exact(Int.zero_add _).symm;rfl
    have hk: ∀(k:Int) (p:List Int),(p.map (k* ·)).headD 0=k*p.headD 0:=λk p=>by cases p;exact(Int.mul_zero _).symm;rfl
    show (pR _ _).headD 0=0;rw[hh,show (ip (-cU b) a).2=a.2.map (-cU b* ·) from rfl,show (ip (cU a) b).2=b.2.map (cU a* ·) from rfl,hk,hk];show -cU b*cU a+cU a*cU b=0
    rw[Int.neg_mul,Int.mul_comm,Int.add_left_neg]
   rw[Dm (by rw[z];rfl) (by rw[z];rfl),tN,wy,wy];exact Int.add_nonneg (Int.mul_nonneg (Int.le_of_lt pb) (g a ha)) (Int.mul_nonneg (Int.le_of_lt pa) (g b hb))
theorem Dq: ∀(n:List Nat) (z:List Int) (i:Nat),i<n.length->0<=(n.map Int.ofNat++z).getD i 0
 |[],_,_,h=>absurd h (Nat.not_lt_zero _)
 |a::_,_,0,_=>Int.natCast_nonneg a
 |_::n,z,i+1,h=>Dq n z i (Nat.lt_of_succ_lt_succ h)
theorem Ky(n:List Nat)(z:List Int)(p:LQ)(h:Di (n.length+z.length) n.length p=true):jJ (n.map Int.ofNat++z) p:=by
 refine Classical.byContradiction λg=>?_;have hm:=Dq n z;obtain ⟨c,h,w⟩:=Kx hm p false _ h g;refine Dp _ _ _ h (w.app λy hy=>?_);obtain ⟨i,hi,rfl⟩:=List.mem_map.mp hy;show 0<=0+dot (one i) _
 rw[wx,Int.zero_add];exact hm i (List.mem_range.mp hi)
end
noncomputable def num(c:Nat):Nat×Nat:=(c / 32%32^(c%32),c / 32 / 32^(c%32))
noncomputable def dT:Nat->Nat->LX×Nat
 |0,c=>(.k 0,c)
 |n+1,c=>
  let o:=c%32
  let c:=c / 32
  let u:=dT n c
  let w:=dT n u.2
  cond (o.beq 0) (.v (c%32),c / 32)<|cond (o.beq 1) (.k (num c).1,(num c).2)<|cond (o.beq 2) (.add u.1 w.1,w.2)<|cond (o.beq 3) (.sub u.1 w.1,w.2)<|
  cond (o.beq 4) (.mul (num c).1 (dT n (num c).2).1,(dT n (num c).2).2)<|cond (o.beq 5) (.neg u.1,u.2)<|cond (o.beq 6) (.of u.1,u.2)<|cond (o.beq 7) (.ww u.1,u.2)<|
  cond (o.beq 8) (.abs u.1,u.2)<|cond (o.beq 9) (.min u.1 w.1,w.2) (.max u.1 w.1,w.2)
noncomputable def dP:Nat->Nat->LQ×Nat
 |0,c=>(.rq,c)
 |n+1,c=>
  let o:=c%32
  let c:=c / 32
  let u:=dT 50 c
  let w:=dT 50 u.2
  let p:=dP n c
  let q:=dP n p.2
  cond (o.beq 0) (.rq,c)<|cond (o.beq 1) (.le true u.1 w.1,w.2)<|cond (o.beq 2) (.le false u.1 w.1,w.2)<|cond (o.beq 3) (.lt true u.1 w.1,w.2)<|cond (o.beq 4) (.lt false u.1 w.1,w.2)<|
  cond (o.beq 5) (.eq true u.1 w.1,w.2)<|cond (o.beq 6) (.eq false u.1 w.1,w.2)<|cond (o.beq 7) (.and p.1 q.1,q.2)<|cond (o.beq 8) (.or p.1 q.1,q.2)<|cond (o.beq 9) (.imp p.1 q.1,q.2) (.imp p.1 .rq,p.2)
theorem la(n:List Nat)(z:List Int)(c:Nat)(h:Di (n.length+z.length) n.length (dP 50 c).1=true:=by kernel_rfl):jJ (n.map Int.ofNat++z) (dP 50 c).1:=Ky n z _ h
end LA
section
variable{a b c d e f g i j k l m n o p q:Nat}{r s t u v w x y z:Int}
theorem G1:(1+r).toNat=s.natAbs->0<=r->r<4->s≠0/\s.natAbs<=4:=LA.la [] [r,s] 6327722354328300073664850864698488428218067254223064603817
theorem G2:(1+r).toNat=s.natAbs->0<=r->r<5->s≠0/\s.natAbs<=5:=LA.la [] [r,s] 7896997788174970264625127448496189948116559922399353576617
theorem G3:(1+r).toNat=(1+s).toNat->0<=r->0<=s->r=s:=LA.la [] [r,s] 1461510043667919320482265637840843550378502986921
theorem G4:0<=r->(1+r).natAbs=(1+r).toNat:=LA.la [] [r] 1277918413374926334434739273
theorem G5:0<=r->(-(1+r)).natAbs=(1+r).toNat:=LA.la [] [r] 40893389227997639511824663625
theorem G6:a=4∨a=5->0<=r->r<2->0<=s->s<(a:Int)->(1+s).natAbs<2^60/\(1-2*r).natAbs<2^60:=LA.la [a] [r,s] 90854840536950861350758972751253278933482388535312883251437581186432524087476462782088587750790951199243940328885591053983458086884617
theorem G7:r<=16->1<=r->r≠0/\r.natAbs<1000000:=LA.la [] [r] 43556148452943796251241085529008504151886266441
theorem G8:r<=32->0<=r->r.natAbs<1000000:=LA.la [] [r] 1267650759922800242541730675574177865
theorem G9: ¬(0<r)->(2*s).toNat=(1-2*r).toNat->2*s=1-2*r:=LA.la [] [r,s] 99805317044567533706475069859166558984819765818737856841
theorem Kz:0<r->(1-2*s).toNat=(2*r).toNat->1-2*s=2*r:=LA.la [] [r,s] 3118914739093683547691054326144016941842207337776940169
theorem KA:0<=r->r<(a:Int)->(-(1+r)).natAbs<=a:=LA.la [a] [r] 40605712530453917853761581089865
theorem KC:0<=r->r<(a:Int)->(1+r).natAbs<=a:=LA.la [a] [r] 1268928519859059035066349913161
theorem KD:0<=r-> ¬(-(1+r)=0):=LA.la [] [r] 37780122015241892529225
theorem KE:0<=r->1+r≠0:=LA.la [] [r] 1180628813014628303945
theorem KG:a<b->0<=r+(b:Int)-(r+(a:Int)):=LA.la [a,b] [r] 240162823475603994829140263017
theorem KH:(b:Int)<s->r+(b:Int)-(r+(a:Int))<s:=LA.la [a,b] [r,s] 3894230148989354334022850176882825
theorem KN:r+(b:Int)-(r+(a:Int))=0->a<b->False:=LA.la [a,b] [r] 1298078315347872961475838291807433
theorem KO:a<=3->b<c->c<a->(c:Int)<((4:Nat):Int):=LA.la [a,b,c] [] 5488634228757918926485470622394321207337
theorem KP:a<=3->b<c->c<a->(c:Int)<((5:Nat):Int):=LA.la [a,b,c] [] 6849763696441672780338969052121394053161
theorem KQ:2*s=1-2*r->2*(r+s)=1:=LA.la [] [r,s] 44961136960040708700116195870429381955785
theorem KR:1-2*s=2*r->2*(r+s)=1:=LA.la [] [r,s] 44961136960040708700116195836279055748297
theorem Dr: ¬(2:Int)∣1:=by decide
theorem Ds{n:Int}{b c:Nat}{d:Int}(h:(d+(b:Int))%n=(d+(c:Int))%n)(h1:b<c)(h2:(c:Int)<n):False:=by
 have e:=Int.emod_eq_emod_iff_emod_sub_eq_zero.mp h.symm;rw[Int.emod_eq_of_lt (KG h1) (KH h2)] at e;exact KN e h1
theorem Z1:r<1000->((2:Nat):Int)*r<=2^27:=LA.la [] [r] 162259277057067619517542658211977
theorem Z2:r≠0->r.natAbs≠0:=LA.la [] [r] 1153208820772641097
theorem Z3:a+64<b->a<b:=LA.la [a,b] [] 37779041077449329739881
theorem Z4:a+16*b+100<c->a+64<c:=LA.la [a,b,c] [] 2724920028074920372670544411005183658089
theorem Z5:a<900->b<=a->b<=1000:=LA.la [a,b] [] 39616597032943414535645381525609
theorem Z6:a<900->b<=a->b+1<=1000:=LA.la [a,b] [] 41541012890068479634765123953559076969
theorem Z7:a=b->c=a->b<=(c:Int).toNat:=LA.la [a,b,c] [] 2483399267756101797236703401
theorem Z8:(a:Int)<=(b:Int)->c=b->a<=c:=LA.la [a,b,c] [] 2475881296128112860692748361
theorem Z9:1<=r->r=((r.toNat:Nat):Int):=LA.la [] [r] 258957184733316169
theorem KS:1<=(a:Int)->1<=a:=LA.la [a] [] 37190981011932233
theorem KU:a-r.toNat<=a-min r.toNat a:=LA.la [a] [r] 37155822929873731681
theorem KV:a<=b->min c a<=b:=LA.la [a,b,c] [] 36893558826508222505
theorem KW:((a:Int)-0-1+1).toNat=a:=LA.la [a] [] 38997607049123240970469
theorem KY: ¬(0<(a:Int))->(0:Int).toNat=a:=LA.la [a] [] 1377688270967113
theorem KZ:a<=b->min (a:Int) (b:Int)=(a:Int):=LA.la [a,b] [] 7120659392146784124969
theorem K0: ¬((a:Int)<0):=LA.la [a] [] 33560714
theorem K1: ¬((1:Int)<(0:Int)):=LA.la [] [] 34636938
theorem K4:r.toNat<=a->r-(a:Int)<=0:=LA.la [a] [r] 1180808922766687345705
theorem K5:r-((a+1:Nat):Int)=r-(a:Int)-1:=LA.la [a] [r] 1308502849382397762117497290854
theorem K6{b:Nat}{a c:Int}:a+((b:Int)*c+c)=a+(b:Int)*c+c:=(Int.add_assoc _ _ _).symm
theorem K7:a<r.toNat->0<r-(a:Int):=LA.la [a] [r] 222517229326873657449
theorem pW:a<=a+1:=LA.la [a] [] 1134945173505
theorem K8:a<b->c<=d->d<a->c<b:=LA.la [a,b,c,d] [] 1300613229767739182580101248188521
theorem tO:a<=a+2:=LA.la [a] [] 2234456801281
theorem K9:a<=a+2+1:=LA.la [a] [] 1190147704150360065
theorem Du:a≠a+1:=LA.la [a] [] 36318245552298
theorem La:a+2≠a+1:=LA.la [a] [] 38082440717894944938
theorem Lb:a≠a+2:=LA.la [a] [] 71502617641130
theorem Lc:a+2≠a:=LA.la [a] [] 69826775210
theorem Ld:a+1≠a+2:=LA.la [a] [] 74975928830954309802
theorem Dv:a+1≠a:=LA.la [a] [] 35467036842
theorem Z32:a<=b->a=b+1->False:=LA.la [a,b] [] 38997572145308982313001
theorem Le:a+1<b->b≠a:=LA.la [a,b] [] 37084926351421474921
theorem Dw:a+16*(b+1)+100<c->a+3+16*b+100<c:=LA.la [a,b,c] [] 3218783188650331998250317538360061702199193850036180236699753
theorem y8:a+4*(b+1)<c->a+1+4*b<c:=LA.la [a,b,c] [] 2855894674399783525794378095530261668410951785
theorem Dx:a+4*(b+1)<c->a<c:=LA.la [a,b,c] [] 2535304902829864939481875875945
theorem Lf:r<0-> -r=((r.natAbs:Nat):Int):=LA.la [] [r] 294985953834958985
theorem Lg: ¬(r<0)->r=((r.natAbs:Nat):Int):=LA.la [] [r] 294985981784756553
theorem Dy:2<=a->b=a->0<b:=LA.la [a,b] [] 38686917500884999963968553
theorem Lh:r<s∨r=s/\t<u->(r<v∨r=v/\t<w)∨v<s∨v=s/\w<u:=LA.la [] [r,s,t,u,v,w] 5567073663181079676327907765408371273670236753597936824614432547131804079886601
theorem Li:r<s∨r=s/\t<u->s<v∨s=v/\u<w->r<v∨r=v/\t<w:=LA.la [] [r,s,t,u,v,w] 9266992930018431636923210169218367374620709118602472979529540075294080291049737
theorem Lj: ¬(2<=a)->min b a<2:=LA.la [a,b] [] 2456811199061687893263689
theorem Lk:2<=a-> ¬(a<2):=LA.la [a] [] 74975930238598415401
theorem Dz:a<=5->b=a->b<=16777216:=LA.la [a,b] [] 20769187628814183298560099131326505
theorem Ll:a+1+b=a+(b+1):=LA.la [a,b] [] 1277872444053789309317154885
theorem Lm:a+(b+1)<64->a+1+b<64:=LA.la [a,b] [] 2790359274615463066969520500385360161802345
theorem Ln:a+(b+1)<64->a<64:=LA.la [a,b] [] 81210104632860553277988206020713
theorem DA:a+16*(b+1)+100<c->a+1+16*b+100<c:=LA.la [a,b,c] [] 3218783188650331909047336744237569136056320759442734212778089
theorem DB:a+4*(b+1)<c->a+4*b<c:=LA.la [a,b,c] [] 2723593401295653840249649123647721310313
theorem Lo:a+16*(b+1)+100<c->a+1+1+16*b+100<c:=LA.la [a,b,c] [] 3375138800822210431862690539435182982453597727797358645854544660585
theorem Lp:a<=b->0+a<=b+1:=LA.la [a,b] [] 39933513876610615890411561
theorem DC:a+(b+1)=c->a+1+b=c:=LA.la [a,b,c] [] 2659755374287165083183110626689943721
theorem DD:a+(b+1)=a+1+b:=LA.la [a,b] [] 1239187924702824291817750597
theorem Lq:a<b+1->c<a->c<b:=LA.la [a,b,c] [] 1270130107158164238038401548393
theorem Lr:a<b->b=b-1+1:=LA.la [a,b] [] 1277873588906005537641988201
theorem Ls:a=106+b-> ¬(c<106)->b=c-106->c=a:=LA.la [a,b,c] [] 93769195011868409992413159109044997196455876755625
theorem Lu:106+a<106->False:=LA.la [a] [] 3821339471754856554
theorem Lw: ¬(106+a<106):=LA.la [a] [] 3821339471754856554
theorem DE:a=106+b->b<19-> ¬(200<=a):=LA.la [a,b] [] 259697292945512653776539721115107497
theorem Lx:102<=a->100<=a:=LA.la [a] [] 3605167785700820009
theorem Ly:100≠101:=LA.la [] [] 111120572548266
theorem Lz:102<=a->100≠a:=LA.la [a] [] 115365520871713211433
theorem LB:a<100->102<=a->False:=LA.la [a] [] 117671223250773868649
theorem LC:100<=a->a<100->False:=LA.la [a] [] 118134102086088912864297
theorem LD{a:Nat}:(201+2*a-201) / 2=a:=by rw[Nat.add_sub_cancel_left];exact Nat.mul_div_cancel_left a (by decide)
theorem LG{a:Nat}:(201+2*a)%2=1:=Nat.add_mul_mod_self_left 201 2 a
theorem LH: ¬(201+2*a<200):=LA.la [a] [] 236193264112894147070058
theorem LJ{a:Nat}:(200+2*a-200) / 2=a:=by rw[Nat.add_sub_cancel_left];exact Nat.mul_div_cancel_left a (by decide)
theorem LL{a:Nat}:(200+2*a)%2=0:=Nat.add_mul_mod_self_left 200 2 a
theorem LM: ¬(200+2*a<200):=LA.la [a] [] 236193264112894113515626
theorem DF: ¬(a<b)->a≠b->b+1<=a:=LA.la [a,b] [] 1308541383926223640708406840649
theorem y9:a<a->False:=LA.la [a] [] 106
theorem LN:r.natAbs<a-> -r<(a:Int):=LA.la [a] [r] 217304317018775657
theorem DG: ¬(0<r)->0<= -r:=LA.la [] [r] 5630667765354825
theorem LO: ¬(0<r)->(((1-2*r).toNat:Nat):Int)=1-2*r:=LA.la [] [r] 86567313251021791623757967534116081993
theorem DH:r.natAbs<1000->(2:Int).natAbs<2^60/\r.natAbs<2^60:=LA.la [] [r] 1766847064778384330207370761598066610364473390319027275851776642424774761
theorem LP:0<r->(((2*r).toNat:Nat):Int)=2*r:=LA.la [] [r] 2460353010907225771738249
theorem DI: ¬(((r.natAbs:Nat):Int)<((s.natAbs:Nat):Int))->s.natAbs<=r.natAbs:=LA.la [] [r,s] 303421307060110745604425
theorem za: ¬(r<s)->s<=r:=LA.la [] [r,s] 35254165311817
theorem zb:r.natAbs<r.natAbs->False:=LA.la [] [r] 268443754
theorem LR:r.natAbs<s.natAbs->s.natAbs<r.natAbs->False:=LA.la [] [r,s] 296309950466075140201
theorem DJ:a<b->a-1<b:=LA.la [a,b] [] 1181781697025277952105
theorem DK:a<=5->b<a->c<=b->c<1000000:=LA.la [a,b,c] [] 1329228163317739281669779717344121028870185
theorem LS:r.natAbs<s.natAbs->((s.natAbs:Nat):Int)<=((r.natAbs:Nat):Int)->False:=LA.la [] [r,s] 309352193183283262005353
theorem DL:0+(a:Int)<(b:Int)->a-1<b:=LA.la [a,b] [] 39654013591679297918754392201
theorem LU:0<0+(a:Int)->0<=0+(a:Int)-1:=LA.la [a] [] 1339906916595246677240454100026505
theorem LV:(0+(a:Int)-1).toNat=a-1:=LA.la [a] [] 39932334475100121489018085
theorem LW:r.natAbs<s.natAbs->s= -r->False:=LA.la [] [r,s] 5800858456030191721
theorem DM:1+(a:Int)<(b:Int)->a+1<b:=LA.la [a,b] [] 1268928434896844045252754966665
theorem DN:1+(a:Int)<(b:Int)->a<b:=LA.la [a,b] [] 1208929314619052723832969
theorem LY:0<=1+(a:Int)-1:=LA.la [a] [] 38082445081583910946
theorem LZ:(1+(a:Int)-1).toNat=a:=LA.la [a] [] 1190076408799497445
theorem L2:(1+(a:Int)).toNat=a+1:=LA.la [a] [] 1218638100744658520293
theorem L3:(-r).natAbs<r.natAbs->False:=LA.la [] [r] 8590106730
theorem L4:r.natAbs<(-r).natAbs->False:=LA.la [] [r] 5637152874
theorem DO:r≠0->r=s-> -r=s->False:=LA.la [] [r,s] 39614277605429017772187195721
theorem L5:a-1<=b->a<=b+1:=LA.la [a,b] [] 1277872444052663409410313257
theorem L6:a<0->False:=LA.la [a] [] 1048682
theorem L7:a<(r-s).toNat->s<r-(a:Int):=LA.la [a] [r,s] 7291446840432186520240233
theorem L8{b:Nat}{a:Int}:a+(b:Int)* -1=a-(b:Int):=by rw[Int.mul_neg,Int.mul_one];rfl
theorem L9:a<(r-s).toNat->s+(a:Int)<r:=LA.la [a] [r,s] 1237947196698712471082369129
theorem Ma: ¬(r>s)->0=(r-s).toNat:=LA.la [] [r,s] 37779047831918877872457
theorem zc: ¬(-1>0):=LA.la [] [] 35472278666
theorem Mb: ¬(r<s)->0=(s-r).toNat:=LA.la [] [r,s] 37009457110207959369
theorem DP:r.natAbs<1000000-> -9223372036854775808<=r/\r<9223372036854775808:=LA.la [] [r] 14134776518227074637290453079795597358878320315085330687067475920048627817
theorem Mc:r.natAbs<1000000->s.natAbs<1000000-> -9223372036854775808<=r-s/\r-s<9223372036854775808:=LA.la [] [r,s] 546812681195752981117270016642173775484979774912017586743785636368454959976371158837275019295334505
theorem Md: -(2^63)<= -1/\ -1<2^63:=LA.la [] [] 411376139330301510556906612463027232110584636499150722925892679
theorem wz:r.natAbs<1000000-> -(2^63)<=r/\r<2^63:=LA.la [] [r] 14134776518227074637290453079795597358878320315085330687067475920048627817
theorem Me:r.natAbs<1000000->s.natAbs<1000000-> -9223372036854775808<=s-r/\s-r<9223372036854775808:=LA.la [] [r,s] 546812681195752981117268209157624823846648471604893202204670188682861858879386457281930891318272105
theorem Mf: -((2:Int)^(63:Nat))<=(1:Int)/\(1:Int)<(2:Int)^(63:Nat):=LA.la [] [] 401734511064747568903229113689057524802527820728949246301255
theorem Mg:r=s->((t.natAbs:Nat):Int)=r->((u.natAbs:Nat):Int)=s->t.natAbs=u.natAbs:=LA.la [] [r,s,t,u] 4192364169895746102309082233323337992372425
theorem Mh:r.natAbs=s.natAbs->s= -r∨s=r:=LA.la [] [r,s] 38912305619702133567791273
theorem Mi:r.natAbs<=5->r.natAbs-1<5:=LA.la [] [r] 6229633744900272183064928297
theorem DQ:a<=5->b<=5->c<=a->d<=b->c+d<1000000:=LA.la [a,b,c,d] [] 1496577865297660876645950285825961209648602701114899431465
theorem Mj:a<=5->b<=5->c<=a->d<=b->c+d<100:=LA.la [a,b,c,d] [] 149752902374183686414309415528251060027286620193423401
theorem Mk:r.natAbs<10000->s.natAbs<10000->(s-r).toNat<1000000:=LA.la [] [r,s] 44601496015805022291969320249362945868597479612521
theorem Ml:r<(a:Int)-> ¬(r<(a:Int))->False:=LA.la [a] [r] 6953709900868386953
theorem DS:0<=r-> ¬(0<=r)->False:=LA.la [] [r] 37737730147401
theorem Mm:0<=r->r<=(a:Int)->0<=r/\r<=((a+1:Nat):Int):=LA.la [a] [r] 1438713938247568133232886606383050852926537
theorem Mn:0<r-> -r=s->((s.natAbs:Nat):Int)=r:=LA.la [] [r,s] 38995163746152197853807753
theorem Mo:0<r->r=s->((s.natAbs:Nat):Int)=r:=LA.la [] [r,s] 1218598867067293461906569
theorem Mp:0<r-> ¬(0<s)->r=s->False:=LA.la [] [r,s] 1237947492922947493844485257
theorem Mq:((r.natAbs:Nat):Int)=s-> ¬(0<r)->s= -r:=LA.la [] [r,s] 6228612496286641421388355785
theorem Mr:((r.natAbs:Nat):Int)=s-> ¬(0<r)-> -s=r:=LA.la [] [r,s] 1244211342015525334074792137
theorem Ms:((r.natAbs:Nat):Int)=s->0<r->s=r:=LA.la [] [r,s] 1216009370615501002381513
theorem Mt:((r.natAbs:Nat):Int)=((s.natAbs:Nat):Int)->r=s∨ -r=s:=LA.la [] [r,s] 40565019926768553954741726746825
theorem Mu:(-r).natAbs=r.natAbs:=LA.la [] [r] 268440837
theorem Mv: ¬(a<b)->a<b+1->a=b:=LA.la [a,b] [] 40565013883356787836216506584393
theorem Mw: -1=0->False:=LA.la [] [] 1108382922
theorem Mx:(1:Int)=(0:Int)->False:=LA.la [] [] 34637002
theorem My:0= -1->False:=LA.la [] [] 35472278730
theorem Mz:1= -1->False:=LA.la [] [] 1135113962698
theorem MA: -1=1->False:=LA.la [] [] 1134979749066
theorem MB:(0:Int)=(1:Int)->False:=LA.la [] [] 1108346058
theorem MC:r.natAbs<=a-> -r<=(a:Int):=LA.la [a] [r] 217304248299298857
theorem MD: ¬(0<r)->r≠0->0< -r:=LA.la [] [r] 193470633589830409953251657
theorem ME:r.natAbs<=a->r<=(a:Int):=LA.la [a] [r] 6790652533678121
theorem MF: -r=s->s.natAbs≠r.natAbs->False:=LA.la [] [r,s] 296310021144862266569
theorem MG:r=s-> ¬(s.natAbs=(-r).natAbs)->False:=LA.la [] [r,s] 193727128897872462025
theorem ze:r≠0-> -r≠0:=LA.la [] [r] 1153104367168002377
theorem MI:0<=r->0<=s->r≠s->r.toNat≠s.toNat:=LA.la [] [r,s] 1370434354343614477301862019431722386505
theorem DT:r<=(a:Int)->b=a+1->r<(b:Int):=LA.la [a,b] [r] 1305759502387980874839336702509129
theorem MJ:r<=(a:Int)->a-((a:Int)-1-(r-1)).toNat=r.toNat:=LA.la [a] [r] 1403368388546104050973895916638201461112905
theorem DU:((r.natAbs:Nat):Int)=s->s.natAbs=r.natAbs:=LA.la [] [r,s] 9259687840768596169
theorem MK:0<r-> ¬(((s.natAbs:Nat):Int)=r)->r.natAbs≠s.natAbs:=LA.la [] [r,s] 1308215735342962142539144348304521
theorem DV:r≠0->0<((r.natAbs:Nat):Int):=LA.la [] [r] 294987012576909641
theorem ML:0<=r->r-1<(a:Int)-1-(b:Int)->0<=(a:Int)-1-(b:Int):=LA.la [a,b] [r] 1578519840931948078034091544644790669851631055737655919689
theorem MN:0<=r->r-1<(a:Int)-1-(b:Int)->a-1-b+1=a-b:=LA.la [a,b] [r] 52656298104615968085424201293190991239848651692777271471500166217
theorem MO:a-(b+1)=a-1-b:=LA.la [a,b] [] 1239187924739978988743557221
theorem MP:((a:Int)-1-(b:Int)).toNat=a-1-b:=LA.la [a,b] [] 40605709917879601104916553239781
theorem MQ:0<=r->r-1<(a:Int)-1-(b:Int)->a-1-b<a:=LA.la [a,b] [r] 1498086277572915548081452024403851660361084694430793
theorem MR:a<=5->b<=a->0<=r->r<=(b:Int)->(r-1).natAbs<1000000:=LA.la [a,b] [r] 1532495733972687228208735753100679574596857060820577716011049
theorem MS:a<=5->b<=a->((b:Int)-1).natAbs<1000000:=LA.la [a,b] [] 1329228163278362889857273196021456210755625
theorem zf: -1≠0:=LA.la [] [] 1108382922
theorem MT:a=b+1->(a:Int)-(b:Int)<=0->False:=LA.la [a,b] [] 40859275076238283157480145065
theorem MU:(a:Int)<=r-> ¬((a:Int)-r<=0)->False:=LA.la [a] [r] 1246704971109776702314569
theorem MV:a<b->a<(((b+1+1:Nat):Int)-2).toNat:=LA.la [a,b] [] 2701334314014505309022550977826259049
theorem zg:a=2*b+2->c<2*b+2->(c:Int)<(a:Int):=LA.la [a,b,c] [] 8652956004848206549720492893148973138289098921
theorem DW:(2+(a:Int)).toNat=a+1+1:=LA.la [a] [] 1277873587751957034725050597
theorem MW:2+(a:Int)<((b+1+1:Nat):Int)->2+(a:Int)<(b:Int)+1+1:=LA.la [a,b] [] 1619897221996782718064073899316641348048548331603786500233
theorem DX:1<(a:Int)+1+1:=LA.la [a] [] 1218675220257246839844
theorem MX:2+(a:Int)<((b+1+1:Nat):Int)->a<b:=LA.la [a,b] [] 1329231839628671402548335713413269641
theorem MY:a<=3->((a:Int)+1+1).natAbs<1000000:=LA.la [a] [] 1298074378201526291382423694741846622249
theorem DY:a<=3->a+1+1<1000000:=LA.la [a] [] 1267650759962428018928007430829768745
theorem MZ:0<r->(2*s).toNat=(2*r).toNat->s=r:=LA.la [] [r,s] 1305680196974671394109608079393929
theorem M0{a b:Int}(hh: ¬(0<a))(gg:(2*b).toNat=(1-2*a).toNat):False:=Dr ⟨a+b,(KQ (G9 hh gg)).symm⟩
theorem M1{a b:Int}(hh:0<a)(gg:(1-2*b).toNat=(2*a).toNat):False:=Dr ⟨a+b,(KR (Kz hh gg)).symm⟩
theorem M2: ¬(0<r)->(1-2*s).toNat=(1-2*r).toNat->s=r:=LA.la [] [r,s] 45939537879127107982721148319388172489511178569
theorem M3:r.natAbs<=a->(2*r).toNat<2*a+2:=LA.la [a] [r] 2637980977808637536978977709629481
theorem M4:r.natAbs<=a->(1-2*r).toNat<2*a+2:=LA.la [a] [r] 2766123541786669913968280182375303880745
theorem zh: -r=s->r= -s:=LA.la [] [r,s] 1158551211373237449
theorem M5:a<=8->r=(b:Int)->b<a->r.toNat<8:=LA.la [a,b] [r] 10932983629837394673309403461604785258537
theorem M6:r.toNat=s.toNat->r=(a:Int)->s=(b:Int)->r=s:=LA.la [a,b] [r,s] 4086054688294344304084029962662440869033
theorem M7:r=(a:Int)->r=(b:Int)->a=b:=LA.la [a,b] [r] 1237945979355403497615982793
theorem M8:r=(a:Int)->a=b->r=(b:Int):=LA.la [a,b] [r] 1245269374580650160194388169
theorem M9:r=(a:Int)->s=r->s=(b:Int)->b=a:=LA.la [a,b] [r,s] 1304452317464057911506839925752009
theorem Na:r<=(a:Int)->r.toNat<=a:=LA.la [a] [r] 1133630854299721
theorem Nb:a<b->(b:Int)<=(a:Int)->False:=LA.la [a,b] [] 217305358580842601
theorem DZ:((a:Int)-0).toNat=a:=LA.la [a] [] 1073941733
theorem Nd:0<(a:Int)+1+1:=LA.la [a] [] 38083600633038962724
theorem Nf:a+1+1<=3->a<=3:=LA.la [a] [] 3843803863339896079339445356585
theorem D0:200+2*a=101->False:=LA.la [a] [] 119314693661870394476714
theorem D1:200+2*a=100->False:=LA.la [a] [] 118134102041152983173290
theorem Ng: ¬((a:Int)= -1):=LA.la [a] [] 1135112886474
theorem Nh:(0+(a:Int)+1).toNat=a+1:=LA.la [a] [] 39932333322178616882170085
theorem Ni:a<=8->b+c<=8->b+1+(a-(0+(d:Int)+1).toNat)<1000000:=LA.la [a,b,c,d] [] 51422023895876671475206475682588291337144438305702985500615137820713
theorem Nj:a+b<=8->a<1000000:=LA.la [a,b] [] 37778936622220793036274665513
theorem D2:a<2*b+2->c=2*b+2->(a:Int)<(c:Int):=LA.la [a,b,c] [] 2931567027685859920464524017813807660438952869993
theorem Nk:a<=a+b:=LA.la [a,b] [] 34359803905
theorem Nl:r=(a:Int)->r+1=(a:Int)+1:=LA.la [a] [r] 1308502850597504936500306936009
theorem Nm:r=(a:Int)->s<=r->s<=(a:Int):=LA.la [a] [r,s] 7329187723565796897620169
theorem Nn:r<=(a:Int)-> ¬(r<(a:Int))->r=(a:Int):=LA.la [a] [r] 7466552542484837392464248905
theorem wA:((a:Int)+1).toNat=a+1:=LA.la [a] [] 1218638101873126738149
theorem No:r=(a:Int)->s=(a:Int)+1->t<=r->t<=s:=LA.la [a] [r,s,t] 2791679238335530459541007941523116478464201
theorem Np:r<(a:Int)->r=(b:Int)->s=(b:Int)+1->a<=c->s<=(c:Int):=LA.la [a,b,c] [r,s] 3074157714199466603732255435230297094281589491880788105
theorem Nq:r=(a:Int)+1->0<=r:=LA.la [a] [r] 37780158004239800500425
theorem Nr:a<=b->r<(a:Int)->r=(c:Int)->s=(c:Int)+1->b-s.toNat<b-r.toNat:=LA.la [a,b,c] [r,s] 158330003467116518129953390617828429733523009356654055517841260585
theorem D3:0<=r->r=((r.toNat:Nat):Int):=LA.la [] [r] 8092412022883401
theorem Nt:a<=b->0<=r->r<(a:Int)->0<b-r.toNat:=LA.la [a,b] [r] 87411366126420996792418407115447481663529
theorem Nu:r=((s.natAbs:Nat):Int)->s=r∨s= -r:=LA.la [] [r,s] 194644140543928335574499529
theorem Nv:r=((s.natAbs:Nat):Int)->((t.natAbs:Nat):Int)=r->t=s∨t= -s:=LA.la [] [r,s,t] 43771485730286856652019419585206131097801
theorem Nw:r=((r.natAbs:Nat):Int)∨r= -((r.natAbs:Nat):Int):=LA.la [] [r] 302245584789433221320
theorem Nx:0<=r->r.toNat<a->0<=r/\r<(a:Int):=LA.la [a] [r] 7829169801315010968354234166150217
theorem Ny:a<=b->0<=r->r<(a:Int)->r.toNat<b:=LA.la [a,b] [r] 1331833136617957926524107768159273001
theorem Nz:r≠0-> ¬(0<r)->0< -r:=LA.la [] [r] 193470632437964436542593353
theorem NA:0<r-> ¬(0< -r):=LA.la [] [r] 5630747222213769
theorem NB:a<=40->b<=c->c<=5->r<=(b:Int)->d<=a+r.toNat->d<60:=LA.la [a,b,c,d] [r] 3162716006907228044911979740120759826936801842057273142937784418345
theorem NC:r=(a:Int)->b<=c+1->c<=d+r.toNat->b<=d+(r+1).toNat:=LA.la [a,b,c,d] [r] 51841262481330412374236201260208818095771054032738605727945
theorem ND:(a:Int)<r->(a:Int)<r+1:=LA.la [a] [r] 1247922308650780787218569
theorem NE:r=(a:Int)->(a:Int)<r+1:=LA.la [a] [r] 1247922308650779719794889
theorem NF:r=(a:Int)->(b:Int)<r+1->b≠a->(b:Int)<r:=LA.la [a,b] [r] 2855897518906122308845115241417638197596324041
theorem NG: ¬((a:Int)<r)->(a:Int)<s->r+1<=s:=LA.la [a] [r,s] 83118623060881840737389078533837129
theorem NH:a<b-> ¬((a:Int)<r)->r+1<=(b:Int):=LA.la [a,b] [r] 41783072363593211009777674762584169
theorem NI:r=(a:Int)->0<=r+1:=LA.la [a] [r] 38997572146294650077385
theorem NJ: ¬((a:Int)<r)->r=(b:Int)->a+1-(r+1).toNat<a+1-r.toNat:=LA.la [a,b] [r] 100778488650040717537354294538560528316864477650658204520777
theorem NK:a<=3->b<=c->c<=a->b<1000000:=LA.la [a,b,c] [] 1329228163277173224522439396956759670128681
theorem NL:min a b<=b:=LA.la [a,b] [] 34393293089
theorem NM:r=(a:Int)->b<min a c->(b:Int)<r:=LA.la [a,b,c] [r] 121734308728185988294393701957833
theorem lu:a<min b c->a<b:=LA.la [a,b,c] [] 36893595900641804393
theorem NN: ¬((a:Int)<r)->r=(b:Int)->(a:Int)<(b:Int)->False:=LA.la [a,b] [r] 1305680355563513828066903808217417
theorem NO:a<b-> ¬((a:Int)<r)->r=(c:Int)->c<b:=LA.la [a,b,c] [r] 42618496852156622065451391096822169705
theorem NP: ¬((a:Int)<r)->0<a+1-r.toNat:=LA.la [a] [r] 1276356112836620177058461585737
theorem NQ: ¬((a:Int)<r)->(b:Int)<r->b=a->False:=LA.la [a,b] [r] 1244364820045152033072943433
theorem D4:a<=3->b=a->b<=5:=LA.la [a,b] [] 6229632564300666951800193065
theorem NR:r=((s.natAbs:Nat):Int)->((t.natAbs:Nat):Int)=r->s=t∨s= -t:=LA.la [] [r,s,t] 87326299508696400185504674208509912416457
theorem NS:9=a->102<=a->False:=LA.la [a] [] 3677225723238581417
theorem NT:r.natAbs<=a->0<=((r.natAbs:Nat):Int)/\((r.natAbs:Nat):Int)<=(a:Int):=LA.la [a] [r] 7645834497939142539695382077481
theorem NU:r=(a:Int)->s=r->s=(b:Int)->b<a->False:=LA.la [a,b] [r,s] 41672785681732023202169353500950729
theorem D5:r<=(a:Int)->r<=((a+b:Nat):Int):=LA.la [a,b] [r] 37779010746388110704713
theorem D6:r<=(a:Int)->(b:Int)<r->b<a:=LA.la [a,b] [r] 1212541417697686788833353
theorem afw:(a:Int)+1+1<=1->False:=LA.la [a] [] 38997607084341774583882
theorem NV:a+1+1<=3->a<=5:=LA.la [a] [] 6379105063796354882332851767337
theorem NW:((a+1:Nat):Int)=1->a=0:=LA.la [a] [] 37784733661496439019721
theorem NX:(1:Int)<=(0:Int)->False:=LA.la [] [] 34636874
theorem wB:a=b+1->(b:Int)<(a:Int):=LA.la [a,b] [] 7120663925152947372201
theorem NY:0<201+2*a:=LA.la [a] [] 2291598122614819
theorem NZ:a<=5->a+1+1<1000000:=LA.la [a] [] 1267650759962428018928007432977252393
theorem N0:(a:Int)= -1->False:=LA.la [a] [] 1135112886474
theorem D7: ¬(a<=b)->c=b+1->c<=a:=LA.la [a,b,c] [] 79268096062802907380022510921
theorem D8: ¬(0<r)->((r.natAbs:Nat):Int)= -r:=LA.la [] [r] 5764895801239179593
theorem N2:r.natAbs<=5->r.natAbs<6:=LA.la [] [r] 7121596418902911361065
theorem N3:a<b->r.natAbs=a->s.natAbs=b->r.natAbs<s.natAbs:=LA.la [a,b] [r,s] 4094105632128513351499469055796927529065
theorem D9:(-(a:Int)).natAbs=a:=LA.la [a] [] 201989
theorem Ea:(a:Int).natAbs=a:=LA.la [a] [] 6405
theorem N4:a<1000->b<=3->c<=d->d<b->e<=c->a+e<1000000:=LA.la [a,b,c,d,e] [] 51422023900533784608172240487343146774729398645195964397957313200233
theorem Eb:a=r.natAbs->(a:Int)=((r.natAbs:Nat):Int):=LA.la [a] [r] 1190031172340690190505
theorem N5:a<1000->b<=3->c<=d->d<b->a+c<1000000:=LA.la [a,b,c,d] [] 47890491688060791919954096908416338369837423654952439382121
theorem N6:((r.natAbs:Nat):Int)=((s.natAbs:Nat):Int)->s.natAbs=r.natAbs:=LA.la [] [r,s] 9481920349228088170697
theorem Ec:a<100->a=b->102<=b->False:=LA.la [a,b] [] 40691167721110466331034170425449
theorem Ed:a<100->a=101->False:=LA.la [a] [] 119314693777282405761129
theorem Ee:a<100->a=100->False:=LA.la [a] [] 118134102156564994457705
theorem N7:a<=b->b<a->False:=LA.la [a,b] [] 35298222276649
theorem N8:a<b->c+b<=a->False:=LA.la [a,b,c] [] 1155175548574498921
theorem N9:a<b->(b:Int)<=r->(a:Int)<r:=LA.la [a,b] [r] 2475887312001413028549492841
theorem Oa:a<b->a=c->d+b<=c->False:=LA.la [a,b,c,d] [] 2536542769682881029559673684073
theorem Ob:r<=(a:Int)->(b:Int)<=r->b<=a:=LA.la [a,b] [r] 1210180234454052942970953
theorem Oc:a<=b->c<a->c<=b:=LA.la [a,b,c] [] 1211288155848050124783657
theorem Od:a+(b+1)<=c->a+1+b<=c:=LA.la [a,b,c] [] 2659755374287164935609158037013530665
theorem Oe: -r=((r.natAbs:Nat):Int)∨ -r= -((r.natAbs:Nat):Int):=LA.la [] [r] 309499477909313415025864
theorem Of:r= -s-> -r= -t-> -s=t:=LA.la [] [r,s,t] 2536545414165381465944253006025
theorem Og:r= -s-> -r=t->s=t:=LA.la [] [r,s,t] 2477096161727258607525822665
theorem Oh:r=s-> -r= -t->t=s:=LA.la [] [r,s,t] 1240365048441459831063183561
theorem Oi:r=s-> -r=s->s≠0->False:=LA.la [] [r,s] 1276864515108242017784692937
theorem Oj:a<=5->r= -s->s≠0->s.natAbs<=a->r.natAbs<=5/\r≠0:=LA.la [a] [r,s] 1657464663238585594495628770518697396451753076840506076430377
theorem Ol:a+1<=b->c<a->c=b->False:=LA.la [a,b,c] [] 40644252887280844903452642379817
theorem Ef:r= -(-r):=LA.la [] [r] 5406726
theorem zi:r=(a:Int)->r=(b:Int)->b=a:=LA.la [a,b] [r] 1214865889637851891564745
theorem Om:a+1<=b->c<a->c<=b:=LA.la [a,b,c] [] 1270127689306525007680571967529
theorem On:a<=b->c<a->b=c->False:=LA.la [a,b,c] [] 77409227383925489027514409
theorem Oo:a+1<=b->a=b->False:=LA.la [a,b] [] 37779123301161164081193
theorem Op:a+1<=b->b=a->False:=LA.la [a,b] [] 37084926351421474857
theorem zj:r= -1->r=(a:Int)->False:=LA.la [a] [r] 6953779961481167049
theorem zk:a<b->a=b->False:=LA.la [a,b] [] 36028979588628585
theorem Eg:a<=b->b<=a->b=a:=LA.la [a,b] [] 1186356263468874596393
theorem zl:r<=(a:Int)->(a:Int)<r->False:=LA.la [a] [r] 36893703995301855305
theorem Oq:r=((s.natAbs:Nat):Int)->r=((t.natAbs:Nat):Int)->s.natAbs=t.natAbs:=LA.la [] [r,s,t] 2606329563755995630445390949515465
theorem Ot:r=(a:Int)->r= -1->False:=LA.la [a] [r] 1218819307195112390857
theorem Ou{a:Nat}:((a:Int)=0↔a=0):=Int.natCast_eq_zero
theorem Ov:r<s-> ¬(s<=r):=LA.la [] [r,s] 35263862538377
theorem Ow: ¬(r<=s)->s<r:=LA.la [] [r,s] 35322884786505
theorem Ox:a<=b+r.toNat->c<=a+1->c<=b+1+r.toNat:=LA.la [a,b,c] [r] 4394541686048639006950846060506950514593996210217
theorem Oy:a<=5->b<=a->c<b->d+e<=c->f<=5->d+f<1000:=LA.la [a,b,c,d,e,f] [] 52659496304811915839108571390389591472347098014975468385813599879209
theorem Oz:a<=5->b<=a->c<b->d+e<=c->f<=5->d+f<1000000:=LA.la [a,b,c,d,e,f] [] 52656152475758241313861247709322135649461457216060987807073873576329257
theorem OA:3≠5:=LA.la [] [] 172909167786
theorem OB:a<=5->b=a->b<=5:=LA.la [a,b] [] 6229632564300666953947676713
theorem OC:(a:Int)<=(b:Int)->b-((b:Int)-1-((a:Int)-1)).toNat=a:=LA.la [a,b] [] 44959815640877281446734863059804305233993
theorem Eh:a+(b+1)<=c->b+1<=c:=LA.la [a,b,c] [] 81170530332855530262433114359849
theorem OD:a<=5->b<=a+1->b<1000000:=LA.la [a,b] [] 1298074378200365722595448331789126336553
theorem Ei:(a:Int)-1<(b:Int)-1-(c:Int)->0<=(b:Int)-1-(c:Int):=LA.la [a,b,c] [] 93811609632972476074852676589709966257384117701769
theorem OE:(a:Int)-1<(b:Int)-1-(c:Int)->b-(c+1)=d->(a:Int)<=(d:Int):=LA.la [a,b,c,d] [] 150944689870514731785280141538595960096181774296257216580745
theorem OF:a<=5->b<=a->c<=b->c<1000:=LA.la [a,b,c] [] 1329312451858588081634407633916506669097
theorem OG:a<=5->b<=a->c<b->d+(e+1)<=c->d<1000000:=LA.la [a,b,c,d,e] [] 49039863490075301507770715196764962265319831041810312660516905
theorem OH:((a:Int)-1-(b:Int)).toNat=c->a-(b+1)=c:=LA.la [a,b,c] [] 87156193294605655160316874941684532747433
theorem OI:a<b->((a:Int)-1-(c:Int)).toNat=d->d<b:=LA.la [a,b,c,d] [] 1365121167667671648660146901075531661417
theorem OJ:a-b=c+1->((a:Int)-1-(b:Int)).toNat=c:=LA.la [a,b,c] [] 87155071797781493929842887548260321332393
theorem OK:(a:Int)-1<(b:Int)-1-(c:Int)->b-c=b-c-1+1:=LA.la [a,b,c] [] 1619897223451060440965114741139078311366029900691320016009
theorem OL:a<=5->b<=a->c<b->(d:Int)<=(c:Int)->((d:Int)-1).natAbs<1000000:=LA.la [a,b,c,d] [] 1569275631588033187253176935857029879197011337897531172530946089
theorem OM:a<=5->b<=a->c<b->((c:Int)-1).natAbs<1000000:=LA.la [a,b,c] [] 1427247872550680518317256645229581326281322458513449
theorem ON:3≠4:=LA.la [] [] 138549429418
theorem OO:2≠4:=LA.la [] [] 138548380842
theorem OP:2≠3:=LA.la [] [] 104188642474
theorem OQ:1≠4:=LA.la [] [] 138547332266
theorem OR:1≠3:=LA.la [] [] 104187593898
theorem OS:1≠2:=LA.la [] [] 69827855530
theorem OT: ¬(r<=(a:Int))->r<=s->(a:Int)<s:=LA.la [a] [r,s] 79228393984045083562567797065
theorem OU:r=s->s<=r:=LA.la [] [r,s] 1101692666057
theorem OV:a+r.toNat<=a+1+r.toNat:=LA.la [a] [r] 1217228043400368922558529
theorem Ej:(a:Int)<(a:Int)->False:=LA.la [a] [] 201332874
theorem OW:a<=b+r.toNat->a<=b+1+r.toNat:=LA.la [a,b] [r] 2605062875387294856321799429292073
theorem Ek:a<60->b<=(a:Int).toNat->b<64:=LA.la [a,b] [] 2598724586116173616914559017156713
theorem El:a<b->0<=(a:Int)/\(a:Int)<(b:Int):=LA.la [a,b] [] 39846202245628611067681701993
theorem OX:a<60->b<=(a:Int).toNat->b<1000000:=LA.la [a,b] [] 40564824318761390064155954876290957417
theorem OY:r.toNat<a->s<=r->s.toNat<a:=LA.la [a] [r,s] 2426227616214535168334953
theorem OZ:r.toNat=a->0<=s->s<((r.toNat:Nat):Int)->s.toNat<a:=LA.la [a] [r,s] 2667665482080606773126144551799495849
theorem O0:r-((0:Nat):Int)<s->s=r->False:=LA.la [] [r,s] 37120955114248473737
theorem O1:0<=r->s=r->0<=s/\s<r+1:=LA.la [] [r,s] 1404994073946935539540053432179911296073
theorem O2:0<=r->s-(((s - -1).toNat:Nat):Int)<r:=LA.la [] [r,s] 1278024670301355325024896073
theorem O3:0<=r->r<s+1->0<=r/\r<=s:=LA.la [] [r,s] 1361132063833506934037362859195055998025
theorem Em:a<60->r<(a:Int)->b<=(r+1).toNat->b<64:=LA.la [a,b] [r] 2925903769461486789829016244430431281628109078633
theorem En:r-((a+1:Nat):Int)<s-> ¬(s=r-(a:Int))->r-(a:Int)<s:=LA.la [a] [r,s] 93536373796170281456320637637174095652298414886025
theorem O4:r-((a+1:Nat):Int)<s->s<r-(a:Int)->False:=LA.la [a] [r,s] 244660357198414053791136843041929
theorem Eo:0<=r->r<s-(a:Int)->0<=r/\r<s+1:=LA.la [a] [r,s] 1473330178368913640555397878151376094965531721
theorem O5:a<60->r<(a:Int)->b<=(r+1).toNat->b<1000000:=LA.la [a,b] [r] 45671931921580901286738334785534781128480480977485929
theorem O6: -1<r-(a:Int)->0<=r-(a:Int):=LA.la [a] [r] 7466439237935082020103296137
theorem O7:0<=r->r<(((s-(a:Int)).toNat:Nat):Int)->0<=r/\r<s-(a:Int):=LA.la [a] [r,s] 8652821171946698816592196647762297018378093641
theorem O8:r<(a:Int)-> -1<r-(b:Int)->(r-(b:Int)).toNat<a:=LA.la [a,b] [r] 1369188043096299242875940135817980215433
theorem O9:a<60->0<=r->r<(a:Int)->r.natAbs<1000000:=LA.la [a] [r] 43556148454273024214870768176251970084578263145
theorem Pa:0<=r->r<s->r.toNat<s.toNat:=LA.la [] [r,s] 1246402781771893168997925961
theorem Pb:r+1+1=r+2+((0:Nat):Int):=LA.la [] [r] 47120339452430327122193549382
theorem Pc:1<=a->b=a->0=b->False:=LA.la [a,b] [] 1237984090111360000012092457
theorem Pd:a<=3->r+2+(a:Int)<=r+5:=LA.la [a] [r] 209031783501943495046292684835651625
theorem Pe:a<=3->b=a->b<=3:=LA.la [a,b] [] 3753752485729906402001944617
theorem Pf:a<=3->b=a->b<1000000:=LA.la [a,b] [] 1237940195274700618645397138571305
theorem Pg{b:Nat}{a c:Int}(hh:(1+(a+(b:Int))%((4:Nat):Int)).toNat=c.natAbs):c≠0/\c.natAbs<=4:=G1 hh (Int.emod_nonneg _ (by decide)) (Int.emod_lt_of_pos _ (by decide))
theorem Ph{b:Nat}{a c:Int}(hh:(1+(a+(b:Int))%((5:Nat):Int)).toNat=c.natAbs):c≠0/\c.natAbs<=5:=G2 hh (Int.emod_nonneg _ (by decide)) (Int.emod_lt_of_pos _ (by decide))
theorem Pj{a b c:Nat}{d:Int}(hh:a<=3)(gg:b<c)(kk:c<a): ¬((1+(d+(b:Int))%((4:Nat):Int)).toNat=(1+(d+(c:Int))%((4:Nat):Int)).toNat):=λh=>Ds (G3 h (Int.emod_nonneg _ (by decide)) (Int.emod_nonneg _ (by decide))) gg (KO hh gg kk)
theorem Pk{a b c:Nat}{d:Int}(hh:a<=3)(gg:b<c)(kk:c<a): ¬((1+(d+(b:Int))%((5:Nat):Int)).toNat=(1+(d+(c:Int))%((5:Nat):Int)).toNat):=λh=>Ds (G3 h (Int.emod_nonneg _ (by decide)) (Int.emod_nonneg _ (by decide))) gg (KP hh gg kk)
theorem Pl:1<=r->r<=3->(r-0).toNat<=3/\1<=(r-0).toNat:=LA.la [] [r] 46772647786860203850182224661655223370213483381833
theorem Pm{b c:Nat}{a:Int}(hh:0<=(a+(b:Int))%(c:Int)):((1+(a+(b:Int))%(c:Int))*(1-2*0)).natAbs=(1+(a+(b:Int))%(c:Int)).toNat:=by rw[show (1-2*0:Int)=1 from rfl,Int.mul_one];exact G4 hh
theorem Pn{b c:Nat}{a:Int}(hh:0<=(a+(b:Int))%(c:Int)):((1+(a+(b:Int))%(c:Int))*(1-2*1)).natAbs=(1+(a+(b:Int))%(c:Int)).toNat:=by rw[show (1-2*1:Int)= -1 from rfl,Int.mul_neg,Int.mul_one];exact G5 hh
theorem Ep:0<=r->r<2->r=0∨r=1:=LA.la [] [r] 1372064682591008750900491906281636937
theorem Po:r+2+(a:Int)+1=r+2+((a+1:Nat):Int):=LA.la [a] [r] 1438713938289360991413390809350441971812422
theorem Pp:r<=3->0+(a:Int)<r->b=a->b<1000000:=LA.la [a,b] [r] 1393796750536525189814142571857089862095741190217
theorem Pq{a d:Nat}{b c:Int}(hh:a=4∨a=5)(gg:0<=b)(kk:b<2)(ll:0<=(c+(d:Int))%(a:Int))(mm:(c+(d:Int))%(a:Int)<(a:Int)):(1+(c+(d:Int))%(a:Int)).natAbs<2^60/\(1-2*b).natAbs<2^60:=G6 hh gg kk ll mm
theorem Pr:0<=r->r<(a:Int)->0<(a:Int):=LA.la [a] [r] 7254883090051813085283401
theorem Er:0<=r->r<(a:Int)-> ¬((a:Int)=0):=LA.la [a] [r] 1238174165367954527477564489
theorem Es:0<=r->r<2->(2:Int).natAbs<2^60/\r.natAbs<2^60:=LA.la [] [r] 1852673427797059127431524003713454294029538049727164344803518856521042012144713
theorem Ps:r<390->s<=3->0+(a:Int)<s->r+2+(a:Int)<400:=LA.la [a] [r,s] 627809786032402820666924439260554493272321113979378121867401
theorem Pt:1<=r->r<=3->r.natAbs<1000000:=LA.la [] [r] 1267650759922800354409941729035715657
theorem Pu:a=4∨a=5->0<(a:Int):=LA.la [a] [] 232156444320751303176230153
theorem Pw:r<390->r+1<400:=LA.la [] [r] 15476707340276451206805586057
theorem Px:0<=r->r<6->r=0∨r=1∨r=2∨r=3∨r=4∨r=5:=LA.la [] [r] 9323072773239463001429458986814745707937139674936332129339040425571822214317129
theorem Py:r<390->r<400:=LA.la [] [r] 14759737135590747930761
theorem Pz:a<=63->(2:Int).natAbs<2^60/\(a:Int).natAbs<2^60:=LA.la [a] [] 1766847064778384330207370677481049518081871064377380101396690886426886185
theorem PA:0<=r->r<=500->(6:Int).natAbs<2^60/\(r+1).natAbs<2^60:=LA.la [] [r] 62165404551223330291382092364870045038771152277372215277829647977368175108499143918665
theorem PB:0<=r->r<=500->(r+1).natAbs<2^60:=LA.la [] [r] 1532495540865888858899685846739177953998392496110961737
theorem PD:0<=r->r<=500->(r+1).natAbs<=501:=LA.la [] [r] 666027642584280653902693065462586016841
theorem PE:0<=r->r<=500->(7:Int).natAbs<2^60/\(r+1).natAbs<2^60:=LA.la [] [r] 62165404551223330291382092364870045038771152277372215277869262058625307277295915893833
theorem PF:r+1<=(a:Int)->r+1-1<(a:Int):=LA.la [a] [r] 7830318649563477799602556570175561
theorem Et:0<=r->0<=r+1-1:=LA.la [] [r] 1277873587751992249093719113
theorem PG:r<400->0<=r->0<=r+1/\r+1<=500:=LA.la [] [r] 23386996345738342537665588029720440975354155506860169
theorem Eu:a<=b->0<b+1-a:=LA.la [a,b] [] 38997572250717143433257
theorem PH:a<=b->c<a->b+1-a<b+1-c:=LA.la [a,b,c] [] 2855934141881528368329779706226296238106476585
theorem PI:(a:Int)+1+1=1->False:=LA.la [a] [] 38997607084341774584010
theorem PJ{a:Int}(hh:(2:Int)^(a-(1:Int)).toNat<=(16:Int))(gg:(1:Int)<=(2:Int)^(a-(1:Int)).toNat):(2:Int)^(a-(1:Int)).toNat≠(0:Int)/\((2:Int)^(a-(1:Int)).toNat).natAbs<(1000000:Nat):=G7 hh gg
theorem PK:a<=5->1<=r->r<(a:Int)+1->0<=r-1/\r-1<1000:=LA.la [a] [r] 1685103677573887206016465967460649512197650481898012982815865976127529
theorem PM:a<=5->1<=r->r<(a:Int)+1->r=1∨r=2∨r=3∨r=4∨r=5:=LA.la [a] [r] 10010633873225817985074922686823349276118979788937138489746437762414932114796831069700137
theorem PN{a:Nat}(hh:(2:Int)^(a:Int).toNat<=(32:Int))(gg:(0:Int)<=(2:Int)^(a:Int).toNat):((2:Int)^(a:Int).toNat).natAbs<(1000000:Nat):=G8 hh gg
theorem PO:a<=5->0<=(a:Int)/\(a:Int)<1000:=LA.la [a] [] 1267731066562179125085595694530601
theorem PQ:a<=5->a=0∨a=1∨a=2∨a=3∨a=4∨a=5:=LA.la [a] [] 8682788087078828528228151863024041350658748642730094519107841371930665
theorem PR:r≠0->r.natAbs<=a->((r.natAbs:Nat):Int)= -r->1<= -r/\ -r<(a:Int)+1:=LA.la [a] [r] 53079181566688058345226442964578444297755129752041430977616201
theorem PT: ¬(0<r)->1<=s->s=r->False:=LA.la [] [r,s] 38924142665733587651825993
theorem PU:r.natAbs<=a->0<r->1<=r/\r<(a:Int)+1:=LA.la [a] [r] 46038851174683199269844038893091805501333545
theorem PW:0<r->1<=s-> -s=r->False:=LA.la [] [r,s] 38881974525672464838558857
theorem PX:r<=s->r+(((s-r).toNat:Nat):Int)=s:=LA.la [] [r,s] 1237941223594722559900254281
theorem PY:r<=s->s<t->(s-r).toNat<(t-r).toNat:=LA.la [] [r,s,t] 2600228680849627807402568387133513
theorem PZ:a<(r-s).toNat->s<=s+(a:Int)/\s+(a:Int)<r:=LA.la [a] [r,s] 1393804633439088867748025526137687513235561
theorem Ev:a<=5->b<=a->c<=d->d<b->c<1000000:=LA.la [a,b,c,d] [] 1427247872592959269157172270240121007030515715276841
theorem zn:24≠23:=LA.la [] [] 791406478506
theorem P0:a<=5->b<=a->c<b->d<=c+1->d<1000000:=LA.la [a,b,c,d] [] 1496577865297706825697017955353118190588594555065920913449
theorem P4:a<=5->b<=60->c<=b->a+c<1000000:=LA.la [a,b,c] [] 44601496018525950536087867881028033424958927405097
theorem zo: ¬((a:Int)<r)->r<=(a:Int):=LA.la [a] [r] 217300915403821385
theorem P5:23=24->False:=LA.la [] [] 825765168298
theorem P6: -r= -s->r=s:=LA.la [] [r,s] 1152928136204129481
theorem P7:r=s-> -r= -s:=LA.la [] [r,s] 1158551182415757513
theorem P8:a<b->(b:Int)<r->(a:Int)<r:=LA.la [a,b] [r] 2475887312001413097268969577
theorem zp:1<=((a+1:Nat):Int):=LA.la [a] [] 1162183863993378
theorem P9{a b:Int}:(a=b↔ -a= -b):=Int.neg_inj.symm
theorem Qa:r≠0->r≠ -r:=LA.la [] [r] 180150925795531081
theorem Qb:a+1<=40->b<=5->c<=a+1+r.toNat->r<=(d:Int)->d<=b->c<60:=LA.la [a,b,c,d] [r] 3477441257938742146781459560416447013767136815320168890386415255752667750729769
theorem Qd:a=b->a<=8->b<60:=LA.la [a,b] [] 74355020434270621567559925929
theorem Qe: -r≠0->r≠0:=LA.la [] [r] 1153143607029569865
theorem Qf:r<=s->s<=r->r=s:=LA.la [] [r,s] 1208932737178919604584521
theorem Qg:r<=s->r<=((s.toNat:Nat):Int):=LA.la [] [r,s] 1161013912368316489
theorem Qh:(a:Int)<r->r<=s->a<s.toNat:=LA.la [a] [r,s] 2484342672295498814733686921
theorem Qi:r<=((r.toNat:Nat):Int):=LA.la [] [r] 7536642
theorem Qj:r<s->r.toNat<=s.toNat:=LA.la [] [r,s] 1160803045580210313
theorem Qk:r=r:=LA.la [] [r] 6
theorem Ql:r=(a:Int)->s<(a:Int)-> ¬(s<r)->False:=LA.la [a] [r,s] 1270131705605531886598148358345
theorem Qm:a<r.toNat-> ¬((a:Int)=r):=LA.la [a] [r] 36893706195399868521
theorem Qn:a<r.toNat->a<=r.toNat:=LA.la [a] [r] 1160802839395565673
theorem Qp:a<r.toNat-> ¬(r<=(a:Int)):=LA.la [a] [r] 217301225722347625
theorem Qq:r<(a:Int)->a<=b->r.toNat<=b:=LA.la [a,b] [r] 1240366193112365615909240969
theorem Qr:a<r.toNat->a=r.toNat+b->False:=LA.la [a,b] [r] 1211295145370033593516137
theorem Qs:r<(a:Int)->min r.toNat a=r.toNat:=LA.la [a] [r] 1217189997244806087082121
theorem Qt:r=(a:Int)->0<=r/\r<((a+1:Nat):Int):=LA.la [a] [r] 1339906769103973509180732882321609
theorem Qu:0<=r->r<(a:Int)->0<=r/\r<((a+1:Nat):Int):=LA.la [a] [r] 1438713938247647361395400870720713116353609
theorem Qw:r=(a:Int)->s=(a:Int)->s<=r:=LA.la [a] [r,s] 1240360252326282456312348873
theorem Qx:r=(a:Int)->s<(a:Int)->s<=r:=LA.la [a] [r,s] 1240360252326280257289093321
theorem Qy:(a:Int)<=((a+b:Nat):Int):=LA.la [a,b] [] 35184445489346
theorem Qz:r<(a:Int)->r.toNat<=a:=LA.la [a] [r] 1133630854299785
theorem Ew:a<b->(a:Int)=(b:Int)->False:=LA.la [a,b] [] 37109667743532056681
theorem QA:a<b-> ¬((b:Int)<=(a:Int)):=LA.la [a,b] [] 217305358580842601
theorem QB:a<500->b<=a->b<900:=LA.la [a,b] [] 35655188909591380896973509886057
theorem QC: ¬(((a+2:Nat):Int)-1<(a:Int)+1):=LA.la [a] [] 40890714081172065508718218378
theorem Ex:a<50->b=a->b+1<1000000:=LA.la [a,b] [] 41538380102448840156625489433588361330793
theorem QD:a=b+1->(b:Int)+1<((a+1:Nat):Int):=LA.la [a,b] [] 1372064531563564469380695875899097257
theorem QE:a<50->b=a+1->b+1<1000000:=LA.la [a,b] [] 43556148454305395016113623567803589268750729321
theorem QF:a=b->((a+1:Nat):Int)-1=(b:Int):=LA.la [a,b] [] 1275118174013558936310831382697
theorem Ey:a<50->b=a+1->b+1<100:=LA.la [a,b] [] 4358380462924337626297304515525381343674473
theorem QG:a=b+1->((a+1:Nat):Int)-1=(b:Int)+1:=LA.la [a,b] [] 1438756634505863941493681600241174874947753
theorem QH:a=b+1->(a:Int)-1<(b:Int)+1:=LA.la [a,b] [] 1372105249887335463553105937500733609
theorem QI:a<=b->(b:Int)+1<(a:Int)+1->False:=LA.la [a,b] [] 41872091219120158104497271341097
theorem QJ:a<=b->0<=(a:Int)+1/\(a:Int)+1<((b+2:Nat):Int):=LA.la [a,b] [] 92817098291702136922413746950357489719701405737
theorem QK:0<=(a:Int)+1/\(a:Int)+1<((a+2:Nat):Int):=LA.la [a] [] 86441360875151333174172230966357001287
theorem QL{a:Nat}:(a-1) / 2<=a:=Nat.le_trans (Nat.div_le_self _ _) (Nat.sub_le _ _)
theorem QM{a:Nat}(hh:0<(a:Int)):((a:Int)-1) / 2=(((a-1) / 2:Nat):Int):=by
 cases a with
 |zero=>cases hh
 |succ k=>exact(congrArg (· / 2) (Int.add_sub_cancel (k:Int) 1)).trans rfl
theorem QN:a=b+2->b+1<a:=LA.la [a,b] [] 1247922312093248616661161
theorem QO:a=b+1->b<a:=LA.la [a,b] [] 1156335523646668969
theorem QP:a=b+2->(b:Int)+1<(a:Int):=LA.la [a,b] [] 7467573754277209811730825385
theorem QQ:2*a+2+1+1=2*(a+1)+2:=LA.la [a] [] 2900535632194297308030895361721527481372051525
theorem QR:a<20->b=2*a+2->b+1<1000000:=LA.la [a,b] [] 44601496017208724496539964614692502123208565063785
theorem QS:a<20->b=2*a+2->b<1000000:=LA.la [a,b] [] 42535301224869623612088912706771277331824745
theorem QT:a=b+1->(a:Int)=(b:Int)+1:=LA.la [a,b] [] 1308541536185872002380631900329
theorem QU:a<=b->0<=r->r<(a:Int)->0<=r/\r<(b:Int):=LA.la [a,b] [r] 1435697757241023454448377795724709698843181097
theorem QV:a<b->b<a->False:=LA.la [a,b] [] 35298222276713
theorem Ez:a<b->c<a->b=c->False:=LA.la [a,b,c] [] 77409227383925489027514473
theorem QW:a=b->a<b->False:=LA.la [a,b] [] 36028910869151913
theorem QX:a<b->(b:Int)=(a:Int)->False:=LA.la [a,b] [] 217305496019796073
theorem QY:a<b->(b:Int)<(a:Int)->False:=LA.la [a,b] [] 217305427300319337
theorem QZ:a=b->(a:Int)=(b:Int):=LA.la [a,b] [] 1159677116682338473
theorem Q0:a+1<=b->r=(a:Int)->0<=r/\r<(b:Int):=LA.la [a,b] [r] 1402048591055686967234744013159855797831721
theorem Q1:a+1<=b->0<=r->r<(a:Int)->0<=r/\r<(b:Int):=LA.la [a,b] [r] 1505438211496763409771662195529833197174222886012969
theorem Q2:a<=b+r.toNat->a+1<=b+1+r.toNat:=LA.la [a,b] [r] 2731606409622109337893271584087040065577
theorem Q3:a+1<=40->b<=a+r.toNat->r<=(c:Int)->c<=d->d<=5->b+1<60:=LA.la [a,b,c,d] [r] 3477439542854727442430737172975214943896058929320816773198430595111588785555497
theorem Q4:r<=(a:Int)->r.toNat<a+1:=LA.la [a] [r] 1247885416289597359423561
theorem Q5:r<=(a:Int)->r.toNat=b+1->b<a:=LA.la [a,b] [r] 1271404353860034461459397279817
theorem Q6:0<r->r.toNat=r.toNat-1+1:=LA.la [] [r] 1308542553863806885257306702985
theorem Q7:a<b->b=c+1->a<=c:=LA.la [a,b,c] [] 2535302448381003519619468623977
theorem Q8:a+6<=40->b<=5->c<=b->d<c->a+d+1<=40:=LA.la [a,b,c,d] [] 2109589923374455678092643680084092515326386427456663495003888158761
theorem Q9:a+6<=40->b<=5->c<=b->d<c->e<=a+d+r.toNat->r<=(c:Int)->e<60:=LA.la [a,b,c,d,e] [r] 116683684796414188454365596382840753016464169221712027475094031663934982095268722247721
theorem Ra:r+1<=r+1+2*((0:Nat):Int):=LA.la [] [r] 1472514187671404879495036994
theorem Rb:a<=8->a=b->b<100:=LA.la [a,b] [] 123872621997578233105714511913
theorem zq:r<=s+1+2*(a:Int)->r+1+1<=s+1+2*((a+1:Nat):Int):=LA.la [a] [r,s] 1739298427037600472822273351622711487067598236949354090979662004297
theorem Rc:((a+1:Nat):Int)-1=(a:Int):=LA.la [a] [] 6954720043884157030
theorem Rd{b:Nat}{a:Int}(hh:0<=a)(gg:a<(b:Int)):((1+a)*(1-2*1)).natAbs<=b:=by rw[show (1-2*1:Int)= -1 from rfl,Int.mul_neg,Int.mul_one];exact KA hh gg
theorem Re{a:Int}(hh:0<=a): ¬((1+a)*(1-2*1)=0):=by rw[show (1-2*1:Int)= -1 from rfl,Int.mul_neg,Int.mul_one];exact KD hh
theorem Rf{b:Nat}{a:Int}(hh:0<=a)(gg:a<(b:Int)):((1+a)*(1-2*0)).natAbs<=b:=by rw[show (1-2*0:Int)=1 from rfl,Int.mul_one];exact KC hh gg
theorem Rg{a:Int}(hh:0<=a): ¬((1+a)*(1-2*0)=0):=by rw[show (1-2*0:Int)=1 from rfl,Int.mul_one];exact KE hh
theorem Rh:a<=5->0<=r->r<(a:Int)->0<=s->s<2->(1+r).natAbs<2^60/\(1-2*s).natAbs<2^60:=LA.la [a] [r,s] 2644223875160994396741774912773923696330391899782814886786323393419022364214222621191858517998666177309283436927856755605545
theorem Rj:r<300->s<3->0+(a:Int)<2+s->t<=r+1+2*(a:Int)->t+1<400:=LA.la [a] [r,s,t] 24287216626099889727753166441040579758331545159396189454906313426475133360351835357321
theorem Rk:4<=a->0<(a:Int):=LA.la [a] [] 6756636395865129
theorem Rl:r<300->s<3->0+(a:Int)<2+s->t<=r+1+2*(a:Int)->t<400:=LA.la [a] [r,s,t] 23162098196801238091849009369923080828019531586841278592727295936069848813043849
theorem Rm:0<=r->r<3->(2+r).natAbs<1000000:=LA.la [] [r] 41538380101142814630122331130917883479113
theorem Rn:r<300->r<400:=LA.la [] [r] 14759737135494111166601
theorem Ro:r<2->4+r=(a:Int)->a<=5:=LA.la [a] [r] 209030514613402013506297099621269641
theorem Rp:0<=r->4+r=(a:Int)->4<=a:=LA.la [a] [r] 5111493114956151314331195147337
theorem Rq:0<=r->4+r=(((4+r).toNat:Nat):Int):=LA.la [] [r] 4991738752559343641751979081
theorem Rr:a=123->b≠123->b≠a:=LA.la [a,b] [] 1274231805894787770395841790121
theorem Rs:a=124->b≠124->b≠a:=LA.la [a,b] [] 1274231843673719633354077241513
theorem Rt:a≠103->a≠103:=LA.la [a] [] 3893628064599054386992457
theorem Ru:a≠101->a≠101:=LA.la [a] [] 3818070200873071344096585
theorem Rv:100<=a->a≠10:=LA.la [a] [] 11843962803743220630569
theorem Rw:a=100∨a=102∨104<=a/\a<=122∨a=200∨a=202->100<=a/\a≠101/\a≠103/\a≠123/\a≠124:=LA.la [a] [] 11271767393940424960026566346974817171149045605278751278694879863917604079725482332716586565571112537904104901326530469890283732123784457
theorem Rx:a<100->a≠103:=LA.la [a] [] 121675877018717228367977
theorem Ry:a<100->a≠101:=LA.la [a] [] 119314693777282405761129
theorem Rz:min 60 a<=63:=LA.la [a] [] 71003162449872161
theorem RA:min 60 a<1000000:=LA.la [a] [] 1125900048679686964515
theorem RB:r<200->s<5->t<=r+1+5*(((4+s-0).toNat:Nat):Int)->t<300:=LA.la [] [r,s,t] 16179393947208097313215449800523658711689373143847171040639248619274377
theorem RC:r<5->a=(4+r-0).toNat->a<=8:=LA.la [a] [r] 10932900305936609157973871358163270271113
theorem RD:r<=s+1+5*(a:Int)->t<=r+5->t<=s+1+5*((a+1:Nat):Int):=LA.la [a] [r,s,t] 1781041589437153325819288338251900388966339586323467524921413234360393
theorem RE:r<200->s<5->t<=r+1+5*(a:Int)->a<(4+s-0).toNat->t<390:=LA.la [a] [r,s,t] 22583137750616128345252314266351509463908603171927897169938653362227553307230345
theorem RF:4<=a->a<=5->a=4∨a=5:=LA.la [a] [] 6849512070215222150324405849128186184745
theorem RG:0<=r->r<5->(4+r).natAbs<1000000:=LA.la [] [r] 41538380101145290510203207734476895421513
theorem RH:r+1<=r+1+5*((0:Nat):Int):=LA.la [] [r] 1476140965130248767019155522
theorem RI:r<5->(4+r-0).toNat<1000000:=LA.la [] [r] 1267650759923703543895641345833828489
theorem RJ:r<200->r<400:=LA.la [] [r] 14759737135386736984201
theorem RK:a<=5->0+(b:Int)<(a:Int)->b<20:=LA.la [a,b] [] 832107407764061637999930722021802025
theorem RL:a<=8->a+6<=40:=LA.la [a] [] 48433993789813226870931497
theorem RM:a=b->a+1=b+1:=LA.la [a,b] [] 1277872445241578565318738089
theorem RN:a<=8->b=c->c<a->b<8:=LA.la [a,b,c] [] 10676701099026112113665646823673430057
theorem RO:a<=8->b<a->b+1<=40:=LA.la [a,b] [] 52005406766281357739093181982572585
theorem RP:a<1000000->(a:Int)<2^63:=LA.la [a] [] 11150372599265311571260166063913464966938729
theorem RQ:r<(a:Int)->b=a->r<(b:Int):=LA.la [a,b] [r] 1245269299641878260656177289
theorem RR:r<(a:Int)->(b:Int)<2^63->b=a->r<2^63:=LA.la [a,b] [r] 14474011154664524428585519734672012451573302655379535673507164311088718217353
theorem RS:r.toNat<a->r<(a:Int):=LA.la [a] [r] 6790721253153897
theorem RT:0<=r-> ¬(r<0):=LA.la [] [r] 1126048083215433
theorem RU:r.toNat<a->(a:Int)<2^63->r<2^63:=LA.la [a] [r] 13479973333575319897928714617972205273456684656523825935262902393961
theorem RV:0<=r-> -(2^63)<=r:=LA.la [] [r] 10384593717069655257519662953399369
theorem RW:a=b->(-1+(a:Int)).toNat=b-1:=LA.la [a,b] [] 41873325455827997825803252400297
theorem RX: -(2^63)<= -1:=LA.la [] [] 1308705721062342208269725369506
theorem RY:0<a->b=a-> -(b:Int)<= -1:=LA.la [a,b] [] 1308697265851927949282113487977
theorem RZ: -1<0:=LA.la [] [] 34636964
theorem R0:(a:Int)<2^63->r.toNat<a->r<2^63:=LA.la [a] [r] 13479973333575319897928714607084507979922166851057468257182607743113
theorem R1:a<1000->1+a<1000000:=LA.la [a] [] 38685631101151534063014114230377
theorem R2:r.natAbs-1=s.natAbs-1->r.natAbs<=5/\r≠0->s.natAbs<=5/\s≠0->r.natAbs=s.natAbs:=LA.la [] [r,s] 1867147889292410756956089326511657378535979291935447604785585385852854094531753
theorem R4:0<=r/\r<(a:Int)->0<=s/\s<(a:Int)->s<r->0<=s/\s<((r.toNat:Nat):Int):=LA.la [a] [r,s] 1696826950953932723967380211594335365070448080504673825138434672873
theorem R5:0<=r/\r<(a:Int)->0<=s/\s<(a:Int)->s<r->0<=s/\s<=((r.toNat:Nat):Int):=LA.la [a] [r,s] 1696826947815381856274039829676440653466614872453496102906417416425
theorem R6:s.toNat=t.toNat->0<=s/\s<r->0<=t/\t<r->s=t:=LA.la [] [r,s,t] 3066496428507608474391795116171697101512517302671645865
theorem R7:r<s->r.toNat=s.toNat->0<=r/\r<(a:Int)->0<=s/\s<(a:Int)->False:=LA.la [a] [r,s] 297310214776320377896630218795092747127977758894665531529
theorem R8:2<=a->a<=5->a=2∨a=3∨a=4∨a=5:=LA.la [a] [] 8086476556098860249135784677252211934569205249706690703557673
end
def au:= @List.length_map
def aC:= @Int.natCast_nonneg
def aw:= @wpAny_bind
def bd:= @List.mem_of_getElem?
def bf:= @decide_eq_true_eq
def bm:= @List.length_append
def ct:= @decide_eq_false_iff_not
def bO:= @Int.toNat_natCast
def dO:= @Nat.le_of_ble_eq_true
def cV:= @List.length_singleton
def ax:= @if_neg
def cx:= @List.mem_singleton
def az:= @if_pos
def cy:= @List.size_toArray
def ba:= @wpAny_pure
def eL:= @List.getElem?_eq_getElem
def dp:= @List.not_mem_nil
def cN:= @List.map_append
def gi:= @List.getElem?_append_left
def fO:= @Heap.get?_push_of_some
def g9:= @List.getElem?_concat_length
def cu:= @Heap.lt_size
def dZ:= @List.length_range
def eC:= @List.pairwise_map
def dG:= @List.mem_append
def gj:= @List.getElem?_set_self
def cW:= @wpAny_holding
def d7:= @List.length_set
def iT:= @List.getD_eq_getElem?_getD
def dq:= @List.map_cons
def ir:= @List.Pairwise.imp_of_mem
def gk:= @List.getElem?_set_ne
def jL:= @Classical.byContradiction
def bP:= @congrArg
def cG:= @Nat.le_refl
def fP:= @of_decide_eq_true
def fA:= @List.getElem?_map
def eD:= @List.nodup_nil
def fh:= @List.length_cons
def gB:= @Bool.not_eq_true'
def eM:= @Nat.le_trans
def fB:= @Int.natAbs_neg
def cO:= @wpAny_mono
def hE:= @Heap.get?_push_size
def gC:= @List.lookup_cons
def f5:= @List.append_nil
def eT:= @Nat.le_of_lt
def eN:= @List.map_map
def l9:= @Nat.lt_of_le_of_lt
def jM:= @List.length_replicate
def iu:= @List.append_assoc
def gD:= @List.nil_append
def iU:= @Nat.lt_succ_of_le
def f6:= @wpAny_standAt
def km:= @List.mem_of_mem_take
def jN:= @Bool.and_eq_true
def iw:= @Nat.lt_irrefl
def gE:= @List.mem_cons
def jO:= @Nat.le_succ_of_le
def nq:= @List.getElem?_take_of_lt
def gm:= @Nat.zero_le
def cX:= @Eq.symm
def ma:= @of_decide_eq_false
def lw:= @Bool.false_ne_true
def nu:= @List.filterMap_eq_map'
def jP:= @List.mem_filter
def ko:= @List.take_length
def ku:= @List.length_take
def hH:= @Int.neg_neg
def mc:= @List.mem_map_of_mem
def ny:= @List.getElem?_toArray
def R9:= @Nat.lt_of_lt_of_le
def nA:= @Bool.not_eq_false'
def kB:= @List.nodup_cons
def pX:= @List.getElem?_eq_none_iff
def pY:= @List.drop_eq_getElem_cons
def oG:= @List.length_filter_le
def lx:= @Option.some.inj
def nB:= @Bool.false_eq_true
def md:= @List.filter_cons
def pZ:= @List.pairwise_singleton
def rA:= @List.idxOf_lt_length_of_mem
def ly:= @List.drop_zero
def lz:= @Heap.size_push
def nC:= @List.reverse_cons
def oH:= @List.drop_succ_cons
def oI:= @Heap.SameBut.update
def nD:= @beq_self_eq_true
def oJ:= @List.filter_append
def rC:= @List.filterMap_cons_some
def jQ:= @sizeLine_eq
def jR:= @Nat.le_succ
def rD:= @List.getElem?_cons_succ
def nE:= @decide_eq_false
def nF:= @List.filter_nil
def p9:= @List.map_congr_left
def qc:= @List.getElem?_range
def EA:= @Int.zero_add
def oK:= @Int.le_of_lt
def rE:= @List.getElem?_eq_none
def ix:= @if_false
def rF:= @List.pairwise_append
def rH:= @List.Pairwise.filter
def tP:= @List.filterMap_cons_none
def rJ:= @List.length_reverse
def tQ:= @List.getElem?_replicate
def wC:= @List.take_append_of_le_length
def Sa:= @Int.emod_nonneg
def rK:= @Option.some.injEq
structure Ref where
 t:Nat
 i:Nat
 deriving DecidableEq
inductive V where
 |none
 |bool (b:Bool)
 |int (i:Int)
 |str (s:String)
 |tup (xs:List V)
 |ref (r:Ref)
 |con (v:Value)
 |ao (f:Value) (self:V)
 |bq (a b c:Int)
 |oM (xs:List Int)
noncomputable def V.ctorIdx(x:V):Nat:= @V.casesOn (λU=>Nat) x 0 (λU=>1) (λU=>2) (λU=>3) (λU=>4) (λU=>5) (λU=>6) (λU U=>7) (λU U U=>8) (λU=>9)
inductive dr where
 |list (xs:List V)
 |dict (es:List (Int×V))
 |inst (C:Addr) (d:Ref)
 |fj (k:Nat) (fs:String->Option V)
 |gone
noncomputable def dr.ctorIdx(x:dr):Nat:= @dr.casesOn (λU=>Nat) x (λU=>0) (λU=>1) (λU U=>2) (λU U=>3) 4
abbrev MH:=Ref->Option dr
abbrev MM:=String->Option V
noncomputable def upd(H:MH)(r:Ref)(o:dr):MH:=λx=>if x=r then some o else H x
noncomputable def set(m:MM)(x:String)(v:V):MM:=λy=>if y=x then some v else m y
structure Cfg where
 prog:Program
 w:World
 K:Frag
 h₀:Heap
 mg:Str->Option Value
 mb:Str->Option Value
 wD:List (Addr×Obj)
structure Cfg.Ok(C:Cfg):Prop where
 du:C.K.In C.h₀
 g:C.h₀.Ns mainGlobals C.mg
 b:C.h₀.Ns builtinsNs C.mb
 bi: ∀x:Str,x≠ "__name__" ->C.mb x=bootBuiltins x
 lim:C.h₀.NoLimit
 big:sysModules<C.h₀.objs.size
structure Wl where
 ρ:Ref->Option Addr
 T:List (Addr×Obj)
structure Wl.le(W W':Wl):Prop where
 r: ∀r a,W.ρ r=some a->W'.ρ r=some a
 t: ∀p,p∈W.T->p∈W'.T
theorem Wl.le.refl(W:Wl):W.le W:=⟨λU U e=>e,λU e=>e⟩
theorem Wl.le.trans{a b c:Wl}(x:a.le b)(y:b.le c):a.le c:=⟨λr z e=>y.r r z (x.r r z e),λp e=>y.t p (x.t p e)⟩
abbrev hJ(vs:List Value):Obj:={cls:=.type "tuple",data:=.seq vs.toArray}
abbrev Sb(a b c:Int)(t u v:Tok):Obj:={cls:=.type "range",dict:=none,data:=.fields #[.int a t,.int b u,.int c v],slots:= #[]}
mutual
inductive VR(h₀:Heap)(W:Wl):Value->V->Prop
 |none:VR h₀ W .none .none
 |bool (b:Bool):VR h₀ W (.bool b) (.bool b)
 |int (i:Int) (t:Tok):VR h₀ W (.int i t) (.int i)
 |str (s:String) (t:Tok):VR h₀ W (.str (Str.ofString s) t) (.str s)
 |tup {a:Addr} {vs:List Value} {xs:List V} {n:Nat}:(a,({cls:=.type "tuple",data:=.seq vs.toArray n}:Obj))∈W.T->aF h₀ W vs xs->VR h₀ W (.ref a) (.tup xs)
 |ref {a:Addr} {r:Ref}:W.ρ r=some a->VR h₀ W (.ref a) (.ref r)
 |con (v:Value):VR h₀ W v (.con v)
 |ao {q:Addr} {f self:Value} {ms:V}:(q,methodObj f self)∈W.T->VR h₀ W self ms->VR h₀ W (.ref q) (.ao f ms)
 |bq {q:Addr} {a b c:Int} {t u v:Tok}:(q,Sb a b c t u v)∈W.T->VR h₀ W (.ref q) (.bq a b c)
 |oM {l:Addr} {vs:List Value} {ns:List Int}:h₀.IsList l vs.toArray->IntsAre vs ns->VR h₀ W (.ref l) (.oM ns)
inductive aF(h₀:Heap)(W:Wl):List Value->List V->Prop
 |nil:aF h₀ W [] []
 |cons {v:Value} {x:V} {vs:List Value} {xs:List V}:VR h₀ W v x->aF h₀ W vs xs->aF h₀ W (v::vs) (x::xs)
end
noncomputable def jg:Value->Option Addr
 | .ref a=>some a
 |_=>none
theorem tR(h:jg v=some a):v=.ref a:=by cases v<;>first|(exact Ns h;done)|(cases h;rfl)
theorem zr(h:a≠b):Value.type a≠Value.type b:=λe=>by injection e with e;exact h e
structure Wl.like(W W':Wl):Prop where
 r: ∀r a,W.ρ r=some a->W'.ρ r=some a
 t: ∀p,p∈W.T->p.2.cls≠.type "list" ->p∈W'.T
theorem Wl.le.like{W W':Wl}(l:W.le W'):W.like W':=⟨l.r,λp hp U=>l.t p hp⟩
theorem VR.like{h₀:Heap}{W W':Wl}(l:W.like W'){v:Value}{x:V}(h:VR h₀ W v x):VR h₀ W' v x:=
 VR.rec (motive_1:=λv x U=>VR h₀ W' v x) (motive_2:=λvs xs U=>aF h₀ W' vs xs) .none .bool .int .str (λm U h=>.tup (l.t _ m (zr (by decide))) h) (λe=>.ref (l.r _ _ e)) .con (λm U h=>.ao (l.t _ m (zr (by decide))) h) (λm=>.bq (l.t _ m (zr (by decide)))) .oM .nil (λU U a b=>.cons a b) h
theorem VR.mono{W W':Wl}(l:W.le W')(h:VR h₀ W v x):VR h₀ W' v x:=h.like l.like
theorem aF.ind{P:List Value->List V->Prop}(h0:P [] [])(h1: ∀{v:Value} {x:V} {vs:List Value} {xs:List V},VR h₀ W v x->aF h₀ W vs xs->P vs xs->P (v::vs) (x::xs))(h:aF h₀ W vs xs):P vs xs:=
 aF.rec (motive_1:=λU U U=>True) (motive_2:=λvs xs U=>P vs xs) trivial (λU=>trivial) (λU U=>trivial) (λU U=>trivial) (λU U U=>trivial) (λU=>trivial) (λU=>trivial) (λU U U=>trivial) (λU=>trivial) (λU U=>trivial) h0 (λa b U p=>h1 a b p) h
section
variable{h₀:Heap}{W:Wl}{vs ws:List Value}{xs ys:List V}
theorem aF.like{W':Wl}(l:W.like W')(h:aF h₀ W vs xs):aF h₀ W' vs xs:=h.ind (P:=λvs xs=>aF h₀ W' vs xs) .nil λa U p=>.cons (a.like l) p
theorem aF.mono{W':Wl}(l:W.le W')(h:aF h₀ W vs xs):aF h₀ W' vs xs:=h.like l.like
theorem aF.length(h:aF h₀ W vs xs):vs.length=xs.length:=h.ind (P:=λvs xs=>vs.length=xs.length) rfl λU U p=>bP Nat.succ p
theorem aF.get(h:aF h₀ W vs xs): ∀{i:Nat} {x:V},xs[i]?=some x-> ∃v,vs[i]?=some v/\VR h₀ W v x:=
 h.ind (P:=λvs xs=> ∀{i:Nat} {x:V},xs[i]?=some x-> ∃v,vs[i]?=some v/\VR h₀ W v x) (Ns) λa U p i x e=>by
  cases i with
  |zero=>cases e;exact⟨_,rfl,a⟩
  |succ i=>exact p e
theorem aF.append(h:aF h₀ W vs xs)(b:aF h₀ W ws ys):aF h₀ W (vs++ws) (xs++ys):=h.ind (P:=λvs xs=>aF h₀ W (vs++ws) (xs++ys)) b λa U p=>.cons a p
theorem aF.snoc(a:aF h₀ W vs xs)(b:VR h₀ W v x):aF h₀ W (vs++[v]) (xs++[x]):=a.append (.cons b .nil)
theorem aF.set(h:aF h₀ W vs xs): ∀(i:Nat) {v:Value} {x:V},VR h₀ W v x->aF h₀ W (vs.set i v) (xs.set i x):=
 h.ind (P:=λvs xs=> ∀(i:Nat) {v:Value} {x:V},VR h₀ W v x->aF h₀ W (vs.set i v) (xs.set i x)) (λU U U U=>.nil) λa b p i U U c=>by
  cases i with
  |zero=>exact .cons c b
  |succ i=>exact .cons a (p i c)
theorem aF.drop(h:aF h₀ W vs xs): ∀i:Nat,aF h₀ W (vs.drop i) (xs.drop i):=
 h.ind (P:=λvs xs=> ∀i:Nat,aF h₀ W (vs.drop i) (xs.drop i)) (λi=>by cases i<;>exact .nil) λa b p i=>by
  cases i with
  |zero=>exact .cons a b
  |succ i=>exact p i
theorem aF.take(h:aF h₀ W vs xs): ∀i:Nat,aF h₀ W (vs.take i) (xs.take i):=
 h.ind (P:=λvs xs=> ∀i:Nat,aF h₀ W (vs.take i) (xs.take i)) (λi=>by cases i<;>exact .nil) λa U p i=>by
  cases i with
  |zero=>exact .nil
  |succ i=>exact .cons a (p i)
theorem aF.inv(h:aF h₀ W ws (x::xs)): ∃v vs,ws=v::vs/\VR h₀ W v x/\aF h₀ W vs xs:=by cases h with|cons a b=>exact⟨_,_,rfl,a,b⟩
theorem aF.me(h:aF h₀ W ws []):ws=[]:=by cases h;rfl
theorem VR.Sc(h:VR h₀ W v (.int i)): ∃t,v=.int i t:=by cases h;exact⟨_,rfl⟩
theorem VR.afx(h:VR h₀ W v (.bool b)):v=.bool b:=by cases h;rfl
theorem VR.EB(h:VR h₀ W v .none):v=.none:=by cases h;rfl
theorem VR.EC(h:VR h₀ W v (.str s)): ∃t,v=.str (Str.ofString s) t:=by cases h;exact⟨_,rfl⟩
theorem VR.tupI(h:VR h₀ W v (.tup xs)): ∃a vs n,v=.ref a/\(a,({cls:=.type "tuple",data:=.seq vs.toArray n}:Obj))∈W.T/\aF h₀ W vs xs:=by cases h with|tup m r=>exact⟨_,_,_,rfl,m,r⟩
theorem VR.afy(h:VR h₀ W v (.ref r)): ∃a,v=.ref a/\W.ρ r=some a:=by cases h with|ref e=>exact⟨_,rfl,e⟩
theorem aF.ints: ∀{ns:List Int} {vs:List Value},aF h₀ W vs (ns.map V.int)->IntsAre vs ns
 |[],_,h=>h.me▸.nil
 |n::ns,_,h=>by
  refine bE h.inv λv vs o1 a b=>?_;subst o1;refine ag a.Sc λt o2=>?_;subst o2;exact .cons _ _ b.ints
theorem aF.tS(h:IntsAre vs ns):aF h₀ W vs (ns.map V.int):=by
 induction h with
 |nil=>exact .nil
 |cons n t _ ih=>exact .cons (.int n t) ih
end
inductive DR(h₀:Heap)(W:Wl):List (Int×Value)->List (Int×V)->Prop
 |nil:DR h₀ W [] []
 |cons {k:Int} {v:Value} {x:V} {es:List (Int×Value)} {xs:List (Int×V)}:VR h₀ W v x->DR h₀ W es xs->DR h₀ W ((k,v)::es) ((k,x)::xs)
theorem DR.like{h₀:Heap}{W W':Wl}(l:W.like W'){vs:List (Int×Value)}{xs:List (Int×V)}(h:DR h₀ W vs xs):DR h₀ W' vs xs:=by
 induction h with
 |nil=>exact .nil
 |cons a _ ih=>exact .cons (a.like l) ih
theorem DR.mono{W W':Wl}(l:W.le W')(h:DR h₀ W vs xs):DR h₀ W' vs xs:=h.like l.like
section
variable(C:Cfg)(W:Wl)
noncomputable def iV(h:Heap)(a:Addr):dr->Prop
 | .list xs=> ∃vs n,h.get? a=some (listOf vs.toArray n)/\aF C.h₀ W vs xs
 | .dict es=> ∃kvs,h.DictOf (intKind C.prog C.w) a kvs/\DR C.h₀ W kvs es
 | .inst Cl d=> ∃dx,W.ρ d=some dx/\h.get? a=some (instObj Cl dx)
 | .gone=> ∃o,h.get? a=some o
 | .fj k fs=> ∃es n,h.get? a=some (dictOf es n)/\es.length<=k/\es.any (·.refKey)=false/\ ∀name:String,(fs name=none->getL (Str.ofString name) es=some none)/\(∀v,fs name=some v-> ∃rv,getL (Str.ofString name) es=some (some rv)/\VR C.h₀ W rv v)
end
theorem iV.like{C:Cfg}{W W':Wl}{h h':Heap}{a:Addr}{mo:dr}(l:W.like W')(k: ∀o,h.get? a=some o->h'.get? a=some o)(x:iV C W h a mo):iV C W' h' a mo:=by
 cases mo with
 |list xs=>refine bM x λvs n e r=>?_;exact⟨vs,n,k _ e,r.like l⟩
 |dict es=>refine ab x λkvs o3 r=>?_;refine cM o3 λo es ep e q=>?_;exact⟨kvs,⟨o,es,ep,k _ e,q⟩,r.like l⟩
 |inst Cl d=>refine ab x λdx e r=>?_;exact⟨dx,l.r _ _ e,k _ r⟩
 |gone=>refine ag x λo e=>?_;exact⟨o,k _ e⟩
 |fj n fs=>
  refine dN x λes m e q z r=>?_;exact⟨es,m,k _ e,q,z,λname=>⟨(r name).1,λv e=>let ⟨rv,a,b⟩:=(r name).2 v e;⟨rv,a,b.like l⟩⟩⟩
theorem iV.mono{W W':Wl}(l:W.le W')(k: ∀o,h.get? a=some o->h'.get? a=some o)(x:iV C W h a mo):iV C W' h' a mo:=x.like l.like k
theorem iV.some{C:Cfg}{W:Wl}{h:Heap}{a:Addr}{mo:dr}(x:iV C W h a mo): ∃o,h.get? a=some o:=by
 cases mo with
 |list xs=>refine bM x λvs n e r=>?_;exact⟨_,e⟩
 |dict es=>refine ab x λkvs o4 r=>?_;refine cM o4 λo es ep e q=>?_;exact⟨_,e⟩
 |inst Cl d=>refine ab x λdx e r=>?_;exact⟨_,r⟩
 |gone=>exact x
 |fj n fs=>refine bE x λes m e q r=>?_;exact⟨_,e⟩
structure Off(C:Cfg)(W:Wl)(a:Addr):Prop where
 ge:C.h₀.objs.size<=a
 r: ∀r,W.ρ r≠some a
 t: ∀p,p∈W.T->p.1≠a
structure Rel(C:Cfg)(W:Wl)(H:MH)(h:Heap):Prop where
 keep: ∀b o,C.h₀.get? b=some o->h.get? b=some o
 size:C.h₀.objs.size<=h.objs.size
 obj: ∀r o,H r=some o-> ∃a,W.ρ r=some a/\iV C W h a o
 d8: ∀r a,W.ρ r=some a->C.h₀.objs.size<=a/\ ∃o,H r=some o
 inj: ∀r r' a,W.ρ r=some a->W.ρ r'=some a->r=r'
 bA: ∀p,p∈W.T->h.get? p.1=some p.2/\ ∀r,W.ρ r=some p.1->H r=some .gone
 fin: ∃N,∀r,H r≠none->r.i<N
 base: ∀p,p∈C.wD->p∈W.T
structure an(C:Cfg)(D:Addr->Prop)(W:Wl)(s:Shared)(W':Wl)(H':MH)(s':Shared):Prop where
 eq: ∃h tk,s'={s with heap:=h,toks:=tk}
 ext:W.le W'
 rel:Rel C W' H' s'.heap
 live: ∀b o,s.heap.get? b=some o-> ∃o',s'.heap.get? b=some o'
 new: ∀r b,W'.ρ r=some b->W.ρ r=some b∨s.heap.get? b=none
 iW: ∀p,p∈W'.T->p∈W.T∨s.heap.get? p.1=none
 keep: ∀b o,s.heap.get? b=some o->(∀r,W.ρ r≠some b)-> ¬D b->s'.heap.get? b=some o∨ ∃mm,s.heap.Ns b mm/\s'.heap.Ns b mm
theorem ED{h:Heap}{m m':Str->Option Value}(x:h.Ns a m)(y:h.Ns a m'):m=m':=by
 refine jI x λo es ep ho hd U hf=>?_;refine jI y λo' mf ep' bn kC U zt=>?_;replace bn:=ho▸bn;cases bn;replace kC:=hd▸kC;cases kC
 funext y;exact rB (hf y) (rG (zt y) rfl)
theorem Sd{h:Heap}{m:Str->Option Value}(x:h.Ns a m)(e:h.get? a=some o): ∃es ep,o.data=.dict es ep:=by
 refine bJ x λo' es ep ho hd U=>?_;replace ho:=e▸ho;cases ho;exact⟨es,ep,hd⟩
theorem EF{h h':Heap}{b:Addr}(k: ∀b o,h.get? b=some o-> ∃o',h'.get? b=some o')(e:h'.get? b=none):h.get? b=none:=by
 cases q:h.get? b with
 |none=>rfl
 |some o=>refine ag (k b o q) λo' z=>?_;replace z:=e▸z;exact Ns z
theorem eU{h:Heap}{b:Addr}{o:Obj}{p:Prop}(e:h.get? b=some o)(z:h.get? b=none):p:=by replace z:=e▸z;exact Sn z
theorem an.refl{D:Addr->Prop}(R:Rel C W H s.heap):an C D W s W H s:=
 ⟨⟨_,_,rfl⟩,.refl _,R,λU o e=>⟨o,e⟩,λU U e=>.inl e,λU e=>.inl e,λU U e U U=>.inl e⟩
theorem an.toks{D:Addr->Prop}(R:Rel C W H s.heap)(tk:Nat):an C D W s W H {s with toks:=tk}:=
 ⟨⟨_,_,rfl⟩,.refl _,R,λU o e=>⟨o,e⟩,λU U e=>.inl e,λU e=>.inl e,λU U e U U=>.inl e⟩
theorem an.trans{C:Cfg}{D:Addr->Prop}{W W' bQ:Wl}{H' bc:MH}{s s' iy:Shared}(x:an C D W s W' H' s')(y:an C D W' s' bQ bc iy):an C D W s bQ bc iy where
 eq:=by refine dM x.eq λh tk o5=>?_;subst o5;refine dM y.eq λh' Se o6=>?_;subst o6;exact⟨h',Se,rfl⟩
 ext:=x.ext.trans y.ext
 rel:=y.rel
 live:=λb o e=>let ⟨o',e'⟩:=x.live b o e;y.live b o' e'
 new:=λr b e=>(y.new r b e).elim (λe=>x.new r b e) λl=>.inr (EF x.live l)
 iW:=λp e=>(y.iW p e).elim (λe=>x.iW p e) λl=>.inr (EF x.live l)
 keep:=λb o e n d=>by
  have n': ∀r,W'.ρ r≠some b:=λr q=>(x.new r b q).elim (λz=>n r z) λl=>eU e l;rcases x.keep b o e n d with q|⟨mm,q1,q2⟩
  .rcases y.keep b o q n' d with z|⟨mm,z1,z2⟩
   .exact .inl z
   .refine cM z1 λo' es ep ho r=>?_;replace ho:=q▸ho;cases ho;exact .inr ⟨mm,⟨_,es,ep,e,r⟩,z2⟩
  .refine cM (id q2) λo' es ep ho r=>?_;rcases y.keep b o' ho n' d with z|⟨zu,z1,z2⟩
   .exact .inr ⟨mm,q1,⟨o',es,ep,z,r⟩⟩
   .replace z2:=(ED z1 q2)▸z2;exact .inr ⟨mm,q1,z2⟩
theorem an.zv{C:Cfg}{D:Addr->Prop}(x:an C D W s W' H' s')(e:s.heap.get? b=some o)(n: ∀r,W.ρ r≠some b)(d: ¬D b)
  (nd: ∀es ep,o.data≠.dict es ep):s'.heap.get? b=some o:=by
 rcases x.keep b o e n d with q|⟨mm,q1,_⟩
 .exact q
 .refine dM (Sd q1 e) λes ep z=>?_;exact absurd z (nd es ep)
theorem an.zw{D:Addr->Prop}(x:an C D W s W' H' s'){m:Str->Option Value}(e:s.heap.Ns b m)(n: ∀r,W.ρ r≠some b)(d: ¬D b):s'.heap.Ns b m:=by
 refine cM (id e) λo es ep ho r=>?_;rcases x.keep b o ho n d with q|⟨mm,q1,q2⟩
 .exact⟨o,es,ep,q,r⟩
 .refine rG (ED e q1) ?_;exact q2
theorem an.wide{D D':Addr->Prop}(x:an C D W s W' H' s')(k: ∀b,D b->D' b):an C D' W s W' H' s':=
 ⟨x.eq,x.ext,x.rel,x.live,x.new,x.iW,λb o e n d=>x.keep b o e n λq=>d (k _ q)⟩
theorem Off.iX{C:Cfg}{D:Addr->Prop}(f:Off C W a)(e:s.heap.get? a=some o)(x:an C D W s W' H' s'):Off C W' a:=
 ⟨f.ge,λr q=>(x.new r a q).elim (f.r r) λl=>eU e l,
  λp q=>(x.iW p q).elim (f.t p) λl z=>eU e (z▸l)⟩
noncomputable def frame(env:Env)(b:Addr):Prop:=b=env.locals∨ ∃x,env.cells.lookup x=some b
structure bl(C:Cfg)(W:Wl)(env:Env)(m:MM)(h:Heap):Prop where
 kind:env.scope.kind=.function
 glob:env.globals=mainGlobals
 bi:env.builtins=builtinsNs
 lv: ∃mm,h.Ns env.locals mm/\ ∀x v,x≠ ".0" ->m x=some v->env.kindOf (Str.ofString x)=some .local-> ∃rv,mm (Str.ofString x)=some rv/\VR C.h₀ W rv v
 off:Off C W env.locals
 cell: ∀x c,env.cells.lookup x=some c->(∀r,W.ρ r≠some c)/\c≠env.locals/\ ∃v,h.IsCell c v
 mh: ∀x c,env.kindOf x=some .cell->env.cells.lookup x=some c->Off C W c
 apart: ∀x y c,env.cells.lookup x=some c->env.cells.lookup y=some c->x=y
 has: ∀x,(env.kindOf x=some .cell∨env.kindOf x=some .free)-> ∃c,env.cells.lookup x=some c
 cv: ∀x v,m x=some v->(env.kindOf (Str.ofString x)=some .cell∨env.kindOf (Str.ofString x)=some .free)->
  ∃c rv,env.cells.lookup (Str.ofString x)=some c/\h.IsCell c (some rv)/\VR C.h₀ W rv v
theorem bl.kept{C:Cfg}{D:Addr->Prop}(F:bl C W env m s.heap)(x:an C D W s W' H' s')
  (nd: ∀b,D b-> ¬frame env b):bl C W' env m s'.heap where
 kind:=F.kind
 glob:=F.glob
 bi:=F.bi
 lv:=by
  refine ab F.lv λmm o7 q=>?_;refine cM o7 λo es ep ho r=>?_;exact⟨mm,x.zw ⟨o,es,ep,ho,r⟩ (λr=>F.off.r r) (λd=>nd _ d (.inl rfl)),λy v z e k=>let ⟨rv,a,b⟩:=q y v z e k;⟨rv,a,b.mono x.ext⟩⟩
 off:=by refine ab F.lv λmm o8 q=>?_;refine cM o8 λo es ep ho r=>?_;exact F.off.iX ho x
 cell:=λy c e=>by
  refine b9 (F.cell y c e) λa b bw=>?_;refine bM bw λv o ho hd=>?_;exact⟨λr q=>(x.new r c q).elim (a r) λl=>eU ho l,b,v,o,x.zv ho a (λd=>nd _ d (.inr ⟨y,e⟩)) (λes ep z=>by replace z:=hd▸z;cases z),hd⟩
 mh:=λy c k e=>by
  refine b9 (F.cell y c e) λU U bw=>?_;refine bM bw λv o ho U=>?_;exact(F.mh y c k e).iX ho x
 apart:=F.apart
 has:=F.has
 cv:=λy v e k=>by
  refine bE (F.cv y v e k) λc rv a o9 z=>?_;refine ab o9 λo ho hd=>?_;exact⟨c,rv,a,⟨o,x.zv ho (F.cell _ _ a).1 (λd=>nd _ d (.inr ⟨_,a⟩)) (λes ep z=>by replace z:=hd▸z;cases z),hd⟩,z.mono x.ext⟩
structure dD(n:Nat)(A:Around):Prop where
 hh:A.handled=none
 dep:A.depth+4*n<recursionLimit
 tT:A.units+16*n+100<cLine
section
variable{C:Cfg}{D:Addr->Prop}{W:Wl}{H:MH}{s:Shared}
theorem oN(h:Heap):h.get? h.objs.size=none:=by
 cases q:h.get? h.objs.size with
 |none=>rfl
 |some o=>exact absurd (cu q) (iw _)
theorem Rel.ext(R:Rel C W H h)(k: ∀b o,h.get? b=some o->h'.get? b=some o)(g:h.objs.size<=h'.objs.size):Rel C W H h' where
 keep:=λb o e=>k _ _ (R.keep b o e)
 size:=eM R.size g
 obj:=λr o e=>let ⟨a,p,q⟩:=R.obj r o e;⟨a,p,q.mono (.refl _) λo e=>k _ _ e⟩
 d8:=R.d8
 inj:=R.inj
 bA:=λp q=>⟨k _ _ (R.bA p q).1,(R.bA p q).2⟩
 fin:=R.fin
 base:=R.base
theorem an.ext'(R:Rel C W H s.heap)(k: ∀b o,s.heap.get? b=some o->h'.get? b=some o)(g:s.heap.objs.size<=h'.objs.size):an C D W s W H {s with heap:=h',toks:=tk}:=
 ⟨⟨_,_,rfl⟩,.refl _,R.ext k g,λb o e=>⟨o,k b o e⟩,λU U e=>.inl e,λU e=>.inl e,λb o e U U=>.inl (k b o e)⟩
theorem an.push(R:Rel C W H s.heap)(o:Obj)(tk:Nat):an C D W s W H {s with heap:=s.heap.push o,toks:=tk}:=
 an.ext' R (λU U e=>fO _ e) (by refine rG (lz _ _) ?_;exact jR _)
theorem an.rM(R:Rel C W H s.heap)(o:Obj)(tk:Nat)(nf:o.isFreed=false:=by rfl):an C D W s ⟨W.ρ,(s.heap.objs.size,o)::W.T⟩ H {s with heap:=s.heap.push o,toks:=tk} where
 eq:=⟨_,_,rfl⟩
 ext:=⟨λU U e=>e,λU e=>.tail _ e⟩
 rel:=by
  have k: ∀b o',s.heap.get? b=some o'->(s.heap.push o).get? b=some o':=λU U e=>fO _ e;haveI g:s.heap.objs.size<=(s.heap.push o).objs.size:=by refine rG (lz _ _) ?_;exact jR _
  refine⟨λb o' e=>k _ _ (R.keep b o' e),eM R.size g,λr o' e=>?_,R.d8,R.inj,λp q=>?_,R.fin,λp q=>.tail _ (R.base p q)⟩
  .refine ab (R.obj r o' e) λa p q=>?_;exact⟨a,p,iV.mono (W:=W) ⟨λU U e=>e,λU e=>.tail _ e⟩ (λo e=>k _ _ e) q⟩
  .rcases List.mem_cons.mp q with rfl|q
   .refine⟨hE _ nf,λr e=>?_⟩;refine aE (R.d8 r _ e) λU cj=>?_;refine ag cj λo' ho=>?_;refine ab (R.obj r o' ho) λa p q=>?_;refine ag q.some λo'' Sf=>?_;replace p:=(show W.ρ r=some _ from e)▸p;cases p;exact absurd (cu Sf) (iw _)
   .exact⟨k _ _ (R.bA p q).1,(R.bA p q).2⟩
 live:=λb o' e=>⟨o',fO _ e⟩
 new:=λU U e=>.inl e
 iW:=λp q=>by
  rcases List.mem_cons.mp q with rfl|q
  .exact .inr (oN _)
  .exact .inl q
 keep:=λb o e U U=>.inl (fO _ e)
noncomputable def Wl.add(W:Wl)(r:Ref)(a:Addr):Wl:=⟨λx=>if x=r then some a else W.ρ x,W.T⟩
theorem Rel.none_of(R:Rel C W H h)(e:H r=none):W.ρ r=none:=by
 cases q:W.ρ r with
 |none=>rfl
 |some a=>refine aE (R.d8 r a q) λU cj=>?_;refine ag cj λo ho=>?_;replace ho:=e▸ho;cases ho
theorem Wl.rN(R:Rel C W H h)(e:H r=none)(a:Addr):W.le (W.add r a):=
 ⟨λx b q=>by
  show (if x=r then some a else W.ρ x)=some b;by_cases z:x=r
  .subst z;replace q:=(R.none_of e)▸q;cases q
  .refine rG (ax z) ?_;exact q,λU q=>q⟩
theorem Rel.lt(R:Rel C W H h)(e:W.ρ r=some a):a<h.objs.size:=by
 refine aE (R.d8 r a e) λU cj=>?_;refine ag cj λo ho=>?_;refine ab (R.obj r o ho) λa' p q=>?_;refine ag q.some λo' bn=>?_;replace p:=e▸p;cases p;exact cu bn
theorem an.alloc(R:Rel C W H s.heap)(e:H r=none)(o:Obj)(tk:Nat)(ok:iV C (W.add r s.heap.objs.size) (s.heap.push o) s.heap.objs.size mo):
  an C D W s (W.add r s.heap.objs.size) (upd H r mo) {s with heap:=s.heap.push o,toks:=tk} where
 eq:=⟨_,_,rfl⟩
 ext:=W.rN R e _
 rel:=by
  have k: ∀b o',s.heap.get? b=some o'->(s.heap.push o).get? b=some o':=λU U e=>fO _ e;haveI g:s.heap.objs.size<=(s.heap.push o).objs.size:=by refine rG (lz _ _) ?_;exact jR _
  refine⟨λb o' e=>k _ _ (R.keep b o' e),eM R.size g,λx o' q=>?_,λx a q=>?_,λx y a q z=>?_,λp q=>⟨k _ _ (R.bA p q).1,λx z=>?_⟩,?_,R.base⟩
  .unfold upd at q;by_cases z:x=r
   .replace q:=(az z)▸q;cases q;exact⟨_,by show (if x=r then _ else _)=_;exact rG (az z) rfl,ok⟩
   .haveI q:=(ax z)▸q;refine ab (R.obj x o' q) λa p t=>?_;exact⟨a,(W.rN R e _).r _ _ p,t.mono (W.rN R e _) λo e=>k _ _ e⟩
  .haveI q:(if x=r then some s.heap.objs.size else W.ρ x)=some a:=q;by_cases z:x=r
   .replace q:=(az z)▸q;cases q;exact⟨R.size,mo,by unfold upd;exact rG (az z) rfl⟩
   .haveI q:=(ax z)▸q;refine aE (R.d8 x a q) λu cj=>?_;refine ag cj λo' ho=>?_;exact⟨u,o',by unfold upd;refine rG (ax z) ?_;exact ho⟩
  .haveI q:(if x=r then some s.heap.objs.size else W.ρ x)=some a:=q;haveI z:(if y=r then some s.heap.objs.size else W.ρ y)=some a:=z;by_cases u:x=r<;>by_cases v:y=r
   .exact rG u (rG v rfl)
   .replace q:=(az u)▸q;haveI z:=(ax v)▸z;cases q;exact absurd (R.lt z) (iw _)
   .haveI q:=(ax u)▸q;replace z:=(az v)▸z;cases z;exact absurd (R.lt q) (iw _)
   .replace q:=(ax u)▸q;haveI z:=(ax v)▸z;exact R.inj x y a q z
  .haveI z:(if x=r then some s.heap.objs.size else W.ρ x)=some p.1:=z;by_cases u:x=r
   .haveI z:=(az u)▸z;exact absurd (cu (R.bA p q).1) (by refine rB (lx z) ?_;exact iw _)
   .haveI z:=(ax u)▸z;unfold upd;refine rG (ax u) ?_;exact(R.bA p q).2 x z
  .refine ag R.fin λN f=>?_;refine⟨max N (r.i+1),λx q=>?_⟩;unfold upd at q;by_cases z:x=r
   .refine rG z ?_;exact C4
   .haveI q:=(ax z)▸q;haveI:=f x q;exact C3 this
 live:=λb o' e=>⟨o',fO _ e⟩
 new:=λx b q=>by
  haveI q:(if x=r then some s.heap.objs.size else W.ρ x)=some b:=q;by_cases z:x=r
  .replace q:=(az z)▸q;cases q;exact .inr (oN _)
  .haveI q:=(ax z)▸q;exact .inl q
 iW:=λU q=>.inl q
 keep:=λb o e U U=>.inl (fO _ e)
theorem an.upd(R:Rel C W H s.heap)(e:W.ρ r=some a)(he:H r=some mo)(sb:Heap.SameBut a s.heap h')(ok:iV C W h' a mo')(ng:mo≠.gone:=by intro h;cases h):
  an C D W s W (upd H r mo') {s with heap:=h',toks:=tk} where
 eq:=⟨_,_,rfl⟩
 ext:=.refl _
 rel:=by
  refine⟨λb o' q=>?_,by refine rG sb.1 ?_;exact R.size,λx o' q=>?_,λx b q=>?_,R.inj,λp q=>⟨?_,λx z=>?_⟩,?_,R.base⟩
  .refine(sb.2 b λz=>?_).trans (R.keep b o' q);exact absurd (cu q) (Nat.not_lt.mpr (z▸(R.d8 r a e).1))
  .unfold Internal.upd at q;by_cases z:x=r
   .replace q:=(az z)▸q;cases q;refine rG z ?_;exact⟨a,e,ok⟩
   .haveI q:=(ax z)▸q;refine ab (R.obj x o' q) λb p t=>?_;refine⟨b,p,t.mono (.refl _) λo q=>(sb.2 b λy=>z (R.inj x r b p (y▸e))).trans q⟩
  .refine aE (R.d8 x b q) λu cj=>?_;refine ag cj λo' ho=>?_;by_cases z:x=r
   .exact⟨u,mo',by unfold Internal.upd;exact rG (az z) rfl⟩
   .exact⟨u,o',by unfold Internal.upd;refine rG (ax z) ?_;exact ho⟩
  .refine(sb.2 p.1 λz=>?_).trans (R.bA p q).1;haveI:=(R.bA p q).2 r (z▸e);replace this:=he▸this;cases this;exact ng rfl
  .haveI:=(R.bA p q).2 x z;unfold Internal.upd;by_cases w:x=r
   .replace this:=he▸w▸this;cases this;exact absurd rfl ng
   .refine rG (ax w) ?_;exact this
  .refine ag R.fin λN f=>?_;refine⟨N,λx q=>?_⟩;unfold Internal.upd at q;by_cases z:x=r
   .exact f x (by refine rG z (rG he ?_);exact λe=>by cases e)
   .haveI q:=(ax z)▸q;exact f x q
 live:=λb o q=>by
  by_cases z:b=a
  .refine ag ok.some λo' z'=>?_;exact⟨o',z▸z'⟩
  .exact⟨o,(sb.2 b z).trans q⟩
 new:=λU U q=>.inl q
 iW:=λU q=>.inl q
 keep:=λb o q n U=>.inl ((sb.2 b λz=>n r (z▸e)).trans q)
theorem an.own(R:Rel C W H s.heap)(f:Off C W a)(d:D a)(sb:Heap.SameBut a s.heap h')(lv: ∃o,h'.get? a=some o):
  an C D W s W H {s with heap:=h',toks:=tk} where
 eq:=⟨_,_,rfl⟩
 ext:=.refl _
 rel:=by
  refine⟨λb o' q=>?_,by refine rG sb.1 ?_;exact R.size,λx o' q=>?_,R.d8,R.inj,λp q=>⟨?_,(R.bA p q).2⟩,R.fin,R.base⟩
  .refine(sb.2 b λz=>?_).trans (R.keep b o' q);exact absurd (cu q) (Nat.not_lt.mpr (z▸f.ge))
  .refine ab (R.obj x o' q) λb p t=>?_;exact⟨b,p,t.mono (.refl _) λo q=>(sb.2 b λy=>f.r x (y▸p)).trans q⟩
  .exact(sb.2 p.1 λz=>f.t p q z).trans (R.bA p q).1
 live:=λb o q=>by
  by_cases z:b=a
  .refine ag lv λo' z'=>?_;exact⟨o',z▸z'⟩
  .exact⟨o,(sb.2 b z).trans q⟩
 new:=λU U q=>.inl q
 iW:=λU q=>.inl q
 keep:=λb o q n dd=>.inl ((sb.2 b λz=>dd (z▸d)).trans q)
noncomputable def nG(h₀ h:Heap)(L:Addr)(no:Addr->Bool):List (Addr×Obj):=
 (List.range h.objs.size).filterMap λa=>if a=L∨no a=true∨(h₀.get? a).isSome=true then none else (h.get? a).map λo=>(a,o)
theorem wE{no:Addr->Bool}(e:h.get? a=some o)(n:a≠L)(m:no a=false)(z:h₀.get? a=none):(a,o)∈nG h₀ h L no:=by
 refine List.mem_filterMap.mpr ⟨a,List.mem_range.mpr (cu e),?_⟩;refine rG (ax (by simp[n,m,z])) (rG e ?_);rfl
theorem EG{no:Addr->Bool}(q:p∈nG h₀ h L no):h.get? p.1=some p.2/\p.1≠L/\h₀.get? p.1=none/\no p.1=false:=by
 refine ab (List.mem_filterMap.mp q) λa U e=>?_;split at e
 .cases e
 .rename_i k
  refine ab (Option.map_eq_some_iff.mp e) λo ho o1=>?_;subst o1;refine⟨ho,λz=>k (.inl z),?_,?_⟩
  .cases z:h₀.get? a with
   |none=>rfl
   |some _=>exact absurd (.inr (.inr (by refine rG z ?_;rfl))) k
  .cases z:no a with
   |false=>rfl
   |true=>exact absurd (.inr (.inl z)) k
theorem wF(h₀ h:Heap)(L:Addr)(no:Addr->Bool):News h₀ L h (nG h₀ h L no):=λp q=>let ⟨a,b,c,_⟩:=EG q;⟨a,b,c⟩
theorem Rel.fr{mm:Str->Option Value}(R:Rel C W H h)(hn:h.Ns L mm)(f:Off C W L):Fr C.h₀ L h mm:=⟨hn,R.keep,f.ge⟩
theorem an.ofNews{mm:Str->Option Value}(R:Rel C W H s.heap)(hn:s.heap.Ns L mm)(f:Off C W L)(F':Fr C.h₀ L h' mm)(N':News C.h₀ L h' news')
  (all: ∀p,p∈nG C.h₀ s.heap L (λU=>false)->p∈news'):an C D W s W H {s with heap:=h',toks:=tk}:=by
 have k: ∀b o,s.heap.get? b=some o->b≠L->h'.get? b=some o:=λb o e n=>by
  cases z:C.h₀.get? b with
  |some o'=>
   haveI:=R.keep b o' z;replace this:=e▸this;cases this;exact F'.keep b o z
  |none=>exact(N' (b,o) (all _ (wE e n rfl z))).1
 refine⟨⟨_,_,rfl⟩,.refl _,⟨F'.keep,eT (l9 F'.above F'.ns.lt),λr o e=>?_,R.d8,R.inj,λp q=>⟨k _ _ (R.bA p q).1 (f.t p q),(R.bA p q).2⟩,R.fin,R.base⟩,λb o e=>?_,λU U e=>.inl e,λU e=>.inl e,λb o e U U=>?_⟩
 .refine ab (R.obj r o e) λa p q=>?_;exact⟨a,p,q.mono (.refl _) λo e=>k _ _ e λz=>f.r r (z▸p)⟩
 .by_cases z:b=L
  .refine cM F'.ns λo' U U ho U=>?_;exact⟨o',z▸ho⟩
  .exact⟨o,k b o e z⟩
 .by_cases z:b=L
  .subst z;exact .inr ⟨mm,hn,F'.ns⟩
  .exact .inl (k b o e z)
end
inductive X where
 |none
 |bool (b:Bool)
 |int (i:Int)
 |str (s:String)
 |var (x:String)
 |glob (x:String)
 |bin (op:Operator) (a b:X)
 |neg (a:X)
 |fQ (a:X)
 |eE (a b:X)
 |gn (a b:X)
 |cmp (op:CmpOp) (a b:X)
 |kD (gF gG:CmpOp) (a b c:X)
 |jh (t a b:X)
 |list (xs:List X)
 |tup (xs:List X)
 |lA
 |nH (k:String) (v:Bool)
 |call (f:X) (xs:List X)
 |ji (a k:X) (rev:Bool)
 |ao (o:X) (name:String) (xs:List X)
 |nI (o k:X)
 |rO (xs:List X)
 |attr (o:X) (name:String)
 |sub (o i:X)
 |jS (o a:X)
 |kE (o b:X)
 |comp (e:X) (t:List String) (it:X) (c:Option X)
noncomputable def X.ctorIdx(x:X):Nat:= @X.casesOn (λU=>Nat) x 0 (λU=>1) (λU=>2) (λU=>3) (λU=>4) (λU=>5) (λU U U=>6) (λU=>7) (λU=>8) (λU U=>9) (λU U=>10) (λU U U=>11) (λU U U U U=>12) (λU U U=>13) (λU=>14) (λU=>15) 16 (λU U=>17) (λU U=>18) (λU U U=>19) (λU U U=>20) (λU U=>21) (λU=>22) (λU U=>23) (λU U=>24) (λU U=>25) (λU U=>26) (λU U U U=>27)
inductive Tg where
 |name (x:String)
 |attr (o:X) (name:String)
 |sub (o i:X)
 |names (xs:List String)
 |subs (gF wG gG wH:X)
 |attrs (gF:X) (n₁:String) (gG:X) (wI:String)
noncomputable def Tg.ctorIdx(x:Tg):Nat:= @Tg.casesOn (λU=>Nat) x (λU=>0) (λU U=>1) (λU U=>2) (λU=>3) (λU U U U=>4) (λU U U U=>5)
inductive S where
 |expr (e:X)
 |asg (t:Tg) (e:X)
 |ret (e:X)
 |nJ
 |ite (t:X) (a b:List S)
 |dF (t:List String) (it:X) (body:List S)
 |rP (x y:String) (it:X) (body:List S)
 |mj (t:X) (body:List S)
 |brk
 |cont
 |pass
 |raise
noncomputable def S.ctorIdx(x:S):Nat:= @S.casesOn (λU=>Nat) x (λU=>0) (λU U=>1) (λU=>2) 3 (λU U U=>4) (λU U U=>5) (λU U U U=>6) (λU U=>7) 8 9 10 11
inductive Fl where
 |next|brk|cont
 |ret (v:V)
noncomputable def Fl.ctorIdx(x:Fl):Nat:= @Fl.casesOn (λU=>Nat) x 0 1 2 (λU=>3)
abbrev PV:=V->MH->Prop
noncomputable def cH(o:dr)(Q:PV)(H:MH):Prop:=(∃r,H r=none/\Q (.ref r) (upd H r o))∨ ∃t,∀r:Ref,H r=none->r.t=t->Q (.ref r) (upd H r o)
noncomputable def aO:Nat:=1000000
theorem lm{α β:Type}{l:List α}{f:α->β}(h:l.length<1000000):(l.map f).length<aO:=l9 (Nat.le_of_eq (au f)) h
theorem lm2{α β γ δ:Type}{l:List α}{f:α->β}{k:List γ}{g:γ->δ}(h:l.length+k.length<1000000):(l.map f).length+(k.map g).length<aO:=by refine rG (au _) (rG (au _) ?_);exact h
inductive nK(Q:PV)(H:MH):Operator->V->V->Prop
 |EH {a b:Int} (k:Q (.int (a+b)) H):nK Q H .Add (.int a) (.int b)
 |EI {a b:Int} (k:Q (.int (a-b)) H):nK Q H .Sub (.int a) (.int b)
 |EJ {a b:Int} (h:a.natAbs<2^60/\b.natAbs<2^60) (k:Q (.int (a*b)) H):nK Q H .Mult (.int a) (.int b)
 |EK {a b:Int} (h:b≠0/\b.natAbs<1000000) (k:Q (.int (a.fdiv b)) H):nK Q H .FloorDiv (.int a) (.int b)
 |EL {a b:Int} (h:b≠0) (k:Q (.int (a.fmod b)) H):nK Q H .Mod (.int a) (.int b)
 |EM {b:Int} (h:0<=b/\b<1000) (k:Q (.int (2^b.toNat)) H):nK Q H .Pow (.int 2) (.int b)
 |EN {xs ys:List V} (h:xs.length+ys.length<aO) (k:Q (.tup (xs++ys)) H):nK Q H .Add (.tup xs) (.tup ys)
 |EO {r r':Ref} {xs ys:List V} (e:H r=some (.list xs)) (e':H r'=some (.list ys)) (h:xs.length+ys.length<aO) (k:cH (.list (xs++ys)) Q H):nK Q H .Add (.ref r) (.ref r')
abbrev kF(o:Operator)(x y:V)(Q:PV)(H:MH):Prop:=nK Q H o x y
noncomputable def tU:V->Option Bool
 | .none=>some true
 | .int _=>some false
 | .tup _=>some false
 | .ref _=>some false
 |_=>Option.none
inductive fR(Q:PV)(H:MH):CmpOp->V->V->Prop
 |lt {a b:Int} (k:Q (.bool (decide (a<b))) H):fR Q H .Lt (.int a) (.int b)
 |le {a b:Int} (k:Q (.bool (decide (a<=b))) H):fR Q H .LtE (.int a) (.int b)
 |gt {a b:Int} (k:Q (.bool (decide (b<a))) H):fR Q H .Gt (.int a) (.int b)
 |ge {a b:Int} (k:Q (.bool (decide (b<=a))) H):fR Q H .GtE (.int a) (.int b)
 |eq {a b:Int} (k:Q (.bool (decide (a=b))) H):fR Q H .Eq (.int a) (.int b)
 |ne {a b:Int} (k:Q (.bool (!decide (a=b))) H):fR Q H .NotEq (.int a) (.int b)
 |EP {as bs:List Int} (k:Q (.bool (decide (as=bs))) H):fR Q H .Eq (.tup (as.map V.int)) (.tup (bs.map V.int))
 |EQ {as bs:List Int} (k:Q (.bool (!decide (as=bs))) H):fR Q H .NotEq (.tup (as.map V.int)) (.tup (bs.map V.int))
 |ER {r r':Ref} {xs:List V} (e:H r=some (.list xs)) (e':H r'=some (.list [])) (k:Q (.bool xs.isEmpty) H):fR Q H .Eq (.ref r) (.ref r')
 |ES {r r':Ref} {xs:List V} (e:H r=some (.list xs)) (e':H r'=some (.list [])) (k:Q (.bool (!xs.isEmpty)) H):fR Q H .NotEq (.ref r) (.ref r')
 |ET {r r':Ref} {as bs:List Int} (e:H r=some (.list (as.map V.int))) (e':H r'=some (.list (bs.map V.int))) (k:Q (.bool (decide (as=bs))) H):fR Q H .Eq (.ref r) (.ref r')
 |EU {r r':Ref} {as bs:List Int} (e:H r=some (.list (as.map V.int))) (e':H r'=some (.list (bs.map V.int))) (k:Q (.bool (!decide (as=bs))) H):fR Q H .NotEq (.ref r) (.ref r')
 |is {v:V} {b:Bool} (h:tU v=some b) (k:Q (.bool b) H):fR Q H .Is v .none
 |EV {v:V} {b:Bool} (h:tU v=some b) (k:Q (.bool (!b)) H):fR Q H .IsNot v .none
 |int {a:Int} {as:List Int} (k:Q (.bool (decide (a∈as))) H):fR Q H .In (.int a) (.tup (as.map V.int))
 |inl {a:Int} {r:Ref} {as:List Int} (e:H r=some (.list (as.map V.int))) (k:Q (.bool (decide (a∈as))) H):fR Q H .In (.int a) (.ref r)
 |ind {a:Int} {r:Ref} {es:List (Int×V)} (e:H r=some (.dict es)) (k:Q (.bool (es.any λp=>decide (p.1=a))) H):fR Q H .In (.int a) (.ref r)
 |EW {a:Int} {r:Ref} {as:List Int} (e:H r=some (.list (as.map V.int))) (k:Q (.bool (!decide (a∈as))) H):fR Q H .NotIn (.int a) (.ref r)
 |EX {a:String} {as:List String} (h:a∈as) (k:Q (.bool false) H):fR Q H .NotIn (.str a) (.tup (as.map V.str))
 |eqs {a b:String} (k:Q (.bool (decide (a=b))) H):fR Q H .Eq (.str a) (.str b)
abbrev de(o:CmpOp)(x y:V)(Q:PV)(H:MH):Prop:=fR Q H o x y
structure bG where
 glob:String->Option V
 attr:Addr->String->Bool
 ao:Addr->String->Option Value
noncomputable def rQ:V->Bool
 | .con _=>false
 |_=>true
noncomputable def iz(T:bG)(o:V)(name:String)(Q:PV)(H:MH):Prop:=
 ∃r Cl d k fs,o=.ref r/\H r=some (.inst Cl d)/\H d=some (.fj k fs)/\
  ((∃v,fs name=some v/\T.attr Cl name=true/\rQ v=true/\Q v H)∨ ∃f,fs name=Option.none/\T.ao Cl name=some f/\Q (.ao f o) H)
noncomputable def fC(T:bG)(o:V)(name:String)(v:V)(Q:MH->Prop)(H:MH):Prop:=
 ∃r Cl d k fs,o=.ref r/\H r=some (.inst Cl d)/\H d=some (.fj k fs)/\T.attr Cl name=true/\k<900/\
  Q (upd H d (.fj (if (fs name).isSome then k else k+1) λy=>if y=name then some v else fs y))
inductive tV(Q:PV)(H:MH):V->V->Prop
 |li {r:Ref} {i:Int} {xs:List V} {v:V} (e:H r=some (.list xs)) (hz:xs.length<aO) (h0:0<=i) (hv:xs[i.toNat]?=some v) (k:Q v H):tV Q H (.ref r) (.int i)
 |la {r:Ref} {xs:List V} {v:V} (e:H r=some (.list xs)) (hz:xs.length<aO) (hv:xs.getLast?=some v) (k:Q v H):tV Q H (.ref r) (.int (-1))
 |di {r:Ref} {i:Int} {es:List (Int×V)} {v:V} (e:H r=some (.dict es)) (hv:(es.find? λp=>decide (p.1=i))=some (i,v)) (k:Q v H):tV Q H (.ref r) (.int i)
 |tu {i:Int} {xs:List V} {v:V} (hz:xs.length<aO) (h0:0<=i) (hv:xs[i.toNat]?=some v) (k:Q v H):tV Q H (.tup xs) (.int i)
abbrev f7(x y:V)(Q:PV)(H:MH):Prop:=tV Q H x y
noncomputable def putD(es:List (Int×V))(i:Int)(v:V):List (Int×V):=
 if es.any (λp=>decide (p.1=i)) then es.map (λp=>if p.1=i then (p.1,v) else p) else es++[(i,v)]
inductive zx(v:V)(Q:MH->Prop)(H:MH):V->V->Prop
 |li {r:Ref} {i:Int} {xs:List V} (e:H r=some (.list xs)) (hz:xs.length<aO) (h0:0<=i) (h1:i<xs.length) (k:Q (upd H r (.list (xs.set i.toNat v)))):zx v Q H (.ref r) (.int i)
 |di {r:Ref} {i:Int} {es:List (Int×V)} (e:H r=some (.dict es)) (hz:es.length<aO) (k:Q (upd H r (.dict (putD es i v)))):zx v Q H (.ref r) (.int i)
abbrev d9(x y v:V)(Q:MH->Prop)(H:MH):Prop:=zx v Q H x y
inductive zy(Q:PV)(H:MH):V->V->Prop
 |li {r:Ref} {i:Int} {xs:List V} (e:H r=some (.list xs)) (hz:xs.length<aO) (h0:0<=i) (k:cH (.list (xs.drop i.toNat)) Q H):zy Q H (.ref r) (.int i)
 |tu {i:Int} {xs:List V} (hz:xs.length<aO) (h1:1<=i) (h2:i<=xs.length) (k:Q (.tup (xs.drop i.toNat)) H):zy Q H (.tup xs) (.int i)
abbrev tW(x y:V)(Q:PV)(H:MH):Prop:=zy Q H x y
inductive wJ(Q:PV)(H:MH):V->V->Prop
 |li {r:Ref} {i:Int} {xs:List V} (e:H r=some (.list xs)) (hz:xs.length<aO) (h0:0<=i) (k:cH (.list (xs.take i.toNat)) Q H):wJ Q H (.ref r) (.int i)
 |tu {i:Int} {xs:List V} (hz:xs.length<aO) (h1:1<=i) (h2:i<=xs.length) (k:Q (.tup (xs.take i.toNat)) H):wJ Q H (.tup xs) (.int i)
 |sc {i:Int} {ns:List Int} (hz:ns.length<aO) (h0:0<=i) (k:cH (.list ((ns.take i.toNat).map V.int)) Q H):wJ Q H (.oM ns) (.int i)
abbrev tX(x y:V)(Q:PV)(H:MH):Prop:=wJ Q H x y
noncomputable def iY(a b c:Int):List V:=(List.range (Builtin.Range.rangeSize a b c).toNat).map λ(k:Nat)=>V.int (a+(k:Int)*c)
noncomputable def fS(v:V)(xs:List V)(H:MH):Prop:=match v with
 | .ref r=>H r=some (.list xs)
 | .tup ys=>xs=ys
 | .bq a b c=>Builtin.Range.small a b c=true/\xs=iY a b c
 |_=>False
noncomputable def fD:V->(Bool->MH->Prop)->MH->Prop
 | .bool b,Q,H=>Q b H
 |_,_,_=>False
inductive aN(C:Cfg)(W:Wl)(s:Shared)(Q:PV)(v:Value)(s':Shared):Prop
 |mk (W':Wl) (H':MH) (b:V) (y:an C (λU=>False) W s W' H' s') (r:VR C.h₀ W' v b) (q:Q b H')
inductive jk(C:Cfg)(W:Wl)(s:Shared)(Q:Bool->MH->Prop)(v:Bool)(s':Shared):Prop
 |mk (W':Wl) (H':MH) (y:an C (λU=>False) W s W' H' s') (q:Q v H')
inductive oO(C:Cfg)(W:Wl)(s:Shared)(Q:MH->Prop)(v:Unit)(s':Shared):Prop
 |mk (W':Wl) (H':MH) (y:an C (λU=>False) W s W' H' s') (q:Q H')
noncomputable def aM(C:Cfg)(n:Nat)(f:V)(args:List V)(Q:PV)(H:MH):Prop:=
 ∀(A:Around) (W:Wl) (s:Shared) (L:Addr) (mm:Str->Option Value) (fv:Value) (bu:List Value),dD n A->Rel C W H s.heap->s.heap.Ns L mm->Off C W L->
  VR C.h₀ W fv f->aF C.h₀ W bu args->
  wpAny (model C.prog C.w) A (call fv bu []) (aN C W s Q) (λU U=>False) s
noncomputable def qe:Option Bool->List (Str×Value)
 |some b=>[((Str.ofString "reverse"),Value.bool b)]
 |Option.none=>[]
noncomputable def lB(C:Cfg)(n:Nat)(zz:String)(a k:V)(rev:Option Bool)(Q:PV)(H:MH):Prop:=
 ∀(A:Around) (W:Wl) (s:Shared) (L:Addr) (mm:Str->Option Value) (av kv:Value),dD n A->Rel C W H s.heap->s.heap.Ns L mm->Off C W L->
  VR C.h₀ W av a->VR C.h₀ W kv k->
  wpAny (model C.prog C.w) A (call (.builtin zz) [av] (((Str.ofString "key"),kv)::qe rev))
   (aN C W s Q) (λU U=>False) s
noncomputable def eO(r:Ref)(name:String)(args:List V)(Q:PV)(H:MH):Prop:=
 (∃xs v,H r=some (.list xs)/\name= "append" /\args=[v]/\xs.length<aO/\Q .none (upd H r (.list (xs++[v]))))∨
 (∃xs r' ys,H r=some (.list xs)/\name= "extend" /\args=[.ref r']/\r≠r'/\H r'=some (.list ys)/\xs.length+ys.length<aO/\Q .none (upd H r (.list (xs++ys))))
noncomputable def methP(C:Cfg)(T:bG)(n:Nat)(o:V)(name:String)(args:(List V->MH->Prop)->MH->Prop)(Q:PV)(H:MH):Prop:=
 ∃r,o=.ref r/\
  ((∃Cl d k fs f,H r=some (.inst Cl d)/\H d=some (.fj k fs)/\fs name=Option.none/\T.ao Cl name=some f/\args (λvs aA=>aM C n (.con f) (o::vs) Q aA) H)∨
   ((name= "append" ∨name= "extend")/\(∃ys,H r=some (.list ys))/\args (λvs aA=>eO r name vs Q aA) H))
noncomputable def Sg{α β:Type}(f:α->(β->MH->Prop)->MH->Prop):List α->List β->(List β->MH->Prop)->MH->Prop
 |[],acc,Q,H=>Q acc H
 |x::xs,acc,Q,H=>f x (λv H'=>Sg f xs (acc++[v]) Q H') H
noncomputable def jl(ok:MH->Prop)(step:V->(Option V->MH->Prop)->MH->Prop):List V->List V->(List V->MH->Prop)->MH->Prop
 |[],acc,Q,H=>ok H/\Q acc H
 |x::xs,acc,Q,H=>ok H/\step x (λy H'=>jl ok step xs (match y with|some v=>acc++[v]|Option.none=>acc) Q H') H
noncomputable def kG(m:MM):List String->V->Option MM
 |[x],v=>some (set m x v)
 |[x,y],.tup [a,b]=>some (set (set m x a) y b)
 |_,_=>Option.none
section
variable(C:Cfg)(T:bG)(n:Nat)
mutual
noncomputable def al(m:MM):X->PV->MH->Prop
 | .none,Q,H=>Q .none H
 | .bool b,Q,H=>Q (.bool b) H
 | .int i,Q,H=>Q (.int i) H
 | .str s,Q,H=>Q (.str s) H
 | .var x,Q,H=> ∃v,m x=some v/\Q v H
 | .glob x,Q,H=> ∃v,T.glob x=some v/\Q v H
 | .bin op a b,Q,H=>al m a (λu aj=>al m b (λv aA=>kF op u v Q aA) aj) H
 | .neg a,Q,H=>al m a (λu aj=> ∃i,u=.int i/\Q (.int (-i)) aj) H
 | .fQ a,Q,H=>al m a (λu aj=>fD u (λb aA=>Q (.bool (!b)) aA) aj) H
 | .eE a b,Q,H=>al m a (λu aj=>fD u (λt aA=>if t then al m b Q aA else Q u aA) aj) H
 | .gn a b,Q,H=>al m a (λu aj=>fD u (λt aA=>if t then Q u aA else al m b Q aA) aj) H
 | .cmp op a b,Q,H=>al m a (λu aj=>al m b (λv aA=>de op u v Q aA) aj) H
 | .kD gF gG a b c,Q,H=>al m a (λu aj=>al m b (λv aA=>de gF u v (λr bh=>fD r (λt cm=>if t then al m c (λw iZ=>de gG v w Q iZ) cm else Q r cm) bh) aA) aj) H
 | .jh t a b,Q,H=>bH m t (λc aj=>if c then al m a Q aj else al m b Q aj) H
 | .list xs,Q,H=>eV m xs [] (λvs aj=>vs.length<aO/\cH (.list vs) Q aj) H
 | .tup xs,Q,H=>eV m xs [] (λvs aj=>vs.length<aO/\Q (.tup vs) aj) H
 | .lA,Q,H=>cH (.dict []) Q H
 | .nH k v,Q,H=> ∃i,m k=some (.int i)/\cH (.dict [(i,.bool v)]) Q H
 | .call f xs,Q,H=>al m f (λfv aj=>(∃g,fv=.con g)/\eV m xs [] (λvs aA=>aM C n fv vs Q aA) aj) H
 | .ji a k rev,Q,H=>al m a (λav aj=>al m k (λkv aA=>lB C n "sorted" av kv (if rev then some true else Option.none) Q aA) aj) H
 | .ao o name xs,Q,H=>al m o (λov aj=>methP C T n ov name (λK aA=>eV m xs [] K aA) Q aj) H
 | .nI o k,Q,H=>al m o (λov aj=>(∃r xs,ov=.ref r/\aj r=some (.list xs))/\al m k (λkv aA=>lB C n "list.sort" ov kv (some true) Q aA) aj) H
 | .rO _,_,_=>False
 | .attr o name,Q,H=>al m o (λov aj=>iz T ov name Q aj) H
 | .sub o i,Q,H=>al m o (λov aj=>al m i (λiv aA=>f7 ov iv Q aA) aj) H
 | .jS o a,Q,H=>al m o (λov aj=>al m a (λiv aA=>tW ov iv Q aA) aj) H
 | .kE o a,Q,H=>al m o (λov aj=>al m a (λiv aA=>tX ov iv Q aA) aj) H
 | .comp e t it c,Q,H=>al m it (λiv aj=> ∃xs,xs.length<aO/\jl (fS iv xs) (λx P aA=> ∃m',kG m t x=some m'/\
   rR m' c (λb bh=>if b then al m' e (λv cm=>P (some v) cm) bh else P Option.none bh) aA) xs [] (λvs aA=>cH (.list vs) Q aA) aj) H
noncomputable def rR(m:MM):Option X->(Bool->MH->Prop)->MH->Prop
 |Option.none,Q,H=>Q true H
 |some c,Q,H=>bH m c Q H
noncomputable def bH(m:MM):X->(Bool->MH->Prop)->MH->Prop
 | .fQ a,Q,H=>bH m a (λb aj=>Q (!b) aj) H
 | .eE a b,Q,H=>bH m a (λt aj=>if t then bH m b Q aj else Q false aj) H
 | .gn a b,Q,H=>bH m a (λt aj=>if t then Q true aj else bH m b Q aj) H
 | .cmp op a b,Q,H=>al m a (λu aj=>al m b (λv aA=>de op u v (λr bh=>fD r Q bh) aA) aj) H
 | .kD gF gG a b c,Q,H=>al m a (λu aj=>al m b (λv aA=>de gF u v (λr bh=>fD r (λt cm=>if t then al m c (λw iZ=>de gG v w (λr wK=>fD r Q wK) iZ) cm else Q false cm) bh) aA) aj) H
 | .var x,Q,H=> ∃v,m x=some v/\fD v Q H
 | .call f xs,Q,H=>al m f (λfv aj=>(∃g,fv=.con g)/\eV m xs [] (λvs aA=>aM C n fv vs (λv bh=>fD v Q bh) aA) aj) H
 | .ao o name xs,Q,H=>al m o (λov aj=>methP C T n ov name (λK aA=>eV m xs [] K aA) (λv bh=>fD v Q bh) aj) H
 | .attr o name,Q,H=>al m o (λov aj=>iz T ov name (λv bh=>fD v Q bh) aj) H
 | .sub o i,Q,H=>al m o (λov aj=>al m i (λiv aA=>f7 ov iv (λv bh=>fD v Q bh) aA) aj) H
 | .bool b,Q,H=>Q b H
 |_,_,_=>False
noncomputable def eV(m:MM):List X->List V->(List V->MH->Prop)->MH->Prop
 |[],acc,Q,H=>Q acc H
 |x::xs,acc,Q,H=>al m x (λv aj=>eV m xs (acc++[v]) Q aj) H
end
abbrev PS:=Fl->MM->MH->Prop
noncomputable def jm(m:MM):Tg->V->(MM->MH->Prop)->MH->Prop
 | .name x,v,Q,H=>Q (set m x v) H
 | .attr o nm,v,Q,H=>al C T n m o (λov aj=>fC T ov nm v (Q m) aj) H
 | .sub o i,v,Q,H=>al C T n m o (λov aj=>al C T n m i (λiv aA=>d9 ov iv v (Q m) aA) aj) H
 | .names xs,v,Q,H=> ∃vs,v=.tup vs/\vs.length=xs.length/\Q ((xs.zip vs).foldl (λm p=>set m p.1 p.2) m) H
 | .subs gF wG gG wH,v,Q,H=> ∃a b,v=.tup [a,b]/\al C T n m gF (λov aj=>al C T n m wG (λiv aA=>d9 ov iv a (λbh=>
   al C T n m gG (λov cm=>al C T n m wH (λiv iZ=>d9 ov iv b (Q m) iZ) cm) bh) aA) aj) H
 | .attrs gF n₁ gG wI,v,Q,H=> ∃a b,v=.tup [a,b]/\al C T n m gF (λov aj=>fC T ov n₁ a (λbh=>al C T n m gG (λov cm=>fC T ov wI b (Q m) cm) bh) aj) H
noncomputable def iA(ok:MH->Prop)(body:V->PS->MM->MH->Prop):List V->PS->MM->MH->Prop
 |[],Q,m,H=>ok H/\Q .next m H
 |x::xs,Q,m,H=>ok H/\body x (λf m' H'=>match f with
  | .next=>iA ok body xs Q m' H'
  | .cont=>iA ok body xs Q m' H'
  | .brk=>Q .next m' H'
  | .ret v=>Q (.ret v) m' H') m H
noncomputable def oP(test:MM->(Bool->MH->Prop)->MH->Prop)(body:PS->MM->MH->Prop):Nat->PS->MM->MH->Prop
 |0,_,_,_=>False
 |k+1,Q,m,H=>test m (λb H'=>if b then body (λf m' bc=>match f with
  | .next=>oP test body k Q m' bc
  | .cont=>oP test body k Q m' bc
  | .brk=>Q .next m' bc
  | .ret v=>Q (.ret v) m' bc) m H' else Q .next m H') H
mutual
noncomputable def wpS:S->PS->MM->MH->Prop
 | .expr e,Q,m,H=>al C T n m e (λU aj=>Q .next m aj) H
 | .asg t e,Q,m,H=>al C T n m e (λv aj=>jm C T n m t v (λm' aA=>Q .next m' aA) aj) H
 | .ret e,Q,m,H=>al C T n m e (λv aj=>Q (.ret v) m aj) H
 | .nJ,Q,m,H=>Q (.ret .none) m H
 | .ite t a b,Q,m,H=>bH C T n m t (λc aj=>if c then bo a Q m aj else bo b Q m aj) H
 | .dF t it body,Q,m,H=>al C T n m it (λiv aj=> ∃xs,iA (fS iv xs) (λx P m₂ aA=> ∃m',kG m₂ t x=some m'/\bo body P m' aA) xs Q m aj) H
 | .rP x y it body,Q,m,H=>al C T n m it (λiv aj=> ∃r xs,iv=.ref r/\xs.length<aO/\iA (fS iv xs) (λv P m₂ aA=> ∃i w,v=.tup [.int i,w]/\bo body P (set (set m₂ x (.int i)) y w) aA)
   (xs.zipIdx.map λp=>V.tup [.int p.2,p.1]) Q m aj) H
 | .mj t body,Q,m,H=> ∃k,oP (λm P H=>bH C T n m t P H) (λP m H=>bo body P m H) k Q m H
 | .brk,Q,m,H=>Q .brk m H
 | .cont,Q,m,H=>Q .cont m H
 | .pass,Q,m,H=>Q .next m H
 | .raise,_,_,_=>False
noncomputable def bo:List S->PS->MM->MH->Prop
 |[],Q,m,H=>Q .next m H
 |st::r,Q,m,H=>wpS st (λf m' H'=>match f with
  | .next=>bo r Q m' H'
  |f=>Q f m' H') m H
end
end
abbrev no(_:Value)(_:Shared):Prop:=False
abbrev be(C:Cfg):Model:=model C.prog C.w
section
variable{C:Cfg}{n:Nat}{A:Around}{W:Wl}{H:MH}{s:Shared}{Q:PV}{v:Value}{b:V}
theorem aN.here(R:Rel C W H s.heap)(r:VR C.h₀ W v b)(q:Q b H):aN C W s Q v s:=⟨W,H,b,.refl R,r,q⟩
theorem aN.toks(R:Rel C W H s.heap)(r:VR C.h₀ W v b)(q:Q b H):aN C W s Q v {s with toks:=tk}:=⟨W,H,b,.toks R tk,r,q⟩
theorem aN.trans(x:an C (λU=>False) W s W' H' s')(p:aN C W' s' Q v iy):aN C W s Q v iy:=
 let ⟨bQ,bc,b,y,r,q⟩:=p;⟨bQ,bc,b,x.trans y,r,q⟩
theorem jk.trans{Q:Bool->MH->Prop}{v:Bool}(x:an C (λU=>False) W s W' H' s')(p:jk C W' s' Q v iy):jk C W s Q v iy:=
 let ⟨bQ,bc,y,q⟩:=p;⟨bQ,bc,x.trans y,q⟩
theorem oO.trans{Q:MH->Prop}{v:Unit}(x:an C (λU=>False) W s W' H' s')(p:oO C W' s' Q v iy):oO C W s Q v iy:=
 let ⟨bQ,bc,y,q⟩:=p;⟨bQ,bc,x.trans y,q⟩
theorem iB(h:k<aO):k<=sizeLine:=by refine rG jQ ?_;unfold aO at h;exact pQ h rfl
theorem fits63(h:k<aO):(k:Int)<2^63:=by unfold aO at h;exact RP h
theorem tY(R:Rel C W H s.heap)(q:cH (.list xs) Q H)(r:aF C.h₀ W vs xs)(m:Nat)(tk:Nat):
  aN C W s Q (.ref s.heap.objs.size) {s with heap:=s.heap.push (listOf vs.toArray m),toks:=tk}:=by
 have main: ∀x,H x=none->Q (.ref x) (upd H x (.list xs))->aN C W s Q (.ref s.heap.objs.size) {s with heap:=s.heap.push (listOf vs.toArray m),toks:=tk}:=λx e z=>by
  refine⟨_,_,.ref x,an.alloc (mo:=.list xs) R e (listOf vs.toArray m) tk ⟨vs,m,hE _ rfl,r.mono (W.rN R e _)⟩,.ref ?_,z⟩;refine(?_:(if x=x then _ else _)=_);exact rG (az rfl) rfl
 rcases q with ⟨x,e,z⟩|⟨t,z⟩
 .exact main x e z
 .refine ag R.fin λN f=>?_;haveI e:H ⟨t,N⟩=none:=by
   cases q:H ⟨t,N⟩ with
   |none=>rfl
   |some o=>exact absurd (f ⟨t,N⟩ (by refine rG q ?_;exact Sn)) (iw _)
  exact main _ e (z _ e rfl)
theorem Si(R:Rel C W H s.heap)(q:cH (.dict []) Q H)(tk:Nat):
  aN C W s Q (.ref s.heap.objs.size) {s with heap:=s.heap.push {cls:=.type "dict",data:=.dict #[]},toks:=tk}:=by
 have main: ∀x,H x=none->Q (.ref x) (upd H x (.dict []))->aN C W s Q (.ref s.heap.objs.size) {s with heap:=s.heap.push {cls:=.type "dict",data:=.dict #[]},toks:=tk}:=λx e z=>by
  refine⟨_,_,.ref x,an.alloc (mo:=.dict []) R e _ tk ⟨[],⟨_,_,_,hE _ rfl,⟨rfl,rfl,rfl⟩,rfl,?_,.nil,.nil⟩,.nil⟩,.ref ?_,z⟩
  .intro e he;simp at he
  .refine(?_:(if x=x then _ else _)=_);exact rG (az rfl) rfl
 rcases q with ⟨x,e,z⟩|⟨t,z⟩
 .exact main x e z
 .refine ag R.fin λN f=>?_;haveI e:H ⟨t,N⟩=none:=by
   cases q:H ⟨t,N⟩ with
   |none=>rfl
   |some o=>exact absurd (f ⟨t,N⟩ (by refine rG q ?_;exact Sn)) (iw _)
  exact main _ e (z _ e rfl)
theorem tZ(R:Rel C W H s.heap)(q:Q (.tup xs) H)(r:aF C.h₀ W vs xs)(tk:Nat):
  aN C W s Q (.ref s.heap.objs.size) {s with heap:=s.heap.push (hJ vs),toks:=tk}:=by
 haveI x:=an.rM (D:=λU=>False) R (hJ vs) tk;exact⟨_,_,_,x,.tup (.head _) (r.mono x.ext),q⟩
theorem eP(R:Rel C W H s.heap)(e:H r=some (.list xs)): ∃a vs m,W.ρ r=some a/\s.heap.get? a=some (listOf vs.toArray m)/\aF C.h₀ W vs xs:=by
 refine ab (R.obj r _ e) λa p bw=>?_;refine bM bw λvs m q t=>?_;exact⟨a,vs,m,p,q,t⟩
theorem eQ{vs:List Value}(e:s.heap.get? a=some (listOf vs.toArray m)):s.heap.IsList a vs.toArray:=⟨_,e,rfl,_,rfl⟩
theorem jn(R:Rel C W H s.heap)(e:VR C.h₀ W (.ref a) (.tup xs)): ∃vs m,s.heap.get? a=some ({cls:=.type "tuple",data:=.seq vs.toArray m}:Obj)/\aF C.h₀ W vs xs:=by
 cases e with
 |tup m r=>exact⟨_,_,(R.bA _ m).1,r⟩
theorem dQ(e:VR C.h₀ W v (.ref r)): ∃a,v=.ref a/\W.ρ r=some a:=by cases e with|ref p=>exact⟨_,rfl,p⟩
theorem jo(e:VR C.h₀ W v (.tup xs)): ∃a,v=.ref a:=by cases e with|tup p q=>exact⟨_,rfl⟩
theorem cz(e:VR C.h₀ W v (.int i)): ∃t,v=.int i t:=by cases e with|int i t=>exact⟨_,rfl⟩
theorem afC(e:VR C.h₀ W v (.bool i)):v=.bool i:=by cases e with|bool i=>rfl
theorem zA(e:VR C.h₀ W v (.str i)): ∃t,v=.str (Str.ofString i) t:=by cases e with|str i t=>exact⟨_,rfl⟩
theorem Sj(h:a.natAbs<2^60):Builtin.Int.intBits a<=64:=by
 unfold Builtin.Int.intBits;split
 .exact dO rfl
 .rename_i hz
  haveI hz:a≠0:=by simpa using hz
  haveI:=(Nat.log2_lt (n:=a.natAbs) (k:=60) (by exact Z2 hz)).mpr h;exact bI this rfl
theorem kI{a b:Int}(ru:VR C.h₀ W u (.int a))(rv:VR C.h₀ W v (.int b)){f:Value->Value->Sem Value}(k: ∀t t',wpAny (be C) A (f (.int a t) (.int b t')) (aN C W s Q) no s):wpAny (be C) A (f u v) (aN C W s Q) no s:=by
 refine ag (cz ru) λt o1=>?_;subst o1;refine ag (cz rv) λt' o2=>?_;subst o2;exact k t t'
theorem t6(R:Rel C W H s.heap)(ru:VR C.h₀ W u (.ref r))(rv:VR C.h₀ W v (.ref r'))(e1:H r=some (.list xs))(e2:H r'=some (.list ys)){f:Value->Value->Sem Value}(k: ∀a b vs ws m m',s.heap.get? a=some (listOf vs.toArray m)->s.heap.get? b=some (listOf ws.toArray m')->aF C.h₀ W vs xs->aF C.h₀ W ws ys->wpAny (be C) A (f (.ref a) (.ref b)) (aN C W s Q) no s):wpAny (be C) A (f u v) (aN C W s Q) no s:=by
 refine ab (dQ ru) λa o3 pa=>?_;subst o3;refine ab (dQ rv) λb o4 pb=>?_;subst o4;refine bJ (eP R e1) λa' vs m qa ho r1=>?_;refine bJ (eP R e2) λb' ws m' qb bn r2=>?_;replace qa:=pa▸qa;cases qa;replace qb:=pb▸qb;cases qb;exact k _ _ _ _ _ _ ho bn r1 r2
theorem Sk{op:Operator}(h:kF op x y Q H)(R:Rel C W H s.heap)(ru:VR C.h₀ W u x)(rv:VR C.h₀ W v y):
  wpAny (be C) A (binaryOp op u v) (aN C W s Q) no s:=by
 cases h with
 |EH h=>exact kI ru rv λU U=>PyProof.Rows.add_int (aN.toks R (.int _ _) h)
 |EI h=>exact kI ru rv λU U=>PyProof.Rows.sub_int (aN.toks R (.int _ _) h)
 |EJ q h=>exact kI ru rv λU U=>PyProof.Rows.mul_int (aN.toks R (.int _ _) h) (IntMulOk.of_left (Sj q.1))
 |EK q h=>exact kI ru rv λU U=>PyProof.Rows.floordiv_int q.1 (aN.toks R (.int _ _) h) (.inl (PyProof.noPylong_small (R9 q.2 (by decide))))
 |EL q h=>exact kI ru rv λU U=>PyProof.Rows.mod_int q (aN.toks R (.int _ _) h)
 |EM q h=>
  refine kI ru rv λU U=>PyProof.Rows.pow_int q.1 ?_ (aN.toks R (.int _ _) h);haveI e:Builtin.Int.intBits 2=2:=by decide+kernel
  refine rG e ?_;exact Z1 q.2
 |EN hz h=>
  refine ag (jo ru) λa o5=>?_;subst o5;refine ag (jo rv) λb o6=>?_;subst o6;refine bM (jn R ru) λvs m ho r1=>?_;refine bM (jn R rv) λws m' bn r2=>?_;by_cases hv:vs=[]
  .subst hv;cases r1;exact concat_meets ⟨_,ho,rfl⟩ ⟨_,bn,rfl⟩ noFill_tuple_add seq_tuple_add PySem.F.slot_tuple_add PySem.F.entry_tuple_add (PySem.F.args_tuple_add_2 _ _)
    (tuple_addW0 a b _ ws.toArray m m' _ _ _ _ (by simp)) ⟨ho,bn,aN.here R rv h⟩
  .by_cases hw:ws=[]
   .subst hw;cases r2;exact concat_meets ⟨_,ho,rfl⟩ ⟨_,bn,rfl⟩ noFill_tuple_add seq_tuple_add PySem.F.slot_tuple_add PySem.F.entry_tuple_add (PySem.F.args_tuple_add_2 _ _)
     (tuple_addW1 a b vs.toArray _ m m' _ _ _ _ (by simpa using hv) (by simp)) ⟨ho,bn,aN.here R (by refine rG (f5 _) ?_;exact ru) h⟩
   .refine concat_meets ⟨_,ho,rfl⟩ ⟨_,bn,rfl⟩ noFill_tuple_add seq_tuple_add PySem.F.slot_tuple_add PySem.F.entry_tuple_add (PySem.F.args_tuple_add_2 _ _)
     (tuple_addW2 a b vs.toArray ws.toArray m m' _ _ _ _ (by simpa using hv) (by simpa using hw) (by refine rG cy (rG cy (rG r1.length (rG r2.length ?_)));exact iB hz)) ⟨ho,bn,?_⟩
    haveI e:vs.toArray++ws.toArray=(vs++ws).toArray:=by simp
    refine rG e ?_;exact tZ R h (r1.append r2) _
 |EO e1 e2 hz h=>
  refine t6 R ru rv e1 e2 λa b vs ws m m' ho bn r1 r2=>?_;refine concat_meets ⟨_,ho,rfl⟩ ⟨_,bn,rfl⟩ noFill_list_add seq_list_add PySem.F.slot_list_add PySem.F.entry_list_add (PySem.F.args_list_add_2 _ _)
   (list_addW a b vs.toArray ws.toArray m m' _ _ _ _ (by refine rG cy (rG cy (rG r1.length (rG r2.length ?_)));exact iB hz)) ⟨ho,bn,?_⟩
  haveI e:vs.toArray++ws.toArray=(vs++ws).toArray:=by simp
  refine rG e ?_;exact tY R h (r1.append r2) _ _
end
open PySem PySem.W PySem.Calls PyProof.Rows PySem.SeqAt PySem.MeetsSeq PySem.SeqRoads2
section
variable{C:Cfg}{n:Nat}{A:Around}{W:Wl}{H:MH}{s:Shared}{Q:PV}{v:Value}{b:V}
theorem afD(ho:h.get? a=some (listOf vs.toArray m))(hi:IntsAre vs ns):Reads h (.ref a) (.list (ns.map PyData.int)) [a]:=reads_of_ints ⟨_,ho,rfl,_,rfl⟩ hi
theorem wL(ho:h.get? a=some ({cls:=.type "tuple",data:=.seq vs.toArray m}:Obj))(hi:IntsAre vs ns):Reads h (.ref a) (.tuple (ns.map PyData.int)) []:=
 Reads.tuple ho rfl rfl (by simpa using readsAll_of_ints hi)
theorem wM(ns:List Int):shaped (.tuple (ns.map PyData.int))=true:=by
 haveI h1:=PySem.W.depthAll_ints ns;haveI h2:PyData.depth (.tuple (ns.map PyData.int))<=64:=by simp only[PyData.depth];exact aX h1 rfl
 refine(?_:(PyData.canLay0 (.tuple (ns.map PyData.int))&&decide (PyData.depth (.tuple (ns.map PyData.int))<=64))=true);refine rG (jN _ _) ?_;exact⟨by simp only[PyData.canLay0];exact canLayAll0_ints ns,decide_eq_true h2⟩
theorem rS(R:Rel C W H s.heap)(r:VR C.h₀ W v (.tup (ns.map V.int))): ∃a vs m,v=.ref a/\s.heap.get? a=some ({cls:=.type "tuple",data:=.seq vs.toArray m}:Obj)/\IntsAre vs ns:=by
 refine ag (jo r) λa o1=>?_;subst o1;refine bM (jn R r) λvs m ho q=>?_;exact⟨a,vs,m,rfl,ho,q.ints⟩
noncomputable def t7(n:Int):Value->Bool
 | .int m _=>m==n
 |_=>false
theorem any_ints(n:Int)(h:IntsAre vs ns):vs.any (t7 n)=decide (n∈ns):=by
 induction h with
 |nil=>rfl
 | @cons k _ _ _ _ ih=>
  refine(?_:(k==n||_)=_)
  (refine rG ih ?_;rewrite [decide_eq_decide.mpr gE];refine rG (Bool.decide_or _ _) ?_)
  exact bP (· ||_) (Bool.beq_eq_decide_eq k n|>.trans (decide_eq_decide.mpr ⟨cX,cX⟩))
theorem zB(n:Int)(t:Tok)(hi:IntsAre vs ns): ∀y,y∈vs.toArray->EqGives y (.int n t) (t7 n y):=λy hy=>by
 refine dM (hi.all y (by simpa using hy)) λk u o2=>?_;subst o2;exact EqGives.int k n u t
noncomputable def zC(n:Str):Value->Bool
 | .str m _=>m.cps.toList==n.cps.toList
 |_=>false
theorem Sm{ns:List String}: ∀{vs:List Value},aF C.h₀ W vs (ns.map V.str)-> ∀y,y∈vs-> ∃x t,y=.str x t:=by
 induction ns with
 |nil=>intro vs h y hy;obtain rfl:=h.me;cases hy
 |cons n ns ih=>
  intro vs h y hy;refine bE h.inv λv vs o3 a b=>?_;subst o3;refine ag a.EC λt o4=>?_;subst o4;exact(List.mem_cons.mp hy).elim (λe=>⟨_,_,e⟩) (ih b y)
theorem So(n:String){ns:List String}: ∀{vs:List Value},aF C.h₀ W vs (ns.map V.str)->n∈ns->vs.any (zC (Str.ofString n))=true:=by
 induction ns with
 |nil=>intro vs U h;cases h
 |cons k ns ih=>
  intro vs h hn;refine bE h.inv λv vs o5 a b=>?_;subst o5;refine ag a.EC λt o6=>?_;subst o6;refine rG List.any_cons ?_;rcases List.mem_cons.mp hn with e|hn
  .refine rG e (rG (show zC (Str.ofString k) (.str (Str.ofString k) t)=true from nD _) ?_);rfl
  .exact rG (ih b hn) (rG (Bool.or_true _) rfl)
theorem zD{α:Type}{j k:Int}{v:α}{l:List (Int×α)}:(((j,v)::l).find? λp=>decide (p.1=k))=if j=k then some (j,v) else l.find? λp=>decide (p.1=k):=by
 by_cases h:j=k
 ·(refine rG (az h) ?_;rw[List.find?_cons_of_pos]);exact decide_eq_true h
 ·(refine rG (ax h) ?_;rw[List.find?_cons_of_neg]);exact λz=>h (fP z)
theorem EY{j k:Int}{v:Value}{kvs:List (Int×Value)}:valueAt ((j,v)::kvs) k=if j=k then some v else valueAt kvs k:=by
 unfold valueAt;refine rG zD ?_;by_cases h:j=k
 .refine rG (az h) (rG (az h) ?_);rfl
 .exact rG (ax h) (rG (ax h) rfl)
theorem EZ{W:Wl}(k:Int)(h:DR C.h₀ W kvs es):(valueAt kvs k).isSome=es.any λp=>decide (p.1=k):=by
 induction h with
 |nil=>rfl
 | @cons j _ _ _ _ _ _ ih=>
  refine rG EY (rG List.any_cons (rB ih ?_));by_cases h:j=k
  .refine rG (az h) (rG (decide_eq_true h) ?_);rfl
  .refine rG (ax h) (rG (nE h) ?_);rfl
theorem Sp{W:Wl}(k:Int){x:V}{kvs:List (Int×Value)}{es:List (Int×V)}(h:DR C.h₀ W kvs es)(e:(es.find? λp=>decide (p.1=k))=some (k,x)): ∃v,valueAt kvs k=some v/\VR C.h₀ W v x:=by
 induction h with
 |nil=>exact Ns e
 | @cons j v _ _ _ a _ ih=>
  refine rG EY ?_;by_cases h:j=k
  .replace e:=(az h)▸zD▸e;cases e;exact⟨v,az rfl,a⟩
  .haveI e:=(ax h)▸zD▸e;refine rG (ax h) ?_;exact ih e
theorem t8(R:Rel C W H s.heap)(e:H r=some (.dict es)): ∃a kvs,W.ρ r=some a/\s.heap.DictOf (intKind C.prog C.w) a kvs/\DR C.h₀ W kvs es/\C.h₀.objs.size<=a:=by
 refine ab (R.obj r _ e) λa p bw=>?_;refine ab bw λkvs q t=>?_;exact⟨a,kvs,p,q,t,(R.d8 r a p).1⟩
theorem int_is(k:Int)(t:Tok):(intKind C.prog C.w).is k (.int k t)=true:=by simp[intKind,Value.isInt]
theorem zE(ok:C.Ok)(h:C.h₀.objs.size<=a):(a==sysModules)=false:=by
 haveI:=ok.big;simp only[beq_eq_false_iff_ne];intro e;haveI h:=e▸h;exact absurd this (Nat.not_lt.mpr h)
theorem is_none(R:Rel C W H s.heap)(e:tU x=some t)(ru:VR C.h₀ W u x):plainIs u .none=true/\(u==Value.none)=t:=by
 cases ru<;>first|(exact Ns e;done)|(cases e;exact⟨rfl,rfl⟩)
theorem lC{a b:String}(h:Str.ofString a=Str.ofString b):a=b:=by
 haveI h:=(Str.ofString_eq_toList _)▸(Str.ofString_eq_toList _)▸h;injection h with h
 haveI h2:a.toList.map Char.toNat=b.toList.map Char.toNat:=by simpa using bP Array.toList h
 haveI h3: ∀(l l':List Char),l.map Char.toNat=l'.map Char.toNat->l=l':=by
  intro l
  induction l with
  |nil=>intro l' e;cases l' with|nil=>rfl|cons _ _=>simp at e
  |cons c l ih=>
   intro l' e
   cases l' with
   |nil=>simp at e
   |cons c' l'=>
    simp only[dq,List.cons.injEq] at e;exact rG (ih l' e.2) (rG (Char.toNat_inj.mp e.1) rfl)
 exact String.toList_inj.mp (h3 _ _ h2)
theorem Sq(a b:String):(Str.ofString a==Str.ofString b)=decide (a=b):=by
 by_cases e:a=b
 .subst e;simp
 .refine rG (nE e) ?_
  cases q:(Str.ofString a==Str.ofString b) with
  |false=>rfl
  |true=>exact absurd (lC (eq_of_beq q)) e
theorem rT{op:CmpOp}(ok:C.Ok)(rm:dD n A)(h:de op x y Q H)(R:Rel C W H s.heap)(ru:VR C.h₀ W u x)(rv:VR C.h₀ W v y):
  wpAny (be C) A (compareOp op u v) (aN C W s Q) no s:=by
 have hu:A.units+64<cLine:=by haveI:=rm.tT;exact Z4 this
 cases h with
 |lt h=>exact kI ru rv λU U=>PyProof.Rows.lt_int (aN.here R (.bool _) h)
 |le h=>exact kI ru rv λU U=>PyProof.Rows.le_int (aN.here R (.bool _) h)
 |gt h=>exact kI ru rv λU U=>PyProof.Rows.gt_int (aN.here R (.bool _) h)
 |ge h=>exact kI ru rv λU U=>PyProof.Rows.ge_int (aN.here R (.bool _) h)
 |eq h=>exact kI ru rv λU U=>PyProof.Rows.eq_int (aN.here R (.bool _) h)
 |ne h=>exact kI ru rv λU U=>PyProof.Rows.ne_int (aN.here R (.bool _) h)
 |EP h=>
  refine bJ (rS R ru) λa vs m o7 ho hi=>?_;subst o7;refine bJ (rS R rv) λb ws m' o8 bn ce=>?_;subst o8;exact eq_dataH_same (wL ho hi) (wL bn ce) (wM _) (wM _) hu (by simp only[noMix];exact noMix_ints _ _) (aN.here R (.bool _) (by simp only[PySem.Spec.same];refine rG (same_ints _ _) ?_;exact h))
 |EQ h=>
  refine bJ (rS R ru) λa vs m o9 ho hi=>?_;subst o9;refine bJ (rS R rv) λb ws m' cY bn ce=>?_;subst cY;exact ne_dataH_same (wL ho hi) (wL bn ce) (wM _) (wM _) hu (by simp only[noMix];exact noMix_ints _ _) (aN.here R (.bool _) (by simp only[PySem.Spec.same];refine rG (same_ints _ _) ?_;exact h))
 | @ER _ _ xs e1 e2 h=>
  refine t6 R ru rv e1 e2 λa b vs ws m m' ho bn r1 r2=>?_;obtain rfl:=r2.me
  cases xs with
  |nil=>obtain rfl:=r1.me;exact eq_intsK (eQ ho) .nil (eQ bn) .nil hu (aN.here R (.bool _) (by simpa using h))
  |cons x xs=>refine bM r1.inv λU U eb U=>?_;subst eb;exact SeqAt.eq_list_lengthsAt (eQ ho) (eQ bn) (by simp) (by exact Z3 hu) (aN.here R (.bool _) (by simpa using h))
 |ET e1 e2 h=>exact t6 R ru rv e1 e2 λa b vs ws m m' ho bn r1 r2=>eq_intsK (eQ ho) r1.ints (eQ bn) r2.ints hu (aN.here R (.bool _) h)
 | @ES _ _ xs e1 e2 h=>
  refine t6 R ru rv e1 e2 λa b vs ws m m' ho bn r1 r2=>?_;obtain rfl:=r2.me
  cases xs with
  |nil=>obtain rfl:=r1.me;exact ne_intsK (eQ ho) .nil (eQ bn) .nil hu (aN.here R (.bool _) (by simpa using h))
  |cons x xs=>
   refine bM r1.inv λU U f8 U=>?_;subst f8;refine richCompare_meets_room (op:=.NotEq) ⟨_,ho,rfl⟩ ⟨_,bn,rfl⟩ PySem.F.slot_list_ne PySem.F.entry_list_ne (PySem.F.args_list_ne_2 _ _) (SeqAt.list_ne_lengthsAt a b _ _ m m' _ _ _ _ (by simp)) ⟨ho,bn,?_⟩ (by exact Z3 hu);exact⟨(λx=>nomatch x),aN.here R (.bool _) (by simpa using h)⟩
 |EU e1 e2 h=>exact t6 R ru rv e1 e2 λa b vs ws m m' ho bn r1 r2=>ne_intsK (eQ ho) r1.ints (eQ bn) r2.ints hu (aN.here R (.bool _) h)
 |is e h=>
  obtain rfl:=rv.EB;refine aE (is_none R e ru) λp q=>?_;exact wpAny_is_plain p (aN.here R (.bool _) (by refine rG q ?_;exact h))
 |EV e h=>
  obtain rfl:=rv.EB;refine aE (is_none R e ru) λp q=>?_;exact wpAny_isNot_plain p (aN.here R (.bool _) (by refine rG q ?_;exact h))
 |int h=>
  refine ag (cz ru) λt iC=>?_;subst iC;refine bJ (rS R rv) λb ws m' nM bn ce=>?_;subst nM;exact in_tuple (t7 _) (zB _ _ ce) bn (aN.here R (.bool _) (by refine rG List.any_toArray (rG (any_ints _ ce) ?_);exact h))
 |inl e h=>
  refine ag (cz ru) λt ml=>?_;subst ml;refine ab (dQ rv) λb mn pb=>?_;subst mn;refine bJ (eP R e) λa' vs m qa ho r1=>?_;replace qa:=pb▸qa;cases qa;exact in_list (t7 _) (zB _ _ r1.ints) ho (aN.here R (.bool _) (by refine rG List.any_toArray (rG (any_ints _ r1.ints) ?_);exact h))
 |ind e h=>
  refine ag (cz ru) λt lE=>?_;subst lE;refine ab (dQ rv) λb mq pb=>?_;subst mq;refine dN (t8 R e) λa' kvs qa hd r1 hz=>?_;replace qa:=pb▸qa;cases qa;exact wpAny_in_of (int_is _ _) (zE ok hz) hd.mapOf (aN.toks R (.bool _) (by refine rG (EZ _ r1) ?_;exact h))
 |EW e h=>
  refine ag (cz ru) λt qf=>?_;subst qf;refine ab (dQ rv) λb qg pb=>?_;subst qg;refine bJ (eP R e) λa' vs m qa ho r1=>?_;replace qa:=pb▸qa;cases qa;exact notIn_list (t7 _) (zB _ _ r1.ints) ho (aN.here R (.bool _) (by refine rG List.any_toArray (rG (any_ints _ r1.ints) ?_);exact h))
 |EX hm h=>
  refine ag (zA ru) λt rU=>?_;subst rU;refine ag (jo rv) λb t9=>?_;subst t9;refine bM (jn R rv) λvs m ho r1=>?_;refine notIn_tuple (zC (Str.ofString _)) (λy hy=>?_) ho (aN.here R (.bool _) (by refine rG List.any_toArray (rG (So _ r1 hm) ?_);exact h));refine dM (Sm r1 y (by simpa using hy)) λx u ua=>?_;subst ua;exact EqGives.str x _ u t
 |eqs h=>
  refine ag (zA ru) λt zF=>?_;subst zF;refine ag (zA rv) λt' zG=>?_;subst zG;exact PyProof.Rows.eq_str (aN.here R (.bool _) (by refine rG (Sq _ _) ?_;exact h))
end
open PySem PySem.W PySem.Calls PyProof.Rows PySem.SeqAt PySem.MeetsSeq PySem.SeqRoads2
noncomputable def zH(K:Frag)(Cl:Addr)(name:String):Bool:=match findIn K (.ref Cl) (Str.ofString name) with
 |some attr=>noGet K attr
 |none=>false
noncomputable def E0(K:Frag)(Cl:Addr)(name:String):Bool:=
 plainGet K Cl (Str.ofString name)&&(hasDictIn K Cl&&(zH K Cl name&&(findIn K (.ref Cl) "__setattr__" ==some (some (.builtin "object.__setattr__"))&&(plainOver K Cl&&takerIn K Cl (Str.ofString name)==some none))))
noncomputable def E4(K:Frag)(Cl:Addr)(name:String)(a:Addr):Bool:=plainGet K Cl (Str.ofString name)&&(hasDictIn K Cl&&(findIn K (.ref Cl) (Str.ofString name)==some (some (.ref a))&&(isFn K (.ref a)&&(fnIn K a&&
 (specialIn K (.ref a) "__get__" ==some (some (.builtin "function.__get__"))&&(takesIn K (.ref a)==some false&&!copiedNames.contains (Str.ofString name)))))))
noncomputable def wN(K:Frag)(Cl:Addr)(name:String)(f:Value):Bool:=match jg f with
 |some a=>E4 K Cl name a
 |none=>false
theorem E5{K:Frag}{Cl:Addr}(h:wN K Cl name f=true): ∃a,f=.ref a/\E4 K Cl name a=true:=by
 unfold wN at h
 cases e:jg f with
 |none=>replace h:=e▸h;cases h
 |some a=>haveI h:=e▸h;exact⟨a,tR e,h⟩
noncomputable def callable(K:Frag)(f:Value):Bool:=match f with
 | .ref _=>keepIn K f
 |_=>true
structure bG.Ok(C:Cfg)(T:bG):Prop where
 glob: ∀x v,T.glob x=some v-> ∃rv,(C.mg (Str.ofString x)=some rv∨(C.mg (Str.ofString x)=none/\C.mb (Str.ofString x)=some rv))/\ ∀W:Wl,(∀p,p∈C.wD->p∈W.T)->VR C.h₀ W rv v
 call: ∀x f,T.glob x=some (.con f)->callable C.K f=true
 Sr:C.mg ("sorted" :Str)=none/\C.mb ("sorted" :Str)=some (.builtin "sorted")
 Sv:C.mg ("enumerate" :Str)=none/\C.mb ("enumerate" :Str)=some (.type "enumerate")
 attr: ∀Cl name,T.attr Cl name=true->E0 C.K Cl name=true
 ao: ∀Cl name f,T.ao Cl name=some f->wN C.K Cl name f=true
section
variable{C:Cfg}{T:bG}{n:Nat}{A:Around}{W:Wl}{H:MH}{s:Shared}{Q:PV}{v:Value}{b:V}{L:Addr}{mm:Str->Option Value}
theorem oQ{Q:Bool->MH->Prop}(h:fD x Q H)(R:Rel C W H s.heap)(ru:VR C.h₀ W u x):wpAny (be C) A (truthy u) (jk C W s Q) no s:=by
 unfold fD at h;split at h
 .cases ru;exact wpAny_truthy_bool ⟨W,H,.refl R,h⟩
 .exact h.elim
theorem ub{Cl:Addr}{fs:String->Option V}(R:Rel C W H s.heap)(e1:H r=some (.inst Cl d))(e2:H d=some (.fj k fs)):
  ∃a dx es m,W.ρ r=some a/\W.ρ d=some dx/\InstAt s.heap a (instObj Cl dx) Cl (some (dictOf es m))/\s.heap.get? dx=some (dictOf es m)/\es.length<=k/\es.any (·.refKey)=false/\
   ∀name:String,(fs name=none->getL (Str.ofString name) es=some none)/\(∀v,fs name=some v-> ∃rv,getL (Str.ofString name) es=some (some rv)/\VR C.h₀ W rv v):=by
 refine ab (R.obj r _ e1) λa p bw=>?_;refine ab bw λdx q t=>?_;clear bw;refine ab (R.obj d _ e2) λdx' q' bw=>?_;refine dN bw λes m t' hz nk z=>?_;clear bw;replace q':=q▸q';cases q';exact⟨a,dx,es,m,p,q,⟨t,rfl,rfl,t'⟩,t',hz,nk,z⟩
theorem Sw(h:rQ x=true)(ru:VR C.h₀ W u x):handedIn u=true:=by
 cases ru<;>first|rfl|cases h
theorem Sx{x:V}(ok:C.Ok)(tok:T.Ok C)(h:iz T x name Q H)(R:Rel C W H s.heap)(hn:s.heap.Ns L mm)(f:Off C W L)(ru:VR C.h₀ W u x):
  wpAny (be C) A (getAttr u (Str.ofString name) expr) (aN C W s Q) no s:=by
 refine Df h λr Cl d k fs o1 e1 e2 h=>?_;subst o1;refine ab (dQ ru) λa o2 pa=>?_;subst o2;refine De (ub R e1 e2) λa' dx es m qa qd I hd hz U z=>?_;replace qa:=pa▸qa;cases qa;haveI F:=R.fr hn f;rcases h with ⟨v,e,ha,hp,h⟩|⟨g,e,hm,h⟩
 .obtain ⟨rv,e',rr⟩:=(z name).2 v e;haveI ha:=tok.attr _ _ ha;have a3:zH C.K Cl name=true:=aV (aY (aY ha));unfold zH at a3
  cases hf:findIn C.K (.ref Cl) (Str.ofString name) with
  |none=>replace a3:=hf▸a3;cases a3
  |some attr=>
   haveI a3:=hf▸a3;exact get_own F ok.du I (aV ha) (aV (aY ha)) hf a3 e' (Sw hp rr) (aN.toks R rr h)
 .refine ab (E5 (tok.ao _ _ _ hm)) λg lF jp=>?_;subst lF;refine eK (fg jp) λa1 a2 a3 a4 a5 a6=>?_;refine b9 (gA a6) λa6 a7 a8=>?_;refine get_bind (ok.du.keeps R.keep) I (plainGet_of a1).1 (findObj_fn a2 (eq_of_beq a3) (eq_of_beq a6) (eq_of_beq a7) (gB _|>.mp a8) (by refine(?_:lookIn _ (dictOf es m)=_);exact rG (lookIn_dict _ _ _) (rG ((z name).1 e) rfl))) (plainGet_of a1).2
   (wpAny_call (fn_get (s:={s with toks:=s.toks+1}) (ok.du.keeps R.keep) (eq_of_beq a4:typeIn _ _=_) (handed_on rfl ?_)))
  haveI x:=an.rM (D:=λU=>False) R (methodObj (.ref g) (.ref a)) (s.toks+1);exact⟨_,_,_,x,.ao (.head _) (ru.mono x.ext),h⟩
theorem E6(name jq:Str)(t:Tok):(Value.str name t).isStr jq=decide (name=jq):=by
 refine(?_:(name==jq)=_);by_cases h:name=jq<;>simp[h]
theorem Sy{v:Value}{a b:Str}(ha:v.isStr a=true)(hb:v.isStr b=true):a=b:=Value.isStr_inj v a b ha hb
theorem wO{x:Str}{e:DictEntry}{r:List DictEntry}(h:e.key.isStr x=true):(e::r).find? (·.key.isStr x)=some e:=List.find?_cons_of_pos h
theorem uc{x:Str}{e:DictEntry}{r:List DictEntry}(h: ¬e.key.isStr x=true):(e::r).find? (·.key.isStr x)=r.find? (·.key.isStr x):=List.find?_cons_of_neg h
theorem zI:putL name qi k v (e::r)=if e.key.isStr name=true then {e with val:=v}::r else e::putL name qi k v r:=rfl
theorem Sz(name jq:Str)(qi:Int)(t:Tok)(v:Value)(es:List DictEntry):
  ((putL name qi (.str name t) v es).find? (·.key.isStr jq)).map (·.val)=if jq=name then some v else (es.find? (·.key.isStr jq)).map (·.val):=by
 induction es with
 |nil=>
  by_cases h:jq=name
  .simp[putL,E6,h]
  .haveI h': ¬name=jq:=λe=>h e.symm;simp[putL,E6,h,h']
 |cons e r ih=>
  refine rG zI ?_;by_cases k:e.key.isStr name=true
  .refine rG (az k) ?_;by_cases h:jq=name
   .subst h;refine rG (wO (e:={e with val:=v}) k) (rG (az rfl) ?_);rfl
   .haveI k': ¬e.key.isStr jq=true:=λq=>h (Sy q k);exact rG (uc (e:={e with val:=v}) k') (rG (uc k') (rG (ax h) rfl))
  .refine rG (ax k) ?_;by_cases q:e.key.isStr jq=true
   .exact rG (wO q) (rG (wO q) (rG (ax (λz:jq=name=>k (z▸q))) rfl))
   .refine rG (uc q) (rG (uc q) ?_);exact ih
theorem E7(name:Str)(qi:Int)(t:Tok)(v:Value)(es:List DictEntry)(h:es.any (·.refKey)=false):(putL name qi (.str name t) v es).any (·.refKey)=false:=by
 induction es with
 |nil=>rfl
 |cons e r ih=>
  refine rG zI ?_;by_cases k:e.key.isStr name=true
  .refine rG (az k) ?_;exact h
  .refine rG (ax k) ?_;exact Bool.or_eq_false_iff.mpr ⟨(Bool.or_eq_false_iff.mp h).1,ih (Bool.or_eq_false_iff.mp h).2⟩
theorem E8(name:Str)(qi:Int)(t:Tok)(v:Value)(es:List DictEntry):(putL name qi (.str name t) v es).length=if (es.find? (·.key.isStr name)).isSome then es.length else es.length+1:=by
 induction es with
 |nil=>rfl
 |cons e r ih=>
  refine rG zI ?_;by_cases k:e.key.isStr name=true
  .refine rG (az k) (rG (wO k) ?_);rfl
  .refine rG (ax k) (rG (uc k) (rG fh (rG ih ?_)));by_cases z:(r.find? (·.key.isStr name)).isSome=true
   .refine rG (az z) (rG (az z) ?_);rfl
   .refine rG (ax z) (rG (ax z) ?_);rfl
theorem wP(name:Str)(es:List DictEntry)(h:es.any (·.refKey)=false):getL name es=some ((es.find? (·.key.isStr name)).map (·.val)):=by
 unfold getL
 cases es.find? (·.key.isStr name) with
 |some e=>rfl
 |none=>simp[h]
theorem an.SA{D:Addr->Prop}(R:Rel C W H s.heap)(e:W.ρ r=some a)(he:H r=some mo)(hn:s.heap.Ns L mm)(f:Off C W L)
  (F':Fr C.h₀ L h' mm) (N':News C.h₀ L h' (nG C.h₀ s.heap L (λb=>b==a)++[(a,po)])) (ok:iV C W h' a mo') (ng:mo≠.gone:=by intro h;cases h):
  an C D W s W (Internal.upd H r mo') {s with heap:=h',toks:=tk}:=by
 have k: ∀b o,s.heap.get? b=some o->b≠L->b≠a->h'.get? b=some o:=λb o e n na=>by
  cases z:C.h₀.get? b with
  |some o'=>
   haveI:=R.keep b o' z;replace this:=e▸this;cases this;exact F'.keep b o z
  |none=>exact(N' (b,o) (List.mem_append_left _ (wE e n (by simpa using na) z))).1
 refine⟨⟨_,_,rfl⟩,.refl _,⟨F'.keep,eT (l9 F'.above F'.ns.lt),λx o q=>?_,λx b q=>?_,R.inj,λp q=>⟨k _ _ (R.bA p q).1 (f.t p q) (λz=>?_),λx z=>?_⟩,?_,R.base⟩,λb o q=>?_,λU U e=>.inl e,λU e=>.inl e,λb o q n U=>?_⟩
 .unfold Internal.upd at q;by_cases z:x=r
  .replace q:=(az z)▸q;cases q;refine rG z ?_;exact⟨a,e,ok⟩
  .haveI q:=(ax z)▸q;refine ab (R.obj x o q) λb p t=>?_;exact⟨b,p,t.mono (.refl _) λo q=>k _ _ q (λy=>f.r x (y▸p)) λy=>z (R.inj x r b p (y▸e))⟩
 .refine aE (R.d8 x b q) λu cj=>?_;refine ag cj λo' ho=>?_;clear cj;by_cases z:x=r
  .exact⟨u,mo',by unfold Internal.upd;exact rG (az z) rfl⟩
  .exact⟨u,o',by unfold Internal.upd;refine rG (ax z) ?_;exact ho⟩
 .haveI:=(R.bA p q).2 r (z▸e);replace this:=he▸this;cases this;exact ng rfl
 .haveI:=(R.bA p q).2 x z;unfold Internal.upd;by_cases w:x=r
  .replace this:=he▸w▸this;cases this;exact absurd rfl ng
  .refine rG (ax w) ?_;exact this
 .refine ag R.fin λN f=>?_;refine⟨N,λx q=>?_⟩;unfold Internal.upd at q;by_cases z:x=r
  .exact f x (by refine rG z (rG he ?_);exact λe=>by cases e)
  .haveI q:=(ax z)▸q;exact f x q
 .by_cases z:b=L
  .refine cM F'.ns λo' U U ho U=>?_;exact⟨o',z▸ho⟩
  .by_cases y:b=a
   .refine ag ok.some λo' z'=>?_;exact⟨o',y▸z'⟩
   .exact⟨o,k b o q z y⟩
 .by_cases z:b=L
  .subst z;exact .inr ⟨mm,hn,F'.ns⟩
  .exact .inl (k b o q z λy=>n r (y▸e))
theorem SD{Q:MH->Prop}(ok:C.Ok)(tok:T.Ok C)(h:fC T x name y Q H)(R:Rel C W H s.heap)(hn:s.heap.Ns L mm)(f:Off C W L)(ru:VR C.h₀ W u x)(rr:VR C.h₀ W rv y):
  wpAny (be C) A (setAttr u (Str.ofString name) rv) (oO C W s Q) no s:=by
 obtain ⟨r,Cl,d,k,fs,rfl,e1,e2,ha,hk,h⟩:=h;obtain ⟨a,rfl,pa⟩:=dQ ru;obtain ⟨a',dx,es,m,qa,qd,I,hd,hz,nk,z⟩:=ub R e1 e2;replace qa:=pa▸qa;cases qa;haveI F:=R.fr hn f;haveI ha:=tok.attr _ _ ha;refine gW (fg ha) λa1 a2 a3 SF=>?_;refine b9 SF λa4 a5 a6=>?_;haveI a4:=eq_of_beq a4;have a6:=eq_of_beq a6;haveI dL:dx≠L:=λq=>f.r d (q▸qd);haveI d0:C.h₀.get? dx=none:=by
  cases q:C.h₀.get? dx with
  |none=>rfl
  |some o=>exact absurd (cu q) (Nat.not_lt.mpr (R.d8 d dx qd).1)
 haveI N:News C.h₀ L s.heap (nG C.h₀ s.heap L (λb=>b==dx)++(dx,dictOf es m)::[]):=λp hp=>by
  rcases List.mem_append.mp hp with hp|hp
  .exact wF _ _ _ _ p hp
  .rcases List.mem_singleton.mp hp with rfl
   exact⟨hd,dL,d0⟩
 haveI h1: ∀p,p∈nG C.h₀ s.heap L (λb=>b==dx)->p.1≠dx:=λp hp q=>by
  haveI:=(EG hp).2.2.2;haveI this:=q▸this;simp at this
 refine set_plain (ok.du.keeps R.keep) I a4 (osa_dict (s:={s with toks:=s.toks+1}) F N (ok.du.keeps R.keep) I rfl a5 a6 a2 (by refine rG (lookIn_dict _ _ _) (rG (wP _ _ nk) ?_);rfl) h1 (λU q=>by cases q) (by rw[putName_dict]) rfl ?_ λh' F' N'=>?_)
 .rw[E8];split<;>(first|exact Z5 hk hz|exact Z6 hk hz)
 .refine⟨_,_,an.SA (mo:=.fj k fs) (tk:=s.toks+2) R qd e2 hn f F' N' ?_,h⟩;refine⟨_,_,(N' _ (List.mem_append_right _ (.head _))).1,?_,E7 _ _ _ _ _ nk,λnm=>?_⟩
  .rw[E8];haveI q:=z name;replace q:=(wP _ _ nk)▸q
   cases w:fs name with
   |none=>
    haveI:=q.1 w;simp only[rK,Option.map_eq_none_iff] at this;refine rG this ?_;simp only[Option.isSome_none,nB,ix];exact iU hz
   |some x=>
    obtain ⟨rv,e,_⟩:=q.2 x w;simp only[rK] at e;obtain ⟨en,he,_⟩:=Option.map_eq_some_iff.mp e;refine rG he ?_;simp only[Option.isSome_some,if_true];exact hz
  ·(refine rG (wP _ _ (E7 _ _ _ _ _ nk)) ?_;rewrite [Sz])
   by_cases w:nm=name
   .subst w;simp only[if_true];exact⟨λe=>by simp at e,λv e=>by simp only[rK] at e;subst e;exact⟨rv,rfl,rr⟩⟩
   .haveI w': ¬Str.ofString nm=Str.ofString name:=λe=>w (lC e);simp only[ax w,ax w'];refine rB (wP _ _ nk) ?_;exact z nm
end
open PySem PySem.W PySem.Calls PyProof.Rows PySem.SeqAt PySem.MeetsSeq PySem.SeqRoads2
section
variable{C:Cfg}{T:bG}{n:Nat}{A:Around}{W:Wl}{H:MH}{s:Shared}{Q:PV}{v:Value}{b:V}{L:Addr}{mm:Str->Option Value}
theorem zJ{h:Heap}{vs ws:List Value}{f:Array Value->Array Value}(ho:h.get? a=some (listOf vs.toArray m))(e:f vs.toArray=ws.toArray):
  ∃k,(h.update a (Obj.mapSeq f)).get? a=some (listOf ws.toArray k):=by
 haveI:=get?_update_seq ho f;haveI this:=e▸this;exact⟨_,this⟩
theorem SG(i:Int)(rz:VR C.h₀ W rv z)(h:DR C.h₀ W kvs es):
  DR C.h₀ W (kvs.map λkv=>if kv.1=i then (kv.1,rv) else kv) (es.map λp=>if p.1=i then (p.1,z) else p):=by
 induction h with
 |nil=>exact .nil
 | @cons k _ _ _ _ a _ ih=>
  by_cases q:k=i
  .simp only[dq,q,if_true];exact .cons rz ih
  .simp only[dq,q,ix];exact .cons a ih
theorem SH(i:Int)(rz:VR C.h₀ W rv z)(h:DR C.h₀ W kvs es):DR C.h₀ W (kvs++[(i,rv)]) (es++[(i,z)]):=by
 induction h with
 |nil=>exact .cons rz .nil
 |cons a _ ih=>exact .cons a ih
theorem SI(slice:Expr)(o i:Value): ∃ops,subscripted slice false o i=operate ops (getItem o i):=by
 cases slice with
 |Slice a b c p=>cases c<;>exact⟨_,rfl⟩
 |_=>exact⟨_,rfl⟩
theorem nN{T id:String}{Q:Value->Shared->Prop}(hT:s.TypeIs o T)(hl:typeLookup (.type T) "__getitem__" =pure (some (.builtin id)))(hg:wpAny (be C) A (getItem o i) Q no s):
  wpAny (be C) A (subscriptTail value slice o i) Q no s:=by
 refine ag (SI slice o i) λops e=>?_;exact tail_any hT hl hg e
theorem SJ(h:f7 x y Q H)(R:Rel C W H s.heap)(ru:VR C.h₀ W u x)(ri:VR C.h₀ W iv y):
  wpAny (be C) A (subscriptTail value slice u iv) (aN C W s Q) no s:=by
 cases h with
 | @li r i xs v e hz h0 hx h=>
  refine ab (dQ ru) λa o1 pa=>?_;subst o1;refine ag (cz ri) λt o2=>?_;subst o2;refine bJ (eP R e) λa' vs m qa ho r1=>?_;replace qa:=pa▸qa;cases qa;haveI hl:=eQ ho;haveI hb:(vs.length:Int)<2^63:=by refine rG r1.length ?_;exact fits63 hz
  refine nN hl.typeIs slot_list_getitem.lookup ?_;refine ab (r1.get hx) λrv hv rr=>?_;haveI aS:i.toNat<vs.length:=(List.getElem?_eq_some_iff.mp hv).1;exact wpAny_getItem_list hl h0 (by exact R0 hb aS) (by refine rG (ny) ?_;exact hv) (aN.here R rr h)
 | @la r xs v e hz hx h=>
  refine ab (dQ ru) λa o3 pa=>?_;subst o3;refine ag (cz ri) λt o4=>?_;subst o4;refine bJ (eP R e) λa' vs m qa ho r1=>?_;replace qa:=pa▸qa;cases qa;haveI hl:=eQ ho;haveI hb:(vs.length:Int)<2^63:=by refine rG r1.length ?_;exact fits63 hz
  refine nN hl.typeIs slot_list_getitem.lookup ?_;have lG:0<xs.length:=List.length_pos_iff.mpr λq=>by replace hx:=q▸hx;exact Ns hx
  haveI hx:=(List.getLast?_eq_getElem?)▸hx;refine ab (r1.get hx) λrv hv rr=>?_;haveI hlen:=r1.length;refine wpAny_getItem_list_neg hl (by exact RZ) (by refine rG cy ?_;exact RY lG hlen) (by exact RX) ?_ (aN.here R rr h);refine rG (ny) (rB hv (rG cy ?_))
  congr 1
  exact RW hlen
 | @di r i es v e hf h=>
  refine ab (dQ ru) λa o5 pa=>?_;subst o5;refine ag (cz ri) λt o6=>?_;subst o6;refine dN (t8 R e) λa' kvs qa hd r1 U=>?_;replace qa:=pa▸qa;cases qa;refine ab (Sp i r1 hf) λrv hv rr=>?_;exact nN hd.typeIs PySem.F.slot_dict_getitem.lookup (wpAny_getItem_of (int_is _ _) hd.mapOf hv (aN.toks R rr h))
 | @tu i xs v hz h0 hx h=>
  refine ag (jo ru) λa o7=>?_;subst o7;refine ag (cz ri) λt o8=>?_;subst o8;refine bM (jn R ru) λvs m ho r1=>?_;refine ab (r1.get hx) λrv hv rr=>?_;haveI ht:IsTup s.heap a vs.toArray:=⟨_,ho,rfl,_,rfl⟩;have aS:i.toNat<vs.length:=(List.getElem?_eq_some_iff.mp hv).1;haveI hb:(vs.length:Int)<2^63:=by refine rG r1.length ?_;exact fits63 hz
  refine nN ht.typeIs slot_tuple_getitem.lookup (PyProof.Rows.getItem_tuple (j:=i.toNat) ht (by exact RV h0) (by exact RU aS hb) ?_ (by refine rG (ny) ?_;exact hv) (aN.here R rr h));unfold seqIndex?;simp only[cy];haveI e1: ¬i<0:=by exact RT h0
  simp only[e1,ix];haveI rV:i<(vs.length:Int):=by exact RS aS
  simp[h0,rV]
theorem SK{x y z:V}{u iv rv:Value}{Q:MH->Prop}(h:d9 x y z Q H)(R:Rel C W H s.heap)(ru:VR C.h₀ W u x)(ri:VR C.h₀ W iv y)(rz:VR C.h₀ W rv z):
  wpAny (be C) A (setItem u iv rv) (oO C W s Q) no s:=by
 cases h with
 | @li r i xs e hz h0 h1 h=>
  refine ab (dQ ru) λa o9 pa=>?_;subst o9;refine ag (cz ri) λt cY=>?_;subst cY;refine bJ (eP R e) λa' vs m qa ho r1=>?_;replace qa:=pa▸qa;cases qa;haveI hb:(vs.length:Int)<2^63:=by refine rG r1.length ?_;exact fits63 hz
  haveI hlen:=r1.length;refine ki_setAt ho h0 (by exact RR h1 hb hlen) (by simp only[cy];exact RQ h1 hlen) ⟨_,_,an.upd (mo':=.list (xs.set i.toNat z)) (tk:=s.toks) R pa e (oI ..) ?_,h⟩;refine ag (zJ (f:=λx=>x.setIfInBounds i.toNat rv) (ws:=vs.set i.toNat rv) ho (by simp)) λk hk=>?_;exact⟨vs.set i.toNat rv,k,hk,r1.set _ rz⟩
 | @di r i es e hz h=>
  refine ab (dQ ru) λa eb pa=>?_;subst eb;refine ag (cz ri) λt f8=>?_;subst f8;refine dN (t8 R e) λa' kvs qa hd r1 U=>?_;replace qa:=pa▸qa;cases qa;haveI hl:kvs.length=es.length:=by
   clear hd h e hz pa
   induction r1 with
   |nil=>rfl
   |cons _ _ ih=>exact rG fh (rG fh (rG ih rfl))
  refine wpAny_setItem_pairs (int_is _ _) hd (λh' kC sb=>⟨_,_,an.upd (mo':=.dict (putD es i z)) (tk:=s.toks+1) R pa e sb ⟨_,kC,?_⟩,h⟩) (by refine rG hl ?_;exact iB hz);haveI SM:=EZ (C:=C) i r1;unfold putD stored;haveI e2:(kvs.any λkv=>decide (kv.1=i))=es.any λp=>decide (p.1=i):=by
   refine rB SM ?_;unfold valueAt;rw[Option.isSome_map,Bool.eq_iff_iff,List.any_eq_true,List.find?_isSome]
  refine rG e2 ?_;split
  .exact SG i rz r1
  .exact SH i rz r1
end
open PySem PySem.W PySem.Calls PyProof.Rows PySem.SeqAt PySem.MeetsSeq PySem.SeqRoads2
section
variable{prog:Program}{w:World}{A:Around}{E:Value->Shared->Prop}{s:Shared}
theorem SN(a n:Nat)(ha:a<=n):Builtin.Slice.sliceAdjust none (some (a:Int)) 1 (n:Int)=(0,(a:Int)):=by
 unfold Builtin.Slice.sliceAdjust;haveI h1: ¬((1:Int)<0):=by exact K1
 haveI h2: ¬((a:Int)<0):=by exact K0
 simp only[h1,h2,ix]
 congr 1
 exact KZ ha
theorem SP(a:Nat):Builtin.Slice.slicePlaces 0 (a:Int) 1=a:=by
 unfold Builtin.Slice.slicePlaces;haveI h1:(1:Int)>0:=(aC 0);simp only[h1,if_true,Int.ediv_one];split<;>(first|exact KW|exact KY (by assumption))
theorem SQ{a n:Nat}{Q:Int×Int×Nat->Shared->Prop}(hs:s.heap.IsSliceOf sl .none (.int a u) .none)(ha:a<=n)(h:Q (0,1,a) s):
  wpAny (model prog w) A (Builtin.Slice.sliceApplied (.ref sl) (pure (n:Int))) Q E s:=by
 refine bX (id hs) λos ud rW mu=>?_;refine aw (aw (wpAny_field ud mu (x:=.none) rfl (aw (wpAny_field ud mu (x:=.int a u) rfl (aw (wpAny_field ud mu (x:=.none) rfl (ba ?_)))))));refine aw (slicePart_none ?_);refine(?_:wpAny _ _ (if ((1:Int)==0)=true then _ else _) _ _ s);refine rG (ax (by decide)) ?_;refine aw (slicePart_none (aw (slicePart_int (aw (ba ?_)))));refine(?_:wpAny _ _ (match Builtin.Slice.sliceAdjust none (some (a:Int)) 1 (n:Int) with|(lo,hi)=>pure (lo,(1:Int),Builtin.Slice.slicePlaces lo hi 1)) _ _ s);refine rG (SN a n ha) ?_;refine(?_:wpAny _ _ (pure ((0:Int),(1:Int),Builtin.Slice.slicePlaces 0 (a:Int) 1)) _ _ s);refine rG (SP a) ?_;exact ba h
theorem SR(xs:Array Value)(a:Nat):((List.range a).filterMap λ(k:Nat)=>xs[((0:Int)+(k:Int)*1).toNat]?).toArray=(xs.toList.take a).toArray:=by
 haveI e:(λ(k:Nat)=>xs[((0:Int)+(k:Int)*1).toNat]?)=λk=>xs[0+k]?:=by
  funext k
  haveI:((0:Int)+(k:Int)*1).toNat=0+k:=yN;exact rG this rfl
 refine rG e ?_;haveI:=pick_run xs 0 a;haveI this:=List.filterMap_map▸this;haveI e2:((λx=>xs[x]?)∘λx=>0+x)=λk=>xs[0+k]?:=rfl;haveI this:=e2▸this;refine rG this ?_;simp
theorem SU{a n:Nat}{Q:Value->Shared->Prop}(ho:s.heap.get? t=some ({cls:=.type "tuple",data:=.seq items n}:Obj))(hs:s.heap.IsSliceOf sl .none (.int a u) .none)(ha:a<=items.size)
  (h0:a=items.size->Q (.ref t) s) (h:Q (.ref s.heap.objs.size) {s with heap:=s.heap.push {cls:=.type "tuple",data:=.seq (items.toList.take a).toArray}})
  (fT:items.size<=sizeLine:=by size_fits):wpAny (model prog w) A (getItem (.ref t) (.ref sl)) Q E s:=by
 have ht:IsTup s.heap t items:=⟨_,ho,rfl,_,rfl⟩;haveI iD:sizeOk (.seq (items.toList.take a).toArray):=by
  refine(?_:(items.toList.take a).toArray.size<=sizeLine);refine rG cy (rG ku (rG Array.length_toList ?_));exact KV fT
 refine bX (id hs) λos ud rW mu=>?_;haveI SV:s.TypeIs (.ref sl) "slice" :=⟨os,ud,rW⟩;unfold getItem
 try with_reducible refine cW ?_
 first|refine aw (ba ?_)|skip
 refine aw (wpAny_sequenceKey ht.typeIs (by decide) ?_);refine aw (wpAny_callSpecial?_slot (name:=Str.ofString "__getitem__") ht.typeIs slot_tuple_getitem
  (wpAny_call_entry slot_tuple_getitem ht.typeIs entry_tuple_getitem ?_ (args_tuple_getitem _ _)))
 refine(?_:wpAny _ _ (Builtin.Tuple.tupleItemsOf (.ref t)>>=_) _ _ s);refine aw (tupleItemsOf_ ht ?_);refine aw (wpAny_typeOf SV ?_);refine rG (az (by decide)) ?_;refine aw (SQ hs ha ?_);refine(?_:wpAny _ _ (if ((0:Int)==0&&(1:Int)==1&&a==items.size)=true then _ else _) _ _ s);by_cases e:a=items.size
 .refine rG (az (by simp[e])) ?_;refine aw (aw (wpAny_typeOf ht.typeIs ?_));refine ba ?_;refine rG (az (by decide)) ?_;exact aw (wpAny_rule (aw (ba (ba ⟨_,rfl,ba (h0 e)⟩))))
 .refine rG (ax (by simp[e])) (rG (SR items a) ?_)
  first
   |exact aw (m:=Builtin.Tuple.tupleExact _) (wpAny_newObj_type (ba ⟨_,rfl,ba h⟩) iD)
   |exact aw (m:=Builtin.Tuple.tupleExact _) (wpAny_newObj_type (aw (ba (ba ⟨_,rfl,ba h⟩))) iD)
   |exact aw (aw (m:=Builtin.Tuple.tupleExact _) (wpAny_newObj_type (ba (ba ⟨_,rfl,ba h⟩)) iD))
   |exact aw (aw (m:=Builtin.Tuple.tupleExact _) (wpAny_newObj_type (ba ⟨_,rfl,ba h⟩) iD))
end
theorem SX(vs:List Value)(i:Int)(h:0<=i):slicePick vs.toArray (some i) none none=(vs.drop i.toNat).toArray:=by
 refine rG (kms_pick_eq _ _ _) ?_
 congr 1
 unfold kms_pick kms_lo kms_hi;haveI: ¬i<0:=(Int.not_lt.mpr h);simp only[this,ix,List.toList_toArray];refine rG (kmk_drop_min _ _) ?_;exact List.take_of_length_le (by refine rG List.length_drop ?_;exact KU)
theorem E9(vs:List Value)(i:Int)(h:0<=i):slicePick vs.toArray none (some i) none=(vs.take i.toNat).toArray:=by
 refine rG (kms_pick_eq _ _ _) ?_
 congr 1
 unfold kms_pick kms_lo kms_hi;haveI: ¬i<0:=(Int.not_lt.mpr h);simp only[this,ix,List.toList_toArray,ly,Nat.sub_zero];exact rG (kmk_take_min _ _) rfl
section
variable{C:Cfg}{T:bG}{n:Nat}{A:Around}{W:Wl}{H:MH}{s:Shared}{Q:PV}{v:Value}{b:V}{L:Addr}{mm:Str->Option Value}
theorem SY(h:tW x y Q H)(R:Rel C W H s.heap)(ru:VR C.h₀ W u x)(ri:VR C.h₀ W iv y)(hs:s.heap.IsSliceOf sl iv .none .none):
  wpAny (be C) A (subscriptTail value slice u (.ref sl)) (aN C W s Q) no s:=by
 cases h with
 | @li r i xs e hz h0 h=>
  refine ab (dQ ru) λa o1 pa=>?_;subst o1;refine ag (cz ri) λt o2=>?_;subst o2;refine bJ (eP R e) λa' vs m qa ho r1=>?_;replace qa:=pa▸qa;cases qa;haveI hl:=eQ ho;refine nN hl.typeIs slot_list_getitem.lookup (wpAny_getItem_list_slice hl hs (.int _ _) .none .none (by simp) ?_ (by refine rG cy (rG r1.length ?_);exact iB hz));refine rG (SX _ _ h0) ?_;exact tY R h (r1.drop _) 0 _
 | @tu i xs hz h0 h1 h=>
  refine ag (jo ru) λa o3=>?_;subst o3;refine ag (cz ri) λt o4=>?_;subst o4;refine bM (jn R ru) λvs m ho r1=>?_;haveI ht:IsTup s.heap a vs.toArray:=⟨_,ho,rfl,_,rfl⟩;refine ag (⟨i.toNat,by exact Z9 h0⟩: ∃k:Nat,i=k) λk lF=>?_;subst lF;haveI hlen:=r1.length;refine nN ht.typeIs slot_tuple_getitem.lookup (getItem_tuple_from ht hs (by exact KS h0) (by refine rG cy ?_;exact Z8 h1 hlen) ?_ (by refine rG cy (rG r1.length ?_);exact iB hz));exact tZ R h (r1.drop _) _
theorem S0{value slice:Expr}(h:tX x y Q H)(R:Rel C W H s.heap)(ru:VR C.h₀ W u x)(ri:VR C.h₀ W iv y)(hs:s.heap.IsSliceOf sl .none iv .none):
  wpAny (be C) A (subscriptTail value slice u (.ref sl)) (aN C W s Q) no s:=by
 cases h with
 | @li r i xs e hz h0 h=>
  refine ab (dQ ru) λa o5 pa=>?_;subst o5;refine ag (cz ri) λt o6=>?_;subst o6;refine bJ (eP R e) λa' vs m qa ho r1=>?_;replace qa:=pa▸qa;cases qa;haveI hl:=eQ ho;refine nN hl.typeIs slot_list_getitem.lookup (wpAny_getItem_list_slice hl hs .none (.int _ _) .none (by simp) ?_ (by refine rG cy (rG r1.length ?_);exact iB hz));refine rG (E9 _ _ h0) ?_;exact tY R h (r1.take _) 0 _
 | @tu i xs hz h0 h1 h=>
  refine ag (jo ru) λa o7=>?_;subst o7;refine ag (cz ri) λt o8=>?_;subst o8;refine bM (jn R ru) λvs m ho r1=>?_;refine ag (⟨i.toNat,by exact Z9 h0⟩: ∃k:Nat,i=k) λk ue=>?_;subst ue;haveI hlen:=r1.length;refine nN (T:= "tuple") ⟨_,ho,rfl⟩ slot_tuple_getitem.lookup (SU ho hs (by refine rG cy ?_;exact Z8 h1 hlen) (λe=>aN.here R ?_ h) ?_ (by refine rG cy (rG r1.length ?_);exact iB hz))
  .haveI:xs.take (k:Int).toNat=xs:=List.take_of_length_le (by haveI e:=cy▸e;exact Z7 hlen e);refine rG this ?_;exact ru
  .exact tZ R h (r1.take _) _
 | @sc i ns hz h0 h=>
  refine ag (cz ri) λt o9=>?_;subst o9
  cases ru with
  |oM hl hi=>
   haveI cZ:s.heap.IsList _ _:=hl.at λo e=>R.keep _ o e;refine nN cZ.typeIs slot_list_getitem.lookup (wpAny_getItem_list_slice cZ hs .none (.int _ _) .none (by simp) ?_ (by refine rG cy (rG hi.length ?_);exact iB hz));refine rG (E9 _ _ h0) ?_;refine tY R h ?_ 0 _;refine rG List.map_take ?_;exact((aF.tS hi).take _)
end
abbrev dR:=List (Str×NameKind)
theorem zK[Decidable p](h:decide p=true):p:=fP h
theorem afF{a b:Str}(h:(a==b)=true):a=b:=eq_of_beq h
noncomputable def readable:Option NameKind->Bool
 |some .local=>true
 |some .cell=>true
 |some .free=>true
 |_=>false
noncomputable def jr:Option NameKind->Bool
 |some .local=>true
 |some .cell=>true
 |_=>false
noncomputable def dP:Pos:=⟨0,0,0,0⟩
noncomputable def dE:Expr:=.List [] dP
set_option genInjectivity false
set_option genSizeOf false
structure Sh where
 a:Expr:=dE
 b:Expr:=dE
 c:Expr:=dE
 l:List Expr:=[]
 m:List (Option Expr):=[]
 s:Str:=⟨#[]⟩
 o:Operator:=.Add
 u:UnaryOp:=.Not
 q:BoolOp:=.And
 cs:List CmpOp:=[]
 k:Const:=.none
 kw:List Keyword:=[]
 x:Option Expr:=none
 y:Option Expr:=none
 z:Option Expr:=none
 g:List Comprehension:=[]
 sc:Scope:=⟨.module,[],false,false,[]⟩
 n:Nat:=0
 p:Pos:=dP
noncomputable def sh:Expr->Sh
 | .BoolOp q l p=>{q,l,p}
 | .BinOp a o b p=>{a,o,b,p}
 | .UnaryOp u a p=>{u,a,p}
 | .IfExp a b c p=>{a,b,c,p}
 | .Dict m l p=>{m,l,p}
 | .ListComp a g sc p=>{a,g,sc,p}
 | .Compare a cs l p=>{a,cs,l,p}
 | .Call a l kw p=>{a,l,kw,p}
 | .Constant k n p=>{k,n,p}
 | .Attribute a s p=>{a,s,p}
 | .Subscript a b p=>{a,b,p}
 | .Name s p=>{s,p}
 | .List l p=>{l,p}
 | .Tuple l n p=>{l,n,p}
 | .Slice x y z p=>{x,y,z,p}
 |_=>{}
noncomputable def zL(t:Nat)(s:Sh)(e:Expr):Expr:=
 cond (t.beq 0) (.BoolOp s.q s.l s.p)<|cond (t.beq 2) (.BinOp s.a s.o s.b s.p)<|cond (t.beq 3) (.UnaryOp s.u s.a s.p)<|cond (t.beq 5) (.IfExp s.a s.b s.c s.p)<|
 cond (t.beq 6) (.Dict s.m s.l s.p)<|cond (t.beq 8) (.ListComp s.a s.g s.sc s.p)<|cond (t.beq 15) (.Compare s.a s.cs s.l s.p)<|cond (t.beq 16) (.Call s.a s.l s.kw s.p)<|
 cond (t.beq 19) (.Constant s.k s.n s.p)<|cond (t.beq 20) (.Attribute s.a s.s s.p)<|cond (t.beq 21) (.Subscript s.a s.b s.p)<|cond (t.beq 23) (.Name s.s s.p)<|
 cond (t.beq 24) (.List s.l s.p)<|cond (t.beq 25) (.Tuple s.l s.n s.p)<|cond (t.beq 26) (.Slice s.x s.y s.z s.p) e
theorem S1(e:Expr):zL e.ctorIdx (sh e) e=e:=by cases e<;>rfl
noncomputable def is(k:Nat)(e:Expr):Bool:=Nat.beq e.ctorIdx k
theorem eR(h:is k e=true):e=zL k (sh e) e:=by
 haveI h:=Nat.eq_of_beq_eq_true h;haveI q:=S1 e;rw[h] at q;exact q.symm
theorem wQ(h:is j e=true)(n:Nat.beq j k=false):is k e=false:=by
 haveI h:=Nat.eq_of_beq_eq_true h;subst h;exact n
noncomputable def notStar(e:Expr):Bool:=!is 22 e
noncomputable def afG(e:Expr):Bool:=!is 26 e
noncomputable def uf(e:Expr):Bool:=!is 7 e
noncomputable def ug(e:Expr):Bool:=!(is 8 e||(is 9 e||is 10 e))
noncomputable def oR(e:Expr):Bool:=!(is 16 e&&(is 23 (sh e).a&&((sh e).l.isEmpty&&(sh e).kw.isEmpty)))
noncomputable def Fa:X->Bool
 | .glob _=>true
 |_=>false
noncomputable def jt(ns inner:dR):dR:=inner.map λ(n,k)=>if (k==.free&&ns.lookup n==some .cell) then (n,.cell) else (n,k)
noncomputable def uh(ns:dR)(sc:Scope)(t:List String):Bool:=
 sc.kind==.function&&sc.names.all (λp=>match p.2 with
  | .local=>sc.names.lookup p.1==some .local&&((".0" :Str)::t.map Str.ofString).contains p.1
  | .cell=>false
  | .free=>sc.names.lookup p.1==some .free&&(ns.lookup p.1==some .cell||ns.lookup p.1==some .free)
  |_=>true)&&t.all λx=>sc.names.lookup (Str.ofString x)==some .local
noncomputable def gH(ns:dR):List String->List Expr->Bool
 |[],es=>es.isEmpty
 |x::xs,es=>match es with
  |[]=>false
  |e::es=>is 23 e&&((sh e).s==Str.ofString x&&(jr (ns.lookup (Str.ofString x))&&(x != ".0" &&gH ns xs es)))
noncomputable def qj(ns:dR)(t:List String)(e:Expr):Bool:=cond (is 25 e) (t.length==2&&gH ns t (sh e).l) (t.length==1&&gH ns t [e])
noncomputable def mv(y:Str):Bool:=y !=("__debug__" :Str)&&y !=("__classdict__" :Str)
noncomputable def l0(l:List Expr):Expr:=l.headD dE
noncomputable def l1(l:List Expr):Expr:=l0 (l.drop 1)
noncomputable def len(k:Nat)(l:List Expr):Bool:=Nat.beq l.length k
theorem len0(h:len 0 l=true):l=[]:=by cases l;rfl;exact Ft h
theorem ui(h:len 1 l=true):l=[l0 l]:=by
 cases l with
 |nil=>exact Ft h
 |cons a l=>cases l;rfl;exact Ft h
theorem zM(h:len 2 l=true):l=[l0 l,l1 l]:=by
 cases l with
 |nil=>exact Ft h
 |cons a l=>cases l with
  |nil=>exact Ft h
  |cons b l=>cases l;rfl;exact Ft h
theorem rX{l:List Keyword}(h:l.isEmpty=true):l=[]:=by cases l;rfl;exact Ft h
noncomputable def zN(w:Keyword)(n:Str):Bool:=w.arg==some n
theorem kwAt(h:zN w n=true):w=⟨some n,w.value,w.pos⟩:=by
 cases w;cases eq_of_beq h;rfl
noncomputable def Fb(w:Keyword)(n:Str):Bool:=zN w n&&(is 19 w.value&&(sh w.value).k==.bool true)
theorem isConst(h:(is 19 e&&(sh e).k==c)=true):e=.Constant c (sh e).n (sh e).p:=
 (eR (aV h)).trans (bP (λk=>Expr.Constant k (sh e).n (sh e).p) (eq_of_beq (aY h)))
theorem isName(h:is 23 e=true)(q:((sh e).s==s)=true):e=.Name s (sh e).p:=
 (eR h).trans (bP (λk=>Expr.Name k (sh e).p) (eq_of_beq q))
theorem S2(h:Fb w n=true):w=⟨some n,.Constant (.bool true) (sh w.value).n (sh w.value).p,w.pos⟩:=
 (kwAt (aV h)).trans (bP (λv=>(⟨some n,v,w.pos⟩:Keyword)) (isConst (aY h)))
noncomputable def zO(f:Expr->Bool)(rev:Bool)(l:List Keyword):Bool:=match l with
 |[]=>false
 |w::l=>zN w ("key" :Str)&&(f w.value&&(match l with
  |[]=>!rev
  |v::l=>rev&&(l.isEmpty&&Fb v ("reverse" :Str))))
noncomputable def Fc(l:List Comprehension)(f:Comprehension->Bool):Bool:=match l with
 |[]=>false
 |c::l=>l.isEmpty&&(c.is_async==0&&f c)
mutual
noncomputable def mt(ns:dR):X->Expr->Bool
 | .none,e=>is 19 e&&(sh e).k==.none
 | .bool b,e=>is 19 e&&(sh e).k==.bool b
 | .int i,e=>is 19 e&&(sh e).k==.int i
 | .str s,e=>is 19 e&&(sh e).k==.str (Str.ofString s)
 | .var x,e=>is 23 e&&((sh e).s==Str.ofString x&&(readable (ns.lookup (Str.ofString x))&&(x != ".0" &&mv (Str.ofString x))))
 | .glob x,e=>is 23 e&&((sh e).s==Str.ofString x&&(ns.lookup (Str.ofString x)==some .globalImplicit&&mv (Str.ofString x)))
 | .bin op a b,e=>is 2 e&&((sh e).o==op&&(mt ns a (sh e).a&&mt ns b (sh e).b))
 | .neg a,e=>is 3 e&&((sh e).u==.USub&&mt ns a (sh e).a)
 | .fQ a,e=>is 3 e&&((sh e).u==.Not&&mt ns a (sh e).a)
 | .eE a b,e=>is 0 e&&((sh e).q==.And&&(len 2 (sh e).l&&(mt ns a (l0 (sh e).l)&&mt ns b (l1 (sh e).l))))
 | .gn a b,e=>is 0 e&&((sh e).q==.Or&&(len 2 (sh e).l&&(mt ns a (l0 (sh e).l)&&mt ns b (l1 (sh e).l))))
 | .cmp op a b,e=>is 15 e&&((sh e).cs==[op]&&(len 1 (sh e).l&&(mt ns a (sh e).a&&(mt ns b (l0 (sh e).l)&&!behindInMarks op (l0 (sh e).l)))))
 | .kD p q a b c,e=>is 15 e&&((sh e).cs==[p,q]&&(len 2 (sh e).l&&(mt ns a (sh e).a&&(mt ns b (l0 (sh e).l)&&(mt ns c (l1 (sh e).l)&&!behindInMarks q (l1 (sh e).l))))))
 | .jh t a b,e=>is 5 e&&(mt ns t (sh e).a&&(mt ns a (sh e).b&&mt ns b (sh e).c))
 | .list xs,e=>is 24 e&&gp ns xs (sh e).l
 | .tup xs,e=>is 25 e&&gp ns xs (sh e).l
 | .lA,e=>is 6 e&&((sh e).m.isEmpty&&(sh e).l.isEmpty)
 | .nH k v,e=>is 6 e&&(match (sh e).m with
  |some y::m=>m.isEmpty&&(is 23 y&&((sh y).s==Str.ofString k&&(len 1 (sh e).l&&(is 19 (l0 (sh e).l)&&((sh (l0 (sh e).l)).k==.bool v&&(readable (ns.lookup (Str.ofString k))&&(k != ".0" &&mv (Str.ofString k))))))))
  |_=>false)
 | .call f xs,e=>is 16 e&&(Fa f&&(mt ns f (sh e).a&&(gp ns xs (sh e).l&&(sh e).kw.isEmpty)))
 | .ji a k rev,e=>is 16 e&&(is 23 (sh e).a&&((sh (sh e).a).s==("sorted" :Str)&&(ns.lookup ("sorted" :Str)==some .globalImplicit&&(len 1 (sh e).l&&(mt ns a (l0 (sh e).l)&&zO (mt ns k) rev (sh e).kw)))))
 | .ao o name xs,e=>is 16 e&&(is 20 (sh e).a&&((sh (sh e).a).s==Str.ofString name&&(mt ns o (sh (sh e).a).a&&(gp ns xs (sh e).l&&((sh e).kw.isEmpty&&((sh (sh e).a).p.endLine==(sh e).p.line&&(decide ((sh e).l.length<28)&&oR (sh (sh e).a).a)))))))
 | .nI o k,e=>is 16 e&&(is 20 (sh e).a&&((sh (sh e).a).s==("sort" :Str)&&(mt ns o (sh (sh e).a).a&&((sh e).l.isEmpty&&(zO (mt ns k) true (sh e).kw&&((sh (sh e).a).p.endLine==(sh e).p.line&&oR (sh (sh e).a).a))))))
 | .rO _,_=>false
 | .attr o name,e=>is 20 e&&((sh e).s==Str.ofString name&&(mt ns o (sh e).a&&oR (sh e).a))
 | .sub o i,e=>is 21 e&&(mt ns o (sh e).a&&mt ns i (sh e).b)
 | .jS o a,e=>is 21 e&&(mt ns o (sh e).a&&(is 26 (sh e).b&&((sh (sh e).b).y.isNone&&((sh (sh e).b).z.isNone&&((sh (sh e).b).x.isSome&&mt ns a ((sh (sh e).b).x.getD dE))))))
 | .kE o b,e=>is 21 e&&(mt ns o (sh e).a&&(is 26 (sh e).b&&((sh (sh e).b).x.isNone&&((sh (sh e).b).z.isNone&&((sh (sh e).b).y.isSome&&mt ns b ((sh (sh e).b).y.getD dE))))))
 | .comp el t it c,e=>is 8 e&&Fc (sh e).g λg=>mt ns it g.iter&&(uf g.iter&&(uh ns (sh e).sc t&&(qj (jt ns (sh e).sc.names) t g.target&&(mt (jt ns (sh e).sc.names) el (sh e).a&&(wR (jt ns (sh e).sc.names) c g.ifs&&(c.isNone||t.length==1))))))
noncomputable def gp(ns:dR):List X->List Expr->Bool
 |[],es=>es.isEmpty
 |x::xs,es=>match es with
  |[]=>false
  |e::es=>notStar e&&(mt ns x e&&gp ns xs es)
noncomputable def wR(ns:dR):Option X->List Expr->Bool
 |Option.none,es=>es.isEmpty
 |some c,es=>len 1 es&&mt ns c (l0 es)
end
noncomputable def afH(e:Expr):Bool:=is 25 e
noncomputable def zP(e:Expr):Bool:=!is 25 e||(!(sh e).l.all (constantsAlone 8)||(sh e).l.all (foldedForSure 8))
noncomputable def lH(ns:dR):Tg->Expr->Bool
 | .name x,e=>gH ns [x] [e]
 | .attr o name,e=>is 20 e&&((sh e).s==Str.ofString name&&mt ns o (sh e).a)
 | .sub o i,e=>is 21 e&&(mt ns o (sh e).a&&mt ns i (sh e).b)
 | .names xs,e=>is 25 e&&(gH ns xs (sh e).l&&decide xs.Nodup)
 | .subs o i o' i',e=>is 25 e&&(len 2 (sh e).l&&((is 21 (l0 (sh e).l)&&(mt ns o (sh (l0 (sh e).l)).a&&mt ns i (sh (l0 (sh e).l)).b))&&(is 21 (l1 (sh e).l)&&(mt ns o' (sh (l1 (sh e).l)).a&&mt ns i' (sh (l1 (sh e).l)).b))))
 | .attrs o n o' n',e=>is 25 e&&(len 2 (sh e).l&&((is 20 (l0 (sh e).l)&&((sh (l0 (sh e).l)).s==Str.ofString n&&mt ns o (sh (l0 (sh e).l)).a))&&(is 20 (l1 (sh e).l)&&((sh (l1 (sh e).l)).s==Str.ofString n'&&mt ns o' (sh (l1 (sh e).l)).a))))
structure Fd where
 v:Expr:=dE
 w:Expr:=dE
 l:List Expr:=[]
 x:Option Expr:=none
 a:List Stmt:=[]
 b:List Stmt:=[]
 p:Pos:=dP
noncomputable def aU:Stmt->Fd
 | .Return x p=>{x,p}
 | .Assign l v p=>{l,v,p}
 | .For v w a b p=>{v,w,a,b,p}
 | .While v a b p=>{v,a,b,p}
 | .If v a b p=>{v,a,b,p}
 | .Expr v p=>{v,p}
 | .Pass p=>{p}
 | .Break p=>{p}
 | .Continue p=>{p}
 |_=>{}
noncomputable def Fe(t:Nat)(s:Fd)(e:Stmt):Stmt:=
 cond (t.beq 3) (.Return s.x s.p)<|cond (t.beq 5) (.Assign s.l s.v s.p)<|cond (t.beq 9) (.For s.v s.w s.a s.b s.p)<|cond (t.beq 11) (.While s.v s.a s.b s.p)<|cond (t.beq 12) (.If s.v s.a s.b s.p)<|
 cond (t.beq 24) (.Expr s.v s.p)<|cond (t.beq 25) (.Pass s.p)<|cond (t.beq 26) (.Break s.p)<|cond (t.beq 27) (.Continue s.p) e
theorem S3(e:Stmt):Fe e.ctorIdx (aU e) e=e:=by cases e<;>rfl
noncomputable def ju(k:Nat)(e:Stmt):Bool:=Nat.beq e.ctorIdx k
theorem kJ(h:ju k e=true):e=Fe k (aU e) e:=by
 haveI h:=Nat.eq_of_beq_eq_true h;haveI q:=S3 e;rw[h] at q;exact q.symm
mutual
noncomputable def zQ(ns:dR):S->Stmt->Bool
 | .expr e,s=>ju 24 s&&(mt ns e (aU s).v&&ug (aU s).v)
 | .asg t e,s=>ju 5 s&&(len 1 (aU s).l&&(lH ns t (l0 (aU s).l)&&(mt ns e (aU s).v&&zP (aU s).v)))
 | .ret e,s=>ju 3 s&&((aU s).x.isSome&&mt ns e ((aU s).x.getD dE))
 | .nJ,s=>ju 3 s&&(aU s).x.isNone
 | .ite t a b,s=>ju 12 s&&(mt ns t (aU s).v&&(jT ns a (aU s).a&&jT ns b (aU s).b))
 | .dF t it body,s=>ju 9 s&&((aU s).b.isEmpty&&(qj ns t (aU s).v&&(mt ns it (aU s).w&&(uf (aU s).w&&jT ns body (aU s).a))))
 | .rP x y it body,s=>ju 9 s&&((aU s).b.isEmpty&&(jT ns body (aU s).a&&(is 25 (aU s).v&&(gH ns [x,y] (sh (aU s).v).l&&(is 16 (aU s).w&&(is 23 (sh (aU s).w).a&&((sh (sh (aU s).w).a).s==("enumerate" :Str)&&
   (ns.lookup ("enumerate" :Str)==some .globalImplicit&&(len 1 (sh (aU s).w).l&&((sh (aU s).w).kw.isEmpty&&(mt ns it (l0 (sh (aU s).w).l)&&notStar (l0 (sh (aU s).w).l))))))))))))
 | .mj t body,s=>ju 11 s&&((aU s).b.isEmpty&&(mt ns t (aU s).v&&jT ns body (aU s).a))
 | .brk,s=>ju 26 s
 | .cont,s=>ju 27 s
 | .pass,s=>ju 25 s
 | .raise,s=>ju 16 s
noncomputable def jT(ns:dR):List S->List Stmt->Bool
 |[],es=>es.isEmpty
 |x::xs,es=>match es with
  |[]=>false
  |e::es=>zQ ns x e&&jT ns xs es
end
section
variable{ns:dR}{e:Expr}
theorem zR(h:(!a)=true):a=false:=by cases a;rfl;exact Ft h
theorem S4(h:a=false):(!a)=true:=by refine rG h ?_;rfl
theorem zS{a b:String}(h:(a !=b)=true):a≠b:=by rw[bne_iff_ne] at h;exact h
theorem S5(hm:mt ns .none e=true): ∃k p,e=.Constant .none k p:=⟨_,_,isConst hm⟩
theorem Ff{b}(hm:mt ns (.bool b) e=true): ∃k p,e=.Constant (.bool b) k p:=⟨_,_,isConst hm⟩
theorem S6{b}(hm:mt ns (.int b) e=true): ∃k p,e=.Constant (.int b) k p:=⟨_,_,isConst hm⟩
theorem S7{b}(hm:mt ns (.str b) e=true): ∃k p,e=.Constant (.str (Str.ofString b)) k p:=⟨_,_,isConst hm⟩
theorem Fg{x}(hm:mt ns (.var x) e=true): ∃p,e=.Name (Str.ofString x) p/\readable (ns.lookup (Str.ofString x))=true/\x≠ ".0" /\mv (Str.ofString x)=true:=by
 refine nj (rj hm) λh1 h2 h3 h4 h5=>?_;exact⟨_,isName h1 h2,h3,zS h4,h5⟩
theorem Fh{x}(hm:mt ns (.glob x) e=true): ∃p,e=.Name (Str.ofString x) p/\ns.lookup (Str.ofString x)=some .globalImplicit/\mv (Str.ofString x)=true:=by
 refine gW (np hm) λh1 h2 h3 h4=>?_;exact⟨_,isName h1 h2,eq_of_beq h3,h4⟩
theorem S8{op a b}(hm:mt ns (.bin op a b) e=true): ∃l r p,e=.BinOp l op r p/\mt ns a l=true/\mt ns b r=true:=by
 refine gW (np hm) λh1 h2 h3 h4=>?_;exact⟨_,_,_,(eR h1).trans (bP (λo=>Expr.BinOp (sh e).a o (sh e).b (sh e).p) (eq_of_beq h2)),h3,h4⟩
theorem Fi{a}(hm:(is 3 e&&((sh e).u==u&&mt ns a (sh e).a))=true): ∃x p,e=.UnaryOp u x p/\mt ns a x=true:=by
 refine b9 (gA hm) λh1 h2 h3=>?_;exact⟨_,_,(eR h1).trans (bP (λo=>Expr.UnaryOp o (sh e).a (sh e).p) (eq_of_beq h2)),h3⟩
theorem inv_neg{a}(hm:mt ns (.neg a) e=true): ∃x p,e=.UnaryOp .USub x p/\mt ns a x=true:=Fi hm
theorem Fj{a}(hm:mt ns (.fQ a) e=true): ∃x p,e=.UnaryOp .Not x p/\mt ns a x=true:=Fi hm
theorem Fk{a b}(hm:(is 0 e&&((sh e).q==q&&(len 2 (sh e).l&&(mt ns a (l0 (sh e).l)&&mt ns b (l1 (sh e).l)))))=true): ∃l r p,e=.BoolOp q [l,r] p/\mt ns a l=true/\mt ns b r=true:=by
 refine nj (rj hm) λh1 h2 h3 h4 h5=>?_;exact⟨_,_,_,(eR h1).trans ((bP (λo=>Expr.BoolOp o (sh e).l (sh e).p) (eq_of_beq h2)).trans (bP (λl=>Expr.BoolOp q l (sh e).p) (zM h3))),h4,h5⟩
theorem Fm{a b}(hm:mt ns (.eE a b) e=true): ∃l r p,e=.BoolOp .And [l,r] p/\mt ns a l=true/\mt ns b r=true:=Fk hm
theorem Fn{a b}(hm:mt ns (.gn a b) e=true): ∃l r p,e=.BoolOp .Or [l,r] p/\mt ns a l=true/\mt ns b r=true:=Fk hm
theorem Fo(h1:is 15 e=true)(h2:((sh e).cs==cs)=true)(h3:(sh e).l=l):e=.Compare (sh e).a cs l (sh e).p:=
 (eR h1).trans ((bP (λo=>Expr.Compare (sh e).a o (sh e).l (sh e).p) (eq_of_beq h2)).trans (bP (λl=>Expr.Compare (sh e).a cs l (sh e).p) h3))
theorem Fp{op a b}(hm:mt ns (.cmp op a b) e=true): ∃l r p,e=.Compare l [op] [r] p/\mt ns a l=true/\mt ns b r=true/\behindInMarks op r=false:=by
 refine eK (fg hm) λh1 h2 h3 h4 h5 h6=>?_;exact⟨_,_,_,Fo h1 h2 (ui h3),h4,h5,zR h6⟩
theorem Fq{o q a b c}(hm:mt ns (.kD o q a b c) e=true): ∃l x r p,e=.Compare l [o,q] [x,r] p/\mt ns a l=true/\mt ns b x=true/\mt ns c r=true/\behindInMarks q r=false:=by
 refine eK (fg hm) λh1 h2 h3 h4 h5 h6=>?_;exact⟨_,_,_,_,Fo h1 h2 (zM h3),h4,h5,aV h6,zR (aY h6)⟩
theorem S9{t a b}(hm:mt ns (.jh t a b) e=true): ∃t' a' b' p,e=.IfExp t' a' b' p/\mt ns t t'=true/\mt ns a a'=true/\mt ns b b'=true:=
 ⟨_,_,_,_,eR (aV hm),gA (aY hm)⟩
theorem Ta{xs}(hm:mt ns (.list xs) e=true): ∃es p,e=.List es p/\gp ns xs es=true:=⟨_,_,eR (aV hm),aY hm⟩
theorem Tb{xs}(hm:mt ns (.tup xs) e=true): ∃es k p,e=.Tuple es k p/\gp ns xs es=true:=⟨_,_,_,eR (aV hm),aY hm⟩
theorem Tc(hm:mt ns .lA e=true): ∃p,e=.Dict [] [] p:=by
 refine b9 (gA hm) λh1 h2 h3=>?_;haveI h:e=.Dict (sh e).m (sh e).l (sh e).p:=eR h1;haveI h:=(List.isEmpty_iff.mp h3)▸(List.isEmpty_iff.mp h2)▸h;exact⟨_,h⟩
theorem Td{x v}(hm:mt ns (.nH x v) e=true): ∃p c d q,e=.Dict [some (.Name (Str.ofString x) p)] [.Constant (.bool v) c d] q/\readable (ns.lookup (Str.ofString x))=true/\x≠ ".0" /\mv (Str.ofString x)=true:=by
 refine aE (fN hm) λh1 h2=>?_;haveI h:e=.Dict (sh e).m (sh e).l (sh e).p:=eR h1;generalize (sh e).m=mm at h h2
 cases mm with
 |nil=>exact Ft h2
 |cons y mm=>
  cases y with
  |none=>exact Ft h2
  |some y=>
   refine eK (fg h2) λh2 h3 h4 h5 h6 h7=>?_;refine gW (np h7) λh7 h8 h9 kK=>?_;haveI h:=(isConst (y5 h6 h7))▸(ui h5)▸(isName h3 h4)▸(List.isEmpty_iff.mp h2)▸h;exact⟨_,_,_,_,h,h8,zS h9,kK⟩
theorem qk(h1:is 16 e=true)(h2:(sh e).a=f)(h3:(sh e).l=l)(h4:(sh e).kw=kw):e=.Call f l kw (sh e).p:=by
 haveI h:e=.Call (sh e).a (sh e).l (sh e).kw (sh e).p:=eR h1;haveI h:=h4▸h3▸h2▸h;exact h
theorem Te(h:Fa f=true): ∃x,f=.glob x:=by cases f<;>first|(exact Ft h;done)|exact⟨_,rfl⟩
theorem Fs{f xs}(hm:mt ns (.call f xs) e=true): ∃x p es q,f=.glob x/\e=.Call (.Name (Str.ofString x) p) es [] q/\ns.lookup (Str.ofString x)=some .globalImplicit/\mv (Str.ofString x)=true/\gp ns xs es=true:=by
 refine nj (rj hm) λh1 h2 h3 h4 h5=>?_;refine ag (Te h2) λx e=>?_;subst e;refine bX (Fh h3) λp a b c=>?_;exact⟨x,p,_,_,rfl,qk h1 a rfl (rX h5),b,c,h4⟩
theorem Fu{f:Expr->Bool}(h:zO f rev l=true): ∃ke,f ke=true/\((rev=false/\ ∃p,l=[⟨some ("key" :Str),ke,p⟩])∨(rev=true/\ ∃p c d g,l=[⟨some ("key" :Str),ke,p⟩,⟨some ("reverse" :Str),.Constant (.bool true) c d,g⟩])):=by
 cases l with
 |nil=>exact Ft h
 |cons w l=>
  refine b9 (gA h) λh1 h2 h3=>?_;refine⟨_,h2,?_⟩;refine rG (kwAt h1) ?_
  cases l with
  |nil=>exact .inl ⟨zR h3,_,rfl⟩
  |cons v l=>
   refine b9 (gA h3) λh3 h4 h5=>?_;refine rG (S2 h5) (rG (rX h4) ?_);exact .inr ⟨h3,_,_,_,_,rfl⟩
theorem Th{a k rev}(hm:mt ns (.ji a k rev) e=true): ∃p e' mw q ke,e=.Call (.Name ("sorted" :Str) p) [e'] mw q/\ns.lookup ("sorted" :Str)=some .globalImplicit/\mt ns a e'=true/\mt ns k ke=true/\
  ((rev=false/\ ∃p,mw=[⟨some ("key" :Str),ke,p⟩])∨(rev=true/\ ∃p c d g,mw=[⟨some ("key" :Str),ke,p⟩,⟨some ("reverse" :Str),.Constant (.bool true) c d,g⟩])):=by
 refine eK (fg hm) λh1 h2 h3 h4 h5 h6=>?_;refine ab (Fu (aY h6)) λke h7 h8=>?_;exact⟨_,_,_,_,ke,qk h1 (isName h2 h3) (ui h5) rfl,eq_of_beq h4,aV h6,h7,h8⟩
theorem qm(h1:is 20 e=true)(h2:((sh e).s==s)=true):e=.Attribute (sh e).a s (sh e).p:=(eR h1).trans (bP (λs=>Expr.Attribute (sh e).a s (sh e).p) (eq_of_beq h2))
theorem Fv{o name xs}(hm:mt ns (.ao o name xs) e=true): ∃e' ap es pos,e=.Call (.Attribute e' (Str.ofString name) ap) es [] pos/\mt ns o e'=true/\gp ns xs es=true/\(ap.endLine==pos.line)=true/\es.length<28/\oR e'=true:=by
 refine eK (fg hm) λh1 h2 h3 h4 h5 h6=>?_;refine gW (np h6) λh6 h7 h8 h9=>?_;exact⟨_,_,_,_,qk h1 (qm h2 h3) rfl (rX h6),h4,h5,h7,zK h8,h9⟩
theorem Ti{o k}(hm:mt ns (.nI o k) e=true): ∃e' ap pos ke p c d g,e=.Call (.Attribute e' ("sort" :Str) ap) [] [⟨some ("key" :Str),ke,p⟩,⟨some ("reverse" :Str),.Constant (.bool true) c d,g⟩] pos/\mt ns o e'=true/\mt ns k ke=true/\(ap.endLine==pos.line)=true/\oR e'=true:=by
 refine eK (fg hm) λh1 h2 h3 h4 h5 h6=>?_;refine b9 (gA h6) λh6 h7 h8=>?_;refine ab (Fu h6) λke a o1=>?_;rcases o1 with h|⟨_,p,c,d,g,b⟩
 .cases h.1
 .exact⟨_,_,_,ke,p,c,d,g,qk h1 (qm h2 h3) (List.isEmpty_iff.mp h5) b,h4,a,h7,h8⟩
theorem Fw{o name}(hm:mt ns (.attr o name) e=true): ∃e' p,e=.Attribute e' (Str.ofString name) p/\mt ns o e'=true/\oR e'=true:=by
 refine b9 (gA hm) λh1 h2 h3=>?_;exact⟨_,_,qm h1 h2,fN h3⟩
theorem Fx{o i}(hm:mt ns (.sub o i) e=true): ∃e' j p,e=.Subscript e' j p/\mt ns o e'=true/\mt ns i j=true:=⟨_,_,_,eR (aV hm),fN (aY hm)⟩
theorem uj{e:Option Expr}(h:e.isNone=true):e=none:=by cases e;rfl;exact Ft h
theorem zT{e:Option Expr}(h:e.isSome=true):e=some (e.getD dE):=by cases e;cases h;rfl
theorem Fy{x y z:Option Expr}(h1:is 26 e=true)(h2:(sh e).x=x)(h3:(sh e).y=y)(h4:(sh e).z=z):e=.Slice x y z (sh e).p:=by
 haveI h:e=.Slice (sh e).x (sh e).y (sh e).z (sh e).p:=eR h1;haveI h:=h4▸h3▸h2▸h;exact h
theorem Tj{o i}(hm:mt ns (.jS o i) e=true): ∃e' j p q,e=.Subscript e' (.Slice (some j) none none q) p/\mt ns o e'=true/\mt ns i j=true:=by
 refine eK (fg hm) λh1 h2 h3 h4 h5 h6=>?_;exact⟨_,_,_,_,(eR h1).trans (bP (λb=>Expr.Subscript (sh e).a b (sh e).p) (Fy h3 (zT (aV h6)) (uj h4) (uj h5))),h2,aY h6⟩
theorem Tk{o i}(hm:mt ns (.kE o i) e=true): ∃e' j p q,e=.Subscript e' (.Slice none (some j) none q) p/\mt ns o e'=true/\mt ns i j=true:=by
 refine eK (fg hm) λh1 h2 h3 h4 h5 h6=>?_;exact⟨_,_,_,_,(eR h1).trans (bP (λb=>Expr.Subscript (sh e).a b (sh e).p) (Fy h3 (uj h4) (zT (aV h6)) (uj h5))),h2,aY h6⟩
theorem Tl{f:Comprehension->Bool}(h:Fc l f=true): ∃t i c,l=[⟨t,i,c,0⟩]/\f ⟨t,i,c,0⟩=true:=by
 cases l with
 |nil=>exact Ft h
 |cons g l=>
  refine b9 (gA h) λh1 h2 h3=>?_
  cases l with
  |cons _ _=>exact Ft h1
  |nil=>
   cases g;cases eq_of_beq h2;exact⟨_,_,_,rfl,h3⟩
theorem Fz{el t it c}(hm:mt ns (.comp el t it c) e=true): ∃ee tg iter ifs sc p,e=.ListComp ee [⟨tg,iter,ifs,0⟩] sc p/\mt ns it iter=true/\uf iter=true/\uh ns sc t=true/\qj (jt ns sc.names) t tg=true/\
  mt (jt ns sc.names) el ee=true/\wR (jt ns sc.names) c ifs=true/\(c.isNone||t.length==1)=true:=by
 refine cM (Tl (aY hm)) λtg it ifs h k=>?_;refine eK (fg k) λh1 h2 h3 h4 h5 h6=>?_;exact⟨_,tg,it,ifs,_,_,(eR (aV hm)).trans (bP (λg=>Expr.ListComp (sh e).a g (sh e).sc (sh e).p) h),h1,h2,h3,h4,h5,aV h6,aY h6⟩
noncomputable def xt:X->Nat
 | .none=>19| .bool _=>19| .int _=>19| .str _=>19| .var _=>23| .glob _=>23| .bin _ _ _=>2| .neg _=>3| .fQ _=>3| .eE _ _=>0| .gn _ _=>0
 | .cmp _ _ _=>15| .kD _ _ _ _ _=>15| .jh _ _ _=>5| .list _=>24| .tup _=>25| .lA=>6| .nH _ _=>6| .call _ _=>16| .ji _ _ _=>16| .ao _ _ _=>16| .nI _ _=>16
 | .rO _=>16| .attr _ _=>20| .sub _ _=>21| .jS _ _=>21| .kE _ _=>21| .comp _ _ _ _=>8
theorem FA(h:mt ns x e=true):is (xt x) e=true:=by
 cases x<;>first|exact aV h|exact Ft h
theorem Tm(x:X):Nat.beq (xt x) 22=false:=by cases x<;>rfl
theorem Tn(h:mt ns x e=true):notStar e=true:=S4 (wQ (FA h) (Tm x))
theorem To(x:X):(Nat.beq (xt x) 9||Nat.beq (xt x) 10)=false:=by cases x<;>rfl
theorem Tp(h:mt ns x e=true)(hc:ug e=false): ∃el t it c,x=.comp el t it c:=by
 have q:=FA h;have h8:is 8 e=true:=by
  unfold ug at hc;haveI a:=To x;rw[Bool.or_eq_false_iff] at a;haveI hc:=(wQ q a.2)▸(wQ q a.1)▸hc;simpa using hc
 cases x with
 |comp el t it c=>exact⟨_,_,_,_,rfl⟩
 |_=>exact absurd ((wQ q (k:=8) rfl).symm.trans h8) lw
end
inductive FC(C:Cfg)(W:Wl)(s:Shared)(pre:List Value)(Q:List V->MH->Prop)(vs:List Value)(s':Shared):Prop
 |mk (W':Wl) (H':MH) (bs:List V) (y:an C (λU=>False) W s W' H' s') (r:aF C.h₀ W' (pre++vs) bs) (q:Q bs H')
abbrev SE(C:Cfg)(T:bG)(n:Nat)(x:X):Prop:= ∀(A:Around) (e:Expr) (env:Env) (m:MM) (W:Wl) (H:MH) (s:Shared) (Q:PV),dD n A->mt env.scope.names x e=true->
 bl C W env m s.heap->Rel C W H s.heap->al C T n m x Q H->wpAny (be C) A (eval e env) (aN C W s Q) no s
abbrev SB(C:Cfg)(T:bG)(n:Nat)(x:X):Prop:= ∀(A:Around) (e:Expr) (env:Env) (m:MM) (W:Wl) (H:MH) (s:Shared) (Q:Bool->MH->Prop),dD n A->mt env.scope.names x e=true->
 bl C W env m s.heap->Rel C W H s.heap->bH C T n m x Q H->wpAny (be C) A (isTrue e env (eval e env)) (jk C W s Q) (λU U=>False) s
abbrev mz(C:Cfg)(T:bG)(n:Nat)(xs:List X):Prop:= ∀(A:Around) (es:List Expr) (pos:Pos) (env:Env) (m:MM) (W:Wl) (H:MH) (s:Shared) (acc:List V) (pre:List Value) (Q:List V->MH->Prop),dD n A->gp env.scope.names xs es=true->
 bl C W env m s.heap->Rel C W H s.heap->aF C.h₀ W pre acc->eV C T n m xs acc Q H->wpAny (be C) A (spliced (backTo pos (starEach es env))) (FC C W s pre Q) (λU U=>False) s
abbrev SO(C:Cfg)(T:bG)(n:Nat)(x:Option X):Prop:= ∀(A:Around) (ifs:List Expr) (env:Env) (m:MM) (W:Wl) (H:MH) (s:Shared) (Q:Bool->MH->Prop),dD n A->wR env.scope.names x ifs=true->
 bl C W env m s.heap->Rel C W H s.heap->rR C T n m x Q H->
 wpAny (be C) A (forIn ifs true λc r=>if r=true then do let ok<-isTrue c env (eval c env);pure (ForInStep.yield ok) else pure (ForInStep.yield r)) (jk C W s Q) (λU U=>False) s
theorem imp{α:Type}{M:Model}{A:Around}{m:Sem α}{Q Q':α->Shared->Prop}{E:Value->Shared->Prop}{s:Shared}(h:wpAny M A m Q E s)(k: ∀v s',Q v s'->Q' v s'):wpAny M A m Q' E s:=cO h k λU U x=>x
section
variable{α:Type}{C:Cfg}{M:Model}{A:Around}{E:Value->Shared->Prop}{σ s:Shared}{W:Wl}
theorem bT{Q':Value->Shared->Prop}(h:wpAny M A m (aN C W s Q) E σ)(k: ∀v s' W' H' x,an C (λU=>False) W s W' H' s'->VR C.h₀ W' v x->Q x H'->Q' v s'):wpAny M A m Q' E σ:=cO h (λv s' p=>p.casesOn (k v s')) λU U x=>x
theorem mB{Q:Bool->MH->Prop}{Q':Bool->Shared->Prop}(h:wpAny M A m (jk C W s Q) E σ)(k: ∀v s' W' H',an C (λU=>False) W s W' H' s'->Q v H'->Q' v s'):wpAny M A m Q' E σ:=cO h (λv s' p=>p.casesOn (k v s')) λU U x=>x
theorem rY{Q:MH->Prop}{Q':Unit->Shared->Prop}(h:wpAny M A m (oO C W s Q) E σ)(k: ∀v s' W' H',an C (λU=>False) W s W' H' s'->Q H'->Q' v s'):wpAny M A m Q' E σ:=cO h (λv s' p=>p.casesOn (k v s')) λU U x=>x
theorem qn{Q:List V->MH->Prop}{Q':List Value->Shared->Prop}(h:wpAny M A m (FC C W s pre Q) E σ)(k: ∀v s' W' H' bs,an C (λU=>False) W s W' H' s'->aF C.h₀ W' (pre++v) bs->Q bs H'->Q' v s'):wpAny M A m Q' E σ:=cO h (λv s' p=>p.casesOn (k v s')) λU U x=>x
end
theorem bl.next{C:Cfg}{W W':Wl}{env:Env}{m:MM}{s s':Shared}{H':MH}(F:bl C W env m s.heap)(x:an C (λU=>False) W s W' H' s'):bl C W' env m s'.heap:=F.kept x λU f=>f.elim
section
variable{C:Cfg}{T:bG}{n:Nat}
theorem Tq:SE C T n .none:=by
 intro A e env m W H s Q rm hm F R h;refine dM (S5 hm) λk p o1=>?_;subst o1;exact Constant_none (aN.here R .none h)
theorem FD(b:Bool):SE C T n (.bool b):=by
 intro A e env m W H s Q rm hm F R h;refine dM (Ff hm) λk p o2=>?_;subst o2;exact Constant_bool (aN.here R (.bool _) h)
theorem Ts(b:Int):SE C T n (.int b):=by
 intro A e env m W H s Q rm hm F R h;refine dM (S6 hm) λk p o3=>?_;subst o3;exact wpAny_Constant_int (aN.toks R (.int _ _) h)
theorem Tt(b:String):SE C T n (.str b):=by
 intro A e env m W H s Q rm hm F R h;refine dM (S7 hm) λk p o4=>?_;subst o4;exact Calls.Constant_str (aN.toks R (.str _ _) h)
theorem uk(h:mv x=true):(x==("__debug__" :Str))=false/\(x==("__classdict__" :Str))=false:=by
 unfold mv at h;simpa using h
theorem zU{Q:Value->Shared->Prop}(F:bl C W env m s.heap)(h1:readable (env.scope.names.lookup (Str.ofString x))=true)(h2:x≠ ".0")(h3:mv (Str.ofString x)=true)
  (e:m x=some v) (h: ∀rv,VR C.h₀ W rv v->Q rv s):wpAny (be C) A (loadName env (Str.ofString x)) Q no s:=by
 haveI hk:env.kindOf (Str.ofString x)=env.scope.names.lookup (Str.ofString x):=rfl;haveI h1:=cX hk▸h1;unfold readable at h1;split at h1
 .rename_i k
  refine ab F.lv λmm hn q=>?_;refine ab (q x v h2 e k) λrv hv r=>?_;exact wpAny_loadName_local F.kind k hn hv (h _ r)
 .rename_i k
  refine bE (F.cv x v e (.inl k)) λc rv hc hv r=>?_;exact wpAny_loadName_cell F.kind k hc hv (h _ r)
 .rename_i k
  refine bE (F.cv x v e (.inr k)) λc rv hc hv r=>?_;exact wpAny_loadName_free F.kind k hc hv (h _ r) (uk h3).2
 .exact Ft h1
theorem FE(x:String):SE C T n (.var x):=by
 intro A e env m W H s Q rm hm F R h;refine l8 (Fg hm) λp o5 h1 h2 h3=>?_;subst o5;refine ab h λv e h=>?_;exact wpAny_Name (zU F h1 h2 h3 e λrv r=>aN.here R r h) (uk h3).1
theorem wS{h h':Heap}{m:Str->Option Value}(k: ∀b o,h.get? b=some o->h'.get? b=some o)(x:h.Ns a m):h'.Ns a m:=by
 refine cM x λo es ep ho r=>?_;clear x;exact⟨o,es,ep,k _ _ ho,r⟩
theorem ul(ok:C.Ok){A:Around}{Q:Value->Shared->Prop}(F:bl C W env m s.heap)(R:Rel C W H s.heap)
  (hr:C.mg (Str.ofString x)=some rv∨(C.mg (Str.ofString x)=none/\C.mb (Str.ofString x)=some rv)) (h:Q rv s):wpAny (be C) A (loadGlobal env (Str.ofString x)) Q no s:=by
 have g:s.heap.Ns env.globals C.mg:=by refine rG F.glob ?_;exact wS R.keep ok.g
 haveI b:s.heap.Ns env.builtins C.mb:=by refine rG F.bi ?_;exact wS R.keep ok.b
 rcases hr with hr|⟨h0,hr⟩
 .exact loadGlobal_global g hr h
 .exact loadGlobal_builtin g h0 b hr h
theorem Tu(ok:C.Ok)(tok:T.Ok C)(x:String):SE C T n (.glob x):=by
 intro A e env m W H s Q rm hm F R h;refine bX (Fh hm) λp o6 h1 h2=>?_;subst o6;refine ab h λv e h=>?_;refine ab (tok.glob x v e) λrv hr r=>?_;exact Calls.Name_function_global F.kind h1 (ul ok F R hr (aN.here R (r W R.base) h)) (uk h2).1
theorem Tv{op:Operator}(ha:SE C T n a)(hb:SE C T n b):SE C T n (.bin op a b):=by
 intro A e env m W H s Q rm hm F R h;refine bJ (S8 hm) λl r p o7 h1 h2=>?_;subst o7;refine wpAny_BinOp (bT (ha A l env m W H s _ rm h1 F R h) λu ak aK aj x ai ru h=>?_);refine bT (hb A r env m aK aj ak _ rm h2 (F.next ai) ai.rel h) λv aZ cn aA z aG rv h=>?_;exact imp (Sk h aG.rel (ru.mono aG.ext) rv) λw cP p=>(p.trans aG).trans ai
theorem Tw(ha:SE C T n a):SE C T n (.neg a):=by
 intro A e env m W H s Q rm hm F R h;refine bM (inv_neg hm) λl p o8 h1=>?_;subst o8;refine wpAny_UnaryOp (bT (ha A l env m W H s _ rm h1 F R h) λu ak aK aj x ai ru Tx=>ab Tx λi e h=>?_);subst e;refine ag (cz ru) λt o9=>?_;subst o9;exact PyProof.Rows.neg_int (aN.trans ai (aN.toks ai.rel (.int _ _) h))
theorem Tz(ha:SE C T n a):SE C T n (.fQ a):=by
 intro A e env m W H s Q rm hm F R h;refine bM (Fj hm) λl p cY h1=>?_;subst cY;refine wpAny_UnaryOp (bT (ha A l env m W H s _ rm h1 F R h) λu ak aK aj x ai ru h=>?_);exact not_value (mB (oQ h ai.rel ru) λb aZ cn aA aG h=>aN.trans ai (aN.trans aG (aN.here aG.rel (.bool _) h)))
theorem FG{E:Value->Shared->Prop}{Q:Value->Shared->Prop}
  (h:wpAny M A x (λv ak=>wpAny M A (truthy v) (λt aZ=>match op,t with| .And,false| .Or,true=>Q v aZ|_,_=>wpAny M A y Q E aZ) E ak) E s):wpAny M A (boolOp pos op [x,y]) Q E s:=by
 refine aw (cO h (λv ak df=>aw (f6 (aw (cW (cO df (λt aZ kM=>?_) λU U x=>x))))) λU U x=>x);cases op<;>cases t<;>first|exact ba kM|exact kM
theorem TA{a b:X}(ha:SE C T n a)(hb:SE C T n b):SE C T n (.eE a b):=by
 intro A e env m W H s Q rm hm F R h;refine bJ (Fm hm) λl r p eb h1 h2=>?_;subst eb;rw[arm_eval_BoolOp];refine FG (bT (ha A l env m W H s _ rm h1 F R h) λu ak aK aj x ai ru h=>?_);refine mB (oQ h ai.rel ru) λt aZ cn aA aG h=>?_;cases t
 .exact aN.trans ai (aN.trans aG (aN.here aG.rel (ru.mono aG.ext) h))
 .exact imp (hb A r env m cn aA aZ _ rm h2 ((F.next ai).next aG) aG.rel h) λv cP p=>(p.trans aG).trans ai
theorem TB{a b:X}(ha:SE C T n a)(hb:SE C T n b):SE C T n (.gn a b):=by
 intro A e env m W H s Q rm hm F R h;refine bJ (Fn hm) λl r p f8 h1 h2=>?_;subst f8;rw[arm_eval_BoolOp];refine FG (bT (ha A l env m W H s _ rm h1 F R h) λu ak aK aj x ai ru h=>?_);refine mB (oQ h ai.rel ru) λt aZ cn aA aG h=>?_;cases t
 .exact imp (hb A r env m cn aA aZ _ rm h2 ((F.next ai).next aG) aG.rel h) λv cP p=>(p.trans aG).trans ai
 .exact aN.trans ai (aN.trans aG (aN.here aG.rel (ru.mono aG.ext) h))
theorem TC(ok:C.Ok){op:CmpOp}(ha:SE C T n a)(hb:SE C T n b):SE C T n (.cmp op a b):=by
 intro A e env m W H s Q rm hm F R h;refine jI (Fp hm) λl r p iC h1 h2 h3=>?_;subst iC;refine wpAny_Compare1 (bT (ha A l env m W H s _ rm h1 F R h) λu ak aK aj x ai ru h=>?_) h3;refine bT (hb A r env m aK aj ak _ rm h2 (F.next ai) ai.rel h) λv aZ cn aA z aG rv h=>?_;exact imp (rT ok rm h aG.rel (ru.mono aG.ext) rv) λw cP p=>(p.trans aG).trans ai
theorem TD(ok:C.Ok){op:CmpOp}(ha:SE C T n a)(hb:SE C T n b):SB C T n (.cmp op a b):=by
 intro A e env m W H s Q rm hm F R h;refine jI (Fp hm) λl r p nM h1 h2 h3=>?_;subst nM;refine wpAny_isTrue_Compare1 (bT (ha A l env m W H s _ rm h1 F R h) λu ak aK aj x ai ru h=>?_) h3;refine bT (hb A r env m aK aj ak _ rm h2 (F.next ai) ai.rel h) λv aZ cn aA z aG rv h=>?_;refine bT (rT ok rm h aG.rel (ru.mono aG.ext) rv) λw cP eS bh t ci rt h=>?_;exact imp (oQ h ci.rel rt) λb i1 p=>((p.trans ci).trans aG).trans ai
theorem TF{E:Value->Shared->Prop}{Q:Value->Shared->Prop}
  (h:wpAny M A x (λv ak=>wpAny M A (compareOp o l v) (λc aZ=>wpAny M A (truthy c) (λt cP=>if t then wpAny M A y (λw i1=>wpAny M A (compareOp p v w) Q E i1) E cP else Q c cP) E aZ) E ak) E s):
  wpAny M A (compareChain pos l [o,p] [x,y]) Q E s:=by
 refine aw (cW (cO h (λv ak df=>aw (f6 (aw (cW (cO df (λc aZ kM=>aw (wpAny_release (aw (cW (cO kM (λt cP fq=>?_) λU U x=>x))))) λU U x=>x))))) λU U x=>x));cases t
 .exact ba fq
 .exact aw (cW (cO fq (λw i1 nO=>aw (f6 (wpAny_operate' nO))) λU U x=>x))
theorem TG{E:Value->Shared->Prop}{Q:Bool->Shared->Prop}
  (h:wpAny M A x (λv ak=>wpAny M A (compareOp o l v) (λc aZ=>wpAny M A (truthy c) (λt cP=>if t then wpAny M A y (λw i1=>wpAny M A (compareOp p v w) (λd oS=>wpAny M A (truthy d) Q E oS) E i1) E cP else Q false cP) E aZ) E ak) E s):
  wpAny M A (testChain pos l [o,p] [x,y]) Q E s:=by
 refine aw (cW (cO h (λv ak df=>aw (f6 (aw (cW (cO df (λc aZ kM=>aw (wpAny_release (aw (cW (cO kM (λt cP fq=>?_) λU U x=>x))))) λU U x=>x))))) λU U x=>x));cases t
 .exact ba fq
 .exact aw (cW (cO fq (λw i1 nO=>aw (f6 (aw (wpAny_operate' (cO nO (λd oS zV=>cW zV) λU U x=>x))))) λU U x=>x))
theorem TH(ok:C.Ok){o q:CmpOp}(ha:SE C T n a)(hb:SE C T n b)(hc:SE C T n c):SE C T n (.kD o q a b c):=by
 intro A e env m W H s Q rm hm F R h;refine wt (Fq hm) λl x r p ml h1 h2 h3 h4=>?_;subst ml;rw[arm_eval_Compare];refine aw (bT (ha A l env m W H s _ rm h1 F R h) λu ak aK aj U ai ru h=>?_);simp only[markedEach,evalEach,markedBehindIn_of_false h4];refine TF (bT (hb A x env m aK aj ak _ rm h2 (F.next ai) ai.rel h) λv aZ cn aA U aG rv h=>?_);refine bT (rT ok rm h aG.rel (ru.mono aG.ext) rv) λw cP eS bh U ci rt h=>?_;refine mB (oQ h ci.rel rt) λt i1 mD cm gI h=>?_;cases t
 .exact aN.trans ai (aN.trans aG (aN.trans ci (aN.trans gI (aN.here gI.rel (rt.mono gI.ext) h))))
 .refine bT (hc A r env m mD cm i1 _ rm h3 ((((F.next ai).next aG).next ci).next gI) gI.rel h) λz oS TJ iZ U qo rz h=>?_;exact imp (rT ok rm h qo.rel (((rv.mono ci.ext).mono gI.ext).mono qo.ext) rz) λw cP p=>((((p.trans qo).trans gI).trans ci).trans aG).trans ai
theorem TK(ok:C.Ok){o q:CmpOp}(ha:SE C T n a)(hb:SE C T n b)(hc:SE C T n c):SB C T n (.kD o q a b c):=by
 intro A e env m W H s Q rm hm F R h;refine wt (Fq hm) λl x r p mn h1 h2 h3 h4=>?_;subst mn;rw[arm_isTrue_Compare];refine aw (bT (ha A l env m W H s _ rm h1 F R h) λu ak aK aj U ai ru h=>?_);simp only[markedEach,evalEach,markedBehindIn_of_false h4];refine TG (bT (hb A x env m aK aj ak _ rm h2 (F.next ai) ai.rel h) λv aZ cn aA U aG rv h=>?_);refine bT (rT ok rm h aG.rel (ru.mono aG.ext) rv) λw cP eS bh U ci rt h=>?_;refine mB (oQ h ci.rel rt) λt i1 mD cm gI h=>?_;cases t
 .exact jk.trans ai (jk.trans aG (jk.trans ci (jk.trans gI ⟨_,_,.refl gI.rel,h⟩)))
 .refine bT (hc A r env m mD cm i1 _ rm h3 ((((F.next ai).next aG).next ci).next gI) gI.rel h) λz oS TJ iZ U qo rz h=>?_;refine bT (rT ok rm h qo.rel (((rv.mono ci.ext).mono gI.ext).mono qo.ext) rz) λw afI afJ wK U FH rw h=>?_;exact imp (oQ h FH.rel rw) λb afK p=>(((((p.trans FH).trans qo).trans gI).trans ci).trans aG).trans ai
theorem TL{t a b:X}(ht:SB C T n t)(ha:SE C T n a)(hb:SE C T n b):SE C T n (.jh t a b):=by
 intro A e env m W H s Q rm hm F R h;refine nn (S9 hm) λt' a' b' p lE h1 h2 h3=>?_;subst lE;refine wpAny_IfExp (mB (ht A t' env m W H s _ rm h1 F R h) λc ak aK aj ai h=>?_);cases c
 .exact imp (hb A b' env m aK aj ak _ rm h3 (F.next ai) ai.rel h) λv cP p=>p.trans ai
 .exact imp (ha A a' env m aK aj ak _ rm h2 (F.next ai) ai.rel h) λv cP p=>p.trans ai
theorem TM(ha:SB C T n a):SB C T n (.fQ a):=by
 intro A e env m W H s Q rm hm F R h;refine bM (Fj hm) λl p mq h1=>?_;subst mq;exact wpAny_isTrue_Not (mB (ha A l env m W H s _ rm h1 F R h) λU U W' H' y q=>⟨W',H',y,q⟩)
theorem TN{a b:X}(ha:SB C T n a)(hb:SB C T n b):SB C T n (.eE a b):=by
 intro A e env m W H s Q rm hm F R h;refine bJ (Fm hm) λl r p qf h1 h2=>?_;subst qf;refine wpAny_isTrue_BoolOp (wpAny_allTrue_And_cons (mB (ha A l env m W H s _ rm h1 F R h) λc ak aK aj ai h=>?_));cases c
 .exact jk.trans ai ⟨_,_,.refl ai.rel,h⟩
 .refine wpAny_allTrue_And_cons (imp (hb A r env m aK aj ak _ rm h2 (F.next ai) ai.rel h) λc aZ p=>?_);cases c
  .exact p.trans ai
  .exact wpAny_allTrue_And_nil (p.trans ai)
theorem TO{a b:X}(ha:SB C T n a)(hb:SB C T n b):SB C T n (.gn a b):=by
 intro A e env m W H s Q rm hm F R h;refine bJ (Fn hm) λl r p qg h1 h2=>?_;subst qg;refine wpAny_isTrue_BoolOp (wpAny_allTrue_Or_cons (mB (ha A l env m W H s _ rm h1 F R h) λc ak aK aj ai h=>?_));cases c
 .refine wpAny_allTrue_Or_cons (imp (hb A r env m aK aj ak _ rm h2 (F.next ai) ai.rel h) λc aZ p=>?_);cases c
  .exact wpAny_allTrue_Or_nil (p.trans ai)
  .exact p.trans ai
 .exact jk.trans ai ⟨_,_,.refl ai.rel,h⟩
end
section
variable{C:Cfg}{T:bG}{n:Nat}
theorem rZ(es:List Expr)(env:Env)(h:notStar e=true):starEach (e::es) env=(false,eval e env)::starEach es env:=by
 cases e<;>first|rfl|exact Ft h
theorem r7(h:l.any (·.1)=false):(backTo pos l).any (·.1)=false:=by
 unfold backTo;refine rG List.any_map ?_;exact h
theorem um: ∀{xs:List X} {es:List Expr} (env:Env),gp ns xs es=true->(starEach es env).any (·.1)=false
 |[],[],env,_=>rfl
 |[],_::_,_,h=>(lw h).elim
 |_::_,[],_,h=>(lw h).elim
 |x::xs,e::es,env,h=>by
  refine b9 (gA h) λh1 U h3=>?_;refine rG (rZ es env h1) (rG List.any_cons (rG (Bool.false_or _) ?_));exact um (xs:=xs) env h3
theorem TP: ∀{xs:List X} {es:List Expr},gp ns xs es=true->xs.length=es.length
 |[],[],_=>rfl
 |[],_::_,h=>(lw h).elim
 |_::_,[],h=>(lw h).elim
 |x::xs,e::es,h=>by
  exact rG fh (rG fh (rG (TP (aY (aY h))) rfl))
theorem TQ:mz C T n []:=by
 intro A es pos env m W H s acc pre Q rm hm F R ra h
 cases es with
 |cons e es=>exact Ft hm
 |nil=>
  exact Calls.spliced_nil ⟨W,H,acc,.refl R,by refine rG (f5 _) ?_;exact ra,h⟩
theorem TR(hx:SE C T n x)(hs:mz C T n xs):mz C T n (x::xs):=by
 intro A es pos env m W H s acc pre Q rm hm F R ra h
 cases es with
 |nil=>exact Ft hm
 |cons e es=>
  refine b9 (gA hm) λh1 h2 h3=>?_;refine rG (rZ es env h1) ?_;refine(?_:wpAny _ A (spliced ((false,eval e env)::backTo pos (starEach es env))) _ _ s);refine Calls.spliced_cons (bT (hx A e env m W H s _ rm h2 F R h) λu ak aK aj y ai ru h=>?_);refine qn (hs A es pos env m aK aj ak _ (pre++[u]) _ rm h3 (F.next ai) ai.rel ((aF.snoc ?_ ru)) h) λvs aZ cn aA bs aG rb q=>?_
  .exact ra.mono ai.ext
  .exact⟨cn,aA,bs,ai.trans aG,by haveI rb:=(iu _ _ _)▸rb;exact rb,q⟩
theorem TS(hs:mz C T n xs):SE C T n (.list xs):=by
 intro A e env m W H s Q rm hm F R h;refine bM (Ta hm) λes p o1 h1=>?_;subst o1;refine List_ (qn (hs A es p env m W H s [] [] _ rm h1 F R .nil h) λvs ak aK aj bs ai rb TU=>aE TU λhz h=>?_);haveI rb:=(gD _)▸rb;exact wpAny_newList (aN.trans ai (tY ai.rel h rb 0 _)) (by refine rG rb.length ?_;exact iB hz)
theorem TV(hs:mz C T n xs):SE C T n (.tup xs):=by
 intro A e env m W H s Q rm hm F R h;refine cM (Tb hm) λes k p o2 h1=>?_;subst o2;refine Tuple_ (qn (hs A es p env m W H s [] [] _ rm h1 F R .nil h) λvs ak aK aj bs ai rb TX=>aE TX λhz h=>?_);haveI rb:=(gD _)▸rb;exact wpAny_newTuple (aN.trans ai (tZ ai.rel h rb _)) (by refine rG rb.length ?_;exact iB hz)
theorem TY:SE C T n .lA:=by
 intro A e env m W H s Q rm hm F R h;refine ag (Tc hm) λp o3=>?_;subst o3;exact wpAny_Dict_empty (Si R h _)
theorem TZ{K:Frag}(hk:callable K f=true)(h:Heap)(X:K.In h): ∃k,(k=Keeper.frame∨k=Keeper.machine∨k=Keeper.boundFrame)/\Looks M h (keeperOf f) k:=by
 cases f with
 |ref a=>exact keeps_K (f:=.ref a) hk h X
 |_=>exact⟨_,.inr (.inl rfl),Looks.now⟩
theorem wT{K:Frag}{E:Value->Shared->Prop}{Q:Value->Shared->Prop}(hc:callable K f=true)(hm:gp ns xs es=true)
  (h:wpAny M A (spliced (backTo pos (starEach es env))) (λvs ak=>K.In ak.heap/\wpAny M A (call f (first++vs) []) Q E ak) E s):
  wpAny M A (callWith pos f first (backTo pos (starEach es env)) []) Q E s:=by
 refine callWith_of (by refine rG (r7 (um env hm)) ?_;rfl) (TZ hc) ?_
 cases es with
 |nil=>
  refine aw (cO h (λvs ak df=>?_) λU U x=>x);refine aw (ba ?_);refine cW ?_;exact aw (ba (aw (ba (ba df))))
 |cons e es=>
  cases xs with
  |nil=>exact Ft hm
  |cons x xs=>
   rw[rZ es env (aV hm)] at h ⊢;exact Calls.evalArgs_plain h
theorem FJ(rm:dD n A)(F:bl C W env m s.heap)(R:Rel C W H s.heap)(rf:VR C.h₀ W fv f)(rb:aF C.h₀ W vs bs)(h:aM C n f bs Q H):
  wpAny (be C) A (call fv vs []) (aN C W s Q) no s:=by
 refine ab F.lv λmm hn U=>?_;exact h A W s env.locals mm fv vs rm R hn F.off rf rb
theorem Rel.du(ok:C.Ok)(R:Rel C W H h):C.K.In h:=ok.du.keeps R.keep
theorem FK(ok:C.Ok)(tok:T.Ok C)(hs:mz C T n xs):SE C T n (.call f xs):=by
 intro A e env m W H s Q rm hm F R h;refine wt (Fs hm) λx p es q o4 o5 h1 h2 h3=>?_;subst o4;subst o5;refine ab h λv e T0=>?_;refine aE T0 λlF h=>?_;refine ag lF λg ue=>?_;subst ue;obtain ⟨rv,hr,r⟩:=tok.glob x _ e;have r:=r W R.base;cases r;refine wpAny_Call_ofName (Calls.Name_function_global F.kind h1 (ul ok F R hr ?_) (uk h2).1);refine wT (tok.call _ _ e) h3 (qn (hs A es q env m W H s [] [] _ rm h3 F R .nil h) λvs ak aK aj bs ai rb h=>⟨ai.rel.du ok,?_⟩);haveI rb:=(gD _)▸rb;exact imp (FJ rm (F.next ai) ai.rel (.con _) rb h) λv aZ p=>p.trans ai
theorem FL(h:oR o=true):attributeBase o attr env whole=whole:=by
 cases o with
 |Call f as ks p=>
  cases f with
  |Name y q=>
   cases as with
   |cons _ _=>rfl
   |nil=>
    cases ks with
    |cons _ _=>rfl
    |nil=>exact(lw h).elim
  |_=>rfl
 |_=>rfl
theorem FM(h1:args.any (·.1)=false)(h2:mw.all (·.1.isSome)=true)(h3:N<29):methodCallForm N args mw=true:=by
 unfold methodCallForm;haveI:args.all (λx=>!x.1)=true:=by
  refine rG List.all_eq_not_any_not ?_;simpa using h1
 refine rG this (rG h2 ?_);simp only[Bool.and_self,Bool.true_and,bf];split<;>(first|exact aX h3 rfl|exact bI h3 rfl)
theorem FO{E:Value->Shared->Prop}{Q:Value->Shared->Prop}
  (hb:oR o=true) (hl:(apos.endLine==pos.line)=true) (hn:es.length+mw.length<29) (hs:(starEach es env).any (·.1)=false) (hk:(backToKw pos (keywordEach mw env)).all (·.1.isSome)=true)
  (h:wpAny M A (eval o env) (λov ak=>wpAny M A (getMethod ov name (do return (<-importBound o env).getD true)) (λfx aZ=>wpAny M A (callWith pos fx.1 fx.2 (backTo pos (starEach es env)) (backToKw pos (keywordEach mw env))) Q E aZ) E ak) E s):
  wpAny M A (eval (.Call (.Attribute o name apos) es mw pos) env) Q E s:=by
 (rewrite [arm_eval_Call];refine rG (FL hb) ?_)
 refine aw (cO h (λov ak df=>aw (f6 ?_)) λU U x=>x);unfold methodCall;refine rG (FM (r7 hs) hk hn) ?_;refine aw (cW ?_);refine cO df (λfx aZ kM=>?_) λU U x=>x;haveI lG:methodCallPos true o env apos pos=pure pos:=by unfold methodCallPos;simp[hl]
 exact aw (wpAny_of_eq lG kM)
theorem T1{K:Frag}(h:fnIn K g=true):callable K (.ref g)=true:=by
 refine(?_:keepIn K (.ref g)=true);unfold fnIn at h;show (match K.lookup g with
   |some ⟨_,_,.func _,_⟩=>true
   |some ⟨_,_,.cls _,_⟩=>specialIn K (.ref g) "__call__" ==some (some (.builtin "type.__call__"))
   |_=>false)=true
 cases q:K.lookup g with
 |none=>replace h:=q▸h;exact Ft h
 |some o=>
  haveI h:=q▸h;obtain ⟨c,d,dt,sl⟩:=o;cases dt<;>first|rfl|exact Ft h
theorem T2(h:eO r name bs Q H)(R:Rel C W H s.heap)(pa:W.ρ r=some a)(rb:aF C.h₀ W vs bs):
  wpAny (be C) A (call (.builtin ("list." ++name)) (.ref a::vs)) (aN C W s Q) no s:=by
 rcases h with ⟨xs,v,e,rfl,rfl,hz,h⟩|⟨xs,r',ys,e,rfl,rfl,bt,e',hz,h⟩
 .refine bJ (eP R e) λa' nP k qa ho r1=>?_;replace qa:=pa▸qa;cases qa;refine bE rb.inv λU U o8 rv rn=>?_;subst o8;obtain rfl:=rn.me;refine wpAny_list_append_plain ⟨_,ho⟩ (λh' hp sb=>?_) (by refine rG cy (rG r1.length ?_);exact iB hz);refine ag hp λk' bn=>?_;clear hp;refine⟨_,_,_,an.upd (mo':=.list (xs++[v])) (tk:=s.toks) R pa e sb ⟨_,k',?_,r1.snoc rv⟩,.none,h⟩;refine rG bn ?_;simp[PySem.W.listOf]
 .refine bJ (eP R e) λa' nP k qa ho r1=>?_;replace qa:=pa▸qa;cases qa;refine bE rb.inv λU U o9 rv rn=>?_;subst o9;obtain rfl:=rn.me;refine ab (dQ rv) λb cY pb=>?_;subst cY;refine bJ (eP R e') λb' ws k' qb T3 r2=>?_;replace qb:=pb▸qb;cases qb;haveI fT:nP.toArray.size+ws.toArray.size<=sizeLine:=by refine rG cy (rG cy (rG r1.length (rG r2.length ?_)));exact iB hz
  refine call_meets PySem.F.slot_list_extend ⟨_,ho,rfl⟩ PySem.F.entry_list_extend (PySem.F.args_list_extend_2 _ _) (AutoSeq1.list_extend_list_list_0 a nP.toArray k b ws.toArray k' (extend_door fT) (eM (Nat.le_add_right _ _) fT) (eM fT (jR _))) ⟨ho,T3,?_⟩;refine ag (zJ (f:=λx=>x++ws.toArray) (ws:=nP++ws) ho (by simp)) λk2 kN=>?_;exact⟨_,_,_,an.upd (mo':=.list (xs++ys)) (tk:=s.toks) R pa e (oI ..) ⟨_,_,kN,r1.append r2⟩,.none,h⟩
theorem FP(ok:C.Ok)(tok:T.Ok C){name:String}(ho:SE C T n o)(hs:mz C T n xs):SE C T n (.ao o name xs):=by
 intro A e env m W H s Q rm hm F R h;refine Kt (Fv hm) λe' ap es pos eb h1 h2 h3 h4 h5=>?_;subst eb;refine FO h5 h3 (by simp;exact bI h4 rfl) (um env h2) rfl (bT (ho A e' env m W H s _ rm h1 F R h) λov ak aK aj x ai ro T4=>ab T4 λr e h=>?_);subst e;refine ab (dQ ro) λa f8 pa=>?_;subst f8;refine ab ((F.next ai).lv) λmm hn U=>?_;rcases h with ⟨Cl,d,k,fs,f,e1,e2,e3,hf,h⟩|⟨T5,⟨ys,e1⟩,h⟩
 .refine De (ub ai.rel e1 e2) λa' dx mf m' qa qd I hd hz U z=>?_;replace qa:=pa▸qa;cases qa;refine ab (E5 (tok.ao _ _ _ hf)) λg iC zt=>?_;subst iC;refine eK (fg zt) λa1 U a3 a4 a5 U=>?_;refine method_inst (ai.rel.fr hn (F.next ai).off) ok.du I a1 (eq_of_beq a3) a4 ((z name).1 e3) ?_;refine wT (T1 a5) h2 (qn (hs A es pos env m aK aj ak [] [] _ rm h2 (F.next ai) ai.rel .nil h) λvs aZ cn aA bs aG rb h=>⟨aG.rel.du ok,?_⟩);haveI rb:=(gD _)▸rb;exact imp (FJ rm ((F.next ai).next aG) aG.rel (.con _) (.cons (ro.mono aG.ext) rb) h) λv aZ p=>(p.trans aG).trans ai
 .refine bJ (eP ai.rel e1) λa' nP k qa r9 r1=>?_;replace qa:=pa▸qa;cases qa;haveI fin:wpAny (be C) A (callWith pos (.builtin ("list." ++name)) [.ref a] (backTo pos (starEach es env)) (backToKw pos (keywordEach [] env))) (aN C W s Q) no ak:=by
   refine wT (K:=C.K) rfl h2 (qn (hs A es pos env m aK aj ak [] [] _ rm h2 (F.next ai) ai.rel .nil h) λvs aZ cn aA bs aG rb h=>⟨aG.rel.du ok,?_⟩);haveI rb:=(gD _)▸rb;exact imp (T2 h aG.rel (aG.ext.r _ _ pa) rb) λv aZ p=>(p.trans aG).trans ai
  haveI hd: ∀b,Value.ref a=.ref b-> ∃o,ak.heap.get? b=some o/\o.dict=none:=λb e=>by cases e;exact⟨_,r9,rfl⟩
  rcases T5 with rfl|rfl
  .exact getMethod_builtin (eQ r9).typeIs PySem.F.plainAttrs_list PySem.F.slot_list_append PySem.F.type_list_append hd fin
  .exact getMethod_builtin (eQ r9).typeIs PySem.F.plainAttrs_list PySem.F.slot_list_extend PySem.F.type_list_extend hd fin
theorem FQ(ok:C.Ok)(tok:T.Ok C)(ho:SE C T n o):SE C T n (.attr o name):=by
 intro A e env m W H s Q rm hm F R h;refine bE (Fw hm) λe' p nM h1 h2=>?_;subst nM
 (rewrite [arm_eval_Attribute];refine rG (FL h2) ?_)
 refine aw (bT (ho A e' env m W H s _ rm h1 F R h) λov ak aK aj x ai ro h=>aw (f6 (aw (cW ?_))));refine ab ((F.next ai).lv) λmm hn U=>?_;exact imp (Sx ok tok h ai.rel hn (F.next ai).off ro) λv aZ p=>aw (wpAny_letTemporaryGo (ba (p.trans ai)))
theorem FR(ho:SE C T n o)(hi:SE C T n i):SE C T n (.sub o i):=by
 intro A e env m W H s Q rm hm F R h;refine bJ (Fx hm) λe' j p ml h1 h2=>?_;subst ml;rw[arm_eval_Subscript];refine aw (bT (ho A e' env m W H s _ rm h1 F R h) λov ak aK aj x ai ro h=>?_);refine aw (cW (bT (hi A j env m aK aj ak _ rm h2 (F.next ai) ai.rel h) λiv aZ cn aA z aG ri h=>aw (f6 ?_)));exact imp (SJ (value:=e') (slice:=j) h aG.rel (ro.mono aG.ext) ri) λv cP p=>(p.trans aG).trans ai
theorem evalPart_some{E:Value->Shared->Prop}{Q:Value->Shared->Prop}(h:wpAny M A (eval e env) Q E s):wpAny M A (evalPart (some e) env) Q E s:=h
theorem evalPart_none{E:Value->Shared->Prop}{Q:Value->Shared->Prop}(h:Q .none s):wpAny M A (evalPart none env) Q E s:=ba h
theorem T6(ho:SE C T n o)(hi:SE C T n i):SE C T n (.jS o i):=by
 intro A e env m W H s Q rm hm F R h;refine f4 (Tj hm) λe' j p q mn h1 h2=>?_;subst mn;rw[arm_eval_Subscript];refine aw (bT (ho A e' env m W H s _ rm h1 F R h) λov ak aK aj x ai ro h=>?_);refine aw (cW (wpAny_Slice (evalPart_some (bT (hi A j env m aK aj ak _ rm h2 (F.next ai) ai.rel h) λiv aZ cn aA z aG ri h=>evalPart_none (evalPart_none (aw (f6 ?_)))))));haveI ci:=an.push (D:=λU=>False) aG.rel {cls:=.type "slice",data:=.fields #[iv,.none,.none]} aZ.toks;exact imp (SY (value:=e') (slice:=.Slice (some j) none none q) h ci.rel ((ro.mono aG.ext).mono ci.ext) (ri.mono ci.ext) ⟨_,hE _ rfl,rfl,rfl⟩) λv cP p=>((p.trans ci).trans aG).trans ai
theorem T7(ho:SE C T n o)(hi:SE C T n i):SE C T n (.kE o i):=by
 intro A e env m W H s Q rm hm F R h;refine f4 (Tk hm) λe' j p q lE h1 h2=>?_;subst lE;rw[arm_eval_Subscript];refine aw (bT (ho A e' env m W H s _ rm h1 F R h) λov ak aK aj x ai ro h=>?_);refine aw (cW (wpAny_Slice (evalPart_none (evalPart_some (bT (hi A j env m aK aj ak _ rm h2 (F.next ai) ai.rel h) λiv aZ cn aA z aG ri h=>evalPart_none (aw (f6 ?_)))))));haveI ci:=an.push (D:=λU=>False) aG.rel {cls:=.type "slice",data:=.fields #[.none,iv,.none]} aZ.toks;exact imp (S0 (value:=e') (slice:=.Slice none (some j) none q) h ci.rel ((ro.mono aG.ext).mono ci.ext) (ri.mono ci.ext) ⟨_,hE _ rfl,rfl,rfl⟩) λv cP p=>((p.trans ci).trans aG).trans ai
end
section
variable{C:Cfg}{T:bG}{n:Nat}
theorem zW(rm:dD n A)(F:bl C W env m s.heap)(R:Rel C W H s.heap)(ra:VR C.h₀ W av a)(rk:VR C.h₀ W kv k)(h:lB C n zz a k rev Q H):
  wpAny (be C) A (call (.builtin zz) [av] (((Str.ofString "key"),kv)::qe rev)) (aN C W s Q) no s:=by
 refine ab F.lv λmm hn U=>?_;exact h A W s env.locals mm av kv rm R hn F.off ra rk
theorem T8{E:Value->Shared->Prop}{Q:List Value->Shared->Prop}(h:wpAny M A (eval ke env) (λv=>Q [v]) E s):
  wpAny M A (evalAll ((backToKw pos (keywordEach [⟨some ("key" :Str),ke,p⟩] env)).map (·.2))) Q E s:=
 wpAny_evalAll_cons (aw (cO h (λU U df=>aw (f6 (ba (wpAny_evalAll_nil df)))) λU U x=>x))
theorem FS{E:Value->Shared->Prop}{Q:List Value->Shared->Prop}(h:wpAny M A (eval ke env) (λv=>Q [v,.bool true]) E s):
  wpAny M A (evalAll ((backToKw pos (keywordEach [⟨some ("key" :Str),ke,p⟩,⟨some ("reverse" :Str),.Constant (.bool true) c d,g⟩] env)).map (·.2))) Q E s:=
 wpAny_evalAll_cons (aw (cO h (λU U df=>aw (f6 (ba (wpAny_evalAll_cons (aw (Constant_bool (aw (f6 (ba (wpAny_evalAll_nil df))))))))))
  λU U x=>x))
theorem T9(ok:C.Ok)(tok:T.Ok C)(ha:SE C T n a)(hk:SE C T n k):SE C T n (.ji a k rev):=by
 intro A e env m W H s Q rm hm F R h;refine wu (Th hm) λp e' mw q ke o1 h1 h2 h3 h4=>?_;subst o1;refine wpAny_Call_ofName (Calls.Name_function_global F.kind h1 (ul ok F R (.inr tok.Sr) ?_) (by decide));have gq:=rZ [] env (Tn h2);rcases h4 with ⟨rfl,p',rfl⟩|⟨rfl,p',c,d,g,rfl⟩
 .refine callWith_builtin_kwB (r7 (by refine rG gq ?_;rfl)) rfl (evalArgs_kw2 rfl ?_ gq);refine rG gq ?_;refine Calls.spliced_cons (bT (ha A e' env m W H s _ rm h2 F R h) λu ak aK aj x ai ru h=>Calls.spliced_nil (T8 ?_));refine bT (hk A ke env m aK aj ak _ rm h3 (F.next ai) ai.rel h) λv aZ cn aA z aG rv h=>?_;exact imp (zW rm ((F.next ai).next aG) aG.rel (ru.mono aG.ext) rv h) λw cP p=>(p.trans aG).trans ai
 .refine callWith_builtin_kwB (r7 (by refine rG gq ?_;rfl)) rfl (evalArgs_kw2 rfl ?_ gq);refine rG gq ?_;refine Calls.spliced_cons (bT (ha A e' env m W H s _ rm h2 F R h) λu ak aK aj x ai ru h=>Calls.spliced_nil (FS ?_));refine bT (hk A ke env m aK aj ak _ rm h3 (F.next ai) ai.rel h) λv aZ cn aA z aG rv h=>?_;exact imp (zW rm ((F.next ai).next aG) aG.rel (ru.mono aG.ext) rv h) λw cP p=>(p.trans aG).trans ai
theorem Ua(ho:SE C T n o)(hk:SE C T n k):SE C T n (.nI o k):=by
 intro A e env m W H s Q rm hm F R h;refine oC (Ti hm) λe' ap pos ke p c lI=>?_;refine gX lI λd g o2 h1 h2 h3 h4=>?_;clear lI;subst o2;refine FO h4 h3 (by simp) rfl rfl (imp (ho A e' env m W H s _ rm h1 F R h) λov ak hq=>?_);obtain ⟨aK,aj,x,ai,ro,⟨r,xs,e,e1⟩,h⟩:=hq;subst e;have Ub:=ro;refine ab (dQ ro) λa o4 pa=>?_;subst o4;refine bJ (eP ai.rel e1) λa' nP j qa r9 r1=>?_;replace qa:=pa▸qa;cases qa;have hd: ∀b,Value.ref a=.ref b-> ∃o,ak.heap.get? b=some o/\o.dict=none:=λb e=>by cases e;exact⟨_,r9,rfl⟩
 refine getMethod_builtin (eQ r9).typeIs PySem.F.plainAttrs_list PySem.F.slot_list_sort PySem.F.type_list_sort hd ?_;refine callWith_builtin_kwB rfl rfl (evalArgs_kw2_nil rfl (FS ?_));refine bT (hk A ke env m aK aj ak _ rm h2 (F.next ai) ai.rel h) λv aZ cn aA z aG rv h=>?_;exact imp (zW rm ((F.next ai).next aG) aG.rel (Ub.mono aG.ext) rv h) λw cP p=>(p.trans aG).trans ai
theorem sd{Q:Bool->MH->Prop}(hx:SE C T n x)(rm:dD n A)(hm:mt env.scope.names x e=true)(F:bl C W env m s.heap)(R:Rel C W H s.heap)
  (he:isTrue e env (eval e env)=(do let v<-eval e env;standAt e.pos;holding [v] (truthy v))) (h:al C T n m x (λv aj=>fD v Q aj) H):wpAny (be C) A (isTrue e env (eval e env)) (jk C W s Q) no s:=by
 refine wpAny_isTrue_value (bT (hx A e env m W H s _ rm hm F R h) λu ak aK aj x ai ru h=>?_) he;exact imp (oQ h ai.rel ru) λb aZ p=>p.trans ai
theorem Uc(b:Bool):SB C T n (.bool b):=by
 intro A e env m W H s Q rm hm F R h;have jp:=hm;refine dM (Ff hm) λk p o5=>?_;subst o5;exact sd (T:=T) (FD b) rm jp F R rfl (by exact h)
theorem Ud(x:String):SB C T n (.var x):=by
 intro A e env m W H s Q rm hm F R h;have jp:=hm;refine ab (Fg hm) λp o6 U=>?_;subst o6;exact sd (T:=T) (FE x) rm jp F R rfl (by exact h)
theorem Ue(ok:C.Ok)(tok:T.Ok C)(hs:mz C T n xs):SB C T n (.call f xs):=by
 intro A e env m W H s Q rm hm F R h;have jp:=hm;refine f4 (Fs hm) λx p es q o7 o8 U=>?_;subst o7;subst o8;exact sd (FK ok tok hs) rm jp F R rfl (by exact h)
theorem Uf(ok:C.Ok)(tok:T.Ok C)(ho:SE C T n o)(hs:mz C T n xs):SB C T n (.ao o name xs):=by
 intro A e env m W H s Q rm hm F R h;have jp:=hm;refine tK (Fv hm) λe' ap es pos o9 U=>?_;subst o9;exact sd (FP ok tok ho hs) rm jp F R rfl (by exact h)
theorem Ug(ok:C.Ok)(tok:T.Ok C)(ho:SE C T n o):SB C T n (.attr o name):=by
 intro A e env m W H s Q rm hm F R h;have jp:=hm;refine bM (Fw hm) λe' p cY U=>?_;subst cY;exact sd (FQ ok tok ho) rm jp F R rfl (by exact h)
theorem Uh(ho:SE C T n o)(hi:SE C T n i):SB C T n (.sub o i):=by
 intro A e env m W H s Q rm hm F R h;have jp:=hm;refine cM (Fx hm) λe' j p eb U=>?_;subst eb;exact sd (FR ho hi) rm jp F R rfl (by exact h)
end
theorem imp'{α:Type}{m:Sem α}{Q Q':α->Shared->Prop}{E:Value->Shared->Prop}(h:wpAny M A m Q (λU U=>False) s)(k: ∀v s',Q v s'->Q' v s'):wpAny M A m Q' E s:=cO h k λU U x=>x.elim
section
variable{C:Cfg}{T:bG}{n:Nat}{A:Around}{D:Addr->Prop}{W W':Wl}{H H':MH}{s s':Shared}{env:Env}{m:MM}{a:Addr}
theorem size_of{h':Heap}(g:C.h₀.objs.size<=b)(e:h'.get? b=some o):C.h₀.objs.size<=h'.objs.size:=eT (l9 g (cu e))
theorem an.cut(x:an C D W s W' H' s')(f:Off C W' a)(e:s.heap.get? a=none)(k:Heap.ExtBut a s'.heap h')(g:C.h₀.objs.size<=h'.objs.size):an C D W s W' H' {s' with heap:=h',toks:=tk} where
 eq:=by refine dM x.eq λh t o1=>?_;subst o1;exact⟨_,_,rfl⟩
 ext:=x.ext
 rel:=by
  refine⟨λb o q=>k b o (λz=>?_) (x.rel.keep b o q),g,λr o q=>?_,x.rel.d8,x.rel.inj,λp q=>⟨k _ _ (f.t p q) (x.rel.bA p q).1,(x.rel.bA p q).2⟩,x.rel.fin,x.rel.base⟩
  .exact absurd (cu q) (Nat.not_lt.mpr (z▸f.ge))
  .refine ab (x.rel.obj r o q) λb p t=>?_;exact⟨b,p,t.mono (.refl _) λo q=>k b o (λz=>f.r r (z▸p)) q⟩
 live:=λb o q=>by
  haveI z:b≠a:=λz=>eU (z▸q) e;refine ag (x.live b o q) λo' q'=>?_;exact⟨o',k b o' z q'⟩
 new:=x.new
 iW:=x.iW
 keep:=λb o q n d=>by
  have z:b≠a:=λz=>eU (z▸q) e;rcases x.keep b o q n d with t|⟨mm,t1,o',es,ep,ho,r⟩
  .exact .inl (k b o z t)
  .exact .inr ⟨mm,t1,o',es,ep,k b o' z ho,r⟩
theorem an.narrow{D':Addr->Prop}(x:an C D W s W' H' s')(k: ∀b,D b->D' b∨s.heap.get? b=none):an C D' W s W' H' s':=
 ⟨x.eq,x.ext,x.rel,x.live,x.new,x.iW,λb o q n d=>x.keep b o q n λz=>(k b z).elim (λy=>d y) λy=>eU q y⟩
theorem uo(R:Rel C W H s.heap):Off C W s.heap.objs.size:=
 ⟨R.size,λU q=>iw _ (R.lt q),λU q z=>iw s.heap.objs.size (by haveI:=cu (R.bA _ q).1;haveI this:=z▸this;exact this)⟩
theorem an.zX(R:Rel C W H s.heap)(k:Heap.ExtBut s.heap.objs.size s.heap h'){mm:Str->Option Value}(hn:s.heap.Ns L mm)(f:Off C W L):an C D W s W H {s with heap:=h',toks:=tk}:=by
 refine cM hn λo U U ho U=>?_;exact an.cut (an.refl R) (uo R) (oN _) k (size_of f.ge (k _ _ (λz=>by haveI:=cu ho;haveI this:=z▸this;exact iw _ this) ho))
noncomputable def sg(env:Env)(x:String)(D:Addr->Prop):Prop:=(env.kindOf (Str.ofString x)=some .local->D env.locals)/\(env.kindOf (Str.ofString x)=some .cell-> ∀c,env.cells.lookup (Str.ofString x)=some c->D c)
theorem wU(F:bl C W env m s.heap)(R:Rel C W H s.heap)(st:jr (env.scope.names.lookup (Str.ofString x))=true)(hD:sg env x D)(r:VR C.h₀ W rv v):
  wpAny (be C) A (storeName env (Str.ofString x) rv) (λU s'=>an C D W s W H s'/\bl C W env (set m x v) s'.heap) (λU U=>False) s:=by
 have hk:env.kindOf (Str.ofString x)=env.scope.names.lookup (Str.ofString x):=rfl;haveI st:=cX hk▸st;unfold jr at st;split at st
 .rename_i k
  refine ab F.lv λmm hn q=>?_;refine wpAny_storeName_local k hn (λh' kO sb=>?_) (by refine rG F.kind ?_;rfl);refine cM (id kO) λo U U ho U=>?_;refine⟨an.own R F.off (hD.1 k) sb ⟨o,ho⟩,F.kind,F.glob,F.bi,⟨_,kO,λy w hy e ky=>?_⟩,F.off,λy c e=>?_,F.mh,F.apart,F.has,λy w e ky=>?_⟩
  .by_cases z:y=x
   .subst z;refine⟨rv,az rfl,?_⟩;haveI:w=v:=by simpa[set] using e.symm
    exact this▸r
   .haveI z': ¬Str.ofString y=Str.ofString x:=λe=>z (lC e);refine ab (q y w hy (by simpa[set,z] using e) ky) λuq a b=>?_;exact⟨uq,(ax z').trans a,b⟩
  .refine b9 (F.cell y c e) λa b bw=>?_;refine bM bw λv' o ho hd=>?_;exact⟨a,b,v',o,(sb.2 c b).trans ho,hd⟩
  .haveI z:y≠x:=λz=>by subst z;haveI ky:=k▸ky;rcases ky with ky|ky<;>cases ky
   refine bE (F.cv y w (by simpa[set,z] using e) ky) λc uq a o2 b=>?_;refine ab o2 λo ho hd=>?_;exact⟨c,uq,a,⟨o,(sb.2 c (F.cell _ _ a).2.1).trans ho,hd⟩,b⟩
 .rename_i k
  refine ag (F.has _ (.inl k)) λc hc=>?_;refine b9 (F.cell _ _ hc) λh1 h2 bw=>?_;refine ag bw λafL hv=>?_;refine wpAny_storeName_cell F.kind k hc hv λh' hO sb=>?_;refine ab (id hO) λo ho hd=>?_;refine⟨an.own (tk:=s.toks) R (F.mh _ _ k hc) (hD.2 k c hc) sb ⟨o,ho⟩,F.kind,F.glob,F.bi,?_,F.off,λy c' e=>?_,F.mh,F.apart,F.has,λy w e ky=>?_⟩
  .refine ab F.lv λmm o3 q=>?_;refine cM o3 λo es ep ho rr=>?_;refine⟨mm,⟨o,es,ep,(sb.2 _ (λz=>h2 z.symm)).trans ho,rr⟩,λy w hy e ky=>?_⟩;haveI z:y≠x:=λz=>by subst z;replace ky:=k▸ky;cases ky
   exact q y w hy (by simpa[set,z] using e) ky
  .refine b9 (F.cell y c' e) λa b bw=>?_;refine bM bw λv' o' bn kC=>?_;by_cases z:c'=c
   .subst z;exact⟨a,b,_,hO⟩
   .exact⟨a,b,v',o',(sb.2 c' z).trans bn,kC⟩
  .by_cases z:y=x
   .subst z;haveI:w=v:=by simpa[set] using e.symm
    exact⟨c,rv,hc,hO,this▸r⟩
   .refine bE (F.cv y w (by simpa[set,z] using e) ky) λc' uq a o4 b=>?_;refine ab o4 λo' bn kC=>?_;have z':c'≠c:=λq=>z (lC (F.apart _ _ c (q▸a) hc));exact⟨c',uq,a,⟨o',(sb.2 c' z').trans bn,kC⟩,b⟩
 .exact Ft st
theorem ur(F:bl C W env m s.heap)(x:String):sg env x (frame env):=⟨λU=>.inl rfl,λU U e=>.inr ⟨_,e⟩⟩
theorem zY(h:gH ns (x::xs) (e::es)=true): ∃p,e=.Name (Str.ofString x) p/\jr (ns.lookup (Str.ofString x))=true/\x≠ ".0" /\gH ns xs es=true:=by
 refine nj (rj h) λh1 h2 h3 h4 h5=>?_;exact⟨_,isName h1 h2,h3,zS h4,h5⟩
theorem ut{P:List String->List Expr->Prop}(h0:P [] [])(h1: ∀{x:String} {xs:List String} {p:Pos} {es:List Expr},jr (ns.lookup (Str.ofString x))=true->x≠ ".0" ->gH ns xs es=true->P xs es->P (x::xs) (.Name (Str.ofString x) p::es)): ∀{es:List Expr},gH ns xs es=true->P xs es:=by
 induction xs with
 |nil=>intro es h;cases es with|nil=>exact h0|cons _ _=>exact(lw h).elim
 |cons x xs ih=>
  intro es h
  cases es with
  |nil=>exact(lw h).elim
  |cons e es=>refine l8 (zY h) λp o5 a b h'=>?_;subst o5;exact h1 a b h' (ih h')
theorem Ui(h:gH ns xs es=true):xs.length=es.length:=ut (P:=λxs es=>xs.length=es.length) rfl (λU U U ih=>bP Nat.succ ih) h
theorem Uj(env:Env)(h:gH ns xs es=true):(assignEach es env).length=es.length/\(assignEach es env).findIdx? (·.1)=none:=
 ut (P:=λU es=>(assignEach es env).length=es.length/\(assignEach es env).findIdx? (·.1)=none) ⟨rfl,rfl⟩ (λ{x xs p es} _ _ _ ih=>⟨bP Nat.succ ih.1,by
  refine(?_:List.findIdx? _ ((false,assign (.Name (Str.ofString x) p) env)::assignEach es env)=none);refine rG (List.findIdx?_cons) (rG ih.2 ?_);rfl⟩) h
noncomputable def da(m:MM)(xs:List String)(vs:List V):MM:=(xs.zip vs).foldl (λm p=>set m p.1 p.2) m
theorem Uk(hm:gH env.scope.names xs es=true): ∀{db:List Value} {vs:List V} {m:MM} {W:Wl} {H:MH} {s:Shared},xs.length=vs.length->bl C W env m s.heap->Rel C W H s.heap->
  (∀x,x∈xs->sg env x D)->aF C.h₀ W db vs->wpAny (be C) A (assignInOrder ((assignEach es env).map (·.2)) db) (λU s'=>an C D W s W H s'/\bl C W env (da m xs vs) s'.heap) (λU U=>False) s:=by
 refine ut (P:=λxs es=> ∀{db:List Value} {vs:List V} {m:MM} {W:Wl} {H:MH} {s:Shared},xs.length=vs.length->bl C W env m s.heap->Rel C W H s.heap->
  (∀x,x∈xs->sg env x D)->aF C.h₀ W db vs->wpAny (be C) A (assignInOrder ((assignEach es env).map (·.2)) db) (λU s'=>an C D W s W H s'/\bl C W env (da m xs vs) s'.heap) (λU U=>False) s) ?_ ?_ hm
 .intro db vs m W H s hl F R U r;obtain rfl:=List.length_eq_zero_iff.mp hl.symm;obtain rfl:=r.me;exact ba ⟨.refl R,F⟩
 .intro x xs p es h1 h2 U ih db vs m W H s hl F R hD r
  cases vs with
  |nil=>cases hl
  |cons v vs=>
   refine bE r.inv λrv db o6 q rs=>?_;subst o6;refine aw (cW (wpAny_assign_Name (imp (wU F R h1 (hD x (.head _)) q) λU ak Ul=>aE Ul λai eh=>?_)));exact imp (ih (Nat.succ.inj hl) eh ai.rel (λz hz=>hD z (.tail _ hz)) rs) λU aZ Um=>aE Um λaG cA=>⟨ai.trans aG,cA⟩
end
section
variable{C:Cfg}{T:bG}{n:Nat}{A:Around}{D:Addr->Prop}{W W':Wl}{H H':MH}{s s':Shared}{env:Env}{m:MM}{a:Addr}
theorem FT{α:Type}{l:List α}(h:l.length=1): ∃x,l=[x]:=List.length_eq_one_iff.mp h
theorem Un{α:Type}{l:List α}(h:l.length=2): ∃x y,l=[x,y]:=by
 cases l with
 |nil=>cases h
 |cons x l=>refine ag (FT (Nat.succ.inj h)) λy o1=>?_;subst o1;exact⟨x,y,rfl⟩
theorem Uo{ns:dR}{t:List String}(h:qj ns t tg=true):(∃x p,t=[x]/\tg=.Name (Str.ofString x) p/\jr (ns.lookup (Str.ofString x))=true)∨(∃x y es k p,t=[x,y]/\tg=.Tuple es k p/\gH ns [x,y] es=true):=by
 unfold qj at h
 cases q:is 25 tg with
 |true=>
  replace h:=q▸h;haveI h:(_&&_)=true:=h;refine dM (Un (eq_of_beq (aV h))) λx y e=>?_;subst e;exact .inr ⟨x,y,_,_,_,rfl,eR q,aY h⟩
 |false=>
  replace h:=q▸h;haveI h:(_&&_)=true:=h;refine ag (FT (eq_of_beq (aV h))) λx e=>?_;subst e;refine bX (zY (aY h)) λp e a U=>?_;exact .inl ⟨x,p,rfl,e,a⟩
theorem assign_tuple(rm:dD n A)(h:gH env.scope.names ns es=true)(hl:ns.length=vs.length)(F:bl C W env m s.heap)(R:Rel C W H s.heap)
  (hD: ∀x,x∈ns->sg env x D) (r:VR C.h₀ W rv (.tup vs)):wpAny (be C) A (assign (.Tuple es k p) env rv) (λU s'=>an C D W s W H s'/\bl C W env (da m ns vs) s'.heap) (λU U=>False) s:=by
 refine ag (jo r) λa o2=>?_;subst o2;refine bM (jn R r) λdb j ho rs=>?_;refine aE (Uj env h) λa1 a2=>?_;haveI hlen:es.length=db.toArray.size:=by exact rG cy (rG rs.length (rB hl (rG (Ui h) rfl)))
 refine wpAny_assign_Tuple rm.hh ⟨_,ho,rfl,j,rfl⟩ (a1.trans hlen) a2 λh' k=>?_;refine ab F.lv λmm hn U=>?_;have y:an C (λU=>False) W s W H {s with heap:=h'}:=an.zX (tk:=s.toks) R k hn F.off;exact imp (Uk (D:=D) h hl (F.next y) y.rel hD rs) λU aZ Up=>aE Up λaG cA=>⟨(y.wide λU f=>f.elim).trans aG,cA⟩
theorem FU(e:kG m [x,y] v=some m'): ∃a b,v=.tup [a,b]/\m'=da m [x,y] [a,b]:=by
 cases v with
 |tup xs=>
  cases xs with
  |nil=>exact Ns e
  |cons a r=>
   cases r with
   |nil=>exact Ns e
   |cons b r=>
    cases r with
    |nil=>cases e;exact⟨a,b,rfl,rfl⟩
    |cons _ _=>exact Ns e
 |_=>exact Ns e
theorem FV(rm:dD n A)(h:qj env.scope.names t tg=true)(e:kG m t v=some m')(F:bl C W env m s.heap)(R:Rel C W H s.heap)
  (hD: ∀x,x∈t->sg env x D) (r:VR C.h₀ W rv v):wpAny (be C) A (assign tg env rv) (λU s'=>an C D W s W H s'/\bl C W env m' s'.heap) (λU U=>False) s:=by
 rcases Uo h with ⟨x,p,rfl,rfl,h1⟩|⟨x,y,es,k,p,rfl,rfl,h1⟩
 .cases e;exact wpAny_assign_Name (wU F R h1 (hD x (.head _)) r)
 .refine bM (FU e) λa b o3 o4=>?_;subst o3;subst o4;exact assign_tuple rm h1 rfl F R hD r
noncomputable def cQ(C:Cfg)(I:Addr)(v:V)(i:Nat)(W:Wl)(h:Heap):Prop:=match v with
 | .ref r=> ∃l,W.ρ r=some l/\h.IsListIter I l i
 | .tup xs=> ∃t vs k,(t,({cls:=.type "tuple",data:=.seq vs.toArray k}:Obj))∈W.T/\aF C.h₀ W vs xs/\h.IsTupleIter I t i
 | .bq a b c=>IsRangeIter h I (a+(i:Int)*c) (Builtin.Range.rangeSize a b c-i) c
 |_=>False
variable{I:Addr}{v:V}{i:Nat}{xs:List V}{E:Value->Shared->Prop}
theorem cQ.data(x:cQ C I v i W s.heap): ∃o vs,s.heap.get? I=some o/\o.data=.fields vs/\(o.cls=.type "list_iterator" ∨o.cls=.type "tuple_iterator" ∨o.cls=.type "range_iterator"):=by
 cases v with
 |ref vr=>
  refine ab x λl U bw=>?_;clear x;refine bX bw λo ho a b=>?_;clear bw;exact⟨o,_,ho,b,.inl a⟩
 |tup ys=>
  refine bJ x λU U U U U uu=>?_;clear x;refine bX uu λo ho a b=>?_;clear uu;exact⟨o,_,ho,b,.inr (.inl a)⟩
 |bq a b c=>
  exact⟨_,_,x,rfl,.inr (.inr rfl)⟩
 |_=>
  exact x.elim
theorem cQ.mono(x:cQ C I v i W h)(l:W.le W')(k: ∀o,h.get? I=some o->h'.get? I=some o):cQ C I v i W' h':=by
 cases v with
 |ref vr=>
  refine ab x λl' a bw=>?_;clear x;refine ab bw λo ho b=>?_;clear bw;exact⟨l',l.r _ _ a,o,k _ ho,b⟩
 |tup ys=>
  refine bJ x λt vs j a r uu=>?_;clear x;refine ab uu λo ho b=>?_;clear uu;exact⟨t,vs,j,l.t _ a,r.mono l,o,k _ ho,b⟩
 |bq a b c=>
  exact k _ x
 |_=>
  exact x.elim
theorem cQ.make{Q:Value->Shared->Prop}(R:Rel C W H s.heap)(r:VR C.h₀ W rv v)(ok:fS v xs H)(h: ∀h',h'.objs.size=s.heap.objs.size+1->(∀b o,s.heap.get? b=some o->h'.get? b=some o)->cQ C s.heap.objs.size v 0 W h'->Q (.ref s.heap.objs.size) {s with heap:=h'}):
  wpAny (be C) A (pyIter rv) Q E s:=by
 cases v with
 |ref vr=>
  refine ab (dQ r) λa o5 pa=>?_;subst o5;refine bJ (eP R ok) λa' vs j qa ho r1=>?_;replace qa:=pa▸qa;cases qa;exact wpAny_pyIter_list (eQ ho) (h _ (lz ..) (λU U e=>fO _ e) ⟨_,pa,_,hE _ rfl,rfl,rfl⟩)
 |tup ys=>
  cases r with
  |tup p q=>
   haveI ho:=(R.bA _ p).1;exact wpAny_pyIter_tuple ⟨_,ho,rfl,_,rfl⟩ (h _ (lz ..) (λU U e=>fO _ e) ⟨_,_,_,p,q,_,hE _ rfl,rfl,rfl⟩)
 |bq a b c=>
  cases r with
  |bq p=>
   haveI ho:=(R.bA _ p).1;refine wpAny_pyIter_range (a:=a) (b:=b) (c:=c) ho ok.1 (h _ (lz ..) (λU U e=>fO _ e) ?_);refine(?_:IsRangeIter _ _ (a+((0:Nat):Int)*c) (Builtin.Range.rangeSize a b c-((0:Nat):Int)) c);haveI e1:a+((0:Nat):Int)*c=a:=by simp
   haveI e2:Builtin.Range.rangeSize a b c-((0:Nat):Int)=Builtin.Range.rangeSize a b c:=by simp
   refine rG e1 (rG e2 ?_);exact hE _ rfl
 |_=>
  exact ok.elim
theorem cQ.self{Q:Value->Shared->Prop}(x:cQ C I v i W s.heap)(h:Q (.ref I) s):wpAny (be C) A (pyIter (.ref I)) Q E s:=by
 cases v with
 |ref vr=>
  refine ab x λl U x=>?_;exact wpAny_pyIter_listiter x h
 |tup ys=>
  refine bJ x λU U U U U x=>?_;exact wpAny_pyIter_tupleiter x h
 |bq a b c=>
  exact wpAny_pyIter_rangeiter x h
 |_=>
  exact x.elim
theorem cQ.item{Q:Option Value->Shared->Prop}(R:Rel C W H s.heap)(st:cQ C I v i W s.heap)(ok:fS v xs H)(f:Off C W I)(e:xs[i]?=some x)
  (h: ∀rv h' tk,VR C.h₀ W rv x->cQ C I v (i+1) W h'->Heap.SameBut I s.heap h'->(∃o,h'.get? I=some o)->Q (some rv) {s with heap:=h',toks:=tk}):wpAny (be C) A (pyNext (.ref I)) Q E s:=by
 cases v with
 |ref vr=>
  refine ab st λl pl hit=>?_;clear st;refine bJ (eP R ok) λa' vs j qa ho r1=>?_;replace qa:=pl▸qa;cases qa;refine ab (r1.get e) λrv hv rr=>?_;refine wpAny_pyNext_list_item hit (eQ ho) (x:=rv) (by refine rG (ny) ?_;exact hv) λh' mE sb=>h rv h' s.toks rr ⟨l,pl,mE⟩ sb ?_;refine ab mE λo ho U=>?_;clear mE;exact⟨o,ho⟩
 |tup ys=>
  subst ok;refine bJ st λt vs j p r1 hit=>?_;clear st;refine ab (r1.get e) λrv hv rr=>?_;refine wpAny_pyNext_tuple_item hit ⟨_,(R.bA _ p).1,rfl,_,rfl⟩ (x:=rv) (by refine rG (ny) ?_;exact hv) λh' mE sb=>h rv h' s.toks rr ⟨t,vs,j,p,r1,mE⟩ sb ?_;refine ab mE λo ho U=>?_;clear mE;exact⟨o,ho⟩
 |bq a b c=>
  refine aE ok λU o6=>?_;clear ok;subst o6;haveI hit:IsRangeIter s.heap I (a+(i:Int)*c) (Builtin.Range.rangeSize a b c-i) c:=st;unfold iY at e
  (haveI e:=(fA)▸e;rewrite [Option.map_eq_some_iff] at e)
  refine ab e λk hk o7=>?_;clear e;subst o7;refine ag (List.getElem?_eq_some_iff.mp hk) λzZ kN=>?_;haveI kN:=(List.getElem_range _)▸kN;subst kN;haveI zZ:=dZ▸zZ;refine wpAny_pyNext_range_item hit (by exact K7 zZ) λh' mE sb=>h _ h' _ (.int _ _) ?_ sb ⟨_,mE⟩;refine(?_:IsRangeIter _ _ (a+((i+1:Nat):Int)*c) (Builtin.Range.rangeSize a b c-((i+1:Nat):Int)) c);haveI e1:a+((i+1:Nat):Int)*c=a+(i:Int)*c+c:=by refine rG (Int.natCast_add _ _) (rG (Int.add_mul _ _ _) ?_);simp;exact K6
  haveI e2:Builtin.Range.rangeSize a b c-((i+1:Nat):Int)=Builtin.Range.rangeSize a b c-(i:Int)-1:=by exact K5
  refine rG e1 (rG e2 ?_);exact mE
 |_=>
  exact ok.elim
theorem cQ.stop{Q:Option Value->Shared->Prop}(rm:dD n A)(R:Rel C W H s.heap)(st:cQ C I v i W s.heap)(ok:fS v xs H)(e:xs[i]?=none)
  (h: ∀h',Heap.ExtBut I s.heap h'->Q none {s with heap:=h'}):wpAny (be C) A (pyNext (.ref I)) Q E s:=by
 cases v with
 |ref vr=>
  refine ab st λl pl hit=>?_;clear st;refine bJ (eP R ok) λa' vs j qa ho r1=>?_;replace qa:=pl▸qa;cases qa;refine wpAny_pyNext_list_end rm.hh hit (eQ ho) ?_ h
  (refine rG (ny) (rI (pX) (rG r1.length ?_));rewrite [<-pX]);exact e
 |tup ys=>
  subst ok;refine bJ st λt vs j p r1 hit=>?_;clear st;refine wpAny_pyNext_tuple_end rm.hh hit ⟨_,(R.bA _ p).1,rfl,_,rfl⟩ ?_ h
  (refine rG (ny) (rI (pX) (rG r1.length ?_));rewrite [<-pX]);exact e
 |bq a b c=>
  refine aE ok λU o8=>?_;clear ok;subst o8;haveI hit:IsRangeIter s.heap I (a+(i:Int)*c) (Builtin.Range.rangeSize a b c-i) c:=st;unfold iY at e
  (rewrite [pX] at e;haveI e:=dZ▸(au _)▸e)
  exact wpAny_pyNext_range_end rm.hh hit (by exact K4 e) h
 |_=>
  exact ok.elim
theorem cQ.letGo{Q:Unit->Shared->Prop}(st:cQ C I v i W s.heap)(h:Q () s):wpAny (be C) A (letOwnedTupleGo tg (.ref I) rv) Q E s:=by
 refine bE st.data λo vs ho hd hc=>?_;have main:wpAny (be C) A (do
   let (.ref r,.ref a):=(Value.ref I,rv)|return
   let o<-load r
   match o.cls,o.data with
   | .type n,.fields vs=>
    if ["enumerate", "zip", "dict_itemiterator", "dict_reverseitemiterator", "odict_iterator", "itertools.zip_longest", "itertools.pairwise"].contains n&&vs[0]?==some (rawInt a) then
     rule "for.unpacks-the-owned-tuple"
     updateField r 0 .none
   |_,_=>pure ():Sem Unit) Q E s:=by
  cases rv with
  |ref a=>
   refine aw (wpAny_load ho ?_);rcases hc with hc|hc|hc<;>refine rG hc (rG hd ?_)<;>exact ba h
  |_=>exact ba h
 cases tg<;>first|exact main|exact ba h
end
section
variable{prog:Program}{w:World}{A:Around}{R:Result->Shared->Prop}
theorem Uq(I:Nat->Shared->Prop)
  (turn: ∀n s,I n s->wpAny (model prog w) A (pyNext it) (λr ak=>match r with
   |none=>R (.ok .next) ak
   |some v=>wpAny (model prog w) A (letOwnedTupleGo target it v) (λU FW=>wpAny (model prog w) A (assign target env v) (λU aZ=>
     wpAny (model prog w) A (forIn ifs true λc r=>if r=true then do let ok<-isTrue c env (eval c env);pure (ForInStep.yield ok) else pure (ForInStep.yield r)) (λok cP=>
      if ok=true then wpAny (model prog w) A (eval elt env) (λx i1=>
       wpAny (model prog w) A (call (.builtin "list.append") [acc,x]) (λU oS=> ∃m,m<n/\I m oS) (λU U=>False) i1) (λU U=>False) cP
      else∃m,m<n/\I m cP) (λU U=>False) aZ) (λU U=>False) FW) (λU U=>False) ak) (λU U=>False) s)
  (n:Nat) (s:Shared) (h:I n s):codeAny (model prog w) A (.compLoop (.ListComp elt [⟨target,iter,ifs,0⟩] scope pos) 0 it acc env) R s:=by
 refine codeAny_loop rfl I (λn s hI=>?_) n h;refine(?_:wpAny _ A ((compTurn (.ListComp elt [⟨target,iter,ifs,0⟩] scope pos) 0 it acc env).onRaise (λx=>do noteFrame x env;theTreesLotGoes x)) _ _ s);refine wpAny_noted ?_;rw[compTurn_list];refine aw (f6 (aw (imp' (turn n s hI) (λr ak df=>?_))))
 cases r with
 |none=>exact ba df
 |some v=>
  refine aw (imp' df λU FW Ur=>aw (imp' Ur λU aZ kM=>aw (imp' kM λok cP fq=>?_)))
  cases ok with
  |false=>exact ba ⟨rfl,fq⟩
  |true=>exact aw (aw (imp' fq λx i1 nO=>aw (imp' nO λU oS zV=>ba (ba ⟨rfl,zV⟩))))
end
noncomputable def lJ(env:Env):dR->List (Str×Addr)->List (Str×Addr)
 |[],acc=>acc
 |(x,k)::r,acc=>lJ env r (if (k==.free)=true then (x,(env.cells.lookup x).getD 0)::acc else acc)
theorem Us(h: ∀p,p∈sc.names->p.2=.free-> ∃c,env.cells.lookup p.1=some c):closureFor sc env=pure (lJ env sc.names []):=by
 simp only[closureFor];haveI main: ∀(l:dR) (acc:List (Str×Addr)),(∀p,p∈l->p.2=.free-> ∃c,env.cells.lookup p.1=some c)->
   (forIn l acc λ(x:Str×NameKind) (r:List (Str×Addr))=>(do
    if (x.2==.free)=true then do
     let c<-cellOf env x.1
     pure (ForInStep.yield ((x.1,c)::r))
    else pure (ForInStep.yield r):Sem _))=pure (lJ env l acc):=by
  intro l
  induction l with
  |nil=>intro acc U;simp[lJ]
  |cons p l ih=>
   intro acc hl;obtain ⟨x,k⟩:=p;rw[List.forIn_cons];by_cases hk:k=.free
   .subst hk;refine ag (hl _ (.head _) rfl) λc hc=>?_;haveI e:cellOf env x=pure c:=by unfold cellOf;exact rG (hc:env.cells.lookup x=some c) rfl
    simp only[nD,if_true,e,pure_bind];refine rG (ih _ λp hp=>hl p (.tail _ hp)) ?_;simp only[lJ,nD,if_true];refine rG (hc:env.cells.lookup x=some c) ?_;rfl
   .haveI dg:(k==NameKind.free)=false:=by simpa using hk
    simp only[dg,nB,ix,pure_bind];refine rG (ih _ λp hp=>hl p (.tail _ hp)) ?_;simp only[lJ,dg,nB,ix]
 haveI:=main sc.names [] h;simp only[bind_pure];exact this
theorem FX(env:Env)(l:dR)(acc:List (Str×Addr))(x:Str)(c:Addr)(hl: ∀p,p∈l->p.2=.free-> ∃c,env.cells.lookup p.1=some c)(e:(lJ env l acc).lookup x=some c):
  acc.lookup x=some c∨(env.cells.lookup x=some c/\(x,NameKind.free)∈l):=by
 induction l generalizing acc with
 |nil=>exact .inl e
 |cons p r ih=>
  obtain ⟨y,k⟩:=p;rcases ih _ (λp hp=>hl p (.tail _ hp)) e with ih|ih
  .by_cases hk:(k==NameKind.free)=true
   .replace ih:=(az hk)▸ih;by_cases uv:x=y
    .subst uv;have hk:=eq_of_beq hk;subst hk;refine ag (hl _ (.head _) rfl) λc' fu=>?_
     (rewrite [re] at ih;replace ih:=(fu:env.cells.lookup x=some c')▸ih)
     cases ih;exact .inr ⟨fu,.head _⟩
    .haveI ih:=(tM uv)▸ih;exact .inl ih
   .haveI ih:=(ax hk)▸ih;exact .inl ih
  .exact .inr ⟨ih.1,.tail _ ih.2⟩
theorem FY(env:Env)(l:dR)(acc:List (Str×Addr))(x:Str)(h:(x,NameKind.free)∈l∨(∃c,acc.lookup x=some c)): ∃c,(lJ env l acc).lookup x=some c:=by
 induction l generalizing acc with
 |nil=>exact h.elim (λh=>by cases h) id
 |cons p r ih=>
  obtain ⟨y,k⟩:=p;refine ih _ ?_;rcases h with h|h
  .rcases List.mem_cons.mp h with h|h
   .cases h;exact .inr ⟨_,re⟩
   .exact .inl h
  .right;refine ag h λc h=>?_;by_cases hk:(k==NameKind.free)=true
   .refine rG (az hk) ?_;by_cases uv:x=y
    .subst uv;exact⟨_,re⟩
    .exact⟨c,(tM uv).trans h⟩
   .refine rG (ax hk) ?_;exact⟨c,h⟩
theorem FZ(hk:env.scope.kind=.function):(relabel sc env).names=jt env.scope.names sc.names:=by
 unfold relabel jt;simp only[hk,nD,Bool.and_true];rfl
theorem Ut{f:Str->NameKind->NameKind}(l:dR)(x:Str):(l.map λp=>(p.1,f p.1 p.2)).lookup x=(l.lookup x).map (f x):=by
 induction l with
 |nil=>rfl
 |cons p r ih=>
  obtain ⟨y,k⟩:=p;by_cases h:x=y
  .subst h;refine rG dq (rG re (rG re ?_));rfl
  .exact rG dq (rG (tM h) (rG (tM h) (rG ih rfl)))
theorem wV(ns inner:dR)(x:Str):(jt ns inner).lookup x=(inner.lookup x).map λk=>if (k==.free&&ns.lookup x==some .cell)=true then .cell else k:=by
 refine rB ((Ut (f:=λx k=>if (k==.free&&ns.lookup x==some .cell)=true then .cell else k)) _ _) ?_
 congr 1
 refine p9 λp U=>?_;obtain ⟨y,k⟩:=p;show (if _ then (y,NameKind.cell) else (y,k))=(y,if _ then _ else _)
 split<;>rfl
theorem lookup_mem{l:dR}(h:l.lookup x=some k):(x,k)∈l:=rh h
structure F0(ns:dR)(sc:Scope)(t:List String):Prop where
 kind:sc.kind=.function
 oT: ∀p,p∈sc.names->p.2≠.cell
 loc: ∀p,p∈sc.names->p.2=.local->sc.names.lookup p.1=some .local/\(p.1=(".0" :Str)∨ ∃x,x∈t/\p.1=Str.ofString x)
 free: ∀p,p∈sc.names->p.2=.free->sc.names.lookup p.1=some .free/\(ns.lookup p.1=some .cell∨ns.lookup p.1=some .free)
 tl: ∀x,x∈t->sc.names.lookup (Str.ofString x)=some .local
theorem Uu(h:uh ns sc t=true):F0 ns sc t:=by
 unfold uh at h;simp only[jN,beq_iff_eq,List.all_eq_true] at h;refine aE h λo1 h3=>?_;refine aE o1 λh1 h2=>?_;refine⟨h1,λp hp e=>?_,λp hp e=>?_,λp hp e=>?_,λx hx=>h3 x hx⟩
 .haveI:=h2 p hp;haveI this:=e▸this;simp at this
 .haveI:=h2 p hp;haveI this:=e▸this;simp only[jN,beq_iff_eq,List.contains_iff_mem,gE,List.mem_map] at this;exact⟨this.1,this.2.imp id λUv=>ab Uv λx a b=>⟨x,a,b.symm⟩⟩
 .haveI:=h2 p hp;haveI this:=e▸this;simp only[jN,beq_iff_eq,Bool.or_eq_true] at this;exact this
section
variable{C:Cfg}{T:bG}{n:Nat}{A:Around}{D:Addr->Prop}{W W':Wl}{H H':MH}{s s':Shared}{env:Env}{m m':MM}{a:Addr}
theorem bl.weaken(F:bl C W env m h)(k: ∀y v,m' y=some v->(y= ".0" ->env.kindOf (Str.ofString y)≠some .local)->readable (env.kindOf (Str.ofString y))=true->m y=some v):bl C W env m' h where
 kind:=F.kind
 glob:=F.glob
 bi:=F.bi
 lv:=let ⟨mm,a,b⟩:=F.lv;⟨mm,a,λy v hy e ky=>b y v hy (k y v e (λz=>absurd z hy) (by refine rG ky ?_;rfl)) ky⟩
 off:=F.off
 cell:=F.cell
 mh:=F.mh
 apart:=F.apart
 has:=F.has
 cv:=λy v e ky=>F.cv y v (k y v e (λU z=>by haveI ky:=z▸ky;rcases ky with ky|ky<;>cases ky) (by rcases ky with ky|ky<;>refine rG ky ?_<;>rfl)) ky
theorem Uw(e:kG m t v=some m'): ∃wW,kG mr t v=some wW/\(∀y,y∈t->wW y=m' y)/\(∀y,y∉t->wW y=mr y/\m' y=m y):=by
 match t,e with
 |[x],e=>
  cases e;refine⟨_,rfl,λy hy=>?_,λy hy=>?_⟩
  .haveI:y=x:=by simpa using hy
   simp[set,this]
  .haveI:y≠x:=by simpa using hy
   simp[set,this]
 |[x,y],e=>
  refine bM (FU e) λa b o2 o3=>?_;subst o2;subst o3;refine⟨_,rfl,λz hz=>?_,λz hz=>?_⟩
  .simp only[da,List.zip_cons_cons,List.zip_nil_left,List.foldl_cons,List.foldl_nil,set];by_cases h1:z=y
   .simp[h1]
   .have h2:z=x:=by simp at hz;rcases hz with h|h<;>first|exact h|exact absurd h h1
    simp[h2]
  .simp only[gE,dp,or_false,not_or] at hz;simp[da,set,hz.1,hz.2]
theorem an.F2(x:an C D W s W' H' s')(f:Off C W' d)(e:s.heap.get? d=none)(ok:iV C W' s'.heap d mo)
  (q:cH mo Q H'): ∃bQ bc b,an C D W s bQ bc s'/\VR C.h₀ bQ (.ref d) b/\Q b bc/\(∀c,Off C W' c->c≠d->Off C bQ c):=by
 have main: ∀y,H' y=none->Q (.ref y) (Internal.upd H' y mo)-> ∃bQ bc b,an C D W s bQ bc s'/\VR C.h₀ bQ (.ref d) b/\Q b bc/\(∀c,Off C W' c->c≠d->Off C bQ c):=λy hy z=>by
  have le:=W'.rN x.rel hy d;refine⟨W'.add y d,Internal.upd H' y mo,.ref y,⟨x.eq,x.ext.trans le,⟨x.rel.keep,x.rel.size,λu o q=>?_,λu c q=>?_,λu u' c q q'=>?_,λp q=>⟨(x.rel.bA p q).1,λu z=>?_⟩,?_,x.rel.base⟩,x.live,λu c q=>?_,x.iW,x.keep⟩,.ref ?_,z,λc fc n=>⟨fc.ge,λu q=>?_,fc.t⟩⟩
  .unfold Internal.upd at q;by_cases z:u=y
   .replace q:=(az z)▸q;cases q;exact⟨d,by refine(?_:(if u=y then _ else _)=_);exact rG (az z) rfl,ok.mono le λU e=>e⟩
   .haveI q:=(ax z)▸q;refine ab (x.rel.obj u o q) λc p t=>?_;exact⟨c,le.r _ _ p,t.mono le λU e=>e⟩
  .haveI q:(if u=y then some d else W'.ρ u)=some c:=q;by_cases z:u=y
   .replace q:=(az z)▸q;cases q;exact⟨f.ge,_,by unfold Internal.upd;exact rG (az z) rfl⟩
   .haveI q:=(ax z)▸q;refine aE (x.rel.d8 u c q) λg cj=>?_;refine ag cj λo ho=>?_;exact⟨g,o,by unfold Internal.upd;refine rG (ax z) ?_;exact ho⟩
  .haveI q:(if u=y then some d else W'.ρ u)=some c:=q;haveI q':(if u'=y then some d else W'.ρ u')=some c:=q';by_cases z:u=y<;>by_cases z':u'=y
   .exact rG z (rG z' rfl)
   .replace q:=(az z)▸q;haveI q':=(ax z')▸q';cases q;exact absurd q' (f.r u')
   .haveI q:=(ax z)▸q;replace q':=(az z')▸q';cases q';exact absurd q (f.r u)
   .replace q:=(ax z)▸q;haveI q':=(ax z')▸q';exact x.rel.inj u u' c q q'
  .haveI z:(if u=y then some d else W'.ρ u)=some p.1:=z;by_cases k:u=y
   .haveI z:=(az k)▸z;exact absurd (lx z).symm (f.t p q)
   .haveI z:=(ax k)▸z;unfold Internal.upd;refine rG (ax k) ?_;exact(x.rel.bA p q).2 u z
  .refine ag x.rel.fin λN g=>?_;refine⟨max N (y.i+1),λu q=>?_⟩;unfold Internal.upd at q;by_cases z:u=y
   .refine rG z ?_;exact C4
   .haveI q:=(ax z)▸q;haveI:=g u q;exact C3 this
  .haveI q:(if u=y then some d else W'.ρ u)=some c:=q;by_cases z:u=y
   .replace q:=(az z)▸q;cases q;exact .inr e
   .haveI q:=(ax z)▸q;exact x.new u c q
  .refine(?_:(if y=y then _ else _)=_);exact rG (az rfl) rfl
  .haveI q:(if u=y then some d else W'.ρ u)=some c:=q;by_cases z:u=y
   .replace q:=(az z)▸q;cases q;exact n rfl
   .haveI q:=(ax z)▸q;exact fc.r u q
 rcases q with ⟨y,hy,z⟩|⟨t,z⟩
 .exact main y hy z
 .refine ag x.rel.fin λN g=>?_;haveI hy:H' ⟨t,N⟩=none:=by
   cases q:H' ⟨t,N⟩ with
   |none=>rfl
   |some o=>exact absurd (g ⟨t,N⟩ (by refine rG q ?_;exact Sn)) (iw _)
  exact main _ hy (z _ hy rfl)
theorem an.adopt(x:an C D W s W' H' s')(f:Off C W' d)(e:s.heap.get? d=none)(ho:s'.heap.get? d=some (PySem.W.listOf vs.toArray j))(rs:aF C.h₀ W' vs xs)
  (q:cH (.list xs) Q H'): ∃bQ bc b,an C D W s bQ bc s'/\VR C.h₀ bQ (.ref d) b/\Q b bc/\(∀c,Off C W' c->c≠d->Off C bQ c):=x.F2 (mo:=.list xs) f e ⟨vs,j,ho,rs⟩ q
end
section
variable{C:Cfg}{T:bG}{n:Nat}{A:Around}{D:Addr->Prop}{W W':Wl}{H H':MH}{s s':Shared}{env:Env}{m m':MM}{a:Addr}
noncomputable def nQ(cp:Env)(m:MM):MM:=λy=>if cp.kindOf (Str.ofString y)=some .local then none else m y
theorem Ux{mm:Str->Option Value}(S:F0 env.scope.names sc t)(eh:bl C W env m df)(dead:df.get? Cx=none)(F:bl C W env m h)(hn:h.Ns Cx mm)(off:Off C W Cx)
  (e1:cp.scope=relabel sc env) (e2:cp.locals=Cx) (e3:cp.globals=env.globals) (e4:cp.builtins=env.builtins) (e5:cp.cells=lJ env sc.names []):bl C W cp (nQ cp m) h:=by
 haveI eF: ∀p,p∈sc.names->p.2=.free-> ∃c,env.cells.lookup p.1=some c:=λp hp e=>F.has _ ((S.free p hp e).2.imp id id);have du: ∀x,cp.kindOf x=(jt env.scope.names sc.names).lookup x:=λx=>by
  refine(?_:cp.scope.names.lookup x=_);exact rG e1 (rG (FZ F.kind) rfl)
 have kf: ∀x,(cp.kindOf x=some .cell∨cp.kindOf x=some .free)->(x,NameKind.free)∈sc.names:=λx hx=>by
  replace hx:=(wV _ _ _)▸(du _)▸hx
  cases q:sc.names.lookup x with
  |none=>haveI hx:=q▸hx;rcases hx with hx|hx<;>exact Ns hx
  |some k=>
   haveI hx:=q▸hx;simp only[Option.map_some,rK] at hx
   cases k with
   |free=>exact lookup_mem q
   |cell=>exact absurd rfl (S.oT _ (lookup_mem q))
   |_=>simp at hx
 have up: ∀x c,cp.cells.lookup x=some c->env.cells.lookup x=some c:=λx c e=>by
  haveI e:=e5▸e;rcases FX env _ _ x c eF e with e|e
  .exact Ns e
  .exact e.1
 have ne: ∀x c,env.cells.lookup x=some c->c≠Cx:=λx c e z=>by
  refine b9 (eh.cell x c e) λU U bw=>?_;refine bM bw λv o ho U=>?_;clear bw;haveI ho:=z▸ho;exact eU ho dead
 refine⟨?_,e3.trans F.glob,e4.trans F.bi,⟨mm,e2▸hn,λy v U e k=>?_⟩,e2▸off,λx c e=>?_,λx c k e=>?_,λx y c e e'=>F.apart x y c (up _ _ e) (up _ _ e'),λx k=>?_,λx v e k=>?_⟩
 .refine rG e1 ?_;exact S.kind
 .unfold nQ at e;replace e:=(az k)▸e;exact Ns e
 .refine b9 (F.cell x c (up _ _ e)) λp q r=>?_;exact⟨p,e2▸ne x c (up _ _ e),r⟩
 .refine F.mh x c ?_ (up _ _ e);replace k:=(wV _ _ _)▸(du _)▸k
  cases q:sc.names.lookup x with
  |none=>replace k:=q▸k;exact Ns k
  |some k'=>
   haveI k:=q▸k;simp only[Option.map_some,rK] at k
   cases k' with
   |free=>
    by_cases z:env.scope.names.lookup x=some .cell
    .exact z
    .simp[z] at k
   |cell=>exact absurd rfl (S.oT _ (lookup_mem q))
   |_=>simp at k
 .refine rG e5 ?_;exact FY env _ _ x (.inl (kf x k))
 .haveI hm:=kf _ k;haveI e':m x=some v:=by
   unfold nQ at e;rw[ax (λz=>by rw[z] at k;rcases k with k|k<;>cases k)] at e;exact e
  refine bE (F.cv x v e' ((S.free _ hm rfl).2.imp id id)) λc rv p q r=>?_;refine ag (FY env sc.names [] _ (.inl hm)) λc' fu=>?_;haveI:=up _ _ (e5.symm▸fu);replace this:=p▸this;cases this;exact⟨c,rv,e5.symm▸fu,q,r⟩
theorem Uy{ok:MH->Prop}{step:V->(Option V->MH->Prop)->MH->Prop}{Q:List V->MH->Prop}(h:jl ok step xs acc Q H):ok H:=by
 cases xs<;>exact h.1
theorem F3(h:uf iter=true)(x:Value):foldedSetIterable iter env x=pure x:=by
 cases iter<;>first|rfl|exact Ft h
theorem an.hold(x:an C D W s bQ bc s')(f:Off C W a)(d: ¬D a)(e:s.heap.get? a=some o)(nd: ∀es ep,o.data≠.dict es ep):s'.heap.get? a=some o/\Off C bQ a:=
 ⟨x.zv e f.r d nd,f.iX e x⟩
theorem bl.wX(F:bl C W env m s.heap)(e:s.heap.get? a=none): ¬frame env a:=by
 intro o1;rcases o1 with z|⟨x,z⟩
 .refine ab F.lv λmm o2 U=>?_;refine cM o2 λo U U ho U=>?_;clear o2;haveI ho:=cX z▸ho;exact eU ho e
 .refine b9 (F.cell x a z) λU U bw=>?_;refine bM bw λv o ho U=>?_;clear bw;exact eU ho e
inductive Uz(C:Cfg)(T:bG)(n:Nat)(aK:Wl)(ak:Shared)(cp:Env)(m:MM)(I d Cx:Addr)(iv:V)(xs:List V)(step:V->(Option V->MH->Prop)->MH->Prop)(Qc:List V->MH->Prop)(k:Nat)(σ:Shared):Prop
 |mk (W':Wl) (H':MH) (acc:List V) (vs:List Value) (j i:Nat) (x:an C (λb=>b=I∨b=d∨b=Cx) aK ak W' H' σ) (F:bl C W' cp (nQ cp m) σ.heap) (st:cQ C I iv i W' σ.heap) (ho:σ.heap.get? d=some (PySem.W.listOf vs.toArray j))
  (db:aF C.h₀ W' vs acc) (hi:i<=xs.length) (ha:acc.length<=i) (hk:k=xs.length-i) (fI:Off C W' I) (fd:Off C W' d) (hP:jl (fS iv xs) step (xs.drop i) acc Qc H')
theorem F4(hit:SE C T n it)(Aa:SE C T n el)(hc:SO C T n c){use:Option (Value->Sem Unit)}{Qv:Value->Shared->Prop}
  (rm:dD n A) (h1:mt env.scope.names it iter=true) (h2:uf iter=true) (h3:uh env.scope.names sc t=true) (h4:qj (jt env.scope.names sc.names) t tg=true) (h5:mt (jt env.scope.names sc.names) el ee=true)
  (h6:wR (jt env.scope.names sc.names) c ifs=true) (F:bl C W env m s.heap) (R:Rel C W H s.heap) (h:al C T n m (.comp el t it c) Q H)
  (fin: ∀aK aj ak,an C (λU=>False) W s aK aj ak-> ∀W' H' σ b d Cx mm,an C (λU=>False) aK ak W' H' σ->VR C.h₀ W' (.ref d) b->Q b H'->ak.heap.get? Cx=none->Off C W' Cx->σ.heap.Ns Cx mm->
   compPost (be C) A (λU U=>False) use Qv (.ref d) Cx (.ok .next) σ):
  wpAny (be C) A (comprehension (.ListComp ee [⟨tg,iter,ifs,0⟩] sc p) sc env pos (newList []) false (eval iter env) use) Qv (λU U=>False) s:=by
 have S:=Uu h3;refine wpAny_comprehension_free (g:=⟨tg,iter,ifs,0⟩) (gs:=[]) rfl (λx=>F3 h2 x) (Us λp hp e=>F.has _ ((S.free p hp e).2.imp id id)) S.kind (λp hp e=>(S.loc p hp e).1)
  (bT (hit A iter env m W H s _ rm h1 F R h) λx ak aK aj iv ai rx UA=>ab UA λxs hz h=>?_)
 have eh:=F.next ai;have hU:=ai.rel;refine cQ.make hU rx (Uy h) λh' fT hk st=>wpAny_newList (wpAny_newFunctionEnv S.oT (by intro y hy;cases hy) (λmF iE wY=>?_) S.kind) (gm _);generalize hI:ak.heap.objs.size=I at*;dsimp only at iE wY ⊢;haveI hd:h'.objs.size=I+1:=fT;have mG:(h'.push {cls:=.type "list",data:=.seq ([]:List Value).toArray}).objs.size=I+2:=by exact rG (lz _ _) (rG hd rfl)
 rw[mG] at iE wY ⊢;refine rG hd ?_;haveI uw: @Ne Nat (I+1) I:=by exact Dv
 haveI nR: @Ne Nat (I+1) (I+2):=by exact Ld
 haveI UB: @Ne Nat (I+2) I:=by exact Lc
 haveI Ab: @Ne Nat I (I+2):=by exact Lb
 haveI UC: @Ne Nat (I+2) (I+1):=by exact La
 haveI Ac: @Ne Nat I (I+1):=by exact Du
 have dead: ∀b,I<=b->ak.heap.get? b=none:=λb hb=>by
  cases q:ak.heap.get? b with
  |none=>rfl
  |some o=>exact absurd (cu q) (Nat.not_lt.mpr (hI.symm▸hb))
 have kb: ∀b o,b≠I+2->(h'.push {cls:=.type "list",data:=.seq ([]:List Value).toArray}).get? b=some o->mF.get? b=some o:=λb o z e=>(wY.2 b z).trans (fO _ e);have si: ∀b,I<=b->Off C aK b:=λb hb=>⟨eM hU.size (hI.symm▸hb),λr e=>absurd (hU.lt e) (Nat.not_lt.mpr (hI.symm▸hb)),λp q z=>absurd (cu (hU.bA p q).1) (Nat.not_lt.mpr (by refine rG z (rG hI ?_);exact hb))⟩;have ho:mF.get? (I+1)=some (PySem.W.listOf ([]:List Value).toArray 0):=kb _ _ nR (by refine rB hd ?_;exact hE _ rfl);have oU:an C (λU=>False) aK ak aK aj {ak with heap:=mF,toks:=ak.toks+([]:List (Str×Value)).length}:=
  an.ext' hU (λb o e=>kb b o (λz=>eU e (dead b (C6 z))) (fO _ (hk b o e))) (by refine rG wY.1 (rG (lz _ _) (rG mG (rG hI ?_)));exact K9)
 have F5:cQ C I iv 0 aK mF:=st.mono (.refl _) λo e=>kb I o Ab (fO _ e);generalize ux:({newEnv sc (I+2) env.globals (lJ env sc.names []) env.qual none .none (some env) _ with scope:=relabel sc env}:Env)=cp;haveI e1:cp.scope=relabel sc env:=by exact rB ux rfl
 have e2:cp.locals=I+2:=by refine rB ux ?_;rfl
 haveI e3:cp.globals=env.globals:=by refine rB ux ?_;rfl
 haveI e4:cp.builtins=env.builtins:=by refine rB ux ?_;rfl
 haveI e5:cp.cells=lJ env sc.names []:=by refine rB ux ?_;rfl
 have nS:cp.scope.names=jt env.scope.names sc.names:=by exact rG e1 (rG (FZ F.kind) rfl)
 haveI UD:bl C aK cp (nQ cp m) mF:=Ux S eh (dead _ (by exact tO)) (eh.next oU) iE (si _ (by exact tO)) e1 e2 e3 e4 e5;have F6: ∀x,x∈t->cp.kindOf (Str.ofString x)=some .local:=λx hx=>by
  refine(?_:cp.scope.names.lookup _=_);refine rG nS (rG (wV _ _ _) (rG (S.tl x hx) ?_));rfl
 have UE: ∀x b,cp.cells.lookup x=some b->env.cells.lookup x=some b:=λx b e=>by
  haveI e:=e5▸e;rcases FX env _ _ x b (λp hp e=>F.has _ ((S.free p hp e).2.imp id id)) e with e|e
  .exact Ns e
  .exact e.1
 have F7: ∀b,I<=b->b≠I+2-> ¬frame cp b:=λb hb z=>by
  intro o3;rcases o3 with q|⟨x,q⟩
  .exact z (q.trans e2)
  .exact eh.wX (dead b hb) (.inr ⟨x,UE x b q⟩)
 have UF: ∀y,cp.kindOf (Str.ofString y)=some .local->y= ".0" ∨y∈t:=λy k=>by
  haveI k:cp.scope.names.lookup (Str.ofString y)=some .local:=k;replace k:=(wV _ _ _)▸nS▸k
  cases q:sc.names.lookup (Str.ofString y) with
  |none=>replace k:=q▸k;cases k
  |some k'=>
   haveI k:=q▸k;simp only[Option.map_some,rK] at k
   cases k' with
   |«local»=>
    rcases (S.loc _ (lookup_mem q) rfl).2 with z|⟨x,hx,z⟩
    .exact .inl (lC z)
    .exact .inr (lC z▸hx)
   |free=>split at k<;>cases k
   |_=>simp at k
 generalize nT:(λ(x:V) (P:Option V->MH->Prop) (aA:MH)=> ∃m',kG m t x=some m'/\rR C T n m' c (λb bh=>if b=true then al C T n m' el (λv cm=>P (some v) cm) bh else P none bh) aA)=step at h;haveI loop:codeAny (be C) A (.compLoop (.ListComp ee [⟨tg,iter,ifs,0⟩] sc p) 0 (.ref I) (.ref (I+1)) cp) (compPost (be C) A (λU U=>False) use Qv (.ref (I+1)) (I+2)) {ak with heap:=mF,toks:=ak.toks+([]:List (Str×Value)).length}:=by
  refine Uq (Uz C T n aK ak cp m I (I+1) (I+2) iv xs step λvs aA=>cH (.list vs) Q aA) ?_ (xs.length-0) _
   ⟨aK,aj,[],[],0,0,oU.wide λU f=>f.elim,UD,F5,ho,.nil,gm _,gm _,rfl,si _ (cG _),si _ (by exact pW),h⟩
  rintro k σ ⟨W',H',acc,vs,j,i,eG,cA,uy,Ad,db,hi,sj,fw,fI,fd,hP⟩
  cases hx:xs[i]? with
  |none=>
   haveI iD:xs.drop i=[]:=by refine rI List.drop_eq_nil_iff ?_;exact List.getElem?_eq_none_iff.mp hx
   replace hP:=iD▸hP;refine cQ.stop rm eG.rel uy hP.1 hx λfq ke=>?_;refine ab cA.lv λmm uz U=>?_;haveI uz:=e2▸uz;have qp:an C (λb=>b=I∨b=I+1∨b=I+2) aK ak W' H' {σ with heap:=fq,toks:=σ.toks}:=eG.cut fI (dead _ (cG _)) ke (size_of (b:=I+1) (h':=fq) fd.ge (ke _ _ uw Ad));refine jI ((qp.narrow (D':=λU=>False) λb hb=>.inr (dead b (by rcases hb with rfl|rfl|rfl<;>(first|exact cG _|exact pW|exact tO)))).adopt fd (dead _ (by exact pW)) (ke _ _ uw Ad) db hP.2) λbQ bc b dv rb q UG=>?_;refine fin aK aj ak ai bQ bc _ b (I+1) (I+2) mm dv rb q (dead _ (by exact tO)) (UG _ ?_ UC) ?_
   .haveI:=cA.off;haveI this:=e2▸this;exact this
   .refine cM uz λo es ep UH r=>?_;exact⟨o,es,ep,ke _ _ UB UH,r⟩
  |some x=>
   have dH:i<xs.length:=(List.getElem?_eq_some_iff.mp hx).1;haveI iD:xs.drop i=x::xs.drop (i+1):=by
    refine rG (pY dH) ?_
    congr 1
    exact(List.getElem?_eq_some_iff.mp hx).2
   haveI hP:=iD▸hP;refine aE hP λhV hP=>?_;subst nT;refine ab hP λm' hb hP=>?_;refine cQ.item eG.rel uy hV fI hx λrv fq tk rr uA sb alive=>?_;have dv:an C (λb=>b=I) W' σ W' H' {σ with heap:=fq,toks:=tk}:=an.own (D:=λb=>b=I) eG.rel fI rfl sb alive;haveI mH:=cA.kept dv λb hb=>hb▸F7 I (cG _) Ab;refine aE (dv.hold fd uw Ad (by intro U U e;cases e)) λUI UJ=>?_;refine cQ.letGo (v:=iv) (i:=i+1) (C:=C) (W:=W') uA ?_;refine bX (Uw (mr:=nQ cp m) hb) λwW iF gJ nU=>?_;refine imp (FV (D:=λb=>b=I+2) rm (by refine rG nS ?_;exact h4) iF mH dv.rel (λy hy=>⟨λU=>e2,λq=>by replace q:=(F6 y hy)▸q;cases q⟩) rr) λ_ σ₂ ⟨gK,oV⟩=>?_;refine aE (gK.hold UJ nR UI (by intro U U e;cases e)) λUK UL=>?_;have nV:bl C W' cp m' σ₂.heap:=oV.weaken λy v e k0 rd=>by
    by_cases hy:y∈t
    .refine rG (gJ y hy) ?_;exact e
    .refine rG ((nU y hy).1) ?_;haveI e:=((nU y hy).2)▸e;unfold nQ;rw[ax (λz=>?_)];exact e;rcases UF y z with z'|z'
     .exact k0 z' z
     .exact hy z'
   refine mB (hc A ifs cp m' W' H' σ₂ _ rm (by refine rG nS ?_;exact h6) nV gK.rel hP) λb σ₃ eS bh jv hP=>?_;haveI oW:=nV.next jv;obtain ⟨F8,F9⟩:=jv.hold UL (λf=>f) UK (by intro U U e;cases e);have stI: ∀{Wa Wb:Wl} {Ha:MH} {sa sb:Shared} {Da:Addr->Prop} {j:Nat},cQ C I iv j Wa sa.heap->an C Da Wa sa Wb Ha sb->Off C Wa I-> ¬Da I->cQ C I iv j Wb sb.heap/\Off C Wb I:=λuB z fi nd=>by
    refine bE uB.data λo fs uC Ae U=>?_;refine aE (z.hold fi nd uC (by intro U U e;replace e:=Ae▸e;cases e)) λq1 q2=>?_;exact⟨uB.mono z.ext λo' e=>by replace e:=uC▸e;cases e;exact q1,q2⟩
   refine aE (stI (sa:={σ with heap:=fq,toks:=tk}) (by exact uA) gK fI Ab) λAf Ag=>?_;refine aE (stI Af jv Ag (λf=>f)) λuD uE=>?_;have back: ∀{W':Wl} {h:Heap},bl C W' cp m' h->bl C W' cp (nQ cp m) h:=λG=>G.weaken λy v e U rd=>by
    unfold nQ at e;split at e
    .cases e
    .rename_i z
     refine rG ((nU y (λhy=>z (F6 y hy))).2) ?_;exact e
   have dI:an C (λb=>b=I∨b=I+1∨b=I+2) aK ak eS bh σ₃:=((eG.trans (dv.wide λU e=>.inl e)).trans (gK.wide λU e=>.inr (.inr e))).trans (jv.wide λU f=>f.elim)
   cases b with
   |false=>
    simp only[nB,ix] at hP;exact⟨xs.length-(i+1),(qZ fw dH),eS,bh,acc,vs,j,i+1,dI,back oW,uD,F8,(db.mono jv.ext),dH,(jO sj),rfl,uE,F9,hP⟩
   |true=>
    simp only[if_true] at hP;refine bT (Aa A ee cp m' eS bh σ₃ _ rm (by refine rG nS ?_;exact h5) oW jv.rel hP) λv σ₄ mD cm b' nW rb hP=>?_;haveI UM:=oW.next nW;refine aE (nW.hold F9 (λf=>f) F8 (by intro U U e;cases e)) λUN Ga=>?_;refine aE (stI uD nW uE (λf=>f)) λUO UP=>?_;haveI UQ:aF C.h₀ mD vs acc:=(db.mono jv.ext).mono nW.ext;refine wpAny_list_append_plain ⟨_,UN⟩ (λGb hp sb=>?_) (by refine rG cy (rG db.length ?_);exact iB (by exact K8 hz sj dH));refine ag hp λj' hp=>?_;have Ah:an C (λb=>b=I+1) mD σ₄ mD cm {σ₄ with heap:=Gb}:=an.own (D:=λb=>b=I+1) (tk:=σ₄.toks) nW.rel Ga rfl sb ⟨_,hp⟩;refine aE (stI UO Ah UP Ac) λUR US=>?_;refine⟨xs.length-(i+1),(qZ fw dH),mD,cm,acc++[b'],vs++[v],j',i+1,(dI.trans (nW.wide λU f=>f.elim)).trans (Ah.wide λU e=>.inr (.inl e)),back (UM.kept Ah λb hb=>hb▸F7 (I+1) (by exact pW) nR),UR,?_,UQ.snoc rb,dH,?_,rfl,US,Ga,hP⟩
    .refine(?_:Gb.get? _=_);refine rG hp ?_;simp[PySem.W.listOf]
    .refine rG bm ?_;simp;exact sj
 exact codeAny_compStart_list loop (cQ.self (C:=C) (W:=aK) (v:=iv) (i:=0) F5 loop)
end
section
variable{C:Cfg}{T:bG}{n:Nat}
theorem UT(hit:SE C T n it)(Aa:SE C T n el)(hc:SO C T n c):SE C T n (.comp el t it c):=by
 intro A e env m W H s Q rm hm F R h;refine Dg (Fz hm) λee tg iter ifs sc p o1 h1 h2 h3 h4 h5 h6 U=>?_;subst o1;rw[arm_eval_ListComp];refine F4 hit Aa hc rm h1 h2 h3 h4 h5 h6 F R h λaK aj ak ai W' H' σ b d Cx mm z rb q dead off hn=>?_;refine⟨mm,hn,λh' sb=>?_⟩;refine cM ((F.next ai).lv.choose_spec.1) λo U U ho U=>?_;refine ag (z.live _ _ ho) λo' bn=>?_;have ne:env.locals≠Cx:=λe=>eU (e▸ho) dead;exact⟨W',H',b,ai.trans (z.cut off dead (tk:=σ.toks) (λx o n e=>(sb.2 x n).trans e) (size_of (F.next ai).off.ge ((sb.2 _ ne).trans bn))),rb,q⟩
theorem UU(x:String)(b:Bool):SE C T n (.nH x b):=by
 intro A e env m W H s Q rm hm F R h;obtain ⟨p,c,d,q,rfl,h1,h2,h3⟩:=Td hm;refine ag h λi z9=>?_;refine aE z9 λhi h=>?_;refine wpAny_Dict_pairs (knd:=intKind C.prog C.w) (pairs:=[(eval (.Name (Str.ofString x) p) env,do let x<-eval (.Constant (.bool b) c d) env;standAt q;pure x)]) rfl (by simp) (by simp) ?_;haveI sm:an C (λU=>False) W s W H {s with heap:=s.heap.push {cls:=.type "dict",data:=.dict #[]}}:=an.push (tk:=s.toks) R _;haveI hd:(s.heap.push {cls:=.type "dict",data:=.dict #[]}).get? s.heap.objs.size=some ({cls:=.type "dict",data:=.dict #[]}:Obj):=hE _ rfl;haveI hD:Heap.DictOf (intKind C.prog C.w) (s.heap.push {cls:=.type "dict",data:=.dict #[]}) s.heap.objs.size []:=⟨_,_,_,hd,⟨rfl,rfl,rfl⟩,rfl,by intro e he;simp at he,.nil,.nil⟩;refine aw (cO (wpAny_Name (zU (Q:=λrv s'=>VR C.h₀ W rv (.int i)/\s'={s with heap:=s.heap.push {cls:=.type "dict",data:=.dict #[]}}) (F.next sm) h1 h2 h3 hi λrv r=>⟨r,rfl⟩) (uk h3).1) (λkv ak hk=>?_) λU U f=>f.elim);obtain ⟨rk,rfl⟩:=hk;obtain ⟨t,rfl⟩:=cz rk;refine aw (cW (aw (Constant_bool (aw (f6 (ba ?_))))));refine aw (cW (ba (ba ⟨[(i,.bool b)],⟨int_is _ _,rfl,trivial⟩,hD,λh' kC sb=>?_⟩)));haveI off:Off C W s.heap.objs.size:=uo R;haveI ai:an C (λz=>z=s.heap.objs.size) W {s with heap:=s.heap.push {cls:=.type "dict",data:=.dict #[]}} W H {s with heap:=h',toks:=s.toks+1}:=an.own (D:=λz=>z=s.heap.objs.size) sm.rel off rfl sb (by refine Dc kC λo U U UV=>?_;refine aE UV λho U=>?_;exact⟨o,ho⟩);haveI dI:an C (λU=>False) W s W H {s with heap:=h',toks:=s.toks+1}:=((sm.wide λU f=>f.elim).trans ai).narrow λz hz=>.inr (hz▸oN _);refine bJ (dI.F2 (mo:=.dict [(i,.bool b)]) off (oN _) ⟨_,kC,.cons (.bool b) .nil⟩ h) λbQ bc b' z rb UW=>?_;refine aE UW λq U=>?_;exact⟨bQ,bc,b',z,rb,q⟩
theorem UX:SO C T n none:=by
 intro A ifs env m W H s Q rm hm F R h
 cases ifs with
 |nil=>
  exact wpAny_tests_nil ⟨W,H,.refl R,h⟩
 |cons c cs=>exact Ft hm
theorem UY(hx:SB C T n x):SO C T n (some x):=by
 intro A ifs env m W H s Q rm hm F R h
 cases ifs with
 |nil=>exact Ft hm
 |cons c cs=>
  cases cs with
  |nil=>
   exact wpAny_tests_one (hx A _ env m W H s Q rm hm F R h)
  |cons d ds=>exact Ft hm
end
section
variable{C:Cfg}{T:bG}{n:Nat}(ok:C.Ok)(tok:T.Ok C)
include ok tok
mutual
theorem bK: ∀x:X,SE C T n x
 | .none=>Tq
 | .bool b=>FD b
 | .int b=>Ts b
 | .str b=>Tt b
 | .var x=>FE x
 | .glob x=>Tu ok tok x
 | .bin _ a b=>Tv (bK a) (bK b)
 | .neg a=>Tw (bK a)
 | .fQ a=>Tz (bK a)
 | .eE a b=>TA (bK a) (bK b)
 | .gn a b=>TB (bK a) (bK b)
 | .cmp _ a b=>TC ok (bK a) (bK b)
 | .kD _ _ a b c=>TH ok (bK a) (bK b) (bK c)
 | .jh t a b=>TL (allB t) (bK a) (bK b)
 | .list xs=>TS (oX xs)
 | .tup xs=>TV (oX xs)
 | .lA=>TY
 | .nH x b=>UU x b
 | .call _ xs=>FK ok tok (oX xs)
 | .ji a k _=>T9 ok tok (bK a) (bK k)
 | .ao o _ xs=>FP ok tok (bK o) (oX xs)
 | .nI o k=>Ua (bK o) (bK k)
 | .rO xs=>λA e env m W H s Q rm hm F R h=>by exact h.elim
 | .attr o _=>FQ ok tok (bK o)
 | .sub o i=>FR (bK o) (bK i)
 | .jS o i=>T6 (bK o) (bK i)
 | .kE o i=>T7 (bK o) (bK i)
 | .comp e _ it c=>UT (bK it) (bK e) (Gc c)
theorem allB: ∀x:X,SB C T n x
 | .fQ a=>TM (allB a)
 | .eE a b=>TN (allB a) (allB b)
 | .gn a b=>TO (allB a) (allB b)
 | .cmp _ a b=>TD ok (bK a) (bK b)
 | .kD _ _ a b c=>TK ok (bK a) (bK b) (bK c)
 | .var x=>Ud x
 | .call _ xs=>Ue ok tok (oX xs)
 | .ao o _ xs=>Uf ok tok (bK o) (oX xs)
 | .attr o _=>Ug ok tok (bK o)
 | .sub o i=>Uh (bK o) (bK i)
 | .bool b=>Uc b
 | .none| .int _| .str _| .glob _| .bin _ _ _| .neg _| .jh _ _ _| .list _| .tup _| .lA| .nH _ _| .ji _ _ _| .nI _ _| .rO _| .jS _ _| .kE _ _| .comp _ _ _ _=>λA e env m W H s Q rm hm F R h=>False.elim h
theorem oX: ∀xs:List X,mz C T n xs
 |[]=>TQ
 |x::xs=>TR (bK x) (oX xs)
theorem Gc: ∀c:Option X,SO C T n c
 |none=>UX
 |some x=>UY (allB x)
end
end
inductive VF(h₀:Heap)(W:Wl):Flow->Fl->Prop
 |next:VF h₀ W .next .next
 |brk:VF h₀ W .brk .brk
 |cont:VF h₀ W .cont .cont
 |ret {v:Value} {b:V}:VR h₀ W v b->VF h₀ W (.ret v) (.ret b)
inductive jU(C:Cfg)(W:Wl)(s:Shared)(env:Env)(Q:PS)(f:Flow)(s':Shared):Prop
 |mk (W':Wl) (H':MH) (m':MM) (b:Fl) (y:an C (frame env) W s W' H' s') (F:bl C W' env m' s'.heap) (r:VF C.h₀ W' f b) (q:Q b m' H')
inductive uF(C:Cfg)(W:Wl)(s:Shared)(env:Env)(Q:MM->MH->Prop)(v:Unit)(s':Shared):Prop
 |mk (W':Wl) (H':MH) (m':MM) (y:an C (frame env) W s W' H' s') (F:bl C W' env m' s'.heap) (q:Q m' H')
theorem afM{E:Value->Shared->Prop}{Q':Flow->Shared->Prop}(h:wpAny M A m (jU C W s env Q) E σ)(k: ∀v s' W' H' m' b,an C (frame env) W s W' H' s'->bl C W' env m' s'.heap->VF C.h₀ W' v b->Q b m' H'->Q' v s'):wpAny M A m Q' E σ:=cO h (λv s' p=>p.casesOn (k v s')) λU U x=>x
theorem Ai{E:Value->Shared->Prop}{Q':Flow->Shared->Prop}(h:wpAny M A m (jU C W s env Q) (λU U=>False) σ)(k: ∀v s' W' H' m' b,an C (frame env) W s W' H' s'->bl C W' env m' s'.heap->VF C.h₀ W' v b->Q b m' H'->Q' v s'):wpAny M A m Q' E σ:=cO h (λv s' p=>p.casesOn (k v s')) λU U x=>x.elim
theorem UZ{E:Value->Shared->Prop}{Q:MM->MH->Prop}{Q':Unit->Shared->Prop}(h:wpAny M A m (uF C W s env Q) E σ)(k: ∀v s' W' H' m',an C (frame env) W s W' H' s'->bl C W' env m' s'.heap->Q m' H'->Q' v s'):wpAny M A m Q' E σ:=cO h (λv s' p=>p.casesOn (k v s')) λU U x=>x
section
variable{C:Cfg}{T:bG}{n:Nat}{A:Around}{D:Addr->Prop}{W W':Wl}{H H':MH}{s s':Shared}{env:Env}{m m':MM}{a:Addr}
theorem an.fr(x:an C (λU=>False) W s W' H' s'):an C (frame env) W s W' H' s':=x.wide λU f=>f.elim
theorem uF.trans{Q:MM->MH->Prop}{v:Unit}{iy:Shared}(x:an C (frame env) W s W' H' s')(p:uF C W' s' env Q v iy):uF C W s env Q v iy:=
 let ⟨bQ,bc,m',y,f,q⟩:=p;⟨bQ,bc,m',x.trans y,f,q⟩
theorem jU.trans{Q:PS}{v:Flow}{iy:Shared}(x:an C (frame env) W s W' H' s')(p:jU C W' s' env Q v iy):jU C W s env Q v iy:=
 let ⟨bQ,bc,m',b,y,f,r,q⟩:=p;⟨bQ,bc,m',b,x.trans y,f,r,q⟩
theorem U0(h:lH ns (.name x) e=true): ∃p,e=.Name (Str.ofString x) p/\jr (ns.lookup (Str.ofString x))=true:=
 let ⟨p,e,a,_⟩:=zY (xs:=[]) (es:=[]) h
 ⟨p,e,a⟩
theorem U1(h:lH ns (.attr o name) e=true): ∃e' p,e=.Attribute e' (Str.ofString name) p/\mt ns o e'=true:=⟨_,_,qm (aV h) (aV (aY h)),aY (aY h)⟩
theorem U2(h:lH ns (.sub o i) e=true): ∃e' j p,e=.Subscript e' j p/\mt ns o e'=true/\mt ns i j=true:=⟨_,_,_,eR (aV h),fN (aY h)⟩
theorem Aj(h:lH ns (.names xs) e=true): ∃es k p,e=.Tuple es k p/\gH ns xs es=true/\xs.Nodup:=⟨_,_,_,eR (aV h),aV (aY h),zK (aY (aY h))⟩
theorem Gd{e a b:Expr}(h1:is 25 e=true)(h2:len 2 (sh e).l=true)(h3:l0 (sh e).l=a)(h4:l1 (sh e).l=b):e=.Tuple [a,b] (sh e).n (sh e).p:=by
 refine rB h3 (rB h4 ?_);exact(eR h1).trans (bP (λl=>Expr.Tuple l (sh e).n (sh e).p) (zM h2))
theorem Ge{ns:dR}(h:lH ns (.subs o i o' i') e=true): ∃i2 wZ qr i3 w0 qt k p,e=.Tuple [.Subscript i2 wZ qr,.Subscript i3 w0 qt] k p/\mt ns o i2=true/\mt ns i wZ=true/\mt ns o' i3=true/\mt ns i' w0=true:=by
 refine gW (np h) λh1 h2 h3 h4=>?_;refine aE (fN h3) λh3 h5=>?_;refine aE (fN h4) λh4 h6=>?_;exact⟨_,_,_,_,_,_,_,_,Gd h1 h2 (eR h3) (eR h4),aV h5,aY h5,aV h6,aY h6⟩
theorem Gf{ns:dR}(h:lH ns (.attrs o x o' x') e=true): ∃i2 qr i3 qt k p,e=.Tuple [.Attribute i2 (Str.ofString x) qr,.Attribute i3 (Str.ofString x') qt] k p/\mt ns o i2=true/\mt ns o' i3=true:=by
 refine gW (np h) λh1 h2 h3 h4=>?_;refine b9 (gA h3) λh3 h5 h6=>?_;refine b9 (gA h4) λh4 h7 h8=>?_;exact⟨_,_,_,_,_,_,Gd h1 h2 (qm h3 h5) (qm h4 h7),h6,h8⟩
theorem Ak(ok:C.Ok)(tok:T.Ok C){Q:MH->Prop}(rm:dD n A)(h1:mt env.scope.names o e=true)(F:bl C W env m s.heap)(R:Rel C W H s.heap)(r:VR C.h₀ W rv v)
  (h:al C T n m o (λov aj=>fC T ov name v Q aj) H):wpAny (be C) A (assign (.Attribute e (Str.ofString name) p) env rv) (oO C W s Q) (λU U=>False) s:=by
 rw[arm_assign_Attribute];refine aw (cW (bT (bK ok tok o A e env m W H s _ rm h1 F R h) λov ak aK aj x ai ro h=>aw (f6 (aw (cW ?_)))));refine ab ((F.next ai).lv) λmm hn U=>?_;exact imp (SD ok tok h ai.rel hn (F.next ai).off ro (r.mono ai.ext)) λU aZ p=>wpAny_release (p.trans ai)
theorem Al(ok:C.Ok)(tok:T.Ok C){Q:MH->Prop}(rm:dD n A)(h1:mt env.scope.names o e=true)(h2:mt env.scope.names i j=true)(F:bl C W env m s.heap)(R:Rel C W H s.heap)(r:VR C.h₀ W rv v)
  (h:al C T n m o (λov aj=>al C T n m i (λiv aA=>d9 ov iv v Q aA) aj) H):wpAny (be C) A (assign (.Subscript e j p) env rv) (oO C W s Q) (λU U=>False) s:=by
 rw[arm_assign_Subscript];refine aw (cW (bT (bK ok tok o A e env m W H s _ rm h1 F R h) λov ak aK aj x ai ro h=>?_));refine aw (cW (bT (bK ok tok i A j env m aK aj ak _ rm h2 (F.next ai) ai.rel h) λiv aZ cn aA z aG ri h=>aw (f6 (aw (cW ?_)))));exact imp (SK h aG.rel (ro.mono aG.ext) ri ((r.mono ai.ext).mono aG.ext)) λU cP p=>wpAny_release ((p.trans aG).trans ai)
theorem U3{E:Value->Shared->Prop}{Gg yM:Value->Sem Unit}{Q:Unit->Shared->Prop}(h:wpAny M A (Gg x) (λU ak=>wpAny M A (yM y) Q E ak) E s):wpAny M A (assignInOrder [Gg,yM] [x,y]) Q E s:=by
 rw[assignInOrder];refine aw (cW (cO h (λU ak df=>?_) λU U x=>x));rw[assignInOrder];exact aw (cW (cO df (λU aZ kM=>ba kM) λU U x=>x))
theorem uG{a b:V}(R:Rel C W H s.heap)(r:VR C.h₀ W rv (.tup [a,b])): ∃t x y j,rv=.ref t/\s.heap.get? t=some ({cls:=.type "tuple",data:=.seq ([x,y]:List Value).toArray j}:Obj)/\VR C.h₀ W x a/\VR C.h₀ W y b:=by
 refine ag (jo r) λt o1=>?_;subst o1;refine bM (jn R r) λdb j ho rs=>?_
 cases rs with
 |cons r1 rs=>
  cases rs with
  |cons r2 rs=>cases rs;exact⟨t,_,_,j,rfl,ho,r1,r2⟩
theorem Gh(ok:C.Ok)(tok:T.Ok C){Q:MM->MH->Prop}(rm:dD n A)(hm:lH env.scope.names t tg=true)(F:bl C W env m s.heap)(R:Rel C W H s.heap)(r:VR C.h₀ W rv v)(h:jm C T n m t v Q H):
  wpAny (be C) A (assign tg env rv) (uF C W s env Q) (λU U=>False) s:=by
 have two: ∀{i2 i3:Expr} {k:Nat} {p:Pos} {a b:V} (h1:(assignEach [i2,i3] env)=[(false,assign i2 env),(false,assign i3 env)]),v=.tup [a,b]-> ∀{Q:Unit->Shared->Prop},
   (∀ak x y,an C (λU=>False) W s W H ak->VR C.h₀ W x a->VR C.h₀ W y b->wpAny (be C) A (assign i2 env x) (λU aZ=>wpAny (be C) A (assign i3 env y) Q (λU U=>False) aZ) (λU U=>False) ak)->
   wpAny (be C) A (assign (.Tuple [i2,i3] k p) env rv) Q (λU U=>False) s:=by
  intro i2 i3 k p a b h1 hv Q' hh;subst hv;refine nn (uG R r) λt x y j o2 ho r1 r2=>?_;subst o2;refine wpAny_assign_Tuple rm.hh ⟨_,ho,rfl,j,rfl⟩ (by refine rG h1 ?_;rfl) (by refine rG h1 ?_;rfl) λh' k=>?_;refine rG h1 ?_;refine ab F.lv λmm hn U=>?_;exact U3 (hh _ x y (an.zX (tk:=s.toks) R k hn F.off) r1 r2)
 cases t with
 |name x=>
  refine ab (U0 hm) λp o3 h1=>?_;subst o3;exact wpAny_assign_Name (imp (wU F R h1 (ur F x) r) λU ak U4=>aE U4 λy eh=>⟨W,H,_,y,eh,h⟩)
 |attr o name=>
  refine bM (U1 hm) λe p o4 h1=>?_;subst o4;exact rY (Ak ok tok rm h1 F R r h) λU ak aK aj y q=>⟨aK,aj,m,y.fr,F.next y,q⟩
 |sub o i=>
  refine bJ (U2 hm) λe j p o5 h1 h2=>?_;subst o5;exact rY (Al ok tok rm h1 h2 F R r h) λU ak aK aj y q=>⟨aK,aj,m,y.fr,F.next y,q⟩
 |names xs=>
  refine bJ (Aj hm) λes k p o6 h1 U=>?_;subst o6;obtain ⟨vs,rfl,hl,h⟩:=h;exact imp (assign_tuple rm h1 hl.symm F R (λx U=>ur F x) r) λU ak U5=>aE U5 λy eh=>⟨W,H,_,y,eh,h⟩
 |subs o i o' i'=>
  refine oC (Ge hm) λi2 wZ qr i3 w0 qt lI=>?_;refine gX lI λk p o8 h1 h2 h3 h4=>?_;clear lI;subst o8;obtain ⟨a,b,rfl,h⟩:=h;refine two rfl rfl λak x y z r1 r2=>?_;refine rY (Al ok tok rm h1 h2 (F.next z) z.rel r1 h) λU aZ cn aA dv h=>?_;exact rY (Al ok tok rm h3 h4 ((F.next z).next dv) dv.rel (r2.mono dv.ext) h) λU cP eS bh gK q=>⟨eS,bh,m,(z.trans (dv.trans gK)).fr,((F.next z).next dv).next gK,q⟩
 |attrs o x o' x'=>
  refine Kv (Gf hm) λi2 qr i3 qt k p cY h1 h2=>?_;subst cY;obtain ⟨a,b,rfl,h⟩:=h;refine two rfl rfl λak x y z r1 r2=>?_;refine rY (Ak ok tok rm h1 (F.next z) z.rel r1 h) λU aZ cn aA dv h=>?_;exact rY (Ak ok tok rm h2 ((F.next z).next dv) dv.rel (r2.mono dv.ext) h) λU cP eS bh gK q=>⟨eS,bh,m,(z.trans (dv.trans gK)).fr,((F.next z).next dv).next gK,q⟩
theorem set_comm(h:x≠y):set (set m x v) y w=set (set m y w) x v:=by
 funext z;unfold set
 by_cases a:z=y
 .exact rG (az a) (rG (ax (λb=>h (b.symm.trans a))) (rG (az a) rfl))
 .exact rG (ax a) (rG (ax a) rfl)
theorem U6: ∀{vs:List V} {m:MM},x∉xs->da (set m x v) xs vs=set (da m xs vs) x v:=by
 induction xs with
 |nil=>intro U U U;rfl
 |cons y xs ih=>
  intro vs m h
  cases vs with
  |nil=>rfl
  |cons w vs=>
   refine(?_:da (set (set m x v) y w) xs vs=set (da (set m y w) xs vs) x v);exact rG (set_comm (λe:x=y=>h (e▸List.Mem.head _))) (rG (ih λq=>h (.tail _ q)) rfl)
theorem U7: ∀{vs:List V} {m:MM},xs.length=vs.length->da m (xs++[x]) (vs++[v])=set (da m xs vs) x v:=by
 induction xs with
 |nil=>intro vs U h;cases vs with|nil=>rfl|cons _ _=>cases h
 |cons y xs ih=>intro vs m h;cases vs with|nil=>cases h|cons w vs=>exact ih (m:=set m y w) (Nat.succ.inj h)
theorem U8: ∀{vs:List V} {m:MM},xs.Nodup->xs.length=vs.length->da m xs.reverse vs.reverse=da m xs vs:=by
 induction xs with
 |nil=>intro vs U U h;cases vs with|nil=>rfl|cons _ _=>cases h
 |cons x xs ih=>
  intro vs m hd h
  cases vs with
  |nil=>cases h
  |cons v vs=>
   haveI hd:=List.nodup_cons.mp hd;haveI hl:xs.length=vs.length:=Nat.succ.inj h;refine rG nC (rG nC (rG (U7 (by rw[rJ,rJ];exact hl)) (rG (ih hd.2 hl) ?_)));exact(U6 hd.1).symm
theorem U9(r:aF C.h₀ W db vs): ∀{xs:List String} {m:MM} {s:Shared},(∀x,x∈xs->jr (env.scope.names.lookup (Str.ofString x))=true)->xs.length=vs.length->bl C W env m s.heap->Rel C W H s.heap->
  wpAny (be C) A (assignInOrder ((xs.map Str.ofString).map λx=>bindName env x) db) (λU s'=>an C (frame env) W s W H s'/\bl C W env (da m xs vs) s'.heap) (λU U=>False) s:=
 r.ind (P:=λdb vs=> ∀{xs:List String} {m:MM} {s:Shared},(∀x,x∈xs->jr (env.scope.names.lookup (Str.ofString x))=true)->xs.length=vs.length->bl C W env m s.heap->Rel C W H s.heap->
  wpAny (be C) A (assignInOrder ((xs.map Str.ofString).map λx=>bindName env x) db) (λU s'=>an C (frame env) W s W H s'/\bl C W env (da m xs vs) s'.heap) (λU U=>False) s)
  (λ{xs _ _} _ hl F R=>by cases List.eq_nil_of_length_eq_zero hl;exact ba ⟨.refl R,F⟩) λ{_ _ _ _} r _ ih {xs _ _} h hl F R=>by
  cases xs with
  |nil=>cases hl
  |cons x xs=>
   rw[dq,dq,assignInOrder];refine aw (cW (wpAny_bindName (imp (wU F R (h x (.head _)) (ur F x) r) λU ak hq=>?_)));refine aE hq λai eh=>?_;clear hq;exact imp (ih (λz hz=>h z (.tail _ hz)) (Nat.succ.inj hl) eh ai.rel) λU aZ Va=>aE Va λaG cA=>⟨ai.trans aG,cA⟩
theorem Gi(h:aF C.h₀ W db vs):aF C.h₀ W db.reverse vs.reverse:=
 h.ind (P:=λdb vs=>aF C.h₀ W db.reverse vs.reverse) .nil λa U p=>by refine rG nC (rG nC ?_);exact p.snoc a
theorem Vb{f:Expr->Option Str}(hf: ∀e y,f e=some y-> ∃p,e=.Name y p)(h:gH ns xs ts=true):(ts.filterMap f).length<=ts.length/\((ts.filterMap f).length=ts.length->ts.filterMap f=xs.map Str.ofString):=
 ut (P:=λxs ts=>(ts.filterMap f).length<=ts.length/\((ts.filterMap f).length=ts.length->ts.filterMap f=xs.map Str.ofString)) ⟨cG _,λU=>rfl⟩ (λ{x xs p ts} _ _ _ ih=>by
  cases q:f (.Name (Str.ofString x) p) with
  |none=>
   refine rG (tP q) ?_;exact⟨jO ih.1,λe=>absurd ih.1 (by refine rG e ?_;exact Nat.not_succ_le_self _)⟩
  |some y=>
   refine ag (hf _ _ q) λp' e=>?_;cases e;refine rG (rC q) ?_;exact⟨Nat.succ_le_succ ih.1,λe=>by refine rG (ih.2 (Nat.succ.inj e)) ?_;rfl⟩) h
theorem Vc(h:gH ns xs ts=true): ∀x,x∈xs->jr (ns.lookup (Str.ofString x))=true:=
 ut (P:=λxs U=> ∀x,x∈xs->jr (ns.lookup (Str.ofString x))=true) (λU hx=>by cases hx) (λa U U ih y hy=>(List.mem_cons.mp hy).elim (λe=>e▸a) (ih y)) h
end
abbrev SS(C:Cfg)(T:bG)(n:Nat)(st:S):Prop:= ∀(A:Around) (e:Stmt) (env:Env) (m:MM) (W:Wl) (H:MH) (s:Shared) (Q:PS),dD n A->zQ env.scope.names st e=true->
 bl C W env m s.heap->Rel C W H s.heap->wpS C T n st Q m H->wpAny (be C) A (exec e env) (jU C W s env Q) (λU U=>False) s
abbrev nX(C:Cfg)(T:bG)(n:Nat)(st:List S):Prop:= ∀(A:Around) (e:List Stmt) (env:Env) (m:MM) (W:Wl) (H:MH) (s:Shared) (Q:PS),dD n A->jT env.scope.names st e=true->
 bl C W env m s.heap->Rel C W H s.heap->bo C T n st Q m H->wpAny (be C) A (execs e env) (jU C W s env Q) (λU U=>False) s
section
variable{C:Cfg}{T:bG}{n:Nat}{A:Around}{D:Addr->Prop}{W W':Wl}{H H':MH}{s s':Shared}{env:Env}{m m':MM}{a:Addr}
noncomputable def SW(t:Tg)(tg:Expr)(z:Sem (Option (List Str))):Prop:=z=pure none∨ ∃xs es k p,t=.names xs/\tg=.Tuple es k p/\z=pure (some (xs.map Str.ofString))
theorem sn:SW t tg (pure none):=.inl rfl
theorem uH[d:Decidable c](h:c->SW t tg x)(g: ¬c->SW t tg y):SW t tg (if c then x else y):=by
 by_cases z:c
 .refine rG (az z) ?_;exact h z
 .refine rG (ax z) ?_;exact g z
theorem Vd{c:Str->Pos->Bool}{e:Expr}(h:(match e with
  | .Name id pos=>if c id pos=true then some id else none
  |_=>none)=some y): ∃p,e=.Name y p:=by
 cases e with
 |Name id pos=>
  by_cases z:c id pos=true
  .haveI h:(if c id pos=true then some id else none)=some y:=h;replace h:=(az z)▸h;cases h;exact⟨_,rfl⟩
  .haveI h:(if c id pos=true then some id else none)=some y:=h;replace h:=(ax z)▸h;exact Ns h
 |_=>exact Ns h
theorem Ve{tg v:Expr}(hm:lH env.scope.names t tg=true)(hf:zP v=true):SW t tg (swappedStores [tg] v env):=by
 cases tg with
 |Tuple ts k p=>
  cases v with
  |Tuple vs k' p'=>
   refine uH (λU=>sn) λh1=>uH (λU=>sn) λh2=>uH (λU=>sn) λh3=>uH (λU=>sn) λh4=>?_;haveI hf:(!vs.all (constantsAlone 8)||vs.all (foldedForSure 8))=true:=hf;refine uH (λz=>absurd (by haveI hf:=z▸hf;exact hf:vs.all (foldedForSure 8)=true) h4) λU=>?_;have h3:=(Decidable.not_not.mp λq=>h3 (Bool.or_eq_true_iff.mpr (.inl (bne_iff_ne.mpr q))))
   cases t with
   |names xs=>
    refine bJ (Aj hm) λes k2 p2 e h6 U=>?_;cases e;exact .inr ⟨xs,ts,k,p,rfl,rfl,bP (λx=>(pure (some x):Sem (Option (List Str)))) ((Vb (ns:=env.scope.names) (λe y h=>Vd h) h6).2 h3)⟩
   |subs o i o' i'=>
    refine oC (Ge hm) λi2 wZ qr i3 w0 qt lI=>?_;refine bM lI λk2 pp e U=>?_;clear lI;cases e;cases h3
   |attrs o x o' x'=>
    refine Ku (Gf hm) λi2 qr i3 qt k2 pp e U=>?_;cases e;cases h3
   |_=>exact Ft hm
  |_=>exact sn
 |List ts p=>cases t<;>exact Ft hm
 |_=>exact sn
theorem Gj(h:ug v=true):swapsWith v tg line env=pure false:=by
 cases v<;>first|rfl|exact Ft h
theorem bl.ext(F:bl C W env m h)(k: ∀b o,frame env b->h.get? b=some o->h'.get? b=some o):bl C W env m h' where
 kind:=F.kind
 glob:=F.glob
 bi:=F.bi
 lv:=by
  refine ab F.lv λmm o1 q=>?_;refine cM o1 λo es ep ho r=>?_;clear o1;exact⟨mm,⟨o,es,ep,k _ _ (.inl rfl) ho,r⟩,q⟩
 off:=F.off
 cell:=λy c e=>by
  refine b9 (F.cell y c e) λa b bw=>?_;refine bM bw λv o ho hd=>?_;clear bw;exact⟨a,b,v,o,k _ _ (.inr ⟨y,e⟩) ho,hd⟩
 mh:=F.mh
 apart:=F.apart
 has:=F.has
 cv:=λy v e ky=>by
  refine bE (F.cv y v e ky) λc rv a o2 z=>?_;refine ab o2 λo ho hd=>?_;clear o2;exact⟨c,rv,a,⟨o,k _ _ (.inr ⟨_,a⟩) ho,hd⟩,z⟩
theorem Vf{st:Stmt}(h:zQ ns (.asg t e) st=true): ∃tg v p,st=.Assign [tg] v p/\lH ns t tg=true/\mt ns e v=true/\zP v=true:=by
 exact⟨_,_,_,(kJ (aV h)).trans (bP (λl=>Stmt.Assign l (aU st).v (aU st).p) (ui (aV (aY h)))),gA (aY (aY h))⟩
theorem Vg(tg:Expr):(∃y py,tg=.Name y py)∨swapsWithSole [tg] (.ListComp ee gens sc p') line env=pure false:=by
 cases tg<;>first|exact .inr rfl|exact .inl ⟨_,_,rfl⟩
theorem Vh: ∃b,swapsWithSole [.Name y py] (.ListComp ee gens sc p') line env=pure b:=by
 exact⟨_,rfl⟩
theorem Vi{use:Value->Sem Unit}:evalThenUse (.ListComp el gens sc p) env use=(do let _<-comprehension (.ListComp el gens sc p) sc env (firstIterPos gens p) (newList []) (firstAsync gens) (firstIter gens env) (some use)):=rfl
theorem Vj(h1:lH env.scope.names t tg=true):(assignEach [tg] env).map (·.2)=[assign tg env]:=by
 cases tg with
 |Starred a b=>cases t<;>exact Ft h1
 |_=>rfl
theorem Vk(ok:C.Ok)(tok:T.Ok C){t:Tg}:SS C T n (.asg t e):=by
 intro A st env m W H s Q rm hm F R h;refine jI (Vf hm) λtg v p o3 h1 h2 h3=>?_;subst o3;refine rG (exec_Assign_arm _ _ _) ?_;refine aw (f6 ?_);have plain:wpAny (be C) A (do let rv<-eval v env;assignStores env rv (<-swappedStores [tg] v env) ((assignEach [tg] env).map (·.2))) (jU C W s env Q) (λU U=>False) s:=by
  refine aw (imp (bK ok tok e A v env m W H s _ rm h2 F R h) λrv ak hq=>?_);obtain ⟨aK,aj,x,ai,r,h⟩:=hq;haveI stores:=Vj (env:=env) h1;rcases Ve (env:=env) h1 h3 with hw|⟨xs,es,k,q,rfl,rfl,hw⟩
  .refine rG hw (rG stores ?_);refine aw (ba (aw ?_));refine UZ (Gh ok tok rm h1 (F.next ai) ai.rel r h) λU aZ cn aA m₂ aG cA q=>ba ⟨cn,aA,m₂,.next,ai.fr.trans aG,cA,.next,q⟩
  .refine rG hw ?_;refine aw (ba (aw (wpAny_rule ?_)));obtain ⟨vs,rfl,hl,h⟩:=h;obtain ⟨mf,k',p',e1,h4,hd⟩:=Aj h1;obtain ⟨t',rfl⟩:=jo r;obtain ⟨db,j,ho,rs⟩:=jn ai.rel r;haveI hlen:(xs.map Str.ofString).length=db.toArray.size:=by exact rG (au _) (rG cy (rG rs.length (rG hl rfl)))
   refine rG hlen ?_;refine aw (wpAny_unpackItems_tuple rm.hh ⟨_,ho,rfl,j,rfl⟩ λh' ke=>?_);obtain ⟨mm,hn,_⟩:=(F.next ai).lv;have aG:an C (λU=>False) aK ak aK aj {ak with heap:=h'}:=an.zX (tk:=ak.toks) ai.rel ke hn (F.next ai).off;refine aw ?_;haveI e2:((xs.map Str.ofString).reverse.map λn=>bindName env n)=((xs.reverse.map Str.ofString).map λn=>bindName env n):=by simp
   refine rG e2 ?_;refine imp (U9 (vs:=vs.reverse) (by simpa using Gi rs) (xs:=xs.reverse) (λx hx=>Vc h4 x (List.mem_reverse.mp hx)) (by exact rG rJ (rG rJ (rG hl rfl))) ((F.next ai).next aG) aG.rel) λU cP Vl=>aE Vl λci mH=>ba ?_;haveI mH:=(U8 hd hl.symm)▸mH;exact⟨aK,aj,_,.next,(ai.trans aG).fr.trans ci,mH,.next,h⟩
 have go: ∀b:Bool,swapsWithSole [tg] v p.line env=pure b->(b=true->wpAny (be C) A (do evalThenUse v env λv=>assignAll v ((assignEach [tg] env).map (·.2));pure Flow.next) (jU C W s env Q) (λU U=>False) s)->
   wpAny (be C) A (do
    if<-swapsWithSole [tg] v p.line env then do
     evalThenUse v env λv=>assignAll v ((assignEach [tg] env).map (·.2))
     pure .next
    else do
     let v'<-eval v env
     assignStores env v' (<-swappedStores [tg] v env) ((assignEach [tg] env).map (·.2))) (jU C W s env Q) (λU U=>False) s:=by
  intro b hb hu;refine rG hb ?_;refine aw (ba ?_)
  cases b with
  |false=>refine rG (ax (by decide)) ?_;exact plain
  |true=>refine rG (az rfl) ?_;exact hu rfl
 cases hc:ug v with
 |true=>exact go false (Gj hc) (Ft)
 |false=>
  refine yZ (Tp h2 hc) λel tt it c o6=>?_;subst o6;refine Dg (Fz h2) λee Gk iter ifs sc p' o7 a1 a2 a3 a4 a5 a6 U=>?_;subst o7;rcases Vg (env:=env) (ee:=ee) (gens:=[⟨Gk,iter,ifs,0⟩]) (sc:=sc) (p':=p') (line:=p.line) tg with ⟨y,py,rfl⟩|hb
  .refine ag (Vh (env:=env) (ee:=ee) (gens:=[⟨Gk,iter,ifs,0⟩]) (sc:=sc) (y:=y) (py:=py) (p':=p') (line:=p.line)) λb hb=>?_;refine go b hb λU=>?_;refine aw ?_;refine rG Vi ?_;refine aw (imp (F4 (Qv:=λU s'=>jU C W s env Q .next s') (bK ok tok it) (bK ok tok el) (Gc ok tok c) rm a1 a2 a3 a4 a5 a6 F R h λaK aj ak ai W' H' σ b d Cx mm z rb q dead off hn=>?_) λU s' hq=>ba (ba hq));haveI eh:=F.next ai;refine imp (Gh ok tok rm h1 (eh.next z) z.rel rb q) λU aZ hq=>?_;obtain ⟨cn,aA,m₂,aG,cA,q⟩:=hq;have nf:=eh.wX dead;refine⟨mm,aG.zw hn off.r nf,λh' sb=>?_⟩;refine cM (id hn) λoc U U Vm U=>?_;haveI Vn:Off C cn Cx:=off.iX Vm aG;refine ab cA.lv λGl o8 U=>?_;refine cM o8 λol es ep mI rl=>?_;clear o8;haveI ne:env.locals≠Cx:=λe=>nf (.inl e.symm);refine⟨cn,aA,m₂,.next,ai.fr.trans ((z.fr.trans aG).cut (tk:=aZ.toks) Vn dead (λx o n e=>(sb.2 x n).trans e) (size_of cA.off.ge ((sb.2 _ ne).trans mI))),cA.ext λb o fb e=>(sb.2 b (λe'=>nf (e'▸fb))).trans e,.next,q⟩
  .exact go false hb (Ft)
theorem Vo(ok:C.Ok)(tok:T.Ok C):SS C T n (.expr e):=by
 intro A st env m W H s Q rm hm F R h;refine rG (kJ (aV hm)) ?_;exact wpAny_Expr_any (bT (bK ok tok e A _ env m W H s _ rm (aV (aY hm)) F R h) λrv ak aK aj x ai r h=>⟨aK,aj,m,.next,ai.fr,F.next ai,.next,h⟩) (by unfold interactive;refine rG F.kind ?_;rfl) (Gj (aY (aY hm)))
theorem Vp(ok:C.Ok)(tok:T.Ok C):SS C T n (.ret e):=by
 intro A st env m W H s Q rm hm F R h;refine rG ((kJ (aV hm)).trans (bP (λx=>Stmt.Return x (aU st).p) (zT (aV (aY hm))))) ?_;haveI hm:=aY (aY hm);exact wpAny_Return_some (bT (bK ok tok e A _ env m W H s _ rm hm F R h) λrv ak aK aj x ai r h=>⟨aK,aj,m,.ret x,ai.fr,F.next ai,.ret r,h⟩)
theorem Vq:SS C T n .nJ:=by
 intro A st env m W H s Q rm hm F R h;refine rG ((kJ (aV hm)).trans (bP (λx=>Stmt.Return x (aU st).p) (uj (aY hm)))) ?_;exact wpAny_Return_none ⟨W,H,m,.ret .none,.refl R,F,.ret .none,h⟩
theorem Vr:SS C T n .brk:=by
 intro A st env m W H s Q rm hm F R h;refine rG (kJ hm) ?_;exact wpAny_Break ⟨W,H,m,.brk,.refl R,F,.brk,h⟩
theorem Vs:SS C T n .cont:=by
 intro A st env m W H s Q rm hm F R h;refine rG (kJ hm) ?_;exact wpAny_Continue ⟨W,H,m,.cont,.refl R,F,.cont,h⟩
theorem Vt:SS C T n .pass:=by
 intro A st env m W H s Q rm hm F R h;refine rG (kJ hm:st=.Pass (aU st).p) (rG (arm_exec_Pass _ _) ?_);exact aw (f6 (ba ⟨W,H,m,.next,.refl R,F,.next,h⟩))
theorem Vu(ok:C.Ok)(tok:T.Ok C){a b:List S}(ha:nX C T n a)(hb:nX C T n b):SS C T n (.ite t a b):=by
 intro A st env m W H s Q rm hm F R h;refine rG (kJ (aV hm)) ?_;refine b9 (gA (aY hm)) λh1 h2 h3=>?_;refine wpAny_If (imp (allB ok tok t A _ env m W H s _ rm h1 F R h) λc ak hq=>?_);obtain ⟨aK,aj,ai,h⟩:=hq;cases c
 .exact imp (hb A _ env m aK aj ak _ rm h3 (F.next ai) ai.rel h) λf aZ p=>p.trans ai.fr
 .exact imp (ha A _ env m aK aj ak _ rm h2 (F.next ai) ai.rel h) λf aZ p=>p.trans ai.fr
theorem Vv:nX C T n []:=by
 intro A st env m W H s Q rm hm F R h
 cases st with
 |nil=>
  exact wpAny_execs_nil ⟨W,H,m,.next,.refl R,F,.next,h⟩
 |cons e es=>exact Ft hm
theorem Vw(hx:SS C T n x)(hs:nX C T n xs):nX C T n (x::xs):=by
 intro A st env m W H s Q rm hm F R h
 cases st with
 |nil=>exact Ft hm
 |cons e es=>
  haveI hm:=fN hm;refine wpAny_execs_cons (imp (hx A e env m W H s _ rm hm.1 F R h) λf ak hq=>?_);obtain ⟨aK,aj,m₁,b,ai,eh,vf,h⟩:=hq
  cases vf with
  |next=>exact imp (hs A es env m₁ aK aj ak _ rm hm.2 eh ai.rel h) λf aZ p=>p.trans ai
  |brk=>exact⟨aK,aj,m₁,.brk,ai,eh,.brk,h⟩
  |cont=>exact⟨aK,aj,m₁,.cont,ai,eh,.cont,h⟩
  |ret r=>exact⟨aK,aj,m₁,.ret _,ai,eh,.ret r,h⟩
theorem Vx(ok:C.Ok)(tok:T.Ok C)(hb:nX C T n b):SS C T n (.mj t b):=by
 intro A st env m W H s Q rm hm F R h;refine gW (np hm) λh0 h3 h1 h2=>?_;refine rG ((kJ h0).trans (bP (λb=>Stmt.While (aU st).v (aU st).a b (aU st).p) (List.isEmpty_iff.mp h3))) ?_;obtain ⟨k,h⟩:=h;refine wpAny_While (codeAny_whileLoop (λk σ=> ∃W' H' m',an C (frame env) W s W' H' σ/\bl C W' env m' σ.heap/\oP (λm P H=>bH C T n m t P H) (λP m H=>bo C T n b P m H) k Q m' H') ?_ k ⟨W,H,m,.refl R,F,h⟩);intro k σ o9;refine bJ o9 λW' H' m' y F' h=>?_;clear o9
 cases k with
 |zero=>exact h.elim
 |succ k=>
  refine imp' (allB ok tok t A _ env m' W' H' σ _ rm h1 F' y.rel h) λc ak hq=>?_;obtain ⟨aK,aj,ai,h⟩:=hq;cases c
  .simp only[nB,ix] at h ⊢;exact wpAny_execs_nil ⟨aK,aj,m',.next,y.trans ai.fr,F'.next ai,.next,h⟩
  .simp only[if_true] at h ⊢;refine imp' (hb A _ env m' aK aj ak _ rm h2 (F'.next ai) ai.rel h) λf aZ hq=>?_;obtain ⟨cn,aA,m₂,b,aG,cA,vf,h⟩:=hq
   cases vf with
   |next=>exact⟨k,Nat.lt_succ_self k,cn,aA,m₂,(y.trans ai.fr).trans aG,cA,h⟩
   |cont=>exact⟨k,Nat.lt_succ_self k,cn,aA,m₂,(y.trans ai.fr).trans aG,cA,h⟩
   |brk=>exact⟨cn,aA,m₂,.next,(y.trans ai.fr).trans aG,cA,.next,h⟩
   |ret r=>exact⟨cn,aA,m₂,.ret _,(y.trans ai.fr).trans aG,cA,.ret r,h⟩
end
section
variable{C:Cfg}{T:bG}{n:Nat}{A:Around}{D:Addr->Prop}{W W':Wl}{H H':MH}{s s':Shared}{env:Env}{m m':MM}{a:Addr}
theorem qv{α:Type}{m:Sem α}{P:α->Shared->Prop}{E:Value->Shared->Prop}(h: ∀(P':α->Shared->Prop) (E':Value->Shared->Prop),(∀v s,P v s->P' v s)->wpAny M A m P' E' s):wpAny M A m P E s:=h P E λU U q=>q
theorem Am{ok:MH->Prop}{body:V->PS->MM->MH->Prop}(h:iA ok body xs Q m H):ok H:=by
 cases xs<;>exact h.1
theorem cQ.hold(uB:cQ C I v j W s.heap)(z:an C D W s bQ bc s')(fi:Off C W I)(nd: ¬D I):cQ C I v j bQ s'.heap/\Off C bQ I:=by
 refine bE uB.data λo fs uC Ae U=>?_;refine aE (z.hold fi nd uC (by intro U U e;replace e:=Ae▸e;cases e)) λq1 q2=>?_;exact⟨uB.mono z.ext λo' e=>by replace e:=uC▸e;cases e;exact q1,q2⟩
inductive Gm(C:Cfg)(D:Addr->Prop)(aK:Wl)(ak:Shared)(env:Env)(it:Nat->Wl->Heap->Prop)(len:Nat)(lp:Nat->MM->MH->Prop)(k:Nat)(σ:Shared):Prop
 |mk (W':Wl) (H':MH) (m':MM) (i:Nat) (x:an C D aK ak W' H' σ) (F:bl C W' env m' σ.heap) (st:it i W' σ.heap) (hi:i<=len) (hk:k=len-i) (hP:lp i m' H')
theorem Vy(ok:C.Ok)(tok:T.Ok C)(hb:nX C T n body):SS C T n (.dF t it body):=by
 intro A st env m W H s Q rm hm F R h;refine eK (fg hm) λq1 q2 h1 h2 h3 h4=>?_;refine rG ((kJ q1).trans (bP (λb=>Stmt.For (aU st).v (aU st).w (aU st).a b (aU st).p) (List.isEmpty_iff.mp q2))) ?_;generalize (aU st).w=iter at*;generalize (aU st).a=b at*;refine wpAny_For (bT (bK ok tok it A iter env m W H s _ rm h2 F R h) λx ak aK aj iv ai rx Vz=>ag Vz λxs h=>?_) (F3 h3);have eh:=F.next ai;have hU:=ai.rel;refine cQ.make hU rx (Am h) λh' fT hk st=>?_;generalize hI:ak.heap.objs.size=I at*;have dead:ak.heap.get? I=none:=hI▸oN _;haveI VA:Off C aK I:=hI▸uo hU;haveI oU:an C (λU=>False) aK ak aK aj {ak with heap:=h'}:=an.ext' (tk:=ak.toks) hU hk (by refine rG fT (rG hI ?_);exact jR _);have nf: ¬frame env I:=eh.wX dead;generalize nT:(λ(x:V) (P:PS) (m₂:MM) (aA:MH)=> ∃m',kG m₂ t x=some m'/\bo C T n body P m' aA)=step at h;refine codeAny_forLoop_any (Gm C (λb=>b=I∨frame env b) aK ak env (λi W h=>cQ C I iv i W h/\Off C W I) xs.length λi m H=>iA (fS iv xs) step (xs.drop i) Q m H)
  ?_ xs.length ⟨aK,aj,m,0,oU.wide λU f=>f.elim,eh.next oU,⟨st,VA⟩,gm _,rfl,h⟩
 rintro k σ ⟨W',H',m',i,eG,cA,⟨uy,fI⟩,hi,fw,hP⟩;refine qv λPP EE uI=>?_;have fin: ∀{W':Wl} {H':MH} {σ:Shared},an C (λb=>b=I∨frame env b) aK ak W' H' σ->an C (frame env) W s W' H' σ:=λx=>ai.fr.trans (x.narrow λb hb=>hb.elim (λe=>.inr (e▸dead)) .inl)
 cases hx:xs[i]? with
 |none=>
  haveI iD:xs.drop i=[]:=by refine rI List.drop_eq_nil_iff ?_;exact List.getElem?_eq_none_iff.mp hx
  replace hP:=iD▸hP;refine cQ.stop rm eG.rel uy hP.1 hx λfq ke=>uI _ _ (wpAny_execs_nil ?_);haveI ne:env.locals≠I:=λe=>nf (.inl e.symm);refine ab cA.lv λGl o3 U=>?_;refine cM o3 λol es ep mI rl=>?_;exact⟨W',H',m',.next,fin (eG.cut (tk:=σ.toks) fI dead ke (size_of cA.off.ge (ke _ _ ne mI))),cA.ext λb o fb e=>ke b o (λe'=>nf (e'▸fb)) e,.next,hP.2⟩
 |some x=>
  have dH:i<xs.length:=(List.getElem?_eq_some_iff.mp hx).1;haveI iD:xs.drop i=x::xs.drop (i+1):=by
   refine rG (pY dH) ?_
   congr 1
   exact(List.getElem?_eq_some_iff.mp hx).2
  haveI hP:=iD▸hP;subst nT;refine aE hP λhV cj=>?_;refine ab cj λm₂ VB hP=>?_;refine cQ.item eG.rel uy hV fI hx λrv fq tk rr uA sb alive=>uI _ _ (qv λP1 E1 An=>?_);have dv:an C (λb=>b=I) W' σ W' H' {σ with heap:=fq,toks:=tk}:=an.own (D:=λb=>b=I) eG.rel fI rfl sb alive;have mH:=cA.kept dv λb hb=>hb▸nf;refine cQ.letGo (v:=iv) (i:=i+1) (C:=C) (W:=W') uA (An _ _ ?_);refine imp' (FV (D:=frame env) rm h1 VB mH dv.rel (λy U=>ur mH y) rr) λ_ σ₂ ⟨gK,oV⟩=>qv λP2 E2 Ao=>?_;refine aE (cQ.hold (s:={σ with heap:=fq,toks:=tk}) (by exact uA) gK fI nf) λAf Ag=>?_;refine Ai (hb A b env m₂ W' H' σ₂ _ rm h4 oV gK.rel hP) λf σ₃ eS bh nY fl jv nV vf hP=>Ao _ _ ?_;refine aE (Af.hold jv Ag nf) λuD uE=>?_;have dI:an C (λb=>b=I∨frame env b) aK ak eS bh σ₃:=((eG.trans (dv.wide λU e=>.inl e)).trans (gK.wide λU e=>.inr e)).trans (jv.wide λU e=>.inr e)
  cases vf with
  |next=>exact⟨xs.length-(i+1),(qZ fw dH),eS,bh,nY,i+1,dI,nV,⟨uD,uE⟩,dH,rfl,hP⟩
  |cont=>exact⟨xs.length-(i+1),(qZ fw dH),eS,bh,nY,i+1,dI,nV,⟨uD,uE⟩,dH,rfl,hP⟩
  |brk=>exact⟨eS,bh,nY,.next,fin dI,nV,.next,hP⟩
  |ret r=>exact⟨eS,bh,nY,.ret _,fin dI,nV,.ret r,hP⟩
theorem zipIdx_get{xs:List V}{i:Nat}:(xs.zipIdx.map λ(p:V×Nat)=>V.tup [.int p.2,p.1])[i]?=(xs[i]?).map λx=>V.tup [.int i,x]:=by
 refine rG (fA) (rG (List.getElem?_zipIdx) (rG (Option.map_map _ _ _) ?_))
 cases xs[i]? with
 |none=>rfl
 |some x=>simp
theorem VC(ok:C.Ok)(tok:T.Ok C)(hb:nX C T n body):SS C T n (.rP x y it body):=by
 intro A st env m W H s Q rm hm F R h;refine eK (fg hm) λq1 q2 h4 q3 h1 hm=>?_;refine eK (fg hm) λq5 q6 q7 h2 q8 hm=>?_;refine b9 (gA hm) λq9 h3 gq=>?_;haveI h2:=eq_of_beq h2;refine rG ((kJ q1).trans ((bP (λb=>Stmt.For (aU st).v (aU st).w (aU st).a b (aU st).p) (List.isEmpty_iff.mp q2)).trans ((bP (λv=>Stmt.For v (aU st).w (aU st).a [] (aU st).p) (eR q3)).trans
  (bP (λw=>Stmt.For (zL 25 (sh (aU st).v) (aU st).v) w (aU st).a [] (aU st).p) (qk q5 (isName q6 q7) (ui q8) (rX q9)))))) ?_
 generalize l0 (sh (aU st).w).l=iter at*;generalize (aU st).a=b at*;haveI Ap:gp env.scope.names [it] [iter]=true:=y5 gq (y5 h3 rfl);refine wpAny_For (wpAny_Call_ofName (Calls.Name_function_global F.kind h2 (ul ok F R (.inr tok.Sv) ?_) (by decide))) (λU=>rfl);refine wT (K:=C.K) (xs:=[it]) rfl Ap ?_;haveI lK:=rZ [] env gq;rw[lK];refine Calls.spliced_cons (bT (bK ok tok it A iter env m W H s _ rm h3 F R h) λlv ak aK aj iv ai rx VD=>bE VD λr xs VE afN h=>Calls.spliced_nil ⟨ai.rel.du ok,?_⟩);subst VE;haveI eh:=F.next ai;have hU:=ai.rel;refine ab (dQ rx) λl o4 pl=>?_;subst o4;refine bJ (eP hU (Am h)) λl' afO afP ql mI afQ=>?_;rw[pl] at ql;cases ql;refine call_enumerate_1 mI λh' Gn hit fT hk=>?_;generalize hI:ak.heap.objs.size=I at*;refine wpAny_pyIter_enum Gn ?_;have dead: ∀b,I<=b->ak.heap.get? b=none:=λb hb=>by
  cases q:ak.heap.get? b with
  |none=>rfl
  |some o=>exact absurd (cu q) (Nat.not_lt.mpr (hI.symm▸hb))
 have si: ∀b,I<=b->Off C aK b:=λb hb=>⟨eM hU.size (hI.symm▸hb),λr e=>absurd (hU.lt e) (Nat.not_lt.mpr (hI.symm▸hb)),λp q z=>absurd (cu (hU.bA p q).1) (Nat.not_lt.mpr (by rw[z,hI];exact hb))⟩;haveI oU:an C (λU=>False) aK ak aK aj {ak with heap:=h'}:=an.ext' (tk:=ak.toks) hU hk (by rw[fT,hI];exact tO);have nf: ∀b,I<=b-> ¬frame env b:=λb hb=>eh.wX (dead b hb);haveI uw: @Ne Nat (I+1) I:=by exact Dv
 haveI Ac: @Ne Nat I (I+1):=by exact Du
 generalize nT:(λ(v:V) (P:PS) (m₂:MM) (aA:MH)=> ∃i w,v=V.tup [.int i,w]/\bo C T n body P (set (set m₂ x (.int i)) y w) aA)=step at h;refine codeAny_forLoop_any (Gm C (λb=>(b=I∨b=I+1)∨frame env b) aK ak env (λi W h=> ∃old,IsEnum h (I+1) I (i:Nat) old/\h.IsListIter I l i/\Off C W I/\Off C W (I+1)) xs.length λi m H=>iA (fS (.ref r) xs) step ((xs.zipIdx.map λ(p:V×Nat)=>V.tup [.int p.2,p.1]).drop i) Q m H)
  ?_ xs.length ⟨aK,aj,m,0,oU.wide λU f=>f.elim,eh.next oU,⟨.none,Gn,hit,si _ (cG _),si _ (jR _)⟩,gm _,rfl,h⟩
 rintro k σ ⟨W',H',m',i,eG,cA,⟨old,Aq,it₁,fI,fE⟩,hi,fw,hP⟩;refine qv λPP EE uI=>?_;have fin: ∀{W':Wl} {H':MH} {σ:Shared},an C (λb=>(b=I∨b=I+1)∨frame env b) aK ak W' H' σ->an C (frame env) W s W' H' σ:=λx=>ai.fr.trans (x.narrow λb hb=>hb.elim (λe=>.inr (dead b (by rcases e with rfl|rfl<;>first|exact cG _|exact pW))) .inl);haveI hV:=Am hP;refine bJ (eP eG.rel hV) λl' vs k₁ ql mI Go=>?_;have VG:W'.ρ r=some l:=eG.ext.r _ _ pl;rw[VG] at ql;cases ql;have hlen:(xs.zipIdx.map λ(p:V×Nat)=>V.tup [.int p.2,p.1]).length=xs.length:=by rw[au,List.length_zipIdx]
 cases hx:xs[i]? with
 |none=>
  haveI iD:(xs.zipIdx.map λ(p:V×Nat)=>V.tup [.int p.2,p.1]).drop i=[]:=by rw[List.drop_eq_nil_iff,hlen];exact List.getElem?_eq_none_iff.mp hx
  rw[iD] at hP;refine wpAny_pyNext_enum_end rm.hh Aq it₁ (eQ mI) (by rw[ny,pX,Go.length,<-pX];exact hx) λfq ke=>uI _ _ (wpAny_execs_nil ?_);haveI ne:env.locals≠I:=λe=>nf I (cG _) (.inl e.symm);refine ab cA.lv λGl o7 U=>?_;refine cM o7 λol es ep mI rl=>?_;exact⟨W',H',m',.next,fin (eG.cut (tk:=σ.toks) fI (dead I (cG _)) ke (size_of cA.off.ge (ke _ _ ne mI))),cA.ext λb o fb e=>ke b o (λe'=>nf I (cG _) (e'▸fb)) e,.next,hP.2⟩
 |some w=>
  have dH:i<xs.length:=(List.getElem?_eq_some_iff.mp hx).1;haveI iD:(xs.zipIdx.map λ(p:V×Nat)=>V.tup [.int p.2,p.1]).drop i=V.tup [.int i,w]::(xs.zipIdx.map λ(p:V×Nat)=>V.tup [.int p.2,p.1]).drop (i+1):=by
   rw[pY (by rw[hlen];exact dH)]
   congr 1
   haveI:=zipIdx_get (xs:=xs) (i:=i);rw[hx] at this;exact(List.getElem?_eq_some_iff.mp this).2
  rw[iD] at hP;subst nT;refine aE hP λU cj=>?_;refine bM cj λi' w' e hP=>?_;cases e;refine ab (Go.get hx) λdJ hv rr=>?_;refine wpAny_pyNext_enum_item Aq it₁ (eQ mI) (x:=dJ) (by rw[ny];exact hv) uw λfq Gp Gq VH VJ uJ=>uI _ _ (qv λP1 E1 An=>?_);generalize hZ:σ.heap.objs.size=Z at*;have mJ:I+1<Z:=by haveI:=cu Aq;rw[hZ] at this;exact this
  have dv:an C (λb=>b=I∨b=I+1) W' σ ⟨W'.ρ,(Z,hJ [.int i σ.toks,dJ])::W'.T⟩ H' {σ with heap:=fq,toks:=σ.toks+1}:=by
   refine⟨⟨_,_,rfl⟩,⟨λU U e=>e,λU e=>.tail _ e⟩,⟨λb o e=>uJ b o ?_ ?_ (eG.rel.keep b o e),?_,λu o e=>?_,eG.rel.d8,eG.rel.inj,λq hq=>?_,eG.rel.fin,λq hq=>.tail _ (eG.rel.base q hq)⟩,λb o e=>?_,λU U e=>.inl e,λq hq=>?_,λb o e nr nd=>.inl (uJ b o (λz=>nd (.inr z)) (λz=>nd (.inl z)) e)⟩
   .exact λz=>absurd (cu e) (Nat.not_lt.mpr (z▸fE.ge))
   .exact λz=>absurd (cu e) (Nat.not_lt.mpr (z▸fI.ge))
   .refine(?_:_<=fq.objs.size);rw[VJ];exact jO (hZ▸eG.rel.size)
   .refine ab (eG.rel.obj u o e) λb p t=>?_;exact⟨b,p,iV.mono (W:=W') ⟨λU U e=>e,λU e=>.tail _ e⟩ (λo e=>uJ b o (λz=>fE.r u (z▸p)) (λz=>fI.r u (z▸p)) e) t⟩
   .rcases List.mem_cons.mp hq with rfl|hq
    .exact⟨VH,λu e=>absurd (hZ▸eG.rel.lt e) (iw _)⟩
    .exact⟨uJ _ _ (fE.t q hq) (fI.t q hq) (eG.rel.bA q hq).1,(eG.rel.bA q hq).2⟩
   .by_cases z:b=I+1
    .exact⟨_,z▸Gp⟩
    .by_cases z':b=I
     .refine ab Gq λo' bn U=>?_;exact⟨o',z'▸bn⟩
     .exact⟨o,uJ b o z z' e⟩
   .rcases List.mem_cons.mp hq with rfl|hq
    .exact .inr (hZ▸oN _)
    .exact .inl hq
  have mH:=cA.kept dv λb hb=>by rcases hb with rfl|rfl<;>exact nf _ (by first|exact cG _|exact pW)
  haveI VK:Off C ⟨W'.ρ,(Z,hJ [.int i σ.toks,dJ])::W'.T⟩ I:=⟨fI.ge,fI.r,λq hq=>by
   rcases List.mem_cons.mp hq with rfl|hq
   .exact(by exact Le mJ:(Z:Nat)≠I)
   .exact fI.t q hq⟩
  have Gr:Off C ⟨W'.ρ,(Z,hJ [.int i σ.toks,dJ])::W'.T⟩ (I+1):=⟨fE.ge,fE.r,λq hq=>by
   rcases List.mem_cons.mp hq with rfl|hq
   .exact((Nat.ne_of_gt mJ):(Z:Nat)≠I+1)
   .exact fE.t q hq⟩
  refine wpAny_letOwnedTupleGo_enum Gp λnO Gs Gu=>An _ _ (qv λP3 E3 VL=>?_);have gK:an C (λb=>b=I+1) _ {σ with heap:=fq,toks:=σ.toks+1} _ H' {σ with heap:=nO,toks:=σ.toks+1}:=an.own (D:=λb=>b=I+1) dv.rel Gr rfl Gu ⟨_,Gs⟩;have oV:=mH.kept gK λb hb=>hb▸nf _ (jR _);haveI VM:nO.IsListIter I l (i+1):=by
   refine ab Gq λo ho q=>?_;exact⟨o,(Gu.2 I Ac).trans ho,q⟩
  haveI rt:VR C.h₀ ⟨W'.ρ,(Z,hJ [.int i σ.toks,dJ])::W'.T⟩ (.ref Z) (.tup [.int i,w]):=.tup (n:=0) (.head _) (.cons (.int _ _) (.cons (rr.mono dv.ext) .nil));refine imp' (assign_tuple rm h1 rfl oV gK.rel (λy U=>ur oV y) rt) λ_ σ₂ ⟨jv,nV⟩=>VL _ _ (qv λP2 E2 Ao=>?_);have Gv: ∀{Wa Wb:Wl} {Ha:MH} {sa sb:Shared},sa.heap.IsListIter I l (i+1)->IsEnum sa.heap (I+1) I ((i:Int)+1) dJ->Off C Wa I->Off C Wa (I+1)->an C (frame env) Wa sa Wb Ha sb->
    sb.heap.IsListIter I l (i+1)/\IsEnum sb.heap (I+1) I ((i:Int)+1) dJ/\Off C Wb I/\Off C Wb (I+1):=by
   intro Wa Wb Ha sa sb ⟨o,ho,hc,hd⟩ e f g z;refine aE (z.hold f (nf I (cG _)) ho (by intro U U e;rw[hd] at e;cases e)) λq1 q2=>?_;refine aE (z.hold g (nf _ (jR _)) e (by intro U U e;cases e)) λq3 q4=>?_;exact⟨⟨o,q1,hc,hd⟩,q3,q2,q4⟩
  refine gW (Gv (sa:={σ with heap:=nO,toks:=σ.toks+1}) VM Gs VK Gr jv) λa1 a2 a3 a4=>?_;refine Ai (hb A b env _ _ H' σ₂ _ rm h4 nV jv.rel hP) λf σ₃ eS bh nY fl nW oW vf hP=>Ao _ _ ?_;refine gW (Gv a1 a2 a3 a4 nW) λb1 b2 b3 b4=>?_;have dI:an C (λb=>(b=I∨b=I+1)∨frame env b) aK ak eS bh σ₃:=(((eG.trans (dv.wide λU e=>.inl e)).trans (gK.wide λU e=>.inl (.inr e))).trans (jv.wide λU e=>.inr e)).trans (nW.wide λU e=>.inr e);haveI Gw:IsEnum σ₃.heap (I+1) I ((i+1:Nat):Int) dJ:=by rw[Int.natCast_add];exact b2
  cases vf with
  |next=>exact⟨xs.length-(i+1),(qZ fw dH),eS,bh,nY,i+1,dI,oW,⟨dJ,Gw,b1,b3,b4⟩,dH,rfl,hP⟩
  |cont=>exact⟨xs.length-(i+1),(qZ fw dH),eS,bh,nY,i+1,dI,oW,⟨dJ,Gw,b1,b3,b4⟩,dH,rfl,hP⟩
  |brk=>exact⟨eS,bh,nY,.next,fin dI,oW,.next,hP⟩
  |ret r=>exact⟨eS,bh,nY,.ret _,fin dI,oW,.ret r,hP⟩
end
section
variable{C:Cfg}{T:bG}{n:Nat}(ok:C.Ok)(tok:T.Ok C)
include ok tok
mutual
theorem VN: ∀x:S,SS C T n x
 | .expr _=>Vo ok tok
 | .asg _ _=>Vk ok tok
 | .ret _=>Vp ok tok
 | .nJ=>Vq
 | .ite _ a b=>Vu ok tok (oY a) (oY b)
 | .dF _ _ b=>Vy ok tok (oY b)
 | .rP _ _ _ b=>VC ok tok (oY b)
 | .mj _ b=>Vx ok tok (oY b)
 | .brk=>Vr
 | .cont=>Vs
 | .pass=>Vt
 | .raise=>λA e env m W H s Q rm hm F R h=>False.elim h
theorem oY: ∀xs:List S,nX C T n xs
 |[]=>Vv
 |x::xs=>Vw (VN x) (oY xs)
end
end
theorem VO{ns:List Str}: ∀{vs:List Value},vs.length=ns.length-> ∀n,n∈ns->((ns.zip vs).lookup n).isSome=true:=by
 induction ns with
 |nil=>intro vs U n hn;cases hn
 |cons a ns ih=>
  intro vs hl n hn
  cases vs with
  |nil=>cases hl
  |cons v vs=>
   refine rG List.zip_cons_cons (rG gC ?_);by_cases e:n=a
   .subst e;simp
   .haveI:(n==a)=false:=by simpa using e
    refine rG this ?_;rcases List.mem_cons.mp hn with h|h
    .exact absurd h e
    .exact ih (by simpa using hl) n h
theorem zip_map{ns:List Str}: ∀{vs:List Value},vs.length=ns.length->ns.Nodup->(ns.filterMap λn=>((ns.zip vs).lookup n).map (n,·))=ns.zip vs:=by
 haveI main: ∀(pre ns:List Str) (pv vs:List Value),vs.length=ns.length->pv.length=pre.length->(pre++ns).Nodup->(ns.filterMap λn=>(((pre++ns).zip (pv++vs)).lookup n).map (n,·))=ns.zip vs:=by
  intro pre ns
  induction ns generalizing pre with
  |nil=>intro pv vs hl U U;cases vs with|nil=>rfl|cons _ _=>cases hl
  |cons a ns ih=>
   intro pv vs hl hp hd
   cases vs with
   |nil=>cases hl
   |cons v vs=>
    haveI w5:a∉pre:=λh=>by
     rw[List.nodup_append] at hd;exact hd.2.2 a h a (.head _) rfl
    haveI Ar:((pre++a::ns).zip (pv++v::vs)).lookup a=some v:=by
     refine rG (List.zip_append (by rw[hp])) ?_;clear ih hd hl
     induction pre generalizing pv with
     |nil=>cases pv with|nil=>simp|cons _ _=>cases hp
     |cons b pre As=>
      cases pv with
      |nil=>cases hp
      |cons w pv=>
       refine rG List.zip_cons_cons (rG List.cons_append (rG gC ?_));haveI:(a==b)=false:=by simpa using λ(e:a=b)=>w5 (e▸List.Mem.head _)
       refine rG this ?_;exact As pv (by simpa using hp) λh=>w5 (.tail _ h)
    refine rG (rC (by rw[Ar];rfl)) (rG List.zip_cons_cons ?_)
    congr 1
    haveI:=ih (pre++[a]) (pv++[v]) vs (by simpa using hl) (by simp[hp]) (by refine rG (iu _ _ _) ?_;exact hd);haveI this:=(iu _ _ _)▸(iu _ _ _)▸this;exact this
 intro vs hl hd;exact main [] ns [] vs hl rfl hd
theorem Au{β:Type}{x:Str}{k:β}{l:List (Str×β)}(h:l.lookup x=some k):(x,k)∈l:=rh h
theorem Gx{α:Type}{c:Prop}[d:Decidable c]{x y r:Sem α}(h: ¬c)(g:y=r):(if c then x else y)=r:=(ax h).trans g
theorem VP{α β σ:Type}{l:List β}(h:l=[]){f:β->σ->Sem (ForInStep σ)}{i:σ}{k:σ->Sem α}{r:Sem α}(g:k i=r):(forIn l i f>>=k)=r:=by subst h;exact g
theorem zd{α β:Type}{l:List α}{r:List β}{k:Nat}(h:r=[]):l.zip (r.drop k)=[]:=by subst h;exact rG List.drop_nil (rG List.zip_nil_right rfl)
theorem zm{α β:Type}{l k:List α}{f:α->Option β}{r:List β}(e:l=k)(h:k.filterMap f=r):l.filterMap f=r:=e▸h
theorem nz{α:Type}{l:List α}(h:l=[])(z:(!l.isEmpty)=true):False:=by replace z:=h▸z;exact Ft z
noncomputable def FN(fd:FuncData)(as:List Arg)(v:Value):FuncData:={fd with params:=⟨[],as,none,[],fd.params.kw_defaults,none,fd.params.defaults⟩,defaults:=v}
theorem VQ{p:Arguments}(h1:p.posonlyargs=[])(h2:p.kwonlyargs=[])(h3:p.vararg=none)(h4:p.kwarg=none):p=⟨[],p.args,none,[],p.kw_defaults,none,p.defaults⟩:=by
 cases p;cases h1;cases h2;cases h3;cases h4;rfl
theorem Gy{fd:FuncData}(h1:fd.params.posonlyargs=[])(h2:fd.params.kwonlyargs=[])(h3:fd.params.vararg=none)(h4:fd.params.kwarg=none)(h5:fd.defaults=v):fd=FN fd fd.params.args v:=by
 subst h5;exact bP (λp=>({fd with params:=p}:FuncData)) (VQ h1 h2 h3 h4)
theorem VS{fd:FuncData}{ns:List Str}{vs:List Value}(h0:fd.params.args.map (·.arg)=ns)(h1:fd.params.posonlyargs=[])(h2:fd.params.kwonlyargs=[])(h3:fd.params.vararg=none)(h4:fd.params.kwarg=none)(h5:fd.defaults=.none)
  (hl:vs.length=ns.length) (hd:ns.Nodup):bindArgs fd ⟨vs,[]⟩=pure (ns.zip vs):=by
 haveI hm: ∀k,(ns.take k).filter (λn=>((ns.zip vs).lookup n).isNone)=[]:=λk=>by
  refine rI List.filter_eq_nil_iff ?_;intro n hn;haveI:=VO hl n (km hn)
  cases q:(ns.zip vs).lookup n with
  |none=>replace this:=q▸this;exact Ft this
  |some v=>exact lw
 refine rG (Gy h1 h2 h3 h4 h5) ?_;subst h0;exact Gx (λz=>Nat.not_lt.mpr (Nat.le_of_eq hl) (fP (aV z))) (Gx (λz=>nz (hm _) z) (VP (zd rfl) (bP Sem.pure (zm (f5 _) (zip_map hl hd)))))
theorem afR{l:dR}(h:l.lookup x=some k):(x,k)∈l:=lookup_mem h
theorem Av(x:Str): ∀(l:dR) (n:Nat) (acc:List (Str×Addr)),(∃c,acc.lookup x=some c)-> ∃c,(cellsFrom n l acc).lookup x=some c
 |[],n,acc,h=>h
 |(y,k)::r,n,acc,h=>by
  unfold cellsFrom;split
  .refine Av x r _ _ ?_;refine rG gC ?_;cases x==y
   .exact h
   .exact⟨_,rfl⟩
  .exact Av x r _ _ h
theorem uK(x:Str): ∀(l:dR) (n:Nat) (acc:List (Str×Addr)),(x,NameKind.cell)∈l-> ∃c,(cellsFrom n l acc).lookup x=some c
 |[],n,acc,h=>by cases h
 |(y,k)::r,n,acc,h=>by
  unfold cellsFrom;rcases List.mem_cons.mp h with h|h
  .cases h;refine rG (az (by rfl)) ?_;exact Av x r _ _ ⟨n,by simp⟩
  .split
   .exact uK x r _ _ h
   .exact uK x r _ _ h
section
variable{C:Cfg}{T:bG}{n:Nat}{A:Around}{D:Addr->Prop}{W W':Wl}{H H':MH}{s s':Shared}{env:Env}{m m':MM}{a:Addr}
noncomputable def PL(C:Cfg)(W:Wl)(kf:Str->Option NameKind)(mA:MM)(mL:Str->Option Value):Prop:= ∀y v,mA y=some v->kf (Str.ofString y)=some .local-> ∃rv,mL (Str.ofString y)=some rv/\VR C.h₀ W rv v
noncomputable def PC(C:Cfg)(W:Wl)(kf:Str->Option NameKind)(mA:MM)(mL:Str->Option Value):Prop:= ∀y v,mA y=some v->kf (Str.ofString y)≠some .local-> ∃rv,mL (Str.ofString y)=some rv/\VR C.h₀ W rv v
theorem Gz(kf:Str->Option NameKind)(r:aF C.h₀ W db vs): ∀{ps:List String} {mA:MM} {mL mC:Str->Option Value},ps.length=vs.length->PL C W kf mA mL->PC C W kf mA mC->
  PL C W kf (da mA ps vs) (bindL kf ((ps.map Str.ofString).zip db) mL)/\PC C W kf (da mA ps vs) (bindC kf ((ps.map Str.ofString).zip db) mC):=
 r.ind (P:=λdb vs=> ∀{ps:List String} {mA:MM} {mL mC:Str->Option Value},ps.length=vs.length->PL C W kf mA mL->PC C W kf mA mC->
  PL C W kf (da mA ps vs) (bindL kf ((ps.map Str.ofString).zip db) mL)/\PC C W kf (da mA ps vs) (bindC kf ((ps.map Str.ofString).zip db) mC))
  (λ{_ _ _ _} hl h1 h2=>by cases List.eq_nil_of_length_eq_zero hl;exact⟨h1,h2⟩) λ{rv v _ _} r _ ih {ps mA mL mC} hl h1 h2=>by
  cases ps with|nil=>cases hl|cons p ps=>?_
  refine ih (mA:=set mA p v) (mL:=if kf (Str.ofString p)=some .local then λy=>if y=Str.ofString p then some rv else mL y else mL)
   (mC:=if kf (Str.ofString p)=some .local then mC else λy=>if y=Str.ofString p then some rv else mC y) (Nat.succ.inj hl) ?_ ?_
  .intro y w e k;by_cases z:y=p
   .subst z;have:w=v:=by simpa[set] using e.symm
    refine rG (az k) ?_;exact⟨rv,az rfl,this▸r⟩
   .have z': ¬Str.ofString y=Str.ofString p:=λe=>z (lC e);refine ab (h1 y w (by simpa[set,z] using e) k) λdJ a b=>?_;refine⟨dJ,?_,b⟩;split
    .exact(ax z').trans a
    .exact a
  .intro y w e k;by_cases z:y=p
   .subst z;have:w=v:=by simpa[set] using e.symm
    refine rG (ax k) ?_;exact⟨rv,az rfl,this▸r⟩
   .have z': ¬Str.ofString y=Str.ofString p:=λe=>z (lC e);refine ab (h2 y w (by simpa[set,z] using e) k) λdJ a b=>?_;refine⟨dJ,?_,b⟩;split
    .exact a
    .exact(ax z').trans a
noncomputable def cR(Q:PV):PS:=λf U H'=>match f with
 | .ret v=>Q v H'
 | .next=>Q .none H'
 |_=>False
structure Aw(C:Cfg)(a:Addr)(params:List String)(ss:List S)(fd:FuncData):Prop where
 obj: ∃fo,C.K.lookup a=some fo/\fo.data=.func fd
 g:fd.globals=mainGlobals
 b:fd.builtins=builtinsNs
 cl:fd.closure=[]
 body: ∃b,fd.body=.stmts b/\jT fd.scope.names ss b=true
 co:fd.scope.isCoroutine=false
 gen:fd.scope.isGenerator=false
 kind:fd.scope.kind=.function
 code:codeIn C.K fd.code fd.qualname=true
 par: ∀p,p∈params->jr (fd.scope.names.lookup (Str.ofString p))=true
 VT: ∀p,p∈fd.scope.names->p.2≠.free
noncomputable def jw(C:Cfg)(n:Nat)(f:V)(args:List V)(Q:PV)(H:MH):Prop:=
 ∀(A:Around) (W:Wl) (s:Shared) (L:Addr) (mm:Str->Option Value) (fv:Value) (bu:List Value),dD n A->Rel C W H s.heap->s.heap.Ns L mm->Off C W L->
  VR C.h₀ W fv f->aF C.h₀ W bu args->
  codeAny (model C.prog C.w) A (.call fv ⟨bu,[]⟩) (λr s'=>match r with| .ok (.ret v)=>aN C W s Q v s'| .ok _=>False| .error _=>False) s
theorem jw.oZ(h:jw C n f args Q H):aM C n f args Q H:=λA W s L mm fv bu rm R hn o rf ra=>wpAny_call (h A W s L mm fv bu rm R hn o rf ra)
theorem GA(ok:C.Ok)(tok:T.Ok C){fd:FuncData}{params:List String}{ss:List S}(X:Aw C a params ss fd)(hl:params.length=hX.length)
  (uL: ∀(s:Shared) (W:Wl) (bu:List Value),C.K.In s.heap->aF C.h₀ W bu args-> ∃eW,BindsTo s fd ⟨bu,[]⟩ ((params.map Str.ofString).zip eW)/\aF C.h₀ W eW hX)
  (h:bo C T n ss (cR Q) (da (λU=>none) params hX) H): ∀(A:Around) (W:Wl) (s:Shared) (fv:Value) (bu:List Value),dD (n+1) A->Rel C W H s.heap->VR C.h₀ W fv (.con (.ref a))->aF C.h₀ W bu args->
  codeAny (model C.prog C.w) A (.call fv ⟨bu,[]⟩) (λr s'=>match r with| .ok (.ret v)=>aN C W s Q v s'| .ok _=>False| .error _=>False) s:=by
 intro A W s fv bu rm R rf ra;cases rf;refine ab X.obj λfo hK hd=>?_;refine ab X.body λb hb hm=>?_;have KI:=R.du ok;refine ab (uL s W bu KI ra) λeW hB rb=>?_;haveI uM:=rm.dep;haveI Ax:=rm.tT;refine codeAny_call_function (by exact Dx uM) (KI _ _ hK) hd X.co X.gen hb (codeRec_of KI X.code) (hB _ _ _ _ ?_);refine rG X.cl ?_;refine wpAny_newFunctionEnv_cells X.kind (λx hx=>?_) λenv he ak x=>?_
 .refine ab (List.mem_map.mp (List.of_mem_zip hx).1) λp hp uN=>?_;haveI:=X.par p hp;haveI this:=uN▸this;unfold jr at this;split at this
  .rename_i k;exact .inl k
  .rename_i k
   refine ag (uK x.1 fd.scope.names (s.heap.objs.size+1) [] (lookup_mem k)) λc hc=>?_;exact .inr ⟨k,by refine rG hc ?_;rfl⟩
  .cases this
 .haveI VU:ak.heap.NoLimit:=(ok.lim.keeps R.keep).keeps x.toInCall.keep;have e1:env.scope=fd.scope:=by refine rG he ?_;rfl
  have e2:env.locals=s.heap.objs.size:=by refine rG he ?_;rfl
  haveI e3:env.globals=fd.globals:=by refine rG he ?_;rfl
  haveI e4:env.builtins=fd.builtins:=by refine rG he ?_;rfl
  have e5:env.cells=cellsFrom (s.heap.objs.size+1) fd.scope.names []:=by refine rG he ?_;rfl
  clear he;refine aE (Gz (C:=C) (W:=W) env.kindOf rb (mA:=λU=>none) (mL:=λU=>none) (mC:=λU=>none) hl (λU U e=>by cases e) (λU U e=>by cases e)) λAy VV=>?_;haveI hi:=x.toInCall;replace hi:=e2▸hi;refine dM hi.same λdf tk o1=>?_;subst o1;have y:an C (λU=>False) W s W H {s with heap:=df,toks:=tk}:=an.ext' R hi.keep (eT hi.ns.lt);have lL: ∀z c,env.cells.lookup z=some c->s.heap.objs.size<c:=λz c e=>e2▸x.above z c (Au e);haveI VW: ∀c,s.heap.objs.size<=c->Off C W c:=λc hc=>⟨eM R.size hc,λr e=>absurd (R.lt e) (Nat.not_lt.mpr hc),λp q z=>absurd (cu (R.bA p q).1) (Nat.not_lt.mpr (z▸hc))⟩;haveI dead: ∀c,s.heap.objs.size<=c->s.heap.get? c=none:=λc hc=>by
   cases q:s.heap.get? c with
   |none=>rfl
   |some o=>exact absurd (cu q) (Nat.not_lt.mpr hc)
  have GB: ∀z,env.kindOf z≠some .free:=λz k=>X.VT (z,.free) (lookup_mem (e1▸k)) rfl;haveI F:bl C W env (da (λU=>none) params hX) df:=by
   refine⟨by refine rG e1 ?_;exact X.kind,e3.trans X.g,e4.trans X.b,⟨_,e2▸hi.ns,λz v U e k=>Ay z v e k⟩,e2▸uo R,λz c e=>⟨λr q=>?_,?_,_,x.cell z c e⟩,λz c U e=>VW c (eT (lL z c e)),λz z' c e e'=>?_,λz k=>?_,λz v e k=>?_⟩
   .exact absurd (R.lt q) (Nat.not_lt.mpr (eT (lL z c e)))
   .exact λq=>absurd (lL z c e) (by refine rG q (rG e2 ?_);exact iw _)
   .exact name_of_addr x.apart (Au e) (Au e')
   .rcases k with k|k
    .refine rG e5 ?_;exact uK z _ _ _ (lookup_mem (e1▸k))
    .exact absurd k (GB z)
   .rcases k with k|k
    .refine ab (VV z v e (by refine rG k ?_;decide)) λrv a b=>?_;refine ag (uK (Str.ofString z) fd.scope.names (s.heap.objs.size+1) [] (lookup_mem (e1▸k))) λc hc=>?_;haveI hc:=cX e5▸hc;exact⟨c,rv,hc,a▸x.cell _ _ hc,b⟩
    .exact absurd k (GB _)
  refine⟨VU,codeAny_func ?_⟩;haveI qw:dD n (A.deeper env):=⟨rm.hh,by refine(?_:A.depth+1+4*n<_);exact y8 uM,by refine(?_:A.units+3+16*n+100<_);exact Dw Ax⟩;refine Ai (oY ok tok ss (A.deeper env) b env _ W H _ _ qw (by refine rG e1 ?_;exact hm) F y.rel h) λfl aZ cn aA m₂ bb aG cA vf q=>?_;have dI:an C (λU=>False) W s cn aA aZ:=(y.fr.trans aG).narrow λc hc=>.inr (dead c (by
   rcases hc with hc|⟨z,hc⟩
   .refine rG hc (rG e2 ?_);exact cG _
   .exact eT (lL z c hc)))
  cases vf with
  |next=>exact⟨cn,aA,.none,dI,.none,q⟩
  |ret r=>exact⟨cn,aA,_,dI,r,q⟩
  |brk=>exact q.elim
  |cont=>exact q.elim
theorem GC(ok:C.Ok)(tok:T.Ok C)(X:Aw C a params ss fd)(hl:params.length=hX.length)
  (uL: ∀(s:Shared) (W:Wl) (bu:List Value),C.K.In s.heap->aF C.h₀ W bu args-> ∃eW,BindsTo s fd ⟨bu,[]⟩ ((params.map Str.ofString).zip eW)/\aF C.h₀ W eW hX)
  (h:bo C T n ss (cR Q) (da (λU=>none) params hX) H):jw C (n+1) (.con (.ref a)) args Q H:=λA W s U U fv bu rm R U U rf ra=>GA ok tok X hl uL h A W s fv bu rm R rf ra
end
noncomputable def GD:Value->Bool
 | .none=>true
 |_=>false
noncomputable def GF(ns:dR)(ss:List S):FuncBody->Bool
 | .stmts b=>jT ns ss b
 |_=>false
theorem VX(h:GF ns ss b=true): ∃l,b=.stmts l/\jT ns ss l=true:=by
 cases b<;>first|(exact Ft h;done)|exact⟨_,rfl,h⟩
noncomputable def VY(K:Frag)(params:List String)(ss:List S)(fd:FuncData):Bool:=
 fd.globals==mainGlobals&&(fd.builtins==builtinsNs&&(fd.closure.isEmpty&&(GF fd.scope.names ss fd.body&&(!fd.scope.isCoroutine&&(!fd.scope.isGenerator&&(fd.scope.kind==.function&&(codeIn K fd.code fd.qualname&&
  (params.all (λp=>jr (fd.scope.names.lookup (Str.ofString p)))&&fd.scope.names.all (λp=>p.2 !=.free)))))))))
noncomputable def jV(K:Frag)(a:Addr):Option FuncData:=match K.lookup a with
 |some o=>match o.data with
  | .func fd=>some fd
  |_=>none
 |none=>none
noncomputable def pc(K:Frag)(a:Addr)(params:List String)(ss:List S):Bool:=match jV K a with
 |some fd=>VY K params ss fd
 |none=>false
noncomputable def VZ(params:List String)(fd:FuncData):Bool:=fd.params.args.map (·.arg)==params.map Str.ofString&&(fd.params.posonlyargs.isEmpty&&(fd.params.kwonlyargs.isEmpty&&(fd.params.vararg.isNone&&(fd.params.kwarg.isNone&&(GD fd.defaults&&decide params.Nodup)))))
noncomputable def pe(K:Frag)(a:Addr)(params:List String):Bool:=match jV K a with
 |some fd=>VZ params fd
 |none=>false
set_option tactic.hygienic true in
theorem GG{K:Frag}(h:jV K a=some fd): ∃fo,K.lookup a=some fo/\fo.data=.func fd:=by
 unfold jV at h;split at h
 .rename_i o e
  split at h
  .rename_i V0 e'
   cases h;exact⟨o,e,e'⟩
  .exact Ns h
 .exact Ns h
section
variable{C:Cfg}{T:bG}{n:Nat}{H:MH}{a:Addr}
theorem Az{params:List String}(h:pc C.K a params ss=true): ∃fd,jV C.K a=some fd/\Aw C a params ss fd:=by
 unfold pc at h
 cases e:jV C.K a with
 |none=>replace h:=e▸h;exact Ft h
 |some fd=>
  haveI h:=e▸h;refine eK (fg h) λh1 h2 h3 h4 h5 h=>?_;refine nj (rj h) λh6 h7 h8 h9 kK=>?_;exact⟨fd,rfl,GG e,eq_of_beq h1,eq_of_beq h2,List.isEmpty_iff.mp h3,VX h4,gB _|>.mp h5,gB _|>.mp h6,eq_of_beq h7,h8,List.all_eq_true.mp h9,λp hp=>bne_iff_ne.mp (List.all_eq_true.mp kK p hp)⟩
theorem GH: ∀{ps:List String},ps.Nodup->(ps.map Str.ofString).Nodup
 |[],_=>eD
 |p::ps,h=>by
  rw[kB] at h;refine rG dq (rI kB ?_);refine⟨λq=>?_,GH h.2⟩;refine ab (List.mem_map.mp q) λx hx e=>?_;exact h.1 (lC e▸hx)
theorem V1(h:GD v=true):v=.none:=by cases v<;>first|rfl|exact Ft h
theorem AA(h2:pe C.K a params=true)(e:jV C.K a=some fd)(hl:params.length=args.length): ∀(s:Shared) (W:Wl) (bu:List Value),C.K.In s.heap->aF C.h₀ W bu args-> ∃eW,BindsTo s fd ⟨bu,[]⟩ ((params.map Str.ofString).zip eW)/\aF C.h₀ W eW args:=by
 unfold pe at h2;haveI h2:=e▸h2;refine eK (fg h2) λp1 p2 p3 p4 p5 p=>?_;exact λs W bu U ra=>⟨bu,BindsTo.of_eq (VS (eq_of_beq p1) (List.isEmpty_iff.mp p2) (List.isEmpty_iff.mp p3) (Option.isNone_iff_eq_none.mp p4) (Option.isNone_iff_eq_none.mp p5) (V1 (aV p)) (by exact rG (au _) (rG hl (rG ra.length rfl))) (GH (fP (aY p)))),ra⟩
theorem GI(ok:C.Ok)(tok:T.Ok C)(h1:pc C.K a params ss=true)(h2:pe C.K a params=true)(hl:params.length=args.length)
  (h:bo C T n ss (cR Q) (da (λU=>none) params args) H):jw C (n+1) (.con (.ref a)) args Q H:=by
 refine ab (Az h1) λfd e X=>?_;exact GC ok tok X hl (AA h2 e hl) h
theorem V2(ok:C.Ok)(tok:T.Ok C)(h1:pc C.K a params ss=true)(h2:pe C.K a params=true)(hl:params.length=args.length)
  (h:bo C T n ss (cR Q) (da (λU=>none) params args) H):aM C (n+1) (.con (.ref a)) args Q H:=(GI ok tok h1 h2 hl h).oZ
end
section
variable{C:Cfg}{T:bG}{n:Nat}{H:MH}{Q:PV}
theorem jx(h:aF C.h₀ W bu [a]): ∃v,bu=[v]/\VR C.h₀ W v a:=by
 cases h with|cons r rs=>cases rs;exact⟨_,rfl,r⟩
theorem AB(h:aF C.h₀ W bu [a,b]): ∃v w,bu=[v,w]/\VR C.h₀ W v a/\VR C.h₀ W w b:=by
 cases h with|cons r rs=>refine ab (jx rs) λw o1 q=>?_;subst o1;exact⟨_,_,rfl,r,q⟩
theorem V3(h:aF C.h₀ W bu [a,b,c]): ∃v w x,bu=[v,w,x]/\VR C.h₀ W v a/\VR C.h₀ W w b/\VR C.h₀ W x c:=by
 cases h with|cons r rs=>refine bE (AB rs) λw x o2 q q'=>?_;subst o2;exact⟨_,_,_,rfl,r,q,q'⟩
theorem fF(e:H r=some (.list xs))(hz:xs.length<aO)(q:Q (.int xs.length) H):aM C n (.con (.builtin "len")) [.ref r] Q H:=by
 intro A W s L mm fv bu rm R hn f rf ra;cases rf;refine ab (jx ra) λv o3 rv=>?_;subst o3;refine ab (dQ rv) λa o4 pa=>?_;subst o4;refine bJ (eP R e) λa' vs m qa ho r1=>?_;replace qa:=pa▸qa;cases qa;refine call_len_list (eQ ho) (by refine rG cy (rG r1.length ?_);exact fits63 hz) ?_;refine rG cy (rG r1.length ?_);exact aN.toks R (.int _ _) q
theorem AC(hz:xs.length<aO)(q:Q (.int xs.length) H):aM C n (.con (.builtin "len")) [.tup xs] Q H:=by
 intro A W s L mm fv bu rm R hn f rf ra;cases rf;refine ab (jx ra) λv o5 rv=>?_;subst o5;refine ag (jo rv) λa o6=>?_;subst o6;refine bM (jn R rv) λvs m ho r1=>?_;refine len_tuple (t:=a) ⟨_,ho,rfl,_,rfl⟩ (by refine rG cy (rG r1.length ?_);exact fits63 hz) ?_;refine rG cy (rG r1.length ?_);exact aN.toks R (.int _ _) q
theorem gM(q:Q (.int a.natAbs) H):aM C n (.con (.builtin "abs")) [.int a] Q H:=by
 intro A W s L mm fv bu rm R hn f rf ra;cases rf;refine ab (jx ra) λv o7 rv=>?_;subst o7;refine ag (cz rv) λt o8=>?_;subst o8;refine call_abs_int λu tk=>?_;haveI e:(if a<0 then -a else a)=a.natAbs:=by split<;>(first|exact Lf (by assumption)|exact Lg (by assumption))
 refine rG e ?_;exact aN.toks R (.int _ _) q
theorem V4(q:Q (.int a) H):aM C n (.con (.type "int")) [.int a] Q H:=by
 intro A W s L mm fv bu rm R hn f rf ra;cases rf;refine ab (jx ra) λv o9 rv=>?_;subst o9;refine ag (cz rv) λt cY=>?_;subst cY;exact call_int_int (aN.here R (.int _ _) q)
theorem GJ(q:Q (.int (if b<a then b else a)) H):aM C n (.con (.builtin "min")) [.int a,.int b] Q H:=by
 intro A W s L mm fv bu rm R hn f rf ra;cases rf;refine bE (AB ra) λv w eb rv dJ=>?_;subst eb;refine ag (cz rv) λt f8=>?_;subst f8;refine ag (cz dJ) λu iC=>?_;subst iC;refine min_two_ints rm.hh λh' tk k=>?_;refine cM hn λo es ep ho r=>?_;haveI y:an C (λU=>False) W s W H {s with heap:=h',toks:=tk}:=by
  refine⟨⟨_,_,rfl⟩,.refl _,⟨λb o e=>k _ _ (R.keep b o e),size_of f.ge (k _ _ ho),λr o e=>?_,R.d8,R.inj,λp hp=>⟨k _ _ (R.bA p hp).1,(R.bA p hp).2⟩,R.fin,R.base⟩,λb o e=>⟨o,k b o e⟩,λU U e=>.inl e,λU e=>.inl e,λb o e U U=>.inl (k b o e)⟩;refine ab (R.obj r o e) λa p q=>?_;exact⟨a,p,q.mono (.refl _) λo e=>k _ _ e⟩
 refine⟨W,H,_,y,?_,q⟩;split<;>exact .int _ _
theorem qx(q:Q (.bq 0 a 1) H):aM C n (.con (.type "range")) [.int a] Q H:=by
 intro A W s L mm fv bu rm R hn f rf ra;cases rf;refine ab (jx ra) λv nM rv=>?_;subst nM;refine ag (cz rv) λt ml=>?_;subst ml;exact call_range_1 ⟨_,_,_,an.rM R _ _,.bq (.head _),q⟩
theorem AD(q:Q (.bq a b 1) H):aM C n (.con (.type "range")) [.int a,.int b] Q H:=by
 intro A W s L mm fv bu rm R hn f rf ra;cases rf;refine bE (AB ra) λv w mn rv dJ=>?_;subst mn;refine ag (cz rv) λt lE=>?_;subst lE;refine ag (cz dJ) λu mq=>?_;subst mq;exact call_range_2 ⟨_,_,_,an.rM R _ _,.bq (.head _),q⟩
theorem AE(hc:c≠0)(fu:c.natAbs<1000000)(q:Q (.bq a b c) H):aM C n (.con (.type "range")) [.int a,.int b,.int c] Q H:=by
 intro A W s L mm fv bu rm R hn f rf ra;cases rf;refine jI (V3 ra) λv w x qf rv dJ rx=>?_;subst qf;refine ag (cz rv) λt qg=>?_;subst qg;refine ag (cz dJ) λu rU=>?_;subst rU;refine ag (cz rx) λy t9=>?_;subst t9;exact call_range_3 hc ⟨_,_,_,an.rM R _ _,.bq (.head _),q⟩ (.inl (PyProof.noPylong_small (bI fu rfl)))
theorem GK{mm:Str->Option Value}(R:Rel C W H s.heap)(hn:s.heap.Ns L mm)(f:Off C W L)(k: ∀b o,s.heap.get? b=some o->h'.get? b=some o)(hd:s.heap.objs.size<=d)
  (ho:h'.get? d=some (PySem.W.listOf vs.toArray j)) (r:aF C.h₀ W vs xs) (q:cH (.list xs) Q H):aN C W s Q (.ref d) {s with heap:=h',toks:=tk}:=by
 refine cM hn λo es ep jy U=>?_;haveI y:an C (λU=>False) W s W H {s with heap:=h',toks:=tk}:=by
  refine⟨⟨_,_,rfl⟩,.refl _,⟨λb o e=>k _ _ (R.keep b o e),size_of f.ge (k _ _ jy),λr o e=>?_,R.d8,R.inj,λp hp=>⟨k _ _ (R.bA p hp).1,(R.bA p hp).2⟩,R.fin,R.base⟩,λb o e=>⟨o,k b o e⟩,λU U e=>.inl e,λU e=>.inl e,λb o e U U=>.inl (k b o e)⟩;refine ab (R.obj r o e) λa p q=>?_;exact⟨a,p,q.mono (.refl _) λo e=>k _ _ e⟩
 haveI off:Off C W d:=⟨eM R.size hd,λr e=>absurd (R.lt e) (Nat.not_lt.mpr hd),λp q z=>absurd (cu (R.bA p q).1) (Nat.not_lt.mpr (z▸hd))⟩;haveI dead:s.heap.get? d=none:=by
  cases q:s.heap.get? d with
  |none=>rfl
  |some o=>exact absurd (cu q) (Nat.not_lt.mpr hd)
 refine jI (y.adopt off dead ho r q) λbQ bc b z rb q U=>?_;exact⟨bQ,bc,b,z,rb,q⟩
theorem AF(e:H r=some (.list xs))(hz:xs.length<aO)(q:cH (.list xs) Q H):aM C n (.con (.type "list")) [.ref r] Q H:=by
 intro A W s L mm fv bu rm R hn f rf ra;cases rf;refine ab (jx ra) λv ua rv=>?_;subst ua;refine ab (dQ rv) λa zF pa=>?_;subst zF;refine bJ (eP R e) λa' vs m qa ho r1=>?_;replace qa:=pa▸qa;cases qa;exact call_list_seq a (.inl rfl) ho rfl rfl (λh' c' k hd=>GK (tk:=s.toks) R hn f k (cG _) hd r1 q) (by refine rG cy (rG r1.length ?_);exact iB hz)
theorem GL(hz:xs.length<aO)(q:cH (.list xs) Q H):aM C n (.con (.type "list")) [.tup xs] Q H:=by
 intro A W s L mm fv bu rm R hn f rf ra;cases rf;refine ab (jx ra) λv zG rv=>?_;subst zG;refine ag (jo rv) λa V5=>?_;subst V5;refine bM (jn R rv) λvs m ho r1=>?_;exact call_list_seq a (.inr rfl) ho rfl rfl (λh' c' k hd=>GK (tk:=s.toks) R hn f k (cG _) hd r1 q) (by refine rG cy (rG r1.length ?_);exact iB hz)
theorem GN(q:Q (.tup xs) H):aM C n (.con (.type "tuple")) [.tup xs] Q H:=by
 intro A W s L mm fv bu rm R hn f rf ra;cases rf;refine ab (jx ra) λv V6 rv=>?_;subst V6;refine ag (jo rv) λa V7=>?_;subst V7;refine bM (jn R rv) λvs m ho r1=>?_;exact call_tuple_same ⟨_,ho,rfl,_,rfl⟩ (aN.here R rv q)
theorem qy(e:H r=some (.list xs))(hz:xs.length<aO)(q:Q (.tup xs) H):aM C n (.con (.type "tuple")) [.ref r] Q H:=by
 intro A W s L mm fv bu rm R hn f rf ra;cases rf;refine ab (jx ra) λv V8 rv=>?_;subst V8;refine ab (dQ rv) λa V9 pa=>?_;subst V9;refine bJ (eP R e) λa' vs m qa ho r1=>?_;replace qa:=pa▸qa;cases qa;refine call_tuple_list (eQ ho) (λh' k=>?_) (by refine rG cy (rG r1.length ?_);exact iB hz);refine cM (id hn) λo es ep jy rL=>?_;haveI y:an C (λU=>False) W s W H {s with heap:=h'}:=by
  refine⟨⟨_,_,rfl⟩,.refl _,⟨λb o e=>k _ _ (R.keep b o e),size_of f.ge (k _ _ jy),λr o e=>?_,R.d8,R.inj,λp hp=>⟨k _ _ (R.bA p hp).1,(R.bA p hp).2⟩,R.fin,R.base⟩,λb o e=>⟨o,k b o e⟩,λU U e=>.inl e,λU e=>.inl e,λb o e U U=>.inl (k b o e)⟩;refine ab (R.obj r o e) λa p q=>?_;exact⟨a,p,q.mono (.refl _) λo e=>k _ _ e⟩
 exact aN.trans y (tZ (s:={s with heap:=h'}) y.rel q r1 s.toks)
theorem w6(e:H r=some (.list (ns.map V.int)))(hz:ns.length<64)(q: ∀hY:List Int,hY.Perm ns->hY.Pairwise (· <= ·)->cH (.list (hY.map V.int)) Q H):aM C n (.con (.builtin "sorted")) [.ref r] Q H:=by
 intro A W s L mm fv bu rm R hn f rf ra;cases rf;refine ab (jx ra) λv Wc rv=>?_;subst Wc;refine ab (dQ rv) λa Wd pa=>?_;subst Wd;refine bJ (eP R e) λa' vs m qa ho r1=>?_;replace qa:=pa▸qa;cases qa;refine sorted_N (R.fr hn f) (wF C.h₀ s.heap L (λU=>false)) (eQ ho) r1.ints (by refine rG r1.length (rG (au _) ?_);exact hz) λh' nP hY e' F' N' hi hp hs=>?_;haveI z:=an.ofNews (tk:=s.toks) (D:=λU=>False) R hn f F' N' (λp hp=>.tail _ hp);haveI off:Off C W (s.heap.objs.size+1):=⟨jO R.size,λr e=>absurd (R.lt e) (Nat.not_lt.mpr (jR _)),λp q z=>absurd (cu (R.bA p q).1) (Nat.not_lt.mpr (z▸jR _))⟩;haveI dead:s.heap.get? (s.heap.objs.size+1)=none:=by
  cases q:s.heap.get? (s.heap.objs.size+1) with
  |none=>rfl
  |some o=>exact absurd (cu q) (Nat.not_lt.mpr (jR _))
 refine jI (z.adopt off dead (N' _ (.head _)).1 (aF.tS hi) (q hY hp hs)) λbQ bc b z rb q U=>?_;exact⟨bQ,bc,b,z,rb,q⟩
end
noncomputable def nZ{α:Type}(lt:Nat->Nat->Bool):KasT α->α
 | .ret a=>a
 | .ask i j k=>nZ lt (k (lt i j))
noncomputable def pg{α:Type}(n:Nat):KasT α->Bool
 | .ret _=>true
 | .ask i j k=>decide (i<n)&&decide (j<n)&&decide (i≠j)&&pg n (k true)&&pg n (k false)
theorem AG{α:Type}{lt lt':Nat->Nat->Bool}(h: ∀i j,i<n->j<n->lt i j=lt' i j): ∀t:KasT α,pg n t=true->nZ lt t=nZ lt' t
 | .ret _,_=>rfl
 | .ask i j k,e=>by
  simp only[pg,jN,bf] at e;refine aE e λo1 h2=>?_;refine aE o1 λo2 h1=>?_;refine aE o2 λo3 bt=>?_;refine aE o3 λhi hj=>?_;refine(?_:nZ lt (k (lt i j))=nZ lt' (k (lt' i j)));refine rG (h i j hi hj) ?_;cases lt' i j
  .exact AG h _ h2
  .exact AG h _ h1
theorem GO{α:Type}{cmp:Nat->Nat->(Bool->Shared->Prop)->Shared->Prop}{lt:Nat->Nat->Bool}(hc: ∀i j (C':Bool->Shared->Prop),i<n->j<n->i≠j->C' (lt i j) s->cmp i j C' s){Q:α->Shared->Prop}:
  ∀t:KasT α,pg n t=true->Q (nZ lt t) s->t.kasWp cmp Q s
 | .ret _,_,h=>h
 | .ask i j k,e,h=>by
  simp only[pg,jN,bf] at e;refine aE e λo4 h2=>?_;refine aE o4 λo5 h1=>?_;refine aE o5 λo6 bt=>?_;refine aE o6 λhi hj=>?_;refine hc i j _ hi hj bt (GO hc _ ?_ h);cases lt i j
  .exact h2
  .exact h1
noncomputable def AH(n:Nat):Nat->List (List Nat)
 |0=>[[]]
 |k+1=>(AH n k).flatMap λr=>(List.range n).map λx=>x::r
noncomputable def sortedBy(r:List Nat):List Nat->Bool
 |[]=>true
 |x::xs=>xs.all (λy=>!decide (r.getD y 0<r.getD x 0))&&sortedBy r xs
noncomputable def We(n:Nat)(p:List Nat):Bool:=p.isPerm (List.range n)
noncomputable def sp(n:Nat):Bool:=pg n (kas_sort n)&&(AH n n).all λr=>
 let p:=(nZ (λi j=>decide (r.getD i 0<r.getD j 0)) (kas_sort n)).toList
 We n p&&sortedBy r p
theorem Wf:sp 2=true:=by decide+kernel
theorem Wg:sp 3=true:=by decide+kernel
theorem Wh:sp 4=true:=by decide+kernel
theorem Wi:sp 5=true:=by decide+kernel
theorem Wj(h2:2<=n)(h5:n<=5):sp n=true:=
 (R8 h2 h5).elim (λe=>e▸Wf) λe=>e.elim (λe=>e▸Wg) λe=>e.elim (λe=>e▸Wh) λe=>e▸Wi
theorem Wk(k:Nat)(r:List Nat)(h:r.length=k)(hx: ∀x,x∈r->x<n):r∈AH n k:=by
 subst h
 induction r with
 |nil=>exact .head _
 |cons x r ih=>exact List.mem_flatMap.mpr ⟨r,ih λy hy=>hx y (.tail _ hy),List.mem_map.mpr ⟨x,List.mem_range.mpr (hx x (.head _)),rfl⟩⟩
theorem GP: ∀{p:List Nat},sortedBy r p=true->p.Pairwise λx y=> ¬r.getD y 0<r.getD x 0
 |[],_=>.nil
 |x::xs,h=>by
  simp only[sortedBy,jN,List.all_eq_true,gB,ct] at h;exact .cons h.1 (GP h.2)
noncomputable def uO(lt:Nat->Nat->Bool)(n i:Nat):Nat:=(List.range n).countP λk=>lt k i
theorem AI{α:Type}{p q:α->Bool}{x:α}: ∀{l:List α},(∀y,y∈l->p y=true->q y=true)->x∈l->p x=false->q x=true->l.countP p<l.countP q
 |[],_,hx,_,_=>by cases hx
 |y::l,h,hx,h1,h2=>by
  have hl: ∀y,y∈l->p y=true->q y=true:=λz hz=>h z (.tail _ hz);have le:l.countP p<=l.countP q:=List.countP_mono_left hl;refine rG List.countP_cons (rG List.countP_cons ?_);rcases List.mem_cons.mp hx with rfl|hx
  .simp[h1,h2];exact iU le
  .have:=AI hl hx h1 h2;by_cases e:p y=true
   .simp[e,h y (.head _) e];exact this
   .simp[e];split<;>(first|exact jO this|exact Nat.succ_le_of_lt this)
theorem GQ{lt:Nat->Nat->Bool}{n:Nat}(qz: ∀i,i<n->lt i i=false)(tr: ∀i j k,i<n->j<n->k<n->lt i j=true->lt j k=true->lt i k=true)(neg: ∀i j k,i<n->j<n->k<n->lt i j=true->lt i k=true∨lt k j=true)
  (hi:i<n) (hj:j<n):lt i j=decide (uO lt n i<uO lt n j):=by
 cases e:lt i j with
 |true=>
  symm;refine rG bf ?_;exact AI (λy hy h=>tr y i j (List.mem_range.mp hy) hi hj h e) (List.mem_range.mpr hi) (qz i hi) e
 |false=>
  symm;refine rI ct (rI Nat.not_lt ?_);refine List.countP_mono_left λy hy h=>?_;rcases neg y j i (List.mem_range.mp hy) hj hi h with q|q
  .exact q
  .replace q:=e▸q;exact Ft q
theorem Wm{lt:Nat->Nat->Bool}{n i:Nat}(qz: ∀i,i<n->lt i i=false)(hi:i<n):uO lt n i<n:=by
 haveI:=AI (p:=λk=>lt k i) (q:=λU=>true) (x:=i) (l:=List.range n) (λU U U=>rfl) (List.mem_range.mpr hi) (qz i hi) rfl;haveI this:=dZ▸List.countP_true▸this;exact this
theorem Wn{lt:Nat->Nat->Bool}(h2:2<=n)(h5:n<=5)(qz: ∀i,i<n->lt i i=false)(tr: ∀i j k,i<n->j<n->k<n->lt i j=true->lt j k=true->lt i k=true)(neg: ∀i j k,i<n->j<n->k<n->lt i j=true->lt i k=true∨lt k j=true):
  pg n (kas_sort n)=true/\ ∃p:List Nat,(nZ lt (kas_sort n)).toList=p/\p.Perm (List.range n)/\p.Pairwise λx y=>lt y x=false:=by
 haveI hc:=Wj h2 h5;unfold sp at hc;simp only[jN,List.all_eq_true] at hc;refine aE hc λok hc=>?_;refine⟨ok,_,rfl,?_⟩
 let r:=(List.range n).map (uO lt n)
 have hr: ∀i,i<n->r.getD i 0=uO lt n i:=λi hi=>by simp[r,hi]
 haveI:=hc r (Wk n r (by simp[r]) λx hx=>by
  refine ab (List.mem_map.mp hx) λi hi lF=>?_;subst lF;exact Wm qz (List.mem_range.mp hi))
 rw[<-AG (lt:=lt) (n:=n) (λi j hi hj=>by rw[hr i hi,hr j hj];exact GQ qz tr neg hi hj) _ ok] at this;refine aE this λh1 h3=>?_;have hp:List.Perm _ (List.range n):=List.isPerm_iff.mp h1;have g2: ∀x,x∈(nZ lt (kas_sort n)).toList->x<n:=λx hx=>List.mem_range.mp (hp.mem_iff.mp hx);refine⟨hp,?_⟩
 .refine(GP h3).imp_of_mem λ{x y} hx hy h=>?_;haveI h:=(hr _ (g2 y hy))▸(hr _ (g2 x hx))▸h;refine rG (GQ qz tr neg (g2 y hy) (g2 x hx)) ?_;exact decide_eq_false_iff_not.mpr h
noncomputable def kv:V->Int×Int
 | .int a=>(a,0)
 | .tup [.int a,.int b]=>(a,b)
 | .tup [.int a,.bool _]=>(a,0)
 |_=>(0,0)
noncomputable def KL(x y:V):Bool:=decide ((kv x).1<(kv y).1)||(decide ((kv x).1=(kv y).1)&&decide ((kv x).2<(kv y).2))
theorem w7(a b c d:Int):KL (.tup [.int a,.int b]) (.tup [.int c,.int d])=(decide (a<c)||(decide (a=c)&&decide (b<d))):=rfl
theorem GR{a c:Int}:(decide (a<c)||(decide (a=c)&&decide ((0:Int)<0)))=decide (a<c):=by exact rG (rfl:decide ((0:Int)<0)=false) (rG (Bool.and_false _) (rG (Bool.or_false _) rfl))
theorem w8(a c:Int):KL (.int a) (.int c)=decide (a<c):=GR
theorem GS(a c:Int)(b d:Bool):KL (.tup [.int a,.bool b]) (.tup [.int c,.bool d])=decide (a<c):=GR
noncomputable def GU(x y:V):Prop:= ∀a b a' b',x=.tup [.int a,.bool b]->y=.tup [.int a',.bool b']->a≠a'
noncomputable def kP(ks:List V):Prop:=(∀k,k∈ks-> ∃i,k=.int i)∨(∀k,k∈ks-> ∃a b,k=.tup [.int a,.int b])∨((∀k,k∈ks-> ∃a b,k=.tup [.int a,.bool b])/\ks.Pairwise GU)
noncomputable def n4(rev:Bool)(ks vs out:List V):Prop:= ∃ps:List (V×V),ps.Perm (ks.zip vs)/\out=ps.map Prod.snd/\ps.Pairwise λp q=>(if rev=true then KL p.1 q.1 else KL q.1 p.1)=false
noncomputable def n6(C:Cfg)(n:Nat)(k:V):List V->List V->(List V->MH->Prop)->MH->Prop
 |[],acc,K,H=>K acc H
 |x::xs,acc,K,H=>aM C n k [x] (λkv H'=>n6 C n k xs (acc++[kv]) K H') H
theorem Wo(k:V):KL k k=false:=by
 unfold KL;exact rG (nE (Int.lt_irrefl _)) (rG (nE (Int.lt_irrefl _)) (rG (Bool.and_false _) (rG (Bool.or_false _) rfl)))
section
variable{C:Cfg}{T:bG}{n:Nat}{H:MH}{Q:PV}{W:Wl}{s:Shared}
theorem AJ(h:aF C.h₀ W vs xs)(hi:i<xs.length): ∃x,xs[i]?=some x/\VR C.h₀ W (vs.getD i Value.none) x:=by
 refine ag (⟨xs[i],eL hi⟩: ∃x,xs[i]?=some x) λx hx=>?_;refine ab (h.get hx) λv hv r=>?_;refine⟨x,hx,?_⟩;refine rG (iT) (rG hv ?_);exact r
noncomputable def jz(ks:List V)(i j:Nat):Bool:=KL (ks.getD i .none) (ks.getD j .none)
theorem Wp:(∀i j k,i<ks.length->j<ks.length->k<ks.length->jz ks i j=true->jz ks j k=true->jz ks i k=true)/\
  (∀i j k,i<ks.length->j<ks.length->k<ks.length->jz ks i j=true->jz ks i k=true∨jz ks k j=true):=by
 unfold jz KL;simp only[Bool.or_eq_true,jN,bf];exact⟨λi j k U U U=>by exact Li,λi j k U U U=>by exact Lh⟩
theorem kP.rev(h:kP ks):kP (katRev b ks):=by
 have m: ∀k,k∈katRev b ks->k∈ks:=λk hk=>by
  unfold katRev at hk;split at hk
  .exact List.mem_reverse.mp hk
  .exact hk
 refine h.imp (λh k hk=>h k (m k hk)) (λh=>h.imp (λh k hk=>h k (m k hk)) λh=>⟨λk hk=>h.1 k (m k hk),?_⟩);unfold katRev;split
 .exact List.pairwise_reverse.mpr (h.2.imp λ{x y} q a b a' b' e e' z=>q a' b' a b e' e z.symm)
 .exact h.2
theorem AK(h:aF C.h₀ W vs xs):aF C.h₀ W (katRev b vs) (katRev b xs):=by
 unfold katRev;split
 .exact Gi h
 .exact h
theorem Wq(e:VR C.h₀ W v (.int i)):Looks M h (typeOf v) (.type "int"):=by
 refine ag (cz e) λt o1=>?_;subst o1;exact Looks.now
theorem GV(R:Rel C W H s.heap)(r:VR C.h₀ W v (.tup [.int a,.int b])): ∃p t u j,v=.ref p/\s.heap.get? p=some ({cls:=.type "tuple",data:=.seq ([.int a t,.int b u]:List Value).toArray j}:Obj):=by
 refine nn (uG R r) λt x y j o2 ho r1 r2=>?_;subst o2;refine ag (cz r1) λt1 o3=>?_;subst o3;refine ag (cz r2) λt2 o4=>?_;subst o4;exact⟨t,t1,t2,j,rfl,ho⟩
theorem GW(R:Rel C W H s.heap)(r:aF C.h₀ W kvs ks):(∀k,k∈ks-> ∃a b,k=.tup [.int a,b])-> ∃fs:List Value,KatTups s.heap kvs fs/\fs.length=ks.length/\ ∀v∈fs,∃i t,v=.int i t:=
 r.ind (P:=λkvs ks=>(∀k,k∈ks-> ∃a b,k=.tup [.int a,b])-> ∃fs:List Value,KatTups s.heap kvs fs/\fs.length=ks.length/\ ∀v∈fs,∃i t,v=.int i t) (λU=>⟨[],.nil,rfl,λU h=>by cases h⟩) λ{_ _ _ _} r1 _ ih hk=>by
  refine bX (ih λk dg=>hk k (.tail _ dg)) λfs f1 f2 f3=>?_;refine dM (hk _ (.head _)) λa c e=>?_;subst e;refine nn (uG R r1) λp x y j o5 ho r3 r2=>?_;subst o5;refine ag (cz r3) λt o6=>?_;subst o6;refine⟨.int a t::fs,.cons ho rfl rfl (by simp) f1,bP (· +1) f2,λv hv=>?_⟩;exact(List.mem_cons.mp hv).elim (λe=>⟨a,t,e⟩) (f3 v)
theorem Wr(R:Rel C W H s.heap)(r:aF C.h₀ W kvs ks)(hk:kP ks)(h2:2<=ks.length){Q:SortKind->Shared->Prop}
  (h: ∀κ,(∀i j (C':Bool->Shared->Prop),i<ks.length->j<ks.length->i≠j->C' (jz (katRev b ks) i j) s->kas_ask C.prog C.w A κ (katRev b kvs) i j C' s)->Q κ s):wpAny (be C) A (keyKind' kvs.toArray) Q (λU U=>False) s:=by
 have hl:(katRev b ks).length=ks.length:=kat_len b ks;have key: ∀{i:Nat},i<ks.length-> ∃x,(katRev b ks).getD i .none=x/\x∈ks/\VR C.h₀ W ((katRev b kvs).getD i Value.none) x:=λ{i} hi=>by
  refine ab (AJ (AK (b:=b) r) (i:=i) (by refine rG hl ?_;exact hi)) λx hx rx=>?_;refine⟨x,by refine rG (iT) (rG hx ?_);rfl,?_,rx⟩;haveI:=bd hx;unfold katRev at this;split at this
  .exact List.mem_reverse.mp this
  .exact this
 haveI uP:kP (katRev b ks):=hk.rev;rcases hk with hk|hk|hk
 .refine kas_kind (T:=.type "int") (by refine rG r.length ?_;exact h2) (λv hv=>?_) rfl rfl (h _ λi j C' hi hj bt hC=>?_)
  .refine ag (List.mem_iff_getElem?.mp hv) λi hi=>?_;haveI aS:i<ks.length:=by refine rB r.length ?_;exact(List.getElem?_eq_some_iff.mp hi).1
   refine ab (AJ r aS) λx hx rx=>?_;haveI rx:=hi▸(iT)▸rx;refine ag (hk x (bd hx)) λz o7=>?_;subst o7;exact Wq rx
  .refine bX (key hi) λx ex mx rx=>?_;refine bX (key hj) λy ey my ry=>?_;refine ag (hk x mx) λa o8=>?_;subst o8;refine ag (hk y my) λc o9=>?_;subst o9;refine ag (cz rx) λt et=>?_;refine ag (cz ry) λu eu=>?_;unfold kas_ask;refine rG et (rG eu ?_);refine kat_lt_int ?_;unfold jz at hC;haveI hC:=ey▸ex▸hC;haveI hC:=(w8 _ _)▸hC;exact hC
 .refine bX (GW R r λk h=>dM (hk k h) λa b e=>⟨a,_,e⟩) λfs f1 f2 f3=>?_;refine kat_kind (T:=.type "int") f1 (by exact Dy h2 f2) (λv hv=>?_) rfl (h _ λi j C' hi hj bt hC=>?_)
  .refine dM (f3 v hv) λi t lF=>?_;subst lF;exact Looks.now
  .refine bX (key hi) λx ex mx rx=>?_;refine bX (key hj) λy ey my ry=>?_;refine dM (hk x mx) λa a' ue=>?_;subst ue;refine dM (hk y my) λc c' Ws=>?_;subst Ws;refine tK (GV R rx) λp t u j1 et ho=>?_;refine tK (GV R ry) λp' t' u' j2 eu bn=>?_;unfold kas_ask;refine rG et (rG eu ?_);unfold jz at hC;haveI hC:=ey▸ex▸hC;refine kat_lt ho rfl bn rfl ?_;refine(?_:KatLex _ _ _ _ _ _ [(.int a t,.int c t'),(.int a' u,.int c' u')] 0 s);refine kat_cons (wpAny_eqBool_int ?_);by_cases e1:a=c
   .subst e1;refine rG (nD _) ?_;refine kat_yes (kat_cons (wpAny_eqBool_int ?_));by_cases e2:a'=c'
    .subst e2;refine rG (nD _) ?_;refine kat_yes (kat_nil ?_);rw[w7] at hC;simpa using hC
    .refine rG (by simpa using e2:(a'==c')=false) ?_;refine kat_no ?_;refine(?_:wpAny _ _ (oneLt' (_&&false) _ _) _ _ _);refine rG (Bool.and_false _) ?_;refine kat_one _ _ (PyProof.Rows.lt_int ?_);refine(?_:C' _ s);rw[w7] at hC;simpa using hC
   .refine rG (by simpa using e1:(a==c)=false) ?_;refine kat_no ?_;haveI AL:C' (decide (a<c)) s:=by rw[w7] at hC;simpa[e1] using hC
    refine(?_:wpAny _ _ (oneLt' (_&&true) _ _) _ _ _);refine rG (Bool.and_true _) ?_;exact oneLt_int AL
 .refine bX (GW R r λk h=>dM (hk.1 k h) λa b e=>⟨a,_,e⟩) λfs f1 f2 f3=>?_;refine kat_kind (T:=.type "int") f1 (by exact Dy h2 f2) (λv hv=>?_) rfl (h _ λi j C' hi hj bt hC=>?_)
  .refine dM (f3 v hv) λi t Wt=>?_;subst Wt;exact Looks.now
  .refine bX (key hi) λx ex mx rx=>?_;refine bX (key hj) λy ey my ry=>?_;haveI apart:GU x y:=by
    rcases uP with h|h|h
    .refine ag (h x (by refine rB ex (rG (iT) (rG (eL (by rw[hl];exact hi)) ?_));exact List.getElem_mem _)) λz hz=>?_;intro a b a' b' e;replace e:=hz▸e;cases e
    .refine dM (h x (by refine rB ex (rG (iT) (rG (eL (by rw[hl];exact hi)) ?_));exact List.getElem_mem _)) λz z' hz=>?_;intro a b a' b' e;replace e:=hz▸e;cases e
    .have hp:=List.pairwise_iff_getElem.mp h.2;haveI ei:(katRev b ks)[i]'(by refine rG hl ?_;exact hi)=x:=by refine rB ex (rG (iT) (rG (eL (by rw[hl];exact hi)) ?_));rfl
     haveI ej:(katRev b ks)[j]'(by refine rG hl ?_;exact hj)=y:=by refine rB ey (rG (iT) (rG (eL (by rw[hl];exact hj)) ?_));rfl
     rcases Nat.lt_or_gt_of_ne bt with w|w
     .refine rB ei (rB ej ?_);exact hp i j _ _ w
     .refine rB ei (rB ej ?_);intro a b a' b' e e' z;exact hp j i (by refine rG hl ?_;exact hj) (by refine rG hl ?_;exact hi) w a' b' a b e' e z.symm
   refine dM (hk.1 x mx) λa a' Wu=>?_;subst Wu;refine dM (hk.1 y my) λc c' Wv=>?_;subst Wv;haveI Ww:a≠c:=apart a a' c c' rfl rfl;refine nn (uG R rx) λp v1 v2 j1 et ho q1 q2=>?_;refine nn (uG R ry) λp' w1 w2 j2 eu bn q3 q4=>?_;refine ag (cz q1) λt Wx=>?_;subst Wx;refine ag (cz q3) λu Wy=>?_;subst Wy;unfold kas_ask;refine rG et (rG eu ?_);unfold jz at hC;haveI hC:=ey▸ex▸hC;refine kat_lt ho rfl bn rfl ?_;refine(?_:KatLex _ _ _ _ _ _ [(.int a t,.int c u),(v2,w2)] 0 s);refine kat_cons (wpAny_eqBool_int ?_);refine rG (by simpa using Ww:(a==c)=false) ?_;refine kat_no ?_;haveI AL:C' (decide (a<c)) s:=by rw[GS] at hC;exact hC
   refine(?_:wpAny _ _ (oneLt' (_&&true) _ _) _ _ _);refine rG (Bool.and_true _) ?_;exact oneLt_int AL
end
theorem Wz{α β:Type}(b:Bool)(f:α->β)(l:List α):(katRev b l).map f=katRev b (l.map f):=by
 unfold katRev;split
 .exact List.map_reverse
 .rfl
theorem WA{α:Type}(b:Bool)(l:List α):katRev b (katRev b l)=l:=by
 unfold katRev;split
 .simp
 .rfl
theorem WB{α:Type}(b:Bool)(l:List α):(katRev b l).Perm l:=by
 unfold katRev;split
 .exact List.reverse_perm l
 .exact .refl _
theorem GX{α β:Type}: ∀{l:List α} {r:List β},l.length=r.length->l.reverse.zip r.reverse=(l.zip r).reverse
 |[],[],_=>rfl
 |[],_::_,h=>by cases h
 |_::_,[],h=>by cases h
 |a::l,b::r,h=>by
  have h':l.length=r.length:=by simpa using h
  refine rG nC (rG nC (rG (List.zip_append (by rw[rJ,rJ,h'])) (rG (GX h') ?_)));refine(?_:(l.zip r).reverse++[(a,b)]=((a,b)::l.zip r).reverse);exact rG nC rfl
section
variable{C:Cfg}{T:bG}{n:Nat}{H:MH}{Q:PV}{W:Wl}{s:Shared}
theorem GY(h:aF C.h₀ W vs xs): ∀{p:List Nat},(∀i,i∈p->i<xs.length)->aF C.h₀ W (p.map λi=>vs.getD i Value.none) (p.map λi=>xs.getD i .none)
 |[],_=>.nil
 |i::p,hp=>by
  refine ab (AJ h (hp i (.head _))) λx hx rx=>?_;refine .cons ?_ (GY h λj hj=>hp j (.tail _ hj));have e:xs.getD i .none=x:=by refine rG (iT) (rG hx ?_);rfl
  refine(?_:VR C.h₀ W (vs.getD i Value.none) (xs.getD i .none));refine rG e ?_;exact rx
theorem GZ{α:Type}(d:α)(l:List α):(List.range l.length).map (λi=>l.getD i d)=l:=by
 refine List.ext_getElem (by simp) λi h1 h2=>?_;simp[h2]
theorem WC(hl:ks.length=vs.length){p:List Nat}(hp:p.Perm (List.range vs.length))(hs:p.Pairwise λx y=>jz (katRev b ks) y x=false):
  n4 b ks vs (katRev b (p.map λi=>(katRev b vs).getD i .none)):=by
 haveI aS: ∀i,i∈p->i<vs.length:=λi hi=>List.mem_range.mp (hp.mem_iff.mp hi);haveI kQ:(katRev b vs).length=vs.length:=kat_len b vs;haveI WD:(katRev b ks).length=ks.length:=kat_len b ks
 let f:Nat->V×V:=λi=>((katRev b ks).getD i .none,(katRev b vs).getD i .none)
 have WE:(katRev b ks).zip (katRev b vs)=(List.range vs.length).map f:=by
  haveI e1:=GZ V.none (katRev b ks);haveI e2:=GZ V.none (katRev b vs);exact rB e1 (rB e2 (rG WD (rG kQ (rG hl (rG List.zip_map' rfl)))))
 refine⟨katRev b (p.map f),?_,?_,?_⟩
 .refine(WB b _).trans ((hp.map f).trans ?_);refine rB WE ?_
  cases b with
  |true=>refine(?_:(ks.reverse.zip vs.reverse).Perm _);refine rG (GX hl) ?_;exact List.reverse_perm _
  |false=>exact .refl _
 .refine rG (Wz _ _ _) (rG eN ?_);rfl
 .haveI:(p.map f).Pairwise λx y=>KL y.1 x.1=false:=by
   refine rI eC ?_;exact hs.imp λh=>h
  cases b with
  |true=>exact List.pairwise_reverse.mpr this
  |false=>exact this
theorem uQ{h:Heap}{vs:List Value}(ho:h.get? a=some (PySem.W.listOf vs.toArray m))(f:Array Value->Array Value){ws:List Value}(e:f vs.toArray=ws.toArray): ∃k,(h.update a (Obj.mapSeq f)).get? a=some (PySem.W.listOf ws.toArray k):=zJ ho e
theorem G0{A:Around}{a kS:Addr}{st:SortSt}{kvs:List Value}{P:PySem.Fin->Shared->Prop}(R:Rel C W H s.heap)(fk:Off C W kS)(ne:a≠kS)(ha:s.heap.get? a=some (PySem.W.listOf ([]:List Value).toArray e1))(hk:s.heap.get? kS=some (PySem.W.listOf kvs.toArray e2))
  (nU:(arrOf st).map (·.2)=List.toArray outv) (hz:outv.length<64) (WF:kvs.length<64) (hf:failedOf st=none)
  (h: ∀ak h' j,an C (λc=>c=kS) W s W H ak->ak.heap.get? a=some (PySem.W.listOf ([]:List Value).toArray e1)->Heap.SameBut a ak.heap h'->h'.get? a=some (PySem.W.listOf (katRev b outv).toArray j)->P (.done (.ret .none)) {ak with heap:=h'}):wpAny (be C) A (ksk_tail a b e1 (.ref kS) st) P (λU U=>False) s:=by
 refine ag (uQ hk (λU=>(#[]:Array Value)) (ws:=[]) rfl) λck w9=>?_;haveI s1:=oI s.heap kS (Obj.mapSeq λU=>(#[]:Array Value));haveI ai:an C (λc=>c=kS) W s W H {s with heap:=s.heap.update kS (Obj.mapSeq λU=>(#[]:Array Value))}:=an.own (D:=λc=>c=kS) (tk:=s.toks) R fk rfl s1 ⟨_,w9⟩;have xb:(s.heap.update kS (Obj.mapSeq λU=>(#[]:Array Value))).get? a=some (PySem.W.listOf ([]:List Value).toArray e1):=(s1.2 a ne).trans ha;refine ag (uQ xb (λU=>(katRev b outv).toArray) (ws:=katRev b outv) rfl) λj hj=>?_;haveI s2:=oI (s.heap.update kS (Obj.mapSeq λU=>(#[]:Array Value))) a (Obj.mapSeq λU=>(katRev b outv).toArray);haveI fT:(katRev b outv).toArray.size=outv.length:=by exact rG cy (rG (kat_len _ _) rfl)
 unfold ksk_tail
 try dsimp only
 refine rG nU (rG (kat_outs _ _) ?_);refine aw (listUpdate_at hk rfl ?_ (by refine rG cy (rG jQ ?_);exact pQ WF rfl) (gm _));refine aw (wpAny_letGo (aw (seqEpoch_at xb rfl ?_)));refine aw (listUpdate_at xb rfl ?_ (gm _) (eM (Nat.le_of_eq fT) (by refine rG jQ ?_;exact pQ hz rfl)));refine rG hf ?_;simp only[bne_self_eq_false,nB,ix];exact ba (h {s with heap:=s.heap.update kS (Obj.mapSeq λU=>(#[]:Array Value))} _ j ai xb s2 hj)
theorem WG{a kS:Addr}{P:PySem.Fin->Shared->Prop}(R:Rel C W H s.heap)(fk:Off C W kS)(ne:a≠kS)(ha:s.heap.get? a=some (PySem.W.listOf ([]:List Value).toArray e1))(hk:s.heap.get? kS=some (PySem.W.listOf kvs.toArray e2))
  (rk:aF C.h₀ W kvs ks) (rv:aF C.h₀ W ew xs) (hl:ks.length=xs.length) (h5:xs.length<=5) (AM:kP ks)
  (h: ∀ak h' j outv out,an C (λc=>c=kS) W s W H ak->ak.heap.get? a=some (PySem.W.listOf ([]:List Value).toArray e1)->Heap.SameBut a ak.heap h'->h'.get? a=some (PySem.W.listOf (outv:List Value).toArray j)->aF C.h₀ W outv out->n4 b ks xs out->P (.done (.ret .none)) {ak with heap:=h'}):
  wpAny (be C) A (ksk_end a b ew.toArray e1 (.ref kS) kvs.toArray) P (λU U=>False) s:=by
 have step: ∀t:Sem PySem.Fin,wpAny (be C) A t P (λU U=>False) s->wpAny (be C) A (if b=true then (do let _<-rule "list.sort.reverse";t) else t) P (λU U=>False) s:=by
  intro t ht;split
  .exact aw (wpAny_rule ht)
  .exact ht
 have gN:kvs.length=ew.length:=by exact rG rk.length (rG rv.length (rG hl rfl))
 have uP:(katRev b kvs).length=(katRev b ew).length:=by exact rG (kat_len _ _) (rG (kat_len _ _) (rG gN rfl))
 try dsimp only
 refine step _ ?_;by_cases h2:2<=xs.length
 .haveI uR: ¬ew.toArray.size<2:=by refine rG cy (rG rv.length ?_);exact Lk h2
  refine rG (ax uR) (rG (ax uR) ?_);refine aw (Wr (b:=b) R rk AM (tG hl h2) λκ WH=>?_);refine rG (kat_pairs b gN) ?_;haveI aS:=Wp (ks:=katRev b ks);haveI uS:(katRev b ks).length=xs.length:=by exact rG (kat_len _ _) (rG hl rfl)
  obtain ⟨WI,p,ep,hp,hs⟩:=Wn (lt:=jz (katRev b ks)) (n:=xs.length) h2 h5 (λi hi=>Wo _)
   (by refine rB uS ?_;exact aS.1) (by refine rB uS ?_;exact aS.2)
  haveI jW:(katRev b ew).length=xs.length:=by exact rG (kat_len _ _) (rG rv.length rfl)
  have run:=GO (cmp:=kas_ask C.prog C.w A κ (katRev b kvs)) (lt:=jz (katRev b ks)) (n:=xs.length) (s:=s) (λi j C' hi hj bt hC=>WH i j C' (tG hl hi) (tG hl hj) bt hC) (Q:=λq s'=>s'=s/\q.toList=p) (kas_sort xs.length) WI ⟨rfl,ep⟩;haveI rV: ∀i,i∈p->i<(katRev b xs).length:=λi hi=>by refine rG (kat_len _ _) ?_;exact List.mem_range.mp (hp.mem_iff.mp hi)
  refine aw (cO (kat_run (Q:=λae s'=>s'=s/\(arrOf ae).map (·.2)=List.toArray (p.map λi=>(katRev b ew).getD i Value.none)/\failedOf ae=none)
   uP (by refine rG jW ?_;exact h2) (by refine rG jW ?_;exact aX h5 rfl) (λq ae s' a1 a2 a3 a4=>?_) (by refine rG jW ?_;exact run)) ?_ λU U x=>x)
  .refine aE a4 λe e'=>?_;refine⟨e,?_,a3⟩;exact rG (kat_snds uP a2) (rG e' rfl)
  .rintro ⟨⟨⟩,ae⟩ s' ⟨e,hm,hf⟩;dsimp only at e hm hf ⊢;subst e;haveI iG:p.length=xs.length:=by exact rG hp.length_eq (rG dZ rfl)
   refine G0 R fk ne ha hk hm (by refine rG (au _) (rG iG ?_);exact aX h5 rfl) (by refine rG rk.length (rG hl ?_);exact aX h5 rfl) hf λak h' j y gO sb hj=>h ak h' j _ _ y gO sb hj ?_ (WC hl hp hs);exact AK (GY (AK rv) rV)
 .haveI uR:ew.toArray.size<2:=by refine rG cy (rG rv.length ?_);exact Nat.lt_of_not_le h2
  refine rG (az uR) (rG (az uR) ?_);refine aw (ba ?_);refine rG (kat_pairs b gN) ?_;refine aw (ba (a:=((),SortSt.mk' general' ((katRev b kvs).toArray.zip (katRev b ew).toArray) #[] 7 none)) ?_);refine G0 (outv:=katRev b ew) R fk ne ha hk ?_ (by refine rG (kat_len _ _) (rG rv.length ?_);exact aX h5 rfl) (by refine rG rk.length (rG hl ?_);exact aX h5 rfl) rfl λak h' j y gO sb hj=>h ak h' j ew xs y gO sb (by haveI hj:=(WA _ _)▸hj;exact hj) rv ⟨ks.zip xs,.refl _,?_,?_⟩
  .apply Array.toList_inj.mp;refine(?_:(((katRev b kvs).toArray.zip (katRev b ew).toArray).map (·.2)).toList=_);refine rG Array.toList_map (rG Array.toList_zip ?_);exact List.map_snd_zip (by refine rG uP ?_;exact cG _)
  .exact(List.map_snd_zip (by refine rG hl ?_;exact cG _)).symm
  .haveI:(ks.zip xs).length<2:=by refine rG List.length_zip ?_;exact Lj h2
   match ks.zip xs,this with
   |[],_=>exact .nil
   |[_],_=>exact pZ _ _
end
section
variable{C:Cfg}{T:bG}{n:Nat}{H:MH}{Q:PV}{W:Wl}{s:Shared}
structure KJ(C:Cfg)(sr:Wl)(s₀:Shared)(a kS:Addr)(e1:Nat)(W:Wl)(H:MH)(σ:Shared)(kvs:List Value)(acc:List V):Prop where
 iX:an C (λc=>c=kS) sr s₀ W H σ
 oa:Off C W a∨(a,PySem.W.listOf ([]:List Value).toArray e1)∈W.T
 ok:Off C W kS
 hk: ∃c,σ.heap.get? kS=some (PySem.W.listOf kvs.toArray c)
 ha:σ.heap.get? a=some (PySem.W.listOf ([]:List Value).toArray e1)
 r:aF C.h₀ W kvs acc
theorem WJ{mm:Str->Option Value}{K:List V->MH->Prop}{body:Value->PUnit->Sem (ForInStep PUnit)}(rm:dD n A)(hn:s₀.heap.Ns L mm)(fL:Off C sr L)(kL:kS≠L)(ne:a≠kS)(rf:VR C.h₀ sr f k)
  (hb: ∀(x:Value) (σ:Shared) (Q':List Value->Value->Shared->Prop),wpAny (be C) A (call f [x]) (λkv σ'=> ∃kvs c,σ'.heap.get? kS=some (PySem.W.listOf (kvs:List Value).toArray c)/\kvs.length<64/\Q' kvs kv {σ' with heap:=σ'.heap.update kS (Obj.mapSeq (·.push kv))}) (λU U=>False) σ->
   wpAny (be C) A (body x ⟨⟩) (λr σ'=>r=.yield ⟨⟩/\ ∃kvs kv,Q' kvs kv σ') (λU U=>False) σ):
  ∀(r:List Value) (xs:List V) (σ:Shared) (W:Wl) (H:MH) (kvs:List Value) (acc:List V),KJ C sr s₀ a kS e1 W H σ kvs acc->aF C.h₀ W r xs->acc.length+xs.length<64->n6 C n k xs acc K H->
   wpAny (be C) A (forIn r PUnit.unit body) (λU σ'=> ∃W' H' xc AN,KJ C sr s₀ a kS e1 W' H' σ' xc AN/\W.le W'/\AN.length=acc.length+xs.length/\K AN H') (λU U=>False) σ:=by
 intro r xs
 induction xs generalizing r with
 |nil=>
  intro σ W H kvs acc J rv U h;obtain rfl:=rv.me;refine rG List.forIn_nil ?_;exact ba ⟨W,H,kvs,acc,J,.refl _,rfl,h⟩
 |cons x xs ih=>
  intro σ W H kvs acc J rv su h;refine bE rv.inv λv r o1 r1 rs=>?_;subst o1;rw[List.forIn_cons];haveI WK:=J.iX.zw hn fL.r (λe=>kL e.symm);refine cM (id hn) λoL U U jy U=>?_;haveI WL:=fL.iX jy J.iX;haveI go:=h A W σ L mm f [v] rm J.iX.rel WK WL (rf.mono J.iX.ext) (.cons r1 .nil);refine ag J.hk λc hk=>?_;refine aw (cO (hb v σ (λxc kv σ'=> ∃W' H' kb,xc=kvs/\KJ C sr s₀ a kS e1 W' H' σ' (kvs++[kv]) (acc++[kb])/\W.le W'/\aF C.h₀ W' r xs/\n6 C n k xs (acc++[kb]) K H') (imp go λkv σ' hq=>?_)) (λq σ' hq=>?_) λU U x=>x)
  .obtain ⟨W',H',kb,y,rb,q⟩:=hq;refine aE (y.hold J.ok (λf=>f) hk (by intro U U e;cases e)) λdg Hb=>?_;obtain ⟨gO,WM⟩:σ'.heap.get? a=some (PySem.W.listOf ([]:List Value).toArray e1)/\(Off C W' a∨(a,PySem.W.listOf ([]:List Value).toArray e1)∈W'.T):=by
    rcases J.oa with o|t
    .refine aE (y.hold o (λf=>f) J.ha (by intro U U e;cases e)) λq1 q2=>?_;exact⟨q1,.inl q2⟩
    .exact⟨(y.rel.bA _ (y.ext.t _ t)).1,.inr (y.ext.t _ t)⟩
   haveI hlen:kvs.length<64:=by refine rG J.r.length ?_;haveI su:=fh▸su;exact Ln su
   refine⟨kvs,c,dg,hlen,W',H',kb,rfl,?_,y.ext,rs.mono y.ext,q⟩;refine ag (uQ dg (λxs=>xs.push kv) (ws:=kvs++[kv]) (by simp)) λc' fu=>?_;haveI sb:=oI σ'.heap kS (Obj.mapSeq (·.push kv));haveI z:an C (λc=>c=kS) W' σ' W' H' {σ' with heap:=σ'.heap.update kS (Obj.mapSeq (·.push kv))}:=an.own (D:=λc=>c=kS) (tk:=σ'.toks) y.rel Hb rfl sb ⟨_,fu⟩;exact⟨(J.iX.trans (y.wide λU f=>f.elim)).trans z,WM,Hb,⟨c',fu⟩,(sb.2 a ne).trans gO,(J.r.mono y.ext).snoc rb⟩
  .refine aE hq λo2 cj=>?_;clear hq;refine wu cj λxc kv W' H' kb U J' le WN hP=>?_;clear cj;subst o2;refine(?_:wpAny _ A (forIn r PUnit.unit body) _ _ σ');refine imp (ih r σ' W' H' (kvs++[kv]) (acc++[kb]) J' WN (by refine rG bm (rG cV ?_);haveI su:=fh▸su;exact Lm su) hP) λU σ'' WO=>nn WO λbQ bc WP WQ WR WS hl q=>⟨bQ,bc,WP,WQ,WR,le.trans WS,by refine rG hl (rG bm (rG cV (rG fh ?_)));exact Ll,q⟩
theorem Hc{mm:Str->Option Value}{Qo:List V->MH->Prop}{P:PySem.Fin->Shared->Prop}(rm:dD n A)
  (ho:s.heap.get? a=some (PySem.W.listOf ew.toArray j)) (xd:s.heap.update a (Obj.mapSeq λU=>(#[]:Array Value))=h1) (lM:h1.get? a=some (PySem.W.listOf ([]:List Value).toArray e1)) (R:Rel C W H h1) (hn:h1.Ns L mm) (fL:Off C W L) (fa:Off C W a∨(a,PySem.W.listOf ([]:List Value).toArray e1)∈W.T)
  (rv:aF C.h₀ W ew xs) (rf:VR C.h₀ W f k) (h5:xs.length<=5) (h:n6 C n k xs [] (λks H'=>kP ks/\ ∀out,n4 b ks xs out->Qo out H') H)
  (hP: ∀W' H' ak h' outv out j',an C (λU=>False) W {s with heap:=h1} W' H' ak->ak.heap.get? a=some (PySem.W.listOf ([]:List Value).toArray e1)->Heap.SameBut a ak.heap h'->h'.get? a=some (PySem.W.listOf (outv:List Value).toArray j')->aF C.h₀ W' outv out->Qo out H'->P (.done (.ret .none)) {ak with heap:=h'}):
  wpAny (be C) A (ksk_tree a f b) P (λU U=>False) s:=by
 haveI s1:Heap.SameBut a s.heap h1:=xd▸oI s.heap a (Obj.mapSeq λU=>(#[]:Array Value));haveI jW:=rv.length;refine aw (listItems_at ho rfl (aw (listUpdate_at ho rfl ?_ (by refine rG cy (rG jQ ?_);exact Dz h5 jW) (gm _))));refine rG xd ?_;refine aw (seqEpoch_at lM rfl (aw (wpAny_newTuple ?_ (by refine(?_:ew.length<=_);refine rG jQ ?_;exact Dz h5 jW))));refine aw (wpAny_newList ?_ (gm _));refine cW ?_;haveI aG:an C (λU=>False) W {s with heap:=h1} W H {s with heap:=h1.push (hJ ew)}:=an.push (s:={s with heap:=h1}) (tk:=s.toks) R _;haveI ci:an C (λU=>False) W {s with heap:=h1.push (hJ ew)} W H {s with heap:=(h1.push (hJ ew)).push {cls:=.type "list",data:=.seq ([]:List Value).toArray}}:=an.push (tk:=s.toks) aG.rel _;haveI fT:(h1.push (hJ ew)).objs.size=h1.objs.size+1:=by exact rG (lz _ _) rfl
 refine(?_:wpAny (be C) A (ksk_rest a f b ew.toArray e1 (.ref (h1.push (hJ ew)).objs.size)) P (λU U=>False) {s with heap:=(h1.push (hJ ew)).push {cls:=.type "list",data:=.seq ([]:List Value).toArray}});haveI WT:(h1.push (hJ ew)|>.push {cls:=.type "list",data:=.seq ([]:List Value).toArray}).get? a=some (PySem.W.listOf ([]:List Value).toArray e1):=fO _ (fO _ lM);haveI fw:(h1.push (hJ ew)|>.push {cls:=.type "list",data:=.seq ([]:List Value).toArray}).get? (h1.push (hJ ew)).objs.size=some (PySem.W.listOf ([]:List Value).toArray 0):=hE _ rfl;generalize hkS:(h1.push (hJ ew)).objs.size=kS at*;have xf:h1.objs.size<=kS:=(C6 fT);haveI WU:Off C W kS:=⟨eM R.size xf,λr e=>absurd (R.lt e) (Nat.not_lt.mpr xf),λp q z=>absurd (cu (R.bA p q).1) (Nat.not_lt.mpr (z▸xf))⟩;have dead:h1.get? kS=none:=by
  cases q:h1.get? kS with
  |none=>rfl
  |some o=>exact absurd (cu q) (Nat.not_lt.mpr xf)
 have ne:a≠kS:=λe=>eU lM (e▸dead);haveI kL:kS≠L:=λe=>by refine cM hn λo U U hL U=>?_;clear hn;exact eU hL (e▸dead)
 haveI dI:an C (λc=>c=kS) W {s with heap:=h1} W H {s with heap:=(h1.push (hJ ew)).push {cls:=.type "list",data:=.seq ([]:List Value).toArray}}:=(aG.trans ci).wide λU f=>f.elim;refine aw (wpAny_rule ?_);refine rG (List.forIn_toArray _ _ _) ?_;refine aw (imp (WJ (s₀:={s with heap:=h1}) (a:=a) (e1:=e1) (K:=λks H'=>kP ks/\ ∀out,n4 b ks xs out->Qo out H') rm hn fL kL ne rf (λx σ Q' hx=>?_) ew xs _ W H [] [] ⟨dI,fa,WU,⟨0,fw⟩,WT,.nil⟩ rv (by simp;exact aX h5 rfl) h) λU σ WV=>wt WV λW' H' kvs ks J le hl AM hq=>?_)
 .refine aw (wpAny_attempt (cO hx (λkv σ' hk=>?_) λU U hF=>hF.elim));refine bE hk λkvs c dg hlen q=>?_;clear hk;refine aw (listUpdate_at dg rfl ?_ (by refine rG cy (rG jQ ?_);exact pQ hlen rfl) (eM (Nat.le_of_eq (Array.size_push ..)) (by refine rG cy (rG jQ ?_);exact bI hlen rfl)));exact ba ⟨rfl,kvs,kv,q⟩
 .refine ag J.hk λc dg=>?_;refine aw (listItems_at dg rfl ?_);refine WG J.iX.rel J.ok ne J.ha dg J.r (rv.mono le) (by simpa using hl) h5 AM λak h' j' outv out y gO sb hj ro so=>?_;exact hP W' H' ak h' outv out j' ((J.iX.trans y).narrow λc hc=>.inr (hc▸dead)) gO sb hj ro (hq out so)
end
noncomputable def sv:V->Bool
 | .con (.ref _)=>true
 | .con (.builtin _)=>true
 | .ao _ (.ref _)=>true
 |_=>false
section
variable{prog:Program}{w:World}{A:Around}{E:Value->Shared->Prop}{s:Shared}
theorem Hd{Q:List Value->Shared->Prop}(hT:T= "list" ∨T= "tuple")(ho:s.heap.get? l=some ({cls:=.type T,data:=.seq vs.toArray n}:Obj))
  (h:Q vs {s with heap:=(s.heap.push (seqObj "list" #[] 0)).update s.heap.objs.size (Obj.mapSeq (· ++vs.toArray))}) (fT:vs.length<=sizeLine):wpAny (model prog w) A (collect (.ref l)) Q E s:=by
 refine aw (wpAny_runValue (codeAny_builtin entry_proto_collect' ?_));refine(?_:wpAny _ _ (do again (.builtin "list.__iadd__" ⟨[<-newList [],.ref l],[]⟩)) _ _ s);refine aw (wpAny_newList (ba ⟨Code.quiet_builtin _ (by decide+kernel),codeAny_builtin entry_list_iadd' ?_⟩) (gm _));refine(?_:wpAny _ _ (Builtin.List.listExtendWith (.ref s.heap.objs.size) (.ref l) (.ref s.heap.objs.size)) _ _ {s with heap:=s.heap.push (seqObj "list" #[] 0)});haveI bn:(s.heap.push (seqObj "list" #[] 0)).get? l=some ({cls:=.type T,data:=.seq vs.toArray n}:Obj):=fO _ ho;refine aw (wpAny_typeOf (T:=T) ⟨_,bn,rfl⟩ ?_);refine rG (az (by rcases hT with rfl|rfl<;>simp)) ?_;refine aw (listItems_at bn rfl ?_);refine aw (listItems_at (xs:= #[]) (n:=0) (hE _ rfl) rfl ?_);refine rG (ax (by simp)) ?_;refine aw (listUpdate_at (xs:= #[]) (n:=0) (hE _ rfl) rfl ?_ (gm _) (by refine(?_:(#[]++vs.toArray).size<=sizeLine+1);simp only[Array.size_append,cy,List.length_nil];exact Lp fT));refine ba ?_;refine aw (wpAny_load (get?_update_seq (hE _ rfl) _) ?_);refine(?_:wpAny _ _ (pure ((#[]:Array Value)++vs.toArray).toList) Q E _);refine rG (by simp:((#[]:Array Value)++vs.toArray).toList=vs) ?_;exact ba h
end
section
variable{C:Cfg}{T:bG}{n:Nat}{H:MH}{Q:PV}{W:Wl}{s:Shared}
theorem He{kv:Value}(rev:Option Bool)(hk:sv k=true)(r:VR C.h₀ W kv k): ∀x:Addr,Builtin.«list.sort» ⟨[.ref x],(Str.ofString "key",kv)::qe rev⟩=ksk_tree x kv (rev.getD false):=by
 intro x;haveI main:(∃q,kv=.ref q)∨ ∃i,kv=.builtin i:=by
  cases r with
  |con=>cases kv<;>first|exact .inl ⟨_,rfl⟩|exact .inr ⟨_,rfl⟩|exact Ft hk
  |ao _ _=>exact .inl ⟨_,rfl⟩
  |_=>exact Ft hk
 rcases main with ⟨q,rfl⟩|⟨i,rfl⟩
 .cases rev with
  |none=>exact ksk_t1 q x
  |some b=>exact ksk_t2 q x b
 .cases rev with
  |none=>exact ksk_t4 i x
  |some b=>exact ksk_t5 i x b
theorem AO(a:Value)(kv:Value)(rev:Option Bool):argsOk "sorted" ⟨[a],(Str.ofString "key",kv)::qe rev⟩/\argsOk "list.sort" ⟨[a],(Str.ofString "key",kv)::qe rev⟩:=by
 cases rev with
 |none=>exact⟨ksk_s1 _ _,ksk_l1 _ _⟩
 |some b=>exact⟨ksk_s2 _ _ _,ksk_l2 _ _ _⟩
theorem room_in(rm:dD (n+1) A):dD n A.in1.in1/\dD n A.in1:=by
 haveI h1:=rm.dep;haveI h2:=rm.tT;exact⟨⟨rm.hh,by refine(?_:A.depth+4*n<_);exact DB h1,by refine(?_:A.units+1+1+16*n+100<_);exact Lo h2⟩,⟨rm.hh,by refine(?_:A.depth+4*n<_);exact DB h1,by refine(?_:A.units+1+16*n+100<_);exact DA h2⟩⟩
theorem Hf(R:Rel C W H h)(g:C.h₀.objs.size<=a)(d:h.get? a=none):Off C W a:=
 ⟨g,λr e=>by
  refine aE (R.d8 r a e) λU cj=>?_;refine ag cj λo ho=>?_;refine ab (R.obj r o ho) λb pb t=>?_;replace pb:=e▸pb;cases pb;refine ag t.some λo' bn=>?_;exact eU bn d,λp q z=>eU (R.bA p q).1 (z▸d)⟩
theorem Hg{mm:Str->Option Value}{av kv:Value}(rm:dD (n+1) A)(R:Rel C W H s.heap)(hn:s.heap.Ns L mm)(f:Off C W L)(rk:VR C.h₀ W kv k)(h5:xs.length<=5)(hk:sv k=true)
  (WW: ∀Qc:List Value->Shared->Prop,(∀h' tk vs,(∀b o,s.heap.get? b=some o->h'.get? b=some o)->aF C.h₀ W vs xs->Qc vs {s with heap:=h',toks:=tk})->wpAny (be C) A.in1 (collect av) Qc (λU U=>False) s)
  (h:n6 C n k xs [] (λks H'=>kP ks/\ ∀out,n4 (rev.getD false) ks xs out->cH (.list out) Q H') H):
  wpAny (be C) A (call (.builtin "sorted") [av] ((Str.ofString "key",kv)::qe rev)) (aN C W s Q) no s:=by
 refine aE (room_in rm) λHh Hi=>?_;refine call_function_entry_kw kind_sorted plain_sorted entry_sorted (AO _ _ _).1 ?_;unfold Builtin.«sorted»;refine aw (m:=checkCount "sorted" 1 1 _) (ba ?_);refine aw (WW _ λhh tk vs AP rv=>?_);haveI jW:vs.length<=5:=by refine rG rv.length ?_;exact h5
 refine aw (wpAny_newList ?_ (by refine rG jQ ?_;exact iS jW rfl));haveI keep: ∀b o,s.heap.get? b=some o->(hh.push (PySem.W.listOf vs.toArray 0)).get? b=some o:=λb o q=>fO _ (AP b o q);haveI AQ:(hh.push (PySem.W.listOf vs.toArray 0)).get? hh.objs.size=some (PySem.W.listOf vs.toArray 0):=hE _ rfl;haveI afT:(hh.push (PySem.W.listOf vs.toArray 0)).objs.size=hh.objs.size+1:=lz ..;refine(?_:wpAny _ _ _ _ _ {s with heap:=hh.push (PySem.W.listOf vs.toArray 0),toks:=tk});have dead:s.heap.get? hh.objs.size=none:=by
  cases q:s.heap.get? hh.objs.size with
  |none=>rfl
  |some o=>exact absurd (cu (AP _ _ q)) (iw _)
 refine cM (id hn) λoL WX WY jy rL=>?_;haveI gL:C.h₀.objs.size<=hh.objs.size:=eT (l9 f.ge (cu (AP _ _ jy)));generalize hB:hh.push (PySem.W.listOf vs.toArray 0)=B at*;generalize hZ:hh.objs.size=Z at*;have off:Off C W Z:=Hf R gL dead;refine ag (uQ AQ (λU=>(#[]:Array Value)) (ws:=[]) rfl) λe1 lM=>?_;haveI sb:=oI B Z (Obj.mapSeq λU=>(#[]:Array Value));have k1: ∀b o,s.heap.get? b=some o->(B.update Z (Obj.mapSeq λU=>(#[]:Array Value))).get? b=some o:=λb o q=>(sb.2 b λz=>eU q (z▸dead)).trans (keep b o q);have sm:an C (λU=>False) W s W H {s with heap:=B.update Z (Obj.mapSeq λU=>(#[]:Array Value)),toks:=tk}:=by
  refine⟨⟨_,_,rfl⟩,.refl _,⟨λb o e=>k1 _ _ (R.keep b o e),size_of f.ge (k1 _ _ jy),λr o e=>?_,R.d8,R.inj,λp hp=>⟨k1 _ _ (R.bA p hp).1,(R.bA p hp).2⟩,R.fin,R.base⟩,λb o e=>⟨o,k1 b o e⟩,λU U e=>.inl e,λU e=>.inl e,λb o e U U=>.inl (k1 b o e)⟩;refine ab (R.obj r o e) λa p q=>?_;exact⟨a,p,q.mono (.refl _) λo e=>k1 _ _ e⟩
 refine aw (cW (wpAny_call_entry_kw PySem.F.slot_list_sort ⟨_,AQ,rfl⟩ entry_list_sort ?body (AO _ _ _).2))
 case body=>
  refine(?_:wpAny _ _ (Builtin.«list.sort» ⟨[.ref Z],(Str.ofString "key",kv)::qe rev⟩) _ _ _);refine rG (He rev hk rk Z) ?_;refine Hc (L:=L) Hh AQ rfl lM sm.rel (wS k1 hn) f (.inl off) rv rk h5 h λW' H' ak h' outv out j' y ha xg hj ro q=>⟨_,rfl,?_⟩;refine ba ⟨_,rfl,?_⟩;have Hj:Off C W' Z:=off.iX (s:={s with heap:=B.update Z (Obj.mapSeq λU=>(#[]:Array Value)),toks:=tk}) lM y;haveI z:an C (λc=>c=Z) W' ak W' H' {ak with heap:=h'}:=an.own (D:=λc=>c=Z) (tk:=ak.toks) y.rel Hj rfl xg ⟨_,hj⟩;haveI dI:an C (λU=>False) W s W' H' {ak with heap:=h'}:=(((sm.trans y).wide λU f=>f.elim).trans z).narrow λc hc=>.inr (hc▸dead);refine jI (dI.adopt Hj dead hj ro q) λbQ bc bb t rb q U=>?_;exact⟨bQ,bc,bb,t,rb,q⟩
theorem Hk(src:(∃r,a=.ref r/\H r=some (.list xs))∨a=.tup xs)(h5:xs.length<=5)(hk:sv k=true)
  (h:n6 C n k xs [] (λks H'=>kP ks/\ ∀out,n4 (rev.getD false) ks xs out->cH (.list out) Q H') H):lB C (n+1) "sorted" a k rev Q H:=by
 intro A W s L mm av kv rm R hn f ra rk;obtain ⟨l,vs,j,T,rfl,hT,ho,rv⟩: ∃l vs j T,av=.ref l/\(T= "list" ∨T= "tuple")/\s.heap.get? l=some ({cls:=.type T,data:=.seq (vs:List Value).toArray j}:Obj)/\aF C.h₀ W vs xs:=by
  rcases src with ⟨r,rfl,e⟩|rfl
  .refine ab (dQ ra) λl o1 pl=>?_;subst o1;refine bJ (eP R e) λl' vs j ql ho r1=>?_;replace ql:=pl▸ql;cases ql;exact⟨l,vs,j, "list",rfl,.inl rfl,ho,r1⟩
  .refine ag (jo ra) λl o2=>?_;subst o2;refine bM (jn R ra) λvs j ho r1=>?_;exact⟨l,vs,j, "tuple",rfl,.inr rfl,ho,r1⟩
 haveI jW:vs.length<=5:=by refine rG rv.length ?_;exact h5
 refine Hg rm R hn f rk h5 hk (λQc hc=>Hd hT ho (hc _ s.toks vs (λb o q=>?_) rv) (by refine rG jQ ?_;exact iS jW rfl)) h;refine rG (Heap.get?_update_ne _ _ _ _ (Nat.ne_of_lt (cu q))) ?_;exact fO _ q
end
section
variable{C:Cfg}{T:bG}{n:Nat}{H:MH}{Q:PV}{W:Wl}{s:Shared}
theorem WZ(e:H r=some (.list xs))(h5:xs.length<=5)(hk:sv k=true)
  (h:n6 C n k xs [] (λks H'=>kP ks/\ ∀out,n4 (rev.getD false) ks xs out->H' r=some .gone/\Q .none (upd H' r (.list out))) (upd H r .gone)):lB C (n+1) "list.sort" (.ref r) k rev Q H:=by
 intro A W s L mm av kv rm R hn f ra rk;refine ab (dQ ra) λa o1 pa=>?_;subst o1;refine bJ (eP R e) λa' vs j qa ho rv=>?_;replace qa:=pa▸qa;cases qa;refine aE (room_in rm) λHh Hi=>?_;refine wpAny_call_entry_kw PySem.F.slot_list_sort ⟨_,ho,rfl⟩ entry_list_sort ?body (AO _ _ _).2
 case body=>
  refine rG (He rev hk rk a) ?_;refine ag (uQ ho (λU=>(#[]:Array Value)) (ws:=[]) rfl) λe1 lM=>?_;have sb:=oI s.heap a (Obj.mapSeq λU=>(#[]:Array Value));generalize xd:s.heap.update a (Obj.mapSeq λU=>(#[]:Array Value))=h1 at*;have aL:a≠L:=λz=>f.r r (z▸pa);have a0:C.h₀.get? a=none:=by
   cases q:C.h₀.get? a with
   |none=>rfl
   |some o=>exact absurd (cu q) (Nat.not_lt.mpr (R.d8 r a pa).1)
  have ta: ∀p,p∈W.T->p.1≠a:=λp hp z=>by
   have:=(R.bA p hp).2 r (z▸pa);replace this:=e▸this;cases this
  have kk: ∀b o,b≠a->s.heap.get? b=some o->h1.get? b=some o:=λb o z q=>(sb.2 b z).trans q;have le:W.le ⟨W.ρ,(a,PySem.W.listOf ([]:List Value).toArray e1)::W.T⟩:=⟨λU U e=>e,λU e=>.tail _ e⟩;have hU:Rel C ⟨W.ρ,(a,PySem.W.listOf ([]:List Value).toArray e1)::W.T⟩ (upd H r .gone) h1:=by
   refine⟨λb o q=>kk b o (λz=>eU (z▸q) a0) (R.keep b o q),by refine rG sb.1 ?_;exact R.size,λx o q=>?_,λx b q=>?_,R.inj,λp hp=>?_,?_,λp hp=>.tail _ (R.base p hp)⟩
   .unfold upd at q;by_cases z:x=r
    .replace q:=(az z)▸q;cases q;refine rG z ?_;exact⟨a,pa,_,lM⟩
    .replace q:=(ax z)▸q;refine ab (R.obj x o q) λb p t=>?_;exact⟨b,p,t.mono le λo q=>kk b o (λy=>z (R.inj x r b p (y▸pa))) q⟩
   .refine aE (R.d8 x b q) λu cj=>?_;refine ag cj λo' bn=>?_;by_cases z:x=r
    .exact⟨u,.gone,by unfold upd;exact rG (az z) rfl⟩
    .exact⟨u,o',by unfold upd;refine rG (ax z) ?_;exact bn⟩
   .rcases List.mem_cons.mp hp with rfl|hp
    .exact⟨lM,λx q=>by unfold upd;exact rG (az (R.inj x r a q pa)) rfl⟩
    .refine⟨kk _ _ (ta p hp) (R.bA p hp).1,λx q=>?_⟩;have:=(R.bA p hp).2 x q;unfold upd;by_cases z:x=r
     .exact rG (az z) rfl
     .refine rG (ax z) ?_;exact this
   .refine ag R.fin λN g=>?_;refine⟨N,λx q=>?_⟩;unfold upd at q;by_cases z:x=r
    .exact g x (by refine rG z (rG e ?_);exact λe=>by cases e)
    .replace q:=(ax z)▸q;exact g x q
  have W0:h1.Ns L mm:=by
   refine cM hn λo es ep jy rr=>?_;exact⟨o,es,ep,kk L o aL.symm jy,rr⟩
  have W1:Off C ⟨W.ρ,(a,PySem.W.listOf ([]:List Value).toArray e1)::W.T⟩ L:=⟨f.ge,f.r,λp hp=>by
   rcases List.mem_cons.mp hp with rfl|hp
   .exact aL
   .exact f.t p hp⟩
  refine Hc (L:=L) Hi ho xd lM hU W0 W1 (.inr (.head _)) (rv.mono le) (rk.mono le) h5 h λW' H' ak h' outv out j' y ha xg hj ro W2=>aE W2 λhg q=>⟨_,rfl,?_⟩;have AR:W'.ρ r=some a:=y.ext.r _ _ pa;have tl: ∀o,(a,o)∈W'.T->o.cls=.type "list" :=λo bn=>by
   have:=(y.rel.bA _ bn).1;have:ak.heap.get? a=some o:=this;replace this:=ha▸this;cases this;rfl
  have lk:W'.like ⟨W'.ρ,W'.T.filter λp=>decide (p.1≠a)⟩:=⟨λU U e=>e,λp hp z=>List.mem_filter.mpr ⟨hp,by
   refine rG bf ?_;intro w;obtain ⟨b,o⟩:=p;cases w;exact z (tl o hp)⟩⟩
  have dead: ∀b,h1.get? b=none->s.heap.get? b=none:=λb q=>by
   cases w:s.heap.get? b with
   |none=>rfl
   |some o=>
    by_cases z:b=a
    .exact eU lM (z▸q)
    .exact eU (kk b o z w) q
  have k2: ∀b o,b≠a->ak.heap.get? b=some o->h'.get? b=some o:=λb o z q=>(xg.2 b z).trans q;refine⟨⟨W'.ρ,W'.T.filter λp=>decide (p.1≠a)⟩,upd H' r (.list out),.none,⟨?_,⟨λx b q=>y.ext.r x b q,λp hp=>List.mem_filter.mpr ⟨y.ext.t p (.tail _ hp),by refine rG bf ?_;exact ta p hp⟩⟩,?_,λb o q=>?_,λx b q=>?_,λp hp=>?_,λb o q nr nd=>?_⟩,.none,q⟩
  .refine dM y.eq λhh tk e=>?_;refine rG e ?_;exact⟨_,_,rfl⟩
  .refine⟨λb o q=>k2 b o (λz=>eU (z▸q) a0) (y.rel.keep b o q),by show _<=h'.objs.size;refine rG xg.1 ?_;exact y.rel.size,λx o q=>?_,λx b q=>?_,y.rel.inj,λp hp=>?_,?_,λp hp=>List.mem_filter.mpr ⟨y.rel.base p hp,by refine rG bf ?_;exact ta p (R.base p hp)⟩⟩
   .unfold upd at q;by_cases z:x=r
    .replace q:=(az z)▸q;cases q;refine rG z ?_;exact⟨a,AR,outv,j',hj,ro.like lk⟩
    .replace q:=(ax z)▸q;refine ab (y.rel.obj x o q) λb p t=>?_;exact⟨b,p,t.like lk λo q=>k2 b o (λw=>z (y.rel.inj x r b p (w▸AR))) q⟩
   .refine aE (y.rel.d8 x b q) λu cj=>?_;refine ag cj λo' bn=>?_;by_cases z:x=r
    .exact⟨u,.list out,by unfold upd;exact rG (az z) rfl⟩
    .exact⟨u,o',by unfold upd;refine rG (ax z) ?_;exact bn⟩
   .refine aE (List.mem_filter.mp hp) λeX cB=>?_;replace cB:=fP cB;refine⟨k2 _ _ cB (y.rel.bA p eX).1,λx q=>?_⟩;have:=(y.rel.bA p eX).2 x q;have z:x≠r:=λz=>by
     have q:W'.ρ x=some p.1:=q;replace q:=AR▸z▸q;exact cB (lx q).symm
    unfold upd;refine rG (ax z) ?_;exact this
   .refine ag y.rel.fin λN g=>?_;refine⟨N,λx q=>?_⟩;unfold upd at q;by_cases z:x=r
    .exact g x (by refine rG z (rG hg ?_);exact Sn)
    .replace q:=(ax z)▸q;exact g x q
  .by_cases z:b=a
   .exact⟨_,z▸hj⟩
   .refine ag (y.live b o (kk b o z q)) λo' q'=>?_;exact⟨o',k2 b o' z q'⟩
  .exact(y.new x b q).imp id λz=>dead b z
  .refine aE (List.mem_filter.mp hp) λeX cB=>?_;replace cB:=fP cB;rcases y.iW p eX with z|z
   .rcases List.mem_cons.mp z with rfl|z
    .exact absurd rfl cB
    .exact .inl z
   .exact .inr (dead _ z)
  .have z:b≠a:=λz=>nr r (z▸pa);rcases y.keep b o (kk b o z q) nr nd with w|⟨zu,⟨o1,W3,W4,fG,r1⟩,o2,n7,W5,W6,r2⟩
   .exact .inl (k2 b o z w)
   .have:s.heap.get? b=some o1:=by
     have:=kk b o z q;replace this:=(show h1.get? b=some o1 from fG)▸this;cases this;exact q
    exact .inr ⟨zu,⟨o1,W3,W4,this,r1⟩,o2,n7,W5,k2 b o2 z W6,r2⟩
end
section
variable{C:Cfg}{T:bG}{n:Nat}{H:MH}{Q:PV}{W:Wl}{s:Shared}
theorem Hl{kvs:List (Int×Value)}: ∀{vs:List Value},vs.length=kvs.length->(∀(j:Nat) (v:Value),vs[j]?=some v-> ∃k x,kvs[j]?=some (k,x)/\(intKind C.prog C.w).is k v=true)->IntsAre vs (kvs.map (·.1)):=by
 induction kvs with
 |nil=>intro vs h U;cases List.eq_nil_of_length_eq_zero h;exact .nil
 |cons p kvs ih=>
  intro vs h hv
  cases vs with
  |nil=>cases h
  |cons v vs=>
   refine bM (hv 0 v rfl) λk' x' e hk=>?_;cases e;refine ag (Value.isInt_shape hk) λt o1=>?_;subst o1;exact .cons _ _ (ih (Nat.succ.inj h) λj u hu=>hv (j+1) u hu)
theorem xh(h:DR C.h₀ W kvs es):kvs.map (·.1)=es.map (·.1):=by
 induction h with
 |nil=>rfl
 |cons _ _ ih=>exact rG dq (rG dq (rG ih rfl))
theorem Hm(ok:C.Ok){r:Ref}(e:H r=some (.dict es))(hz:es.length<64)(q: ∀hY:List Int,hY.Perm (es.map (·.1))->hY.Pairwise (· <= ·)->cH (.list (hY.map V.int)) Q H):aM C n (.con (.builtin "sorted")) [.ref r] Q H:=by
 intro A W s L mm fv bu rm R hn f rf ra;cases rf;refine ab (jx ra) λv o2 rv=>?_;subst o2;refine ab (dQ rv) λa o3 pa=>?_;subst o3;refine dN (t8 R e) λa' kvs qa hd r1 ph=>?_;replace qa:=pa▸qa;cases qa;refine ag hd.dictAt λep AS=>?_;have gN:kvs.length=es.length:=by haveI:=bP List.length (xh r1);simpa using this
 refine kdu_sorted (kdl_dict (knd:=intKind C.prog C.w) (kvs:=kvs) (ep:=ep) (zE ok ph)) rm.hh (R.fr hn f) (wF C.h₀ s.heap L (λU=>false)) AS (by refine rG gN (rG jQ ?_);exact pQ hz rfl) λD h' tk vs F' N' aS hl hv=>?_;haveI hi:=Hl hl hv;refine ksk_lsort (news':=λo=>(D,o)::nG C.h₀ s.heap L (λU=>false)) F' N' (λo=>.head λp hp=>Nat.ne_of_lt (aS p hp)) rfl (by simpa using hi) (by refine rG (au _) (rG gN ?_);exact hz) λnP hY c mF AT uT ce cZ hp hs U=>?_;haveI z:=an.ofNews (tk:=tk) (D:=λU=>False) R hn f AT uT (λp hp=>.tail _ hp);have dead:s.heap.get? D=none:=by
  cases w:s.heap.get? D with
  |none=>rfl
  |some o=>
   exfalso;haveI nL:=(N' (D,_) (.head _)).2.1;haveI n0:=(N' (D,_) (.head _)).2.2;exact iw _ (aS (D,o) (wE w nL rfl n0))
 haveI W7:C.h₀.objs.size<=D:=by
  refine cM (id hd) λoa ea epa W8 U=>?_;haveI aL:a≠L:=λz=>f.r r (z▸pa);haveI a0:C.h₀.get? a=none:=by
   cases w:C.h₀.get? a with
   |none=>rfl
   |some o=>exact absurd (cu w) (Nat.not_lt.mpr ph)
  exact eT (l9 ph (aS (a,oa) (wE W8 aL rfl a0)))
 haveI off:Off C W D:=by
  haveI nL:=(N' (D,_) (.head _)).2.1;refine⟨?_,λr e=>?_,λp q z=>?_⟩
  .exact W7
  .refine aE (R.d8 r D e) λU cj=>?_;refine ag cj λo ho=>?_;refine ab (R.obj r o ho) λb pb t=>?_;replace pb:=e▸pb;cases pb;refine ag t.some λo' bn=>?_;exact eU bn dead
  .exact eU (R.bA p q).1 (z▸dead)
 refine jI (z.adopt off dead (uT _ (.head _)).1 (aF.tS ce) (q hY (by haveI hp:=(xh r1)▸hp;exact hp) hs)) λbQ bc b z rb q U=>?_;exact⟨bQ,bc,b,z,rb,q⟩
theorem W9(ok:C.Ok){r:Ref}(e:H r=some (.dict es))(h5:es.length<=5)(hk:sv k=true)
  (h:n6 C n k (es.map λp=>V.int p.1) [] (λks H'=>kP ks/\ ∀out,n4 (rev.getD false) ks (es.map λp=>V.int p.1) out->cH (.list out) Q H') H):lB C (n+1) "sorted" (.ref r) k rev Q H:=by
 intro A W s L mm av kv rm R hn f ra rk;refine ab (dQ ra) λa o4 pa=>?_;subst o4;refine dN (t8 R e) λa' kvs qa hd r1 ph=>?_;replace qa:=pa▸qa;cases qa;refine ag hd.dictAt λep AS=>?_;haveI gN:kvs.length=es.length:=by haveI:=bP List.length (xh r1);simpa using this
 refine Hg rm R hn f rk (by refine rG (au _) ?_;exact h5) hk (λQc hc=>kdu_collect (A:=A.in1) (kdl_dict (knd:=intKind C.prog C.w) (kvs:=kvs) (ep:=ep) (zE ok ph)) rm.hh AS (by refine rG gN (rG jQ ?_);exact iS h5 rfl) λh' tk acc dg sj=>hc h' tk acc.toList dg ?_) h;haveI hi:=Hl (C:=C) (kvs:=kvs) (vs:=acc.toList) (by refine rG Array.length_toList ?_;exact sj.1) (λj v e=>sj.2 j v (by refine rB (Array.getElem?_toList) ?_;exact e));haveI:=aF.tS (h₀:=C.h₀) (W:=W) hi;haveI this:=eN▸(xh r1)▸this;exact this
theorem Hn(hz:ns.length<64)(q: ∀hY:List Int,hY.Perm ns->hY.Pairwise (· <= ·)->cH (.list (hY.map V.int)) Q H):aM C n (.con (.builtin "sorted")) [.tup (ns.map V.int)] Q H:=by
 intro A W s L mm fv bu rm R hn f rf ra;cases rf;refine ab (jx ra) λv o5 rv=>?_;subst o5;refine bJ (rS R rv) λa vs j o6 ho hi=>?_;subst o6;haveI jW:vs.length=ns.length:=hi.length;refine call_function_entry kind_sorted plain_sorted entry_sorted (args_sorted1 _) ?_;unfold Builtin.«sorted»;refine aw (m:=checkCount "sorted" 1 1 _) (ba ?_);refine aw (Hd (.inr rfl) ho ?_ (by refine rG jW (rG jQ ?_);exact pQ hz rfl));refine aw (wpAny_newList ?_ (by refine rG jW (rG jQ ?_);exact pQ hz rfl));have keep: ∀b o,s.heap.get? b=some o->((s.heap.push (seqObj "list" #[] 0)).update s.heap.objs.size (Obj.mapSeq (· ++vs.toArray))).get? b=some o:=λb o q=>by
  refine rG (Heap.get?_update_ne _ _ _ _ (Nat.ne_of_lt (cu q))) ?_;exact fO _ q
 refine(?_:wpAny _ _ _ _ _ {s with heap:=((s.heap.push (seqObj "list" #[] 0)).update s.heap.objs.size (Obj.mapSeq (· ++vs.toArray))).push (PySem.W.listOf vs.toArray 0)});generalize hhe:(s.heap.push (seqObj "list" #[] 0)).update s.heap.objs.size (Obj.mapSeq (· ++vs.toArray))=hh at*;haveI F:=R.fr hn f;haveI N:=wF C.h₀ s.heap L (λU=>false);have dead:s.heap.get? hh.objs.size=none:=by
  cases q:s.heap.get? hh.objs.size with
  |none=>rfl
  |some o=>exact absurd (cu (keep _ _ q)) (iw _)
 refine cM (id hn) λoL WX WY jy rL=>?_;haveI gL:C.h₀.objs.size<=hh.objs.size:=eT (l9 f.ge (cu (keep _ _ jy)));haveI off:Off C W hh.objs.size:=Hf R gL dead;haveI F1:=(F.keeps keep).push (PySem.W.listOf vs.toArray 0);haveI N1:=News.push (F.keeps keep) (λp hp=>⟨keep _ _ (N p hp).1,(N p hp).2⟩) (PySem.W.listOf vs.toArray 0) rfl;refine aw (cW (ksk_lsort (news':=λo=>(hh.objs.size,o)::nG C.h₀ s.heap L (λU=>false)) F1 N1 (λo=>.head λp hp=>Nat.ne_of_lt (cu (keep _ _ (N p hp).1))) rfl (by simpa using hi) hz λnP hY c mF AT uT ce cZ hp hs U=>?_));refine ba ⟨_,rfl,?_⟩;haveI z:=an.ofNews (tk:=s.toks) (D:=λU=>False) R hn f AT uT (λp hp=>.tail _ hp);refine jI (z.adopt off dead (uT _ (.head _)).1 (aF.tS ce) (q hY hp hs)) λbQ bc b z rb q U=>?_;exact⟨bQ,bc,b,z,rb,q⟩
end
section
variable{C:Cfg}{T:bG}{n:Nat}{H:MH}{Q:PV}
noncomputable def n8(K:Frag)(Cl fI:Addr):Bool:=makesIn K Cl&&findIn K (.ref Cl) "__init__" ==some (some (.ref fI))&&typeIn K (.ref fI)==some (.type "function")
noncomputable def qA(H:MH)(Cl:Addr)(x d:Ref):MH:=upd (upd H d (.fj 0 λU=>none)) x (.inst Cl d)
theorem Ho(ok:C.Ok){Cl fI:Addr}(x d:Ref)(hm:n8 C.K Cl fI=true)(hx:H x=none)(hd:H d=none)(n9:x≠d)
  (h:jw C n (.con (.ref fI)) (.ref x::args) (λv H'=>v=.none/\Q (.ref x) H') (qA H Cl x d)):aM C (n+1) (.con (.ref Cl)) args Q H:=by
 intro A W s L mm fv bu rm R hn f rf ra;cases rf;unfold n8 at hm;simp only[jN,beq_iff_eq] at hm;refine aE hm λo1 h3=>?_;refine aE o1 λh1 h2=>?_;haveI X:=R.du ok;obtain ⟨hh,g,dd,t,os⟩:=s;refine wpAny_call (make_core (makes_of X h1) (looks_findIn X h2) (λself=>bind_fn X self h3) (.inl rfl) ?_);have ai:an C (λU=>False) W ⟨hh,g,dd,t,os⟩ _ (upd H d (.fj 0 λU=>none)) ⟨hh.push emptyDict,g,dd,t,os⟩:=an.alloc (mo:=.fj 0 λU=>none) R hd emptyDict t
  ⟨[],0,hE _ rfl,cG _,rfl,λname=>⟨λU=>rfl,λv e=>by cases e⟩⟩
 haveI eH:upd H d (.fj 0 λU=>none) x=none:=by unfold upd;refine rG (ax n9) ?_;exact hx
 haveI pd:(W.add d hh.objs.size).ρ d=some hh.objs.size:=by refine(?_:(if d=d then _ else _)=_);exact rG (az rfl) rfl
 haveI aG:an C (λU=>False) (W.add d hh.objs.size) ⟨hh.push emptyDict,g,dd,t,os⟩ _ (qA H Cl x d) ⟨(hh.push emptyDict).push (instObj Cl hh.objs.size),g,dd,t,os⟩:=an.alloc (mo:=.inst Cl d) ai.rel eH (instObj Cl hh.objs.size) t
  ⟨hh.objs.size,(Wl.rN ai.rel eH _).r _ _ pd,hE _ rfl⟩
 haveI dI:=ai.trans aG;haveI fT:(hh.push emptyDict).objs.size=hh.objs.size+1:=lz ..;have px:((W.add d hh.objs.size).add x (hh.push emptyDict).objs.size).ρ x=some (hh.objs.size+1):=by refine(?_:(if x=x then _ else _)=_);exact rG (az rfl) (rG fT rfl)
 haveI uz:((hh.push emptyDict).push (instObj Cl hh.objs.size)).Ns L mm:=wS (λU U e=>fO _ (fO _ e)) hn;refine cM (id hn) λoL U U jy U=>?_;haveI fL:=f.iX (s:=⟨hh,g,dd,t,os⟩) jy dI;haveI qw:dD n (A.under (.builtin "type.__call__" ⟨.ref Cl::bu,[]⟩)):=by
  haveI a1:=rm.dep;haveI a2:=rm.tT;refine⟨rm.hh,?_,?_⟩
  .refine(?_:A.depth+1+4*n<_);exact y8 a1
  .refine(?_:A.units+1+16*n+100<_);exact DA a2
 refine codeAny_mono (h _ _ ⟨(hh.push emptyDict).push (instObj Cl hh.objs.size),g,dd,t,os⟩ L mm (.ref fI) (.ref (hh.objs.size+1)::bu) qw dI.rel uz fL (.con _) (.cons (.ref px) (ra.mono dI.ext))) λr s' z=>?_;rcases r with e|(v|_|_|_)<;>first|exact z.elim|skip
 obtain ⟨W',H',b,ci,rb,rfl,q⟩:=z;cases rb;exact⟨rfl,W',H',.ref x,dI.trans ci,.ref (ci.ext.r _ _ px),q⟩
end
structure xi(C:Cfg)(a:Addr)(params:List String)(xs:List X)(ss:List S)(Cl D f2:Addr)(name:String)(fd:FuncData):Prop where
 obj: ∃fo,C.K.lookup a=some fo/\fo.data=.func fd
 g:fd.globals=mainGlobals
 b:fd.builtins=builtinsNs
 cell: ∃cc co,fd.closure=[(("__class__" :Str),cc)]/\C.K.lookup cc=some co/\co.data=.cell (some (.ref D))
 body: ∃p0 p1 ap es pos p2 rest,fd.body=.stmts (.Expr (.Call (.Attribute (.Call (.Name ("super" :Str) p0) [] [] p1) (Str.ofString name) ap) es [] pos) p2::rest)/\gp fd.scope.names xs es=true/\jT fd.scope.names ss rest=true/\(ap.endLine==pos.line)=true/\es.length<28
 co:fd.scope.isCoroutine=false
 gen:fd.scope.isGenerator=false
 kind:fd.scope.kind=.function
 code:codeIn C.K fd.code fd.qualname=true
 file: ∃sw sx vs f t,fd.code=.ref sw/\C.K.lookup sw=some sx/\sx.data=.fields vs/\vs[2]?=some (.str f t)/\((C.prog.main.file:Str)==f)=true
 top:(C.prog.main.scope.names.lookup ("super" :Str)).isSome=false
 par: ∀p,p∈params->fd.scope.names.lookup (Str.ofString p)=some .local
 oT: ∀p,p∈fd.scope.names->p.2≠.cell
 free: ∀p,p∈fd.scope.names->p.2=.free->p.1=("__class__" :Str)
 ks:fd.scope.names.lookup ("super" :Str)=some .globalImplicit
 kc:fd.scope.names.lookup ("__class__" :Str)=some .free
 self: ∃ar,(fd.params.posonlyargs++fd.params.args).head?=some ar/\ar.arg=Str.ofString "self"
 sup:C.mg ("super" :Str)=none/\C.mb ("super" :Str)=some (.type "super")
 cls: ∃cd,clsIn C.K D=some cd
 sub:mroIn C.K Cl (.ref D)=some true
 Xa:nsIn C.K cStatics "thirdparty.any" =some none
 look:ks_superIn C.K Cl D (Str.ofString name)=some (some (.ref f2))
 fn:typeIn C.K (.ref f2)=some (.type "function")
 Xb:fnIn C.K f2=true
 nm:(Str.ofString name==("__class__" :Str))=false
section
variable{C:Cfg}{T:bG}{n:Nat}{H:MH}{Q:PV}{a:Addr}
set_option tactic.hygienic true in
theorem Xc{E:Value->Shared->Prop}{Cl D f2:Addr}(ok:C.Ok)(X:xi C a params xs ss Cl D f2 name fd)
  {fs:String->Option V} {Qv:Value->Shared->Prop} (F:bl C W env m s.heap) (R:Rel C W H s.heap) (e1:env.scope=fd.scope) (e5:env.cells=fd.closure) (e6:env.func=some a) (e7:env.code=fd.code)
  (hx:m "self" =some (.ref xr)) (h1:H xr=some (.inst Cl d)) (h2:H d=some (.fj k fs)) (AU:fd.scope.names.lookup (Str.ofString "self")=some .local)
  (h: ∀x h' tk,W.ρ xr=some x->(∀b o,s.heap.get? b=some o->h'.get? b=some o)->h'.get? s.heap.objs.size=some (ks_superObj D x Cl)->Qv (.ref s.heap.objs.size) {s with heap:=h',toks:=tk}):
  _root_.PySem.wpAt (be C) A (.func body env) (attributeBase (.Call (.Name ("super" :Str) p0) [] [] p1) (Str.ofString name) env whole) Qv E s:=by
 refine ab X.obj λfo hK hd=>?_;refine bE X.cell λcc co bj kR xj=>?_;refine wu X.file λsw sx vs f t Xd Xe Xf Xg Xh=>?_;refine ab X.self λar hp Xi=>?_;refine ag X.cls λcd hD=>?_;haveI KI:=R.du ok;obtain ⟨oD,Hp,Hq⟩: ∃oD,s.heap.get? D=some oD/\oD.data=.cls cd:=by
  unfold clsIn at hD;split at hD
  .rename_i c d cd' sl ho
   cases hD;exact⟨_,KI _ _ ho,rfl⟩
  .exact Ns hD
 refine nn (ub R h1 h2) λx dx es mm px pd I U=>?_;refine ks_wpAt_super_base (env:=env) (by refine(?_:env.scope.names.lookup _=_);refine rG e1 ?_;exact X.ks) (by refine(?_:env.scope.names.lookup _=_);refine rG e1 ?_;exact X.kc) X.nm e6 (KI _ _ hK) hd hp (e7.trans Xd) (KI _ _ Xe) Xf Xg Xh X.top ?_;refine ks_loadName_global F.kind (by refine(?_:env.scope.names.lookup _=_);refine rG e1 ?_;exact X.ks) (cO (ul (x:= "super") ok F R (.inr X.sup) (Q:=λv s'=>v=.type "super" /\s'=s) ⟨rfl,rfl⟩) (λv s' hv=>?_) λU U f=>f.elim);refine aE hv λo1 o2=>?_;clear hv;subst o1;subst o2;refine⟨rfl,?_⟩;refine wpAny_loadName_free (c:=cc) (v:=.ref D) F.kind (by refine(?_:env.scope.names.lookup _=_);refine rG e1 ?_;exact X.kc) (by refine rG e5 (rG bj ?_);rfl) ⟨_,KI _ _ kR,xj⟩ ?_;refine rG Xi ?_;refine cO (zU (x:= "self") (Q:=λv iy=>v=.ref x/\iy=s') F (by refine rG e1 (rG AU ?_);rfl) (by decide) (by decide) hx λrv r=>?_) (λv s' hv=>?_) λU U f=>f.elim
 .refine ab (dQ r) λx' o3 sy=>?_;subst o3;replace sy:=px▸sy;cases sy;exact⟨rfl,rfl⟩
 .refine aE hv λo4 o5=>?_;clear hv;subst o4;subst o5;obtain ⟨hh,g,dd,tt,os⟩:=s';refine ks_wpAny_isType_cls Hp Hq ⟨rfl,?_⟩;refine ks_wpAny_call_super Hp Hq I.at_ I.cls (λc e=>?_) (looks_mroIn KI X.sub) (λh' e k=>?_)
  .haveI:=I.no;unfold notCls at this;haveI this:=e▸this;exact Bool.noConfusion this
  .exact h x h' tt px k e
theorem Xj{P:Heap->Prop}{E:Value->Shared->Prop}{Q:Value->Shared->Prop}
  (hk: ∀h,P h-> ∃k,(k=Keeper.frame∨k=Keeper.machine∨k=Keeper.boundFrame)/\Looks M h (keeperOf f) k) (hm:gp ns xs es=true)
  (h:wpAny M A (spliced (backTo pos (starEach es env))) (λvs ak=>P ak.heap/\wpAny M A (call f (first++vs) []) Q E ak) E s):
  wpAny M A (callWith pos f first (backTo pos (starEach es env)) []) Q E s:=by
 refine callWith_of (by refine rG (r7 (um env hm)) ?_;rfl) hk ?_
 cases es with
 |nil=>
  unfold evalArgs;refine aw (cO h (λvs ak df=>?_) λU U x=>x);refine aw (ba ?_);refine cW ?_;exact aw (ba (aw (ba (ba df))))
 |cons e es=>
  cases xs with
  |nil=>exact Ft hm
  |cons x xs=>
   haveI hm:=gA hm;rw[rZ es env hm.1] at h ⊢;exact Calls.evalArgs_plain h
theorem Xk(ok:C.Ok)(tok:T.Ok C){Cl D f2:Addr}{fs:String->Option V}(X:xi C a params xs ss Cl D f2 name fd)(hl:params.length=hX.length)
  (uL: ∀(s:Shared) (W:Wl) (bu:List Value),C.K.In s.heap->aF C.h₀ W bu args-> ∃eW,BindsTo s fd ⟨bu,[]⟩ ((params.map Str.ofString).zip eW)/\aF C.h₀ W eW hX)
  (hx:da (λU=>none) params hX "self" =some (.ref xr)) (AU: "self" ∈params) (Xl:da (λU=>none) params hX "__class__" =none) (h1:H xr=some (.inst Cl d)) (h2:H d=some (.fj k fs))
  (h:eV C T n (da (λU=>none) params hX) xs [] (λvs aj=>jw C n (.con (.ref f2)) (.ref xr::vs) (λU aA=>bo C T n ss (cR Q) (da (λU=>none) params hX) aA) aj) H):jw C (n+1) (.con (.ref a)) args Q H:=by
 intro A W s L mm fv bu rm R hn f rf ra;cases rf;refine ab X.obj λfo hK hd=>?_;refine oC X.body λp0 p1 ap es pos p2 lI=>?_;refine kj lI λrest hb Xm Ap Xn Xo=>?_;clear lI;refine bE X.cell λcc co bj kR xj=>?_;have KI:=R.du ok;refine ab (uL s W bu KI ra) λeW hB rb=>?_;haveI uM:=rm.dep;haveI Ax:=rm.tT;refine ks_codeAny_call_defAt (fd:=fd) (binds:=(params.map Str.ofString).zip eW) (by exact Dx uM) (KI _ _ hK) hd (ok.lim.keeps R.keep) (codeRec_of KI X.code) hb hB X.oT (λy hy=>?_) (λdf iE Hr=>?_) X.co X.gen X.kind
 .refine ab (List.mem_map.mp (List.of_mem_zip hy).1) λp hp uN=>?_;refine rB uN ?_;exact X.par p hp
 generalize qB:callEnv fd s.heap.objs.size a=env at*;have e1:env.scope=fd.scope:=by refine rB qB ?_;rfl
 have e2:env.locals=s.heap.objs.size:=by refine rB qB ?_;rfl
 haveI e3:env.globals=fd.globals:=by refine rB qB ?_;rfl
 haveI e4:env.builtins=fd.builtins:=by refine rB qB ?_;rfl
 have e5:env.cells=fd.closure:=by refine rB qB ?_;rfl
 haveI e6:env.func=some a:=by refine rB qB ?_;rfl
 haveI e7:env.code=fd.code:=by refine rB qB ?_;rfl
 have y:an C (λU=>False) W s W H {s with heap:=df,toks:=s.toks+((params.map Str.ofString).zip eW).length}:=an.ext' R Hr (eT iE.lt);haveI dead: ∀c,s.heap.objs.size<=c->s.heap.get? c=none:=λc hc=>by
  cases q:s.heap.get? c with
  |none=>rfl
  |some o=>exact absurd (cu q) (Nat.not_lt.mpr hc)
 refine aE (Gz (C:=C) (W:=W) env.kindOf rb (mA:=λU=>none) (mL:=λU=>none) (mC:=λU=>none) hl (λU U e=>by cases e) (λU U e=>by cases e)) λAy U=>?_;have kn: ∀z,env.kindOf z=fd.scope.names.lookup z:=λz=>by refine(?_:env.scope.names.lookup z=_);exact rG e1 rfl
 haveI Xp: ∀z,env.kindOf z=some .local->bindL env.kindOf ((params.map Str.ofString).zip eW) (λU=>none) z=((params.map Str.ofString).zip eW).reverse.lookup z:=λz U=>by
  haveI main: ∀(l:List (Str×Value)) (mm:Str->Option Value),(∀p,p∈l->env.kindOf p.1=some .local)->bindL env.kindOf l mm z=(l.reverse.lookup z).or (mm z):=by
   intro l
   induction l with
   |nil=>intro mm U;rfl
   |cons p l ih=>
    intro mm hp;obtain ⟨q,v⟩:=p;unfold bindL;refine rG (az (hp (q,v) (.head _))) (rG (ih _ λr hr=>hp r (.tail _ hr)) (rG nC (rG List.lookup_append ?_)));by_cases w:z=q
    .subst w;simp
    .haveI:(z==q)=false:=by simpa using w
     simp[w,this,gC]
  refine rG (main _ _ λp hp=>by
   refine ab (List.mem_map.mp (List.of_mem_zip hp).1) λq hq Xq=>?_;rw[kn,<-Xq];exact X.par q hq) ?_
  simp
 have F:bl C W env (da (λU=>none) params hX) df:=by
  have one: ∀z c,env.cells.lookup z=some c->z=("__class__" :Str)/\c=cc:=λz c e=>by
   rw[e5,bj,gC] at e;by_cases w:z=("__class__" :Str)
   .subst w;simp at e;exact⟨rfl,e.symm⟩
   .have:(z==("__class__" :Str))=false:=by simpa using w
    rw[this] at e;cases e
  haveI AV:cc<C.h₀.objs.size:=cu (ok.du _ _ kR);refine⟨by rw[e1];exact X.kind,e3.trans X.g,e4.trans X.b,⟨_,e2▸iE,λz v U e k=>?_⟩,e2▸uo R,λz c e=>?_,λz c k e=>?_,λz z' c e e'=>((one z c e).1).trans ((one z' c e').1).symm,λz k=>?_,λz v e k=>?_⟩
  .refine ab (Ay z v e k) λrv q r=>?_;exact⟨rv,(Xp _ k)▸q,r⟩
  .refine aE (one z c e) λo6 o7=>?_;subst o6;subst o7;refine⟨λr q=>absurd (R.d8 r _ q).1 (Nat.not_le.mpr AV),λq=>?_,_,co,Hr _ _ (KI _ _ kR),xj⟩;rw[e2] at q;rw[q] at AV;exact absurd R.size (Nat.not_le.mpr AV)
  .rw[kn] at k;exact absurd rfl (X.oT _ (lookup_mem k))
  .rcases k with k|k
   .rw[kn] at k;exact absurd rfl (X.oT _ (lookup_mem k))
   .rw[kn] at k;have:=X.free _ (lookup_mem k) rfl;haveI:z=("__class__" :Str):=this;subst this;exact⟨cc,by rw[e5,bj];rfl⟩
  .exfalso;rcases k with k|k
   .rw[kn] at k;exact X.oT _ (lookup_mem k) rfl
   .rw[kn] at k;have:=X.free _ (lookup_mem k) rfl;haveI:z= "__class__" :=lC this;subst this;rw[Xl] at e;cases e
 have qw:dD n (A.deeper env):=⟨rm.hh,by refine(?_:A.depth+1+4*n<_);exact y8 uM,by refine(?_:A.units+3+16*n+100<_);exact Dw Ax⟩;have fin: ∀fl aZ,jU C W {s with heap:=df,toks:=s.toks+((params.map Str.ofString).zip eW).length} env (cR Q) fl aZ->aN C W s Q (match fl with| .ret v=>v|_=>.none) aZ:=λfl aZ ⟨cn,aA,m₂,bb,aG,cA,vf,q⟩=>by
  have t:=y.fr.trans aG;have dI:an C (λU=>False) W s cn aA aZ:=⟨t.eq,t.ext,t.rel,t.live,t.new,t.iW,λb o e nr U=>by
   by_cases w:b=cc
   .subst w;have:=KI _ _ kR;rw[e] at this;cases this;exact .inl (t.rel.keep _ _ (ok.du _ _ kR))
   .refine t.keep b o e nr ?_;intro o8;rcases o8 with hc|⟨z,hc⟩
    .rw[hc,e2] at e;exact eU e (oN _)
    .rw[e5,bj,gC] at hc;by_cases w':z=("__class__" :Str)
     .subst w';simp at hc;exact w hc.symm
     .have:(z==("__class__" :Str))=false:=by simpa using w'
      rw[this] at hc;cases hc⟩
  cases vf with
  |next=>exact⟨cn,aA,.none,dI,.none,q⟩
  |ret r=>exact⟨cn,aA,_,dI,r,q⟩
  |brk=>exact q.elim
  |cont=>exact q.elim
 refine ks_wpAt_mono (Q:=jU C W {s with heap:=df,toks:=s.toks+((params.map Str.ofString).zip eW).length} env (cR Q)) (E:=λU U=>False) ?_ (λfl aZ p=>?_) λU U z=>z.elim
 .refine ks_wpAt_execs_cons (ks_wpAt_Expr_any ?_ (by unfold interactive;rw[F.kind];rfl) rfl);rw[arm_eval_Call];refine _root_.PySem.wpAt_bind (Xc (body:=_) ok X F y.rel e1 e5 e6 e7 hx h1 h2 (X.par _ AU) λx h' tk px kk Hs=>?_);refine _root_.PySem.wpAt_of_wpAny (aw (f6 ?_));haveI F':bl C W env (da (λU=>none) params hX) ({s with heap:=df,toks:=s.toks+((params.map Str.ofString).zip eW).length}:Shared).heap:=F;generalize qC:({s with heap:=df,toks:=s.toks+((params.map Str.ofString).zip eW).length}:Shared)=σ at*;have qp:an C (λU=>False) W σ W H {σ with heap:=h',toks:=tk}:=an.ext' y.rel kk (eT (cu Hs));have AW:gp env.scope.names xs es=true:=by rw[e1];exact Xm
  unfold methodCall;rw[FM (r7 (um env AW)) (by rfl) (by simp;exact bI Xo rfl)];refine aw (cW ?_);refine ag X.cls λcd hD=>?_;refine nn (ub qp.rel h1 h2) λxa dx mf zu sy pd' I U=>?_;rw[px] at sy;cases sy;haveI uU:=qp.rel.du ok;obtain ⟨xk,hC⟩: ∃xk,clsIn C.K Cl=some xk:=by
   have:=X.look;unfold ks_superIn at this
   cases w:clsIn C.K Cl with
   |none=>rw[w] at this;cases this
   |some c=>exact⟨c,rfl⟩
  haveI Ar:alongIn C.K (Str.ofString name) ((xk.mro.dropWhile (· !=.ref D)).drop 1)=some (some (.ref f2)):=by
   haveI:=X.look;unfold ks_superIn at this;rw[hC] at this;exact this
  obtain ⟨of,Xr,Xs⟩: ∃of,h'.get? f2=some of/\of.cls=.type "function" :=by
   have xm:(C.K.lookup f2).map (·.cls)=some (.type "function"):=X.fn
   cases w:C.K.lookup f2 with
   |none=>rw[w] at xm;cases xm
   |some of=>rw[w] at xm;exact⟨of,uU _ _ w,lx xm⟩
  haveI dv:an C (λU=>False) W {σ with heap:=h',toks:=tk} ⟨W.ρ,(h'.objs.size,methodObj (.ref f2) (.ref x))::W.T⟩ H {σ with heap:=h'.push (methodObj (.ref f2) (.ref x)),toks:=tk+1}:=an.rM qp.rel _ _;have cA:=(F'.next qp).next dv;refine ks_wpAny_getMethod_super (h:=h') (g:=σ.gens) (d:=σ.drawn) (t:=tk) (os:=σ.os) Hs (looks_opaque uU X.Xa) (l₀:=xk.mro) (λA Q E s k q=>aw ((looks_clsIn uU hC) A _ E s k (ba q))) rfl uU Ar Xr Xs (ks_ne uU I hC) X.nm ?_;dsimp only;haveI lG:methodCallPos true (.Call (.Name ("super" :Str) p0) [] [] p1) env ap pos=pure pos:=by unfold methodCallPos;simp[Xn]
  refine aw (wpAny_of_eq lG ?_);refine Xj (P:=MethP C.K h'.objs.size f2 (.ref x)) (keeps_M X.Xb) AW ?_;refine qn (oX ok tok xs (A.deeper env) es pos env _ _ H {σ with heap:=h'.push (methodObj (.ref f2) (.ref x)),toks:=tk+1} [] [] _ qw AW cA dv.rel .nil h) λvs cP eS bh bs ci Ht hh=>?_;rw[gD] at Ht;haveI Hu:cP.heap.get? h'.objs.size=some (methodObj (.ref f2) (.ref x)):=(ci.rel.bA _ (ci.ext.t _ (.head _))).1;refine⟨⟨Hu,ci.rel.du ok⟩,wpAny_call (ks_codeAny_call_bound Hu ?_)⟩;refine ab ((cA.next ci).lv) λXu Xv U=>?_;haveI Xw:eS.ρ xr=some x:=ci.ext.r _ _ px;refine codeAny_mono (hh (A.deeper env) eS cP env.locals Xu (.ref f2) (.ref x::vs) qw ci.rel Xv (cA.next ci).off (.con _) (.cons (.ref Xw) Ht)) λr i1 z=>?_;rcases r with e|(v|_|_|_)<;>first|exact z.elim|skip
  obtain ⟨mD,cm,b,gI,rb4,q⟩:=z;haveI oV:=(cA.next ci).next gI;haveI all:=((qp.trans dv).trans ci).trans gI;exact _root_.PySem.wpAt_of_wpAny<|imp (oY ok tok ss (A.deeper env) rest env _ mD cm i1 _ qw (by rw[e1];exact Ap) oV gI.rel q) λfl oS p=>p.trans all.fr
 .haveI:=fin fl aZ p;exact this
end
section
variable{C:Cfg}{T:bG}{n:Nat}{H:MH}{Q:PV}
theorem Hv(h:jw C n (.con (.ref f)) (self::args) Q H):aM C n (.ao (.ref f) self) args Q H:=by
 intro A W s L mm fv bu rm R hn o rf ra
 cases rf with
 |ao m rs=>
  haveI hb:=(R.bA _ m).1;exact wpAny_call (ks_codeAny_call_bound hb (h A W s L mm (.ref f) _ rm R hn o (.con _) (.cons rs ra)))
noncomputable def Hw:Data->Option (List Value)
 | .seq xs _=>some xs.toList
 |_=>none
theorem Xx(h:Hw d=some l): ∃n,d=.seq l.toArray n:=by cases d<;>first|(exact Ns h;done)|(cases h;exact⟨_,rfl⟩)
noncomputable def AX:Value->Option Int
 | .int i _=>some i
 |_=>none
theorem Hx(h:AX v=some i): ∃t,v=.int i t:=by cases v<;>first|(exact Ns h;done)|(cases h;exact⟨_,rfl⟩)
noncomputable def Hy:List Value->Option Int
 |[v]=>AX v
 |_=>none
theorem Xy(h:Hy l=some i): ∃t,l=[.int i t]:=by
 cases l with
 |nil=>exact Ns h
 |cons v l=>
  cases l with
  |nil=>refine ag (Hx h) λt o1=>?_;subst o1;exact⟨t,rfl⟩
  |cons _ _=>exact Ns h
noncomputable def xn(K:Frag)(a:Addr)(p q:String)(d:Int):Bool:=match jV K a with
 |some fd=>fd.params.args.map (·.arg)==[Str.ofString p,Str.ofString q]&&fd.params.posonlyargs.isEmpty&&fd.params.kwonlyargs.isEmpty&&fd.params.vararg.isNone&&fd.params.kwarg.isNone&&
  ((jg fd.defaults).bind λT=>(K.lookup T).bind λo=>(Hw o.data).bind Hy)==some d
 |none=>false
theorem Xz{l:List Arg}(h:l.map (·.arg)=[p,q]): ∃c d c' d',l=[⟨p,c,d⟩,⟨q,c',d'⟩]:=
 bE (List.map_eq_cons_iff.mp h) λa l1 e f1 h1=>bE (List.map_eq_cons_iff.mp h1) λb l2 e2 f2 h2=>by
  cases a with|mk a1 a2 a3=>?_
  cases b with|mk b1 b2 b3=>?_
  refine⟨a2,a3,b2,b3,?_⟩;refine rG e (rG e2 (rG (List.map_eq_nil_iff.mp h2) (rB f1 (rB f2 ?_))));rfl
theorem XA{α β σ:Type}{Q:α->Shared->Prop}{E:Value->Shared->Prop}{l:List β}(h:l=[]){f:β->σ->Sem (ForInStep σ)}{i:σ}{k:σ->Sem α}(g:wpAny M A (k i) Q E s):wpAny M A (forIn l i f>>=k) Q E s:=by subst h;exact g
theorem XB{a:Addr}{d:Int}(h:xn C.K a "self" "limit" d=true)(Hz:jV C.K a=some fd): ∀(s:Shared) (W:Wl) (bu:List Value),C.K.In s.heap->aF C.h₀ W bu [v]->
  ∃eW,BindsTo s fd ⟨bu,[]⟩ (([("self" :String), "limit"].map Str.ofString).zip eW)/\aF C.h₀ W eW [v,.int d]:=by
 intro s W bu KI ra;refine ab (jx ra) λx o2 rx=>?_;subst o2;unfold xn at h;replace h:=Hz▸h;haveI h1:=eq_of_beq (aV (aV (aV (aV (aV h)))));haveI h2:=List.isEmpty_iff.mp (aY (aV (aV (aV (aV h)))));haveI h3:=List.isEmpty_iff.mp (aY (aV (aV (aV h))));haveI h4:=Option.isNone_iff_eq_none.mp (aY (aV (aV h)));haveI h5:=Option.isNone_iff_eq_none.mp (aY (aV h));refine ab (Option.bind_eq_some_iff.mp (eq_of_beq (aY h))) λT hT h6=>?_;refine ab (Option.bind_eq_some_iff.mp h6) λo ho h6=>?_;refine ab (Option.bind_eq_some_iff.mp h6) λl hl h6=>?_;haveI hT:=tR hT;refine ag (Xx hl) λk hd=>?_;refine ag (Xy h6) λt o3=>?_;subst o3;clear h h6 hl;refine⟨[x,.int d t],?_,.cons rx (.cons (.int _ _) .nil)⟩;refine yZ (Xz h1) λc1 d1 c2 d2 e=>?_;refine rG (Gy h2 h3 h4 h5 hT) (rG e ?_);clear h1 h2 h3 h4 h5 hT Hz e;intro M A E Q' hQ;haveI hp:wpAny M A (pure [(Str.ofString "self",x),(Str.ofString "limit",Value.int d t)]) Q' E s:=ba hQ;refine XA rfl (aw (wpAny_seqItems (KI _ _ ho) hd (Eq.mp ?_ hp)))
 kernel_rfl
end
@[reducible] noncomputable def AY:List S:=[.asg (.attr (.var "self") "limit") (.var "limit"),.asg (.attr (.var "self") "step") (.glob "FIRST_STEP"),.asg (.attr (.var "self") "activity") (.list [.int 0]),.asg (.attr (.var "self") "heap") (.list []),.asg (.attr (.var "self") "place") (.list [.neg (.int 1)])]
@[reducible] noncomputable def XC:List S:=[.ret (.bin .Sub (.call (.glob "len") [.attr (.var "self") "activity"]) (.int 1))]
@[reducible] noncomputable def XD:List S:=[.ret (.cmp .GtE (.sub (.attr (.var "self") "place") (.var "var")) (.int 0))]
@[reducible] noncomputable def XE:List S:=[.ite (.cmp .NotEq (.sub (.attr (.var "self") "activity") (.var "one")) (.sub (.attr (.var "self") "activity") (.var "other"))) [.ret (.cmp .Gt (.sub (.attr (.var "self") "activity") (.var "one")) (.sub (.attr (.var "self") "activity") (.var "other")))] [],.ret (.cmp .Lt (.var "one") (.var "other"))]
@[reducible] noncomputable def XF:List S:=[.mj (.cmp .Lt (.ao (.var "self") "many" []) (.var "n")) [.expr (.ao (.attr (.var "self") "activity") "append" [.int 0]),.expr (.ao (.attr (.var "self") "place") "append" [.neg (.int 1)]),.expr (.ao (.var "self") "push" [.ao (.var "self") "many" []])]]
@[reducible] noncomputable def XG:List S:=[.asg (.sub (.attr (.var "self") "heap") (.var "spot")) (.var "var"),.asg (.sub (.attr (.var "self") "place") (.var "var")) (.var "spot")]
@[reducible] noncomputable def XH:List S:=[.asg (.name "var") (.sub (.attr (.var "self") "heap") (.var "spot")),.mj (.cmp .Gt (.var "spot") (.int 0)) [.asg (.name "above") (.bin .FloorDiv (.bin .Sub (.var "spot") (.int 1)) (.int 2)),.ite (.fQ (.ao (.var "self") "is_before" [.var "var",.sub (.attr (.var "self") "heap") (.var "above")])) [.brk] [],.expr (.ao (.var "self") "put" [.var "spot",.sub (.attr (.var "self") "heap") (.var "above")]),.asg (.name "spot") (.var "above")],.expr (.ao (.var "self") "put" [.var "spot",.var "var"])]
@[reducible] noncomputable def XI:List S:=[.ite (.ao (.var "self") "is_held" [.var "var"]) [.nJ] [],.expr (.ao (.attr (.var "self") "heap") "append" [.var "var"]),.asg (.sub (.attr (.var "self") "place") (.var "var")) (.bin .Sub (.call (.glob "len") [.attr (.var "self") "heap"]) (.int 1)),.expr (.ao (.var "self") "rise" [.bin .Sub (.call (.glob "len") [.attr (.var "self") "heap"]) (.int 1)])]
@[reducible] noncomputable def XJ:List S:=[.ret (.jh (.cmp .Gt (.var "lit") (.int 0)) (.bin .Mult (.int 2) (.var "lit")) (.bin .Sub (.int 1) (.bin .Mult (.int 2) (.var "lit"))))]
@[reducible] noncomputable def XK:List S:=[.ret (.tup [.call (.glob "abs") [.var "lit"],.var "lit"])]
@[reducible] noncomputable def XM:List S:=[.asg (.name "found") (.list []),.dF ["lit"] (.ji (.var "lits") (.glob "order_key") false) [.ite (.gn (.cmp .Eq (.var "found") (.list [])) (.cmp .NotEq (.sub (.var "found") (.neg (.int 1))) (.var "lit"))) [.expr (.ao (.var "found") "append" [.var "lit"])] []],.ret (.call (.glob "tuple") [.var "found"])]
@[reducible] noncomputable def XN:List S:=[.dF ["k"] (.call (.glob "range") [.int 1,.call (.glob "len") [.var "clause"]]) [.ite (.cmp .Eq (.sub (.var "clause") (.var "k")) (.neg (.sub (.var "clause") (.bin .Sub (.var "k") (.int 1))))) [.ret (.bool true)] []],.ret (.bool false)]
@[reducible] noncomputable def XO:List S:=[.asg (.attr (.var "self") "hook") (.var "hook"),.asg (.attr (.var "self") "assigns") (.list [.glob "UNKNOWN"]),.asg (.attr (.var "self") "levels") (.list [.int 0]),.asg (.attr (.var "self") "reasons") (.list [.glob "NO_CLAUSE"]),.asg (.attr (.var "self") "spots") (.list [.int 0]),.asg (.attr (.var "self") "phases") (.list [.glob "FALSE"]),.asg (.attr (.var "self") "watches") (.list [.list [],.list []]),.asg (.attr (.var "self") "heap") (.call (.glob "CoreHeap") []),.asg (.attr (.var "self") "trail") (.list []),.asg (.attr (.var "self") "starts") (.list []),.asg (.attr (.var "self") "head") (.int 0),.asg (.attr (.var "self") "told") (.int 0),.asg (.attr (.var "self") "clauses") (.list []),.asg (.attr (.var "self") "steps") (.list []),.asg (.attr (.var "self") "droppable") (.list []),.asg (.attr (.var "self") "activities") (.list []),.asg (.attr (.var "self") "learnt_count") (.int 0)]
@[reducible] noncomputable def XQ:List S:=[.asg (.name "var") (.call (.glob "len") [.attr (.var "self") "assigns"]),.expr (.ao (.attr (.var "self") "assigns") "append" [.glob "UNKNOWN"]),.expr (.ao (.attr (.var "self") "levels") "append" [.int 0]),.expr (.ao (.attr (.var "self") "reasons") "append" [.glob "NO_CLAUSE"]),.expr (.ao (.attr (.var "self") "spots") "append" [.int 0]),.expr (.ao (.attr (.var "self") "phases") "append" [.glob "FALSE"]),.expr (.ao (.attr (.var "self") "watches") "append" [.list []]),.expr (.ao (.attr (.var "self") "watches") "append" [.list []]),.expr (.ao (.attr (.var "self") "heap") "grow" [.var "var"]),.ret (.var "var")]
@[reducible] noncomputable def XR:List S:=[.ret (.jh (.cmp .Gt (.var "lit") (.int 0)) (.sub (.attr (.var "self") "assigns") (.var "lit")) (.neg (.sub (.attr (.var "self") "assigns") (.neg (.var "lit")))))]
@[reducible] noncomputable def XS:List S:=[.ret (.call (.glob "len") [.attr (.var "self") "starts"])]
@[reducible] noncomputable def XT:List S:=[.ret (.sub (.attr (.var "self") "spots") (.var "var"))]
@[reducible] noncomputable def XU:List S:=[.ret (.ji (.var "some") (.attr (.var "self") "spot_of") true)]
@[reducible] noncomputable def XV:List S:=[.asg (.name "number") (.call (.glob "len") [.attr (.var "self") "clauses"]),.expr (.ao (.attr (.var "self") "clauses") "append" [.call (.glob "list") [.var "clause"]]),.expr (.ao (.attr (.var "self") "steps") "append" [.var "step"]),.expr (.ao (.attr (.var "self") "droppable") "append" [.var "can_drop"]),.expr (.ao (.attr (.var "self") "activities") "append" [.int 0]),.ite (.var "can_drop") [.asg (.attr (.var "self") "learnt_count") (.bin .Add (.attr (.var "self") "learnt_count") (.int 1))] [],.ret (.var "number")]
@[reducible] noncomputable def XW:List S:=[.asg (.name "lits") (.sub (.attr (.var "self") "clauses") (.var "number")),.expr (.ao (.sub (.attr (.var "self") "watches") (.call (.glob "place_of") [.sub (.var "lits") (.int 0)])) "append" [.var "number"]),.expr (.ao (.sub (.attr (.var "self") "watches") (.call (.glob "place_of") [.sub (.var "lits") (.int 1)])) "append" [.var "number"])]
@[reducible] noncomputable def XX:List S:=[.ite (.cmp .NotEq (.ao (.var "self") "value" [.var "lit"]) (.glob "FALSE")) [.ret (.bin .Add (.ao (.var "self") "depth" []) (.int 1))] [],.ret (.sub (.attr (.var "self") "levels") (.call (.glob "abs") [.var "lit"]))]
@[reducible] noncomputable def XY:List S:=[.asg (.name "found") (.ji (.var "lits") (.glob "order_key") false),.expr (.nI (.var "found") (.attr (.var "self") "height")),.ret (.var "found")]
@[reducible] noncomputable def AZ:List S:=[.ite (.cmp .Lt (.call (.glob "len") [.sub (.attr (.var "self") "clauses") (.var "number")]) (.int 2)) [.expr (.ao (.var "self") "cancel_until" [.int 0])] [],.asg (.name "lits") (.ao (.var "self") "by_heights" [.sub (.attr (.var "self") "clauses") (.var "number")]),.asg (.sub (.attr (.var "self") "clauses") (.var "number")) (.var "lits"),.ite (.cmp .Gt (.call (.glob "len") [.var "lits"]) (.int 1)) [.expr (.ao (.var "self") "watch" [.var "number"])] [],.ite (.gn (.cmp .Eq (.call (.glob "len") [.var "lits"]) (.int 0)) (.cmp .Eq (.ao (.var "self") "value" [.sub (.var "lits") (.int 0)]) (.glob "FALSE"))) [.ret (.var "number")] [],.ite (.cmp .Eq (.ao (.var "self") "value" [.sub (.var "lits") (.int 0)]) (.glob "UNKNOWN")) [.ite (.cmp .Eq (.call (.glob "len") [.var "lits"]) (.int 1)) [.expr (.ao (.var "self") "enqueue" [.sub (.var "lits") (.int 0),.var "number"])] [.ite (.cmp .Eq (.ao (.var "self") "value" [.sub (.var "lits") (.int 1)]) (.glob "FALSE")) [.expr (.ao (.var "self") "cancel_until" [.sub (.attr (.var "self") "levels") (.call (.glob "abs") [.sub (.var "lits") (.int 1)])]),.expr (.ao (.var "self") "enqueue" [.sub (.var "lits") (.int 0),.var "number"])] []]] [],.ret (.glob "NO_CLAUSE")]
@[reducible] noncomputable def XZ:List S:=[.asg (.name "var") (.call (.glob "abs") [.var "lit"]),.asg (.sub (.attr (.var "self") "assigns") (.var "var")) (.jh (.cmp .Gt (.var "lit") (.int 0)) (.glob "TRUE") (.glob "FALSE")),.asg (.sub (.attr (.var "self") "levels") (.var "var")) (.ao (.var "self") "depth" []),.asg (.sub (.attr (.var "self") "reasons") (.var "var")) (.var "number"),.asg (.sub (.attr (.var "self") "spots") (.var "var")) (.call (.glob "len") [.attr (.var "self") "trail"]),.expr (.ao (.attr (.var "self") "trail") "append" [.var "lit"])]
@[reducible] noncomputable def X1:List S:=[.expr (.ao (.attr (.var "self") "starts") "append" [.call (.glob "len") [.attr (.var "self") "trail"]]),.ite (.cmp .IsNot (.attr (.var "self") "hook") .none) [.expr (.ao (.attr (.var "self") "hook") "push_level" [])] []]
@[reducible] noncomputable def X2:List S:=[.asg (.name "count") (.bin .Sub (.ao (.var "self") "depth" []) (.var "level")),.ite (.cmp .LtE (.var "count") (.int 0)) [.nJ] [],.asg (.name "start") (.sub (.attr (.var "self") "starts") (.var "level")),.dF ["spot"] (.call (.glob "range") [.bin .Sub (.call (.glob "len") [.attr (.var "self") "trail"]) (.int 1),.bin .Sub (.var "start") (.int 1),.neg (.int 1)]) [.asg (.name "var") (.call (.glob "abs") [.sub (.attr (.var "self") "trail") (.var "spot")]),.asg (.sub (.attr (.var "self") "phases") (.var "var")) (.sub (.attr (.var "self") "assigns") (.var "var")),.asg (.sub (.attr (.var "self") "assigns") (.var "var")) (.glob "UNKNOWN"),.asg (.sub (.attr (.var "self") "reasons") (.var "var")) (.glob "NO_CLAUSE"),.expr (.ao (.attr (.var "self") "heap") "push" [.var "var"])],.asg (.attr (.var "self") "trail") (.kE (.attr (.var "self") "trail") (.var "start")),.asg (.attr (.var "self") "starts") (.kE (.attr (.var "self") "starts") (.var "level")),.asg (.attr (.var "self") "head") (.call (.glob "min") [.attr (.var "self") "head",.var "start"]),.asg (.attr (.var "self") "told") (.call (.glob "min") [.attr (.var "self") "told",.var "start"]),.ite (.cmp .IsNot (.attr (.var "self") "hook") .none) [.expr (.ao (.attr (.var "self") "hook") "pop_levels" [.var "count"])] []]
@[reducible] noncomputable def X3:List S:=[.mj (.cmp .Lt (.attr (.var "self") "head") (.call (.glob "len") [.attr (.var "self") "trail"])) [.asg (.name "gone") (.neg (.sub (.attr (.var "self") "trail") (.attr (.var "self") "head"))),.asg (.attr (.var "self") "head") (.bin .Add (.attr (.var "self") "head") (.int 1)),.asg (.name "conflict") (.ao (.var "self") "visit" [.var "gone"]),.ite (.cmp .NotEq (.var "conflict") (.glob "NO_CLAUSE")) [.asg (.attr (.var "self") "head") (.call (.glob "len") [.attr (.var "self") "trail"]),.ret (.var "conflict")] []],.ret (.glob "NO_CLAUSE")]
@[reducible] noncomputable def X4:List S:=[.asg (.names ["watching", "kept", "conflict"]) (.tup [.sub (.attr (.var "self") "watches") (.call (.glob "place_of") [.var "gone"]),.list [],.glob "NO_CLAUSE"]),.dF ["spot"] (.call (.glob "range") [.call (.glob "len") [.var "watching"]]) [.asg (.name "number") (.sub (.var "watching") (.var "spot")),.asg (.name "lits") (.sub (.attr (.var "self") "clauses") (.var "number")),.ite (.cmp .Is (.var "lits") .none) [.cont] [],.ite (.cmp .Eq (.sub (.var "lits") (.int 0)) (.var "gone")) [.asg (.subs (.var "lits") (.int 0) (.var "lits") (.int 1)) (.tup [.sub (.var "lits") (.int 1),.var "gone"])] [],.ite (.eE (.cmp .NotEq (.ao (.var "self") "value" [.sub (.var "lits") (.int 0)]) (.glob "TRUE")) (.ao (.var "self") "moved" [.var "number",.var "lits"])) [.cont] [],.expr (.ao (.var "kept") "append" [.var "number"]),.ite (.cmp .Eq (.ao (.var "self") "value" [.sub (.var "lits") (.int 0)]) (.glob "FALSE")) [.asg (.name "conflict") (.var "number"),.expr (.ao (.var "kept") "extend" [.jS (.var "watching") (.bin .Add (.var "spot") (.int 1))]),.brk] [],.ite (.cmp .Eq (.ao (.var "self") "value" [.sub (.var "lits") (.int 0)]) (.glob "UNKNOWN")) [.expr (.ao (.var "self") "enqueue" [.sub (.var "lits") (.int 0),.var "number"])] []],.asg (.sub (.attr (.var "self") "watches") (.call (.glob "place_of") [.var "gone"])) (.var "kept"),.ret (.var "conflict")]
@[reducible] noncomputable def X5:List S:=[.dF ["k"] (.call (.glob "range") [.int 2,.call (.glob "len") [.var "lits"]]) [.ite (.cmp .NotEq (.ao (.var "self") "value" [.sub (.var "lits") (.var "k")]) (.glob "FALSE")) [.asg (.subs (.var "lits") (.int 1) (.var "lits") (.var "k")) (.tup [.sub (.var "lits") (.var "k"),.sub (.var "lits") (.int 1)]),.expr (.ao (.sub (.attr (.var "self") "watches") (.call (.glob "place_of") [.sub (.var "lits") (.int 1)])) "append" [.var "number"]),.ret (.bool true)] []],.ret (.bool false)]
@[reducible] noncomputable def HA:List S:=[.expr (.rO [.var "hook"]),.asg (.attr (.var "self") "proof") (.var "proof"),.asg (.attr (.var "self") "seen") (.list [.bool false]),.asg (.attr (.var "self") "unit_steps") (.list [.none]),.asg (.attr (.var "self") "rooted") (.int 0),.asg (.attr (.var "self") "is_ok") (.bool true),.asg (.attr (.var "self") "empty_step") .none,.asg (.attr (.var "self") "failed") (.tup []),.asg (.attr (.var "self") "failed_at") .none,.asg (.attr (.var "self") "conflict_limit") (.int 0),.asg (.attr (.var "self") "conflicts") (.int 0),.asg (.attr (.var "self") "decisions") (.int 0)]
@[reducible] noncomputable def X6:List S:=[.expr (.ao (.attr (.var "self") "seen") "append" [.bool false]),.expr (.ao (.attr (.var "self") "unit_steps") "append" [.none]),.ret (.ao (.var "self") "grow" [])]
@[reducible] noncomputable def X7:List S:=[.asg (.name "clause") (.call (.glob "clause_of") [.var "lits"]),.expr (.ao (.var "self") "cancel_until" [.int 0]),.ite (.eE (.attr (.var "self") "is_ok") (.fQ (.call (.glob "is_always_true") [.var "clause"]))) [.asg (.name "conflict") (.ao (.var "self") "place" [.ao (.var "self") "store" [.var "clause",.var "step",.bool false]]),.ite (.cmp .NotEq (.var "conflict") (.glob "NO_CLAUSE")) [.expr (.ao (.var "self") "fail_at_root" [.var "conflict"])] []] [],.ret (.attr (.var "self") "is_ok")]
@[reducible] noncomputable def X8:List S:=[.ret (.attr (.var "self") "failed")]
@[reducible] noncomputable def X9:List S:=[.ret (.attr (.var "self") "failed_at")]
@[reducible] noncomputable def Yb:List S:=[.ite (.gn (.cmp .Is (.attr (.var "self") "proof") .none) (.cmp .Eq (.var "pairs") (.list []))) [.ret (.var "first")] [],.asg (.name "step") (.ao (.attr (.var "self") "proof") "chain" [.var "first",.var "pairs"]),.ite (.cmp .NotEq (.ao (.attr (.var "self") "proof") "clause" [.var "step"]) (.var "clause")) [.raise] [],.ret (.var "step")]
@[reducible] noncomputable def Yc:List S:=[.ite (.cmp .Is (.attr (.var "self") "proof") .none) [.ret (.list [])] [],.ret (.comp (.tup [.var "var",.ao (.var "self") "unit_step" [.var "var"]]) ["var"] (.ao (.var "self") "by_spots" [.var "some"]) none)]
@[reducible] noncomputable def Yd:List S:=[.mj (.cmp .Is (.sub (.attr (.var "self") "unit_steps") (.var "var")) .none) [.asg (.name "lit") (.sub (.attr (.var "self") "trail") (.attr (.var "self") "rooted")),.asg (.name "number") (.sub (.attr (.var "self") "reasons") (.call (.glob "abs") [.var "lit"])),.asg (.name "pairs") (.list []),.dF ["late"] (.call (.glob "clause_of") [.sub (.attr (.var "self") "clauses") (.var "number")]) [.ite (.cmp .NotEq (.var "late") (.var "lit")) [.expr (.ao (.var "pairs") "append" [.tup [.call (.glob "abs") [.var "late"],.sub (.attr (.var "self") "unit_steps") (.call (.glob "abs") [.var "late"])]])] []],.asg (.sub (.attr (.var "self") "unit_steps") (.call (.glob "abs") [.var "lit"])) (.ao (.var "self") "log_chain" [.tup [.var "lit"],.sub (.attr (.var "self") "steps") (.var "number"),.var "pairs"]),.asg (.attr (.var "self") "rooted") (.bin .Add (.attr (.var "self") "rooted") (.int 1))],.ret (.sub (.attr (.var "self") "unit_steps") (.var "var"))]
@[reducible] noncomputable def Ye:List S:=[.asg (.name "pairs") (.ao (.var "self") "root_pairs" [.comp (.call (.glob "abs") [.var "lit"]) ["lit"] (.sub (.attr (.var "self") "clauses") (.var "number")) none]),.asg (.attr (.var "self") "empty_step") (.ao (.var "self") "log_chain" [.tup [],.sub (.attr (.var "self") "steps") (.var "number"),.var "pairs"]),.asg (.attr (.var "self") "is_ok") (.bool false)]
@[reducible] noncomputable def Yg:List S:=[.ret (.ao (.var "self") "propagate_clauses" [])]
@[reducible] noncomputable def Yh:List S:=[.asg (.name "var") (.call (.glob "abs") [.var "lit"]),.ite (.cmp .Eq (.sub (.attr (.var "self") "levels") (.var "var")) (.int 0)) [.asg (.attr (.var "self") "failed") (.tup [.var "lit"]),.asg (.attr (.var "self") "failed_at") (.jh (.cmp .Is (.attr (.var "self") "proof") .none) .none (.ao (.var "self") "unit_step" [.var "var"])),.nJ] [],.ite (.cmp .Eq (.sub (.attr (.var "self") "reasons") (.var "var")) (.glob "NO_CLAUSE")) [.asg (.attr (.var "self") "failed") (.tup [.neg (.var "lit"),.var "lit"]),.nJ] [],.asg (.names ["found", "roots", "pairs", "marked", "first"]) (.tup [.list [.var "lit"],.list [],.list [],.list [.var "var"],.sub (.attr (.var "self") "reasons") (.var "var")]),.asg (.sub (.attr (.var "self") "seen") (.var "var")) (.bool true),.expr (.ao (.var "self") "mark_others" [.var "first",.var "var",.var "marked",.var "roots"]),.dF ["spot"] (.call (.glob "range") [.bin .Sub (.sub (.attr (.var "self") "spots") (.var "var")) (.int 1),.bin .Sub (.sub (.attr (.var "self") "starts") (.int 0)) (.int 1),.neg (.int 1)]) [.asg (.name "late") (.call (.glob "abs") [.sub (.attr (.var "self") "trail") (.var "spot")]),.ite (.eE (.sub (.attr (.var "self") "seen") (.var "late")) (.cmp .Eq (.sub (.attr (.var "self") "reasons") (.var "late")) (.glob "NO_CLAUSE"))) [.expr (.ao (.var "found") "append" [.sub (.attr (.var "self") "trail") (.var "spot")])] [.ite (.sub (.attr (.var "self") "seen") (.var "late")) [.expr (.ao (.var "pairs") "append" [.tup [.var "late",.sub (.attr (.var "self") "steps") (.sub (.attr (.var "self") "reasons") (.var "late"))]]),.expr (.ao (.var "self") "mark_others" [.sub (.attr (.var "self") "reasons") (.var "late"),.var "late",.var "marked",.var "roots"])] []]],.dF ["late"] (.var "marked") [.asg (.sub (.attr (.var "self") "seen") (.var "late")) (.bool false)],.expr (.ao (.var "pairs") "extend" [.ao (.var "self") "root_pairs" [.var "roots"]]),.asg (.attr (.var "self") "failed") (.call (.glob "tuple") [.var "found"]),.asg (.attr (.var "self") "failed_at") (.ao (.var "self") "log_chain" [.call (.glob "clause_of") [.comp (.neg (.var "late")) ["late"] (.var "found") none],.sub (.attr (.var "self") "steps") (.var "first"),.var "pairs"])]
@[reducible] noncomputable def Yi:List S:=[.dF ["lit"] (.sub (.attr (.var "self") "clauses") (.var "number")) [.asg (.name "var") (.call (.glob "abs") [.var "lit"]),.ite (.eE (.cmp .NotEq (.var "var") (.var "skipped")) (.fQ (.sub (.attr (.var "self") "seen") (.var "var")))) [.asg (.sub (.attr (.var "self") "seen") (.var "var")) (.bool true),.expr (.ao (.var "marked") "append" [.var "var"]),.ite (.cmp .Eq (.sub (.attr (.var "self") "levels") (.var "var")) (.int 0)) [.expr (.ao (.var "roots") "append" [.var "var"])] []] []]]
@[reducible] noncomputable def Yj:List S:=[.ret (.tup [.call (.glob "abs") [.var "literal"],.cmp .Gt (.var "literal") (.int 0)])]
@[reducible] noncomputable def Yk:List S:=[.asg (.name "kept") .lA,.dF ["literal"] (.var "literals") [.ite (.cmp .In (.neg (.var "literal")) (.var "kept")) [.ret .none] [],.asg (.sub (.var "kept") (.var "literal")) (.bool true)],.ret (.call (.glob "tuple") [.ji (.var "kept") (.glob "order_of") false])]
@[reducible] noncomputable def Yl:List S:=[.dF ["place"] (.call (.glob "range") [.call (.glob "len") [.var "clause"]]) [.ite (.cmp .Eq (.sub (.var "clause") (.var "place")) (.int 0)) [.ret (.bool false)] [],.ite (.eE (.cmp .Gt (.var "place") (.int 0)) (.cmp .GtE (.call (.glob "abs") [.sub (.var "clause") (.bin .Sub (.var "place") (.int 1))]) (.call (.glob "abs") [.sub (.var "clause") (.var "place")]))) [.ret (.bool false)] []],.ret (.bool true)]
@[reducible] noncomputable def Ym:List S:=[.ite (.eE (.cmp .In (.var "variable") (.var "one")) (.cmp .In (.neg (.var "variable")) (.var "other"))) [.asg (.name "rest") (.comp (.var "literal") ["literal"] (.var "one") (some (.cmp .NotEq (.var "literal") (.var "variable")))),.expr (.ao (.var "rest") "extend" [.comp (.var "literal") ["literal"] (.var "other") (some (.cmp .NotEq (.var "literal") (.neg (.var "variable"))))])] [.ite (.eE (.cmp .In (.neg (.var "variable")) (.var "one")) (.cmp .In (.var "variable") (.var "other"))) [.asg (.name "rest") (.comp (.var "literal") ["literal"] (.var "one") (some (.cmp .NotEq (.var "literal") (.neg (.var "variable"))))),.expr (.ao (.var "rest") "extend" [.comp (.var "literal") ["literal"] (.var "other") (some (.cmp .NotEq (.var "literal") (.var "variable")))])] [.raise]],.ret (.call (.glob "tidy") [.var "rest"])]
@[reducible] noncomputable def Yn:List S:=[.asg (.attr (.var "self") "steps") (.list []),.asg (.attr (.var "self") "named") (.list [.int 0]),.asg (.attr (.var "self") "empty") (.neg (.int 1))]
@[reducible] noncomputable def Yo:List S:=[.ret (.call (.glob "len") [.attr (.var "self") "steps"])]
@[reducible] noncomputable def Yp:List S:=[.ret (.sub (.sub (.attr (.var "self") "steps") (.var "step")) (.int 1))]
@[reducible] noncomputable def Yq:List S:=[.asg (.name "number") (.call (.glob "len") [.attr (.var "self") "steps"]),.ite (.cmp .NotIn (.var "rule") (.glob "RULES")) [.raise] [],.ite (.fQ (.call (.glob "is_tidy") [.var "clause"])) [.raise] [],.dF ["one"] (.var "premises") [.ite (.fQ (.kD .LtE .Lt (.int 0) (.var "one") (.var "number"))) [.raise] []],.expr (.ao (.attr (.var "self") "steps") "append" [.tup [.var "rule",.call (.glob "tuple") [.var "clause"],.call (.glob "tuple") [.var "premises"],.var "note"]]),.ite (.eE (.cmp .Eq (.call (.glob "len") [.var "clause"]) (.int 0)) (.cmp .Lt (.attr (.var "self") "empty") (.int 0))) [.asg (.attr (.var "self") "empty") (.var "number")] [],.ret (.var "number")]
@[reducible] noncomputable def Yr:List S:=[.asg (.name "stand") (.ao (.var "self") "clause" [.var "first"]),.dF ["variable", "other"] (.var "pairs") [.asg (.name "stand") (.call (.glob "resolve_on") [.var "stand",.ao (.var "self") "clause" [.var "other"],.var "variable"]),.ite (.cmp .Is (.var "stand") .none) [.raise] []],.ite (.cmp .Eq (.call (.glob "len") [.var "pairs"]) (.int 0)) [.ret (.var "first")] [],.asg (.name "premises") (.bin .Add (.tup [.var "first"]) (.call (.glob "tuple") [.comp (.var "other") ["variable", "other"] (.var "pairs") none])),.ret (.ao (.var "self") "add" [.str "resolve",.var "stand",.var "premises",.call (.glob "tuple") [.comp (.var "variable") ["variable", "other"] (.var "pairs") none]])]
@[reducible] noncomputable def Ys:List S:=[.asg (.name "wanted") (.nH "last" true),.dF ["number"] (.call (.glob "range") [.var "last",.neg (.int 1),.neg (.int 1)]) [.ite (.cmp .In (.var "number") (.var "wanted")) [.dF ["one"] (.sub (.sub (.attr (.var "self") "steps") (.var "number")) (.int 2)) [.asg (.sub (.var "wanted") (.var "one")) (.bool true)]] []],.ret (.call (.glob "sorted") [.var "wanted"])]
@[reducible] noncomputable def Yt:List S:=[.asg (.name "found") .lA,.dF ["number"] (.ao (.var "self") "needed" [.var "last"]) [.ite (.cmp .Eq (.sub (.sub (.attr (.var "self") "steps") (.var "number")) (.int 0)) (.str "input")) [.asg (.sub (.var "found") (.sub (.sub (.attr (.var "self") "steps") (.var "number")) (.int 3))) (.bool true)] []],.ret (.call (.glob "sorted") [.var "found"])]
@[reducible] noncomputable def Yu:List S:=[.asg (.sub (.var "vat") (.int 1)) (.bin .Add (.sub (.var "vat") (.int 1)) (.int 1)),.ite (.cmp .LtE (.sub (.var "vat") (.int 1)) (.call (.glob "len") [.sub (.var "vat") (.int 0)])) [.ret (.bin .Mod (.sub (.sub (.var "vat") (.int 0)) (.bin .Sub (.sub (.var "vat") (.int 1)) (.int 1))) (.var "many"))] [],.ret (.bin .Mod (.bin .FloorDiv (.bin .Add (.bin .Add (.bin .Add (.bin .Mult (.bin .Mult (.int 7) (.sub (.var "vat") (.int 1))) (.sub (.var "vat") (.int 1))) (.bin .Mult (.int 6) (.sub (.var "vat") (.int 1)))) (.int 9)) (.bin .Mult (.int 2) (.call (.glob "len") [.sub (.var "vat") (.int 0)]))) (.int 4)) (.var "many"))]
@[reducible] noncomputable def Yv:List S:=[.asg (.names ["size", "start"]) (.tup [.sub (.tup [.int 2,.int 3,.int 2,.int 3,.int 2,.int 1]) (.call (.glob "_law_dip") [.var "vat",.int 6]),.call (.glob "_law_dip") [.var "vat",.var "n"]]),.asg (.name "found") (.list []),.dF ["j"] (.call (.glob "range") [.var "size"]) [.expr (.ao (.var "found") "append" [.bin .Mult (.bin .Add (.int 1) (.bin .Mod (.bin .Add (.var "start") (.var "j")) (.var "n"))) (.bin .Sub (.int 1) (.bin .Mult (.int 2) (.call (.glob "_law_dip") [.var "vat",.int 2])))])],.ret (.call (.glob "tuple") [.ji (.var "found") (.glob "abs") false])]
@[reducible] noncomputable def HB:List S:=[.asg (.names ["known", "is_new", "is_broken"]) (.tup [.call (.glob "list") [.var "begun"],.bool true,.bool false]),.mj (.var "is_new") [.asg (.name "is_new") (.bool false),.dF ["clause"] (.var "clauses") [.asg (.name "left") (.comp (.var "one") ["one"] (.var "clause") (some (.cmp .NotIn (.neg (.var "one")) (.var "known")))),.ite (.cmp .Eq (.comp (.var "one") ["one"] (.var "clause") (some (.cmp .In (.var "one") (.var "known")))) (.list [])) [.asg (.name "is_broken") (.gn (.var "is_broken") (.cmp .Eq (.var "left") (.list []))),.ite (.cmp .Eq (.call (.glob "len") [.var "left"]) (.int 1)) [.expr (.ao (.var "known") "append" [.sub (.var "left") (.int 0)]),.asg (.name "is_new") (.bool true)] []] []]],.ret (.tup [.var "known",.var "is_broken"])]
@[reducible] noncomputable def Yw:List S:=[.dF ["code"] (.call (.glob "range") [.bin .Pow (.int 2) (.var "n")]) [.asg (.name "true_ones") (.comp (.jh (.cmp .Eq (.bin .Mod (.bin .FloorDiv (.var "code") (.bin .Pow (.int 2) (.bin .Sub (.var "var") (.int 1)))) (.int 2)) (.int 1)) (.var "var") (.neg (.var "var"))) ["var"] (.call (.glob "range") [.int 1,.bin .Add (.var "n") (.int 1)]) none),.asg (.name "rows") (.bin .Add (.call (.glob "list") [.var "clauses"]) (.comp (.tup [.var "one"]) ["one"] (.var "literals") none)),.ite (.cmp .Eq (.comp (.var "row") ["row"] (.var "rows") (some (.cmp .Eq (.comp (.var "one") ["one"] (.var "row") (some (.cmp .In (.var "one") (.var "true_ones")))) (.list [])))) (.list [])) [.ret (.bool true)] []],.ret (.bool false)]
@[reducible] noncomputable def Yx:List S:=[.asg (.name "found") .lA,.dF ["lit"] (.attr (.var "core") "trail") [.asg (.sub (.var "found") (.var "lit")) (.jh (.cmp .In (.var "lit") (.var "decided")) (.list [.var "lit"]) (.list [])),.ite (.eE (.cmp .NotIn (.var "lit") (.var "decided")) (.cmp .NotIn (.var "lit") (.var "sure"))) [.dF ["other"] (.sub (.attr (.var "core") "clauses") (.sub (.attr (.var "core") "reasons") (.call (.glob "abs") [.var "lit"]))) [.ite (.cmp .NotEq (.var "other") (.var "lit")) [.asg (.sub (.var "found") (.var "lit")) (.bin .Add (.sub (.var "found") (.var "lit")) (.comp (.var "one") ["one"] (.sub (.var "found") (.neg (.var "other"))) (some (.cmp .NotIn (.var "one") (.sub (.var "found") (.var "lit"))))))] []]] []],.ret (.var "found")]
@[reducible] noncomputable def Yy:List S:=[.ite (.gn (.cmp .Is (.var "step") .none) (.cmp .NotEq (.ao (.var "proof") "clause" [.var "step"]) (.call (.glob "tuple") [.ji (.comp (.neg (.var "one")) ["one"] (.var "failed") none) (.glob "abs") false]))) [.ret (.bool false)] [],.ret (.fQ (.call (.glob "_law_has_way") [.comp (.sub (.var "clauses") (.var "number")) ["number"] (.ao (.var "proof") "used_inputs" [.var "step"]) none,.var "failed",.var "n"]))]
@[reducible] noncomputable def Yz:List S:=[.asg (.attrs (.var "core") "failed" (.var "core") "failed_at") (.tup [.tup [],.none]),.expr (.ao (.var "core") "find_failed" [.neg (.var "lit")]),.asg (.names ["failed", "step"]) (.tup [.ao (.var "core") "failed_assumptions" [],.ao (.var "core") "failed_step" []]),.ite (.cmp .In (.var "lit") (.var "decided")) [.ret (.eE (.cmp .Eq (.call (.glob "sorted") [.var "failed"]) (.call (.glob "sorted") [.list [.var "lit",.neg (.var "lit")]])) (.cmp .Is (.var "step") .none))] [],.ite (.cmp .In (.var "lit") (.var "sure")) [.ret (.eE (.cmp .Eq (.var "failed") (.tup [.neg (.var "lit")])) (.call (.glob "_law_step_right") [.var "proof",.var "step",.var "failed",.var "clauses",.var "n"]))] [],.ite (.gn (.cmp .NotEq (.kE (.var "failed") (.int 1)) (.tup [.neg (.var "lit")])) (.cmp .NotEq (.call (.glob "sorted") [.jS (.var "failed") (.int 1)]) (.call (.glob "sorted") [.sub (.var "grounds") (.var "lit")]))) [.ret (.bool false)] [],.ret (.eE (.cmp .In (.var "lit") (.sub (.call (.glob "_law_closed") [.var "clauses",.jS (.var "failed") (.int 1)]) (.int 0))) (.call (.glob "_law_step_right") [.var "proof",.var "step",.var "failed",.var "clauses",.var "n"]))]
@[reducible] noncomputable def sA:List S:=[.asg (.names ["vat", "proof"]) (.tup [.list [.comp (.bin .Mod (.call (.glob "int") [.var "cell"]) (.int 5040)) ["cell"] (.kE (.var "script") (.int 60)) none,.int 0],.call (.glob "Proof") []]),.asg (.names ["n", "core"]) (.tup [.bin .Add (.int 4) (.call (.glob "_law_dip") [.var "vat",.int 2]),.call (.glob "Search") [.var "proof",.none]]),.dF ["var"] (.call (.glob "range") [.var "n"]) [.expr (.ao (.var "core") "new_var" [])],.asg (.name "clauses") (.comp (.call (.glob "_law_clause") [.var "vat",.var "n"]) ["turn"] (.call (.glob "range") [.bin .Add (.int 4) (.call (.glob "_law_dip") [.var "vat",.int 5])]) none),.rP "number" "clause" (.var "clauses") [.ite (.fQ (.ao (.var "core") "add_clause" [.var "clause",.ao (.var "proof") "add" [.str "input",.var "clause",.tup [],.var "number"]])) [.ret (.sub (.call (.glob "_law_closed") [.var "clauses",.list []]) (.int 1))] []],.asg (.names ["sure", "is_broken"]) (.call (.glob "_law_closed") [.var "clauses",.list []]),.asg (.name "stands") (.cmp .Eq (.ao (.var "core") "propagate" []) (.neg (.int 1))),.ite (.gn (.var "is_broken") (.fQ (.var "stands"))) [.ret (.eE (.var "is_broken") (.fQ (.var "stands")))] [],.asg (.name "decided") (.list []),.dF ["turn"] (.call (.glob "range") [.bin .Add (.int 2) (.call (.glob "_law_dip") [.var "vat",.int 3])]) [.asg (.name "lit") (.bin .Mult (.bin .Add (.int 1) (.call (.glob "_law_dip") [.var "vat",.var "n"])) (.bin .Sub (.int 1) (.bin .Mult (.int 2) (.call (.glob "_law_dip") [.var "vat",.int 2])))),.ite (.cmp .Eq (.ao (.var "core") "value" [.var "lit"]) (.int 0)) [.expr (.ao (.var "core") "new_level" []),.expr (.ao (.var "core") "enqueue" [.var "lit",.neg (.int 1)]),.ite (.cmp .Eq (.ao (.var "core") "propagate" []) (.neg (.int 1))) [.expr (.ao (.var "decided") "append" [.var "lit"])] [.expr (.ao (.var "core") "cancel_until" [.bin .Sub (.ao (.var "core") "depth" []) (.int 1)])]] []],.asg (.names ["trail", "grounds"]) (.tup [.call (.glob "list") [.attr (.var "core") "trail"],.call (.glob "_law_grounds") [.var "core",.var "decided",.var "sure"]]),.ite (.cmp .NotEq (.call (.glob "sorted") [.var "trail"]) (.call (.glob "sorted") [.sub (.call (.glob "_law_closed") [.var "clauses",.var "decided"]) (.int 0)])) [.ret (.bool false)] [],.dF ["lit"] (.var "trail") [.ite (.fQ (.call (.glob "_law_told_right") [.var "core",.var "proof",.var "clauses",.var "n",.var "lit",.var "grounds",.var "sure",.var "decided"])) [.ret (.bool false)] [],.ite (.gn (.cmp .NotEq (.attr (.var "core") "trail") (.var "trail")) (.cmp .NotEq (.comp (.int 1) ["one"] (.attr (.var "core") "seen") (some (.var "one"))) (.list []))) [.ret (.bool false)] []],.ret (.bool true)]
noncomputable def xo:List (String×V):=[("place_of",.con (.ref 212)),("order_key",.con (.ref 219)),("clause_of",.con (.ref 226)),("is_always_true",.con (.ref 233)),("order_of",.con (.ref 571)),("tidy",.con (.ref 578)),("is_tidy",.con (.ref 585)),("resolve_on",.con (.ref 590)),("_law_dip",.con (.ref 722)),("_law_clause",.con (.ref 729)),("_law_closed",.con (.ref 734)),("_law_has_way",.con (.ref 739)),("_law_grounds",.con (.ref 744)),("_law_step_right",.con (.ref 749)),("_law_told_right",.con (.ref 756)),("law",.con (.ref 761)),("CoreHeap",.con (.ref 201)),("Search",.con (.ref 561)),("Proof",.con (.ref 713)),("FIRST_STEP",.int (1024)),("UNKNOWN",.int (0)),("TRUE",.int (1)),("FALSE",.int (-1)),("NO_CLAUSE",.int (-1)),("len",.con (.builtin "len")),("abs",.con (.builtin "abs")),("min",.con (.builtin "min")),("sorted",.con (.builtin "sorted")),("int",.con (.type "int")),("list",.con (.type "list")),("tuple",.con (.type "tuple")),("range",.con (.type "range"))]
noncomputable def rules:List String:=["input", "define", "ite_term", "three", "bits", "congruence", "farkas", "branch", "divide", "cut", "resolve"]
noncomputable def HC:List ((Addr×String)×Value):=[((201, "many"),.ref 100),((201, "is_held"),.ref 107),((201, "is_before"),.ref 114),((201, "grow"),.ref 121),((201, "put"),.ref 128),((201, "rise"),.ref 135),((201, "push"),.ref 156),((561, "new_var"),.ref 417),((561, "add_clause"),.ref 424),((561, "failed_assumptions"),.ref 438),((561, "failed_step"),.ref 445),((561, "log_chain"),.ref 452),((561, "root_pairs"),.ref 457),((561, "unit_step"),.ref 464),((561, "fail_at_root"),.ref 469),((561, "propagate"),.ref 476),((561, "find_failed"),.ref 551),((561, "mark_others"),.ref 558),((561, "grow"),.ref 254),((561, "value"),.ref 268),((561, "depth"),.ref 275),((561, "spot_of"),.ref 282),((561, "by_spots"),.ref 289),((561, "store"),.ref 296),((561, "watch"),.ref 303),((561, "height"),.ref 317),((561, "by_heights"),.ref 324),((561, "place"),.ref 338),((561, "enqueue"),.ref 345),((561, "new_level"),.ref 352),((561, "cancel_until"),.ref 359),((561, "propagate_clauses"),.ref 366),((561, "visit"),.ref 373),((561, "moved"),.ref 380),((713, "needed"),.ref 679),((713, "used_inputs"),.ref 698),((713, "size"),.ref 632),((713, "clause"),.ref 639),((713, "add"),.ref 653),((713, "chain"),.ref 658)]
noncomputable def attrL:List (Addr×String):=[(201, "limit"),(201, "step"),(201, "activity"),(201, "heap"),(201, "place"),(561, "hook"),(561, "assigns"),(561, "levels"),(561, "reasons"),(561, "spots"),(561, "phases"),(561, "watches"),(561, "heap"),(561, "trail"),(561, "starts"),(561, "head"),(561, "told"),(561, "clauses"),(561, "steps"),(561, "droppable"),(561, "activities"),(561, "learnt_count"),(561, "proof"),(561, "seen"),(561, "unit_steps"),(561, "rooted"),(561, "is_ok"),(561, "empty_step"),(561, "failed"),(561, "failed_at"),(561, "conflict_limit"),(561, "conflicts"),(561, "decisions"),(713, "steps"),(713, "named"),(713, "empty")]
noncomputable def tabs:bG where
 glob:=λx=>if x= "RULES" then some (.tup (rules.map V.str)) else xo.lookup x
 attr:=λC x=>attrL.contains (C,x)
 ao:=λC x=>HC.lookup (C,x)
noncomputable def HD(K:Frag)(p:String×V):Bool:=match p.2 with
 | .con v=>cond (jg v).isSome (nsIn K mainGlobals (Str.ofString p.1)==some (some v)&&keepIn K v) (nsIn K mainGlobals (Str.ofString p.1)==some none&&(bootBuiltins (Str.ofString p.1)==some v&&p.1 != "__name__"))
 | .int i=>((nsIn K mainGlobals (Str.ofString p.1)).bind id).bind AX==some i
 |_=>false
noncomputable def xp:Value->Option Str
 | .str s _=>some s
 |_=>none
theorem HE(h:xp v=some i): ∃t,v=.str i t:=by cases v<;>first|(exact Ns h;done)|(cases h;exact⟨_,rfl⟩)
noncomputable def A0:List Value->List String->Bool
 |[],xs=>xs.isEmpty
 |v::vs,xs=>match xs with
  |[]=>false
  |x::xs=>xp v==some (Str.ofString x)&&A0 vs xs
noncomputable def HF:Data->Option (List Value×Nat)
 | .seq xs n=>some (xs.toList,n)
 |_=>none
theorem YA(h:HF d=some p):d=.seq p.1.toArray p.2:=by cases d<;>first|(exact Ns h;done)|(cases h;rfl)
noncomputable def uV(K:Frag):Option (Addr×List Value×Nat):=((nsIn K mainGlobals (Str.ofString "RULES")).bind id).bind λv=>(jg v).bind λa=>(K.lookup a).bind λo=>
 cond (o.cls==.type "tuple" &&(o.dict.isNone&&o.slots.isEmpty)) ((HF o.data).map λp=>(a,p)) none
theorem HG{K:Frag}(h:uV K=some (a,vs,n)):nsIn K mainGlobals (Str.ofString "RULES")=some (some (.ref a))/\K.lookup a=some {cls:=.type "tuple",data:=.seq vs.toArray n}:=by
 refine ab (Option.bind_eq_some_iff.mp h) λv h1 h=>?_;refine ab (Option.bind_eq_some_iff.mp h1) λw h0 h1=>?_;refine ab (Option.bind_eq_some_iff.mp h) λb h2 h=>?_;refine ab (Option.bind_eq_some_iff.mp h) λo h3 h=>?_
 cases hc:(o.cls==.type "tuple" &&(o.dict.isNone&&o.slots.isEmpty)) with
 |false=>replace h:=hc▸h;exact Ns h
 |true=>
  replace h:=hc▸h;refine ab (Option.map_eq_some_iff.mp h) λp h4 h5=>?_;cases h5;haveI e1:w=some v:=h1;haveI e2:=tR h2;subst e1;subst e2;refine⟨h0,h3.trans (bP some ?_)⟩;obtain ⟨c,d,dt,sl⟩:=o;haveI q1:c=_:=eq_of_beq (aV hc);haveI q2:d=_:=Option.isNone_iff_eq_none.mp (aV (aY hc));haveI q3:sl=_:=Array.isEmpty_iff.mp (aY (aY hc));haveI q4:dt=_:=YA h4;exact rG q1 (rG q2 (rG q3 (rG q4 rfl)))
noncomputable def HH(K:Frag):Bool:=xo.all (HD K)&&attrL.all (λp=>E0 K p.1 p.2)&&HC.all (λp=>wN K p.1.1 p.1.2 p.2)&&
 (match uV K with
  |some (_,vs,_)=>A0 vs rules
  |none=>false)&&nsIn K mainGlobals (Str.ofString "sorted")==some none&&bootBuiltins (Str.ofString "sorted")==some (.builtin "sorted")&&nsIn K mainGlobals (Str.ofString "enumerate")==some none&&bootBuiltins (Str.ofString "enumerate")==some (.type "enumerate")
noncomputable def pi(K:Frag):List (Addr×Obj):=match uV K with
 |some (a,vs,n)=>[(a,{cls:=.type "tuple",data:=.seq vs.toArray n})]
 |none=>[]
theorem afZ{β:Type}{α:Type}[BEq α][LawfulBEq α]{x:α}{k:β}{l:List (α×β)}(h:l.lookup x=some k):(x,k)∈l:=rh h
theorem YB: ∀{xs:List String},A0 vs xs=true->aF h₀ W vs (xs.map V.str):=by
 induction vs with
 |nil=>intro xs h;cases List.isEmpty_iff.mp h;exact .nil
 |cons v vs ih=>
  intro xs h
  cases xs with
  |nil=>exact Ft h
  |cons x xs=>
   refine ag (HE (eq_of_beq (aV h))) λt o1=>?_;subst o1;exact .cons (.str x t) (ih (aY h))
theorem YC{K:Frag}{f:Value}(h:(jg f).isSome=true->keepIn K f=true):callable K f=true:=by
 cases f<;>first|rfl|exact h rfl
theorem YD{C:Cfg}(ok:C.Ok)(h:HD C.K (x,v)=true): ∃rv,(C.mg (Str.ofString x)=some rv∨(C.mg (Str.ofString x)=none/\C.mb (Str.ofString x)=some rv))/\ ∀W:Wl,VR C.h₀ W rv v:=by
 cases v with
 |con f=>
  cases hf:(jg f).isSome with
  |true=>
   haveI h:cond (jg f).isSome _ _=true:=h;replace h:=hf▸h;exact⟨_,.inl (mg_of ok.du ok.g (eq_of_beq (aV h))),λU=>.con _⟩
  |false=>
   haveI h:cond (jg f).isSome _ _=true:=h;haveI h:=hf▸h;refine⟨_,.inr ⟨mg_none_of ok.du ok.g (eq_of_beq (aV h)),(ok.bi _ λw=>?_).trans (eq_of_beq (aV (aY h)))⟩,λU=>.con _⟩;exact bne_iff_ne.mp (aY (aY h)) (lC w)
 |int i=>
  refine ab (Option.bind_eq_some_iff.mp (eq_of_beq h)) λw h1 h2=>?_;refine ab (Option.bind_eq_some_iff.mp h1) λu h0 h1=>?_;haveI e:u=some w:=h1;refine ag (Hx h2) λt q=>?_;subst e;subst q;exact⟨_,.inl (mg_of ok.du ok.g h0),λU=>.int _ _⟩
 |_=>exact Ft h
theorem tabs_ok{C:Cfg}(ok:C.Ok)(h:HH C.K=true)(hT:C.wD=pi C.K):bG.Ok C tabs:=by
 haveI h8:=eq_of_beq (aY h);haveI h:=aV h;haveI h7:=eq_of_beq (aY h);haveI h:=aV h;haveI h6:=eq_of_beq (aY h);haveI h:=aV h;haveI h5:=eq_of_beq (aY h);haveI h:=aV h;have h4:=aY h;haveI h:=aV h;haveI h3:=List.all_eq_true.mp (aY h);haveI h:=aV h;haveI h2:=List.all_eq_true.mp (aY h);haveI h1:=List.all_eq_true.mp (aV h);refine⟨λx v e=>?_,λx f e=>?_,⟨mg_none_of ok.du ok.g h5,(ok.bi _ (by decide)).trans h6⟩,⟨mg_none_of ok.du ok.g h7,(ok.bi _ (by decide)).trans h8⟩,λCl name e=>h2 (Cl,name) (List.contains_iff_mem.mp e),λCl name f e=>h3 ((Cl,name),f) (rh e)⟩
 .haveI e:(if x= "RULES" then some (V.tup (rules.map V.str)) else xo.lookup x)=some v:=e;by_cases z:x= "RULES"
  .replace e:=(az z)▸e;cases e;subst z
   cases hr:uV C.K with
   |none=>replace h4:=hr▸h4;exact Ft h4
   |some p=>
    haveI h4:=hr▸h4;obtain ⟨a,vs,n⟩:=p;refine⟨.ref a,.inl (mg_of ok.du ok.g (HG hr).1),λW hW=>.tup (n:=n) (hW _ ?_) (YB h4)⟩;refine rG hT ?_;unfold pi;refine rG hr ?_;exact .head _
  .haveI e:=(ax z)▸e;refine ab (YD ok (h1 _ (rh e))) λrv a b=>?_;exact⟨rv,a,λW U=>b W⟩
 .haveI e:(if x= "RULES" then some (V.tup (rules.map V.str)) else xo.lookup x)=some (.con f):=e;by_cases z:x= "RULES"
  .replace e:=(az z)▸e;cases e
  .haveI e:=(ax z)▸e;haveI:=h1 _ (rh e);haveI this:cond (jg f).isSome _ _=true:=this;exact YC λq=>by haveI this:=q▸this;exact aY this
noncomputable def kT(C:Cfg)(T:bG)(n:Nat)(ss:List S)(K:PS):PS:=λf m H=>match f with
 | .next=>bo C T n ss K m H
 |f=>K f m H
noncomputable def ev(T:bG)(m:MM):X->Option V
 | .none=>some .none
 | .bool b=>some (.bool b)
 | .int i=>some (.int i)
 | .str s=>some (.str s)
 | .var x=>m x
 | .glob x=>T.glob x
 |_=>Option.none
noncomputable def iH(T:bG)(m:MM):List X->Option (List V)
 |[]=>some []
 |x::xs=>match ev T m x with
  |some v=>(match iH T m xs with
   |some vs=>some (v::vs)
   |Option.none=>Option.none)
  |Option.none=>Option.none
section
variable(C:Cfg)(T:bG)(n:Nat)(m:MM)
noncomputable abbrev YE(K:PS)(_:V)(H:MH):Prop:=K .next m H
noncomputable abbrev kA(K:PS)(m:MM)(H:MH):Prop:=K .next m H
noncomputable abbrev YF(t:Tg)(K:PS)(v:V)(H:MH):Prop:=jm C T n m t v (kA K) H
noncomputable abbrev YG(K:PS)(v:V)(H:MH):Prop:=K (.ret v) m H
noncomputable abbrev YH(a b:List S)(K:PS)(c:Bool)(H:MH):Prop:=if c then bo C T n a K m H else bo C T n b K m H
noncomputable abbrev YI(nm:String)(v:V)(K:MH->Prop)(ov:V)(H:MH):Prop:=fC T ov nm v K H
noncomputable abbrev YJ(ov v:V)(K:MH->Prop)(iv:V)(H:MH):Prop:=d9 ov iv v K H
noncomputable abbrev YK(i:X)(v:V)(K:MH->Prop)(ov:V)(H:MH):Prop:=al C T n m i (YJ ov v K) H
noncomputable abbrev YL(w u:V)(K:MH->Prop)(ov:V)(H:MH):Prop:=d9 ov w u K H
noncomputable abbrev YM(op:Operator)(u:V)(Q:PV)(v:V)(H:MH):Prop:=kF op u v Q H
noncomputable abbrev YN(op:Operator)(b:X)(Q:PV)(u:V)(H:MH):Prop:=al C T n m b (YM op u Q) H
noncomputable abbrev YO(Q:PV)(u:V)(H:MH):Prop:= ∃i,u=.int i/\Q (.int (-i)) H
noncomputable abbrev YQ(Q:PV)(b:Bool)(H:MH):Prop:=Q (.bool (!b)) H
noncomputable abbrev ia(B:Bool->MH->Prop)(r:V)(H:MH):Prop:=fD r B H
noncomputable abbrev YR(b:X)(Q:PV)(u:V)(t:Bool)(H:MH):Prop:=if t then al C T n m b Q H else Q u H
noncomputable abbrev YS(b:X)(Q:PV)(u:V)(t:Bool)(H:MH):Prop:=if t then Q u H else al C T n m b Q H
noncomputable abbrev YT(b:X)(Q:PV)(u:V)(H:MH):Prop:=fD u (YR C T n m b Q u) H
noncomputable abbrev YU(b:X)(Q:PV)(u:V)(H:MH):Prop:=fD u (YS C T n m b Q u) H
noncomputable abbrev YV(op:CmpOp)(u:V)(Q:PV)(v:V)(H:MH):Prop:=de op u v Q H
noncomputable abbrev HI(op:CmpOp)(b:X)(Q:PV)(u:V)(H:MH):Prop:=al C T n m b (YV op u Q) H
noncomputable abbrev YW(a b:X)(Q:PV)(c:Bool)(H:MH):Prop:=if c then al C T n m a Q H else al C T n m b Q H
noncomputable abbrev YX(Q:PV)(vs:List V)(H:MH):Prop:=vs.length<aO/\cH (.list vs) Q H
noncomputable abbrev YY(Q:PV)(vs:List V)(H:MH):Prop:=vs.length<aO/\Q (.tup vs) H
noncomputable abbrev YZ(fv:V)(Q:PV)(vs:List V)(H:MH):Prop:=aM C n fv vs Q H
noncomputable abbrev HJ(xs:List X)(Q:PV)(fv:V)(H:MH):Prop:=(∃g,fv=.con g)/\eV C T n m xs [] (YZ C n fv Q) H
noncomputable abbrev Y0(xs:List X)(K:List V->MH->Prop)(H:MH):Prop:=eV C T n m xs [] K H
noncomputable abbrev HK(nm:String)(xs:List X)(Q:PV)(ov:V)(H:MH):Prop:=methP C T n ov nm (Y0 C T n m xs) Q H
noncomputable abbrev HL(nm:String)(Q:PV)(ov:V)(H:MH):Prop:=iz T ov nm Q H
noncomputable abbrev Y1(ov:V)(Q:PV)(iv:V)(H:MH):Prop:=f7 ov iv Q H
noncomputable abbrev HM(i:X)(Q:PV)(ov:V)(H:MH):Prop:=al C T n m i (Y1 ov Q) H
noncomputable abbrev HN(w:V)(Q:PV)(ov:V)(H:MH):Prop:=f7 ov w Q H
noncomputable abbrev Y2(ov:V)(Q:PV)(iv:V)(H:MH):Prop:=tW ov iv Q H
noncomputable abbrev Y3(i:X)(Q:PV)(ov:V)(H:MH):Prop:=al C T n m i (Y2 ov Q) H
noncomputable abbrev Y4(ov:V)(Q:PV)(iv:V)(H:MH):Prop:=tX ov iv Q H
noncomputable abbrev Y5(i:X)(Q:PV)(ov:V)(H:MH):Prop:=al C T n m i (Y4 ov Q) H
noncomputable abbrev Y6(B:Bool->MH->Prop)(b:Bool)(H:MH):Prop:=B (!b) H
noncomputable abbrev Y7(b:X)(B:Bool->MH->Prop)(t:Bool)(H:MH):Prop:=if t then bH C T n m b B H else B false H
noncomputable abbrev Y8(b:X)(B:Bool->MH->Prop)(t:Bool)(H:MH):Prop:=if t then B true H else bH C T n m b B H
noncomputable abbrev mK(vs:List V)(K:List V->MH->Prop)(H:MH):Prop:=K vs H
noncomputable abbrev A1(f:Value)(o:V)(Q:PV)(vs:List V)(H:MH):Prop:=aM C n (.con f) (o::vs) Q H
noncomputable abbrev Y9(t:List String)(body:List S)(x:V)(P:PS)(m₂:MM)(aA:MH):Prop:= ∃m',kG m₂ t x=some m'/\bo C T n body P m' aA
noncomputable abbrev Za(t:List String)(body:List S)(P:PS)(iv:V)(H:MH):Prop:= ∃xs,iA (fS iv xs) (Y9 C T n t body) xs P m H
noncomputable abbrev Zb(t:X)(m:MM)(P:Bool->MH->Prop)(H:MH):Prop:=bH C T n m t P H
noncomputable abbrev Zc(body:List S)(P:PS)(m:MM)(H:MH):Prop:=bo C T n body P m H
noncomputable abbrev Zd(Q:PV)(vs:List V)(H:MH):Prop:=cH (.list vs) Q H
noncomputable abbrev Ze(P:Option V->MH->Prop)(v:V)(H:MH):Prop:=P (some v) H
noncomputable abbrev Zf(e:X)(P:Option V->MH->Prop)(b:Bool)(H:MH):Prop:=if b then al C T n m e (Ze P) H else P Option.none H
noncomputable abbrev Zg(t:List String)(e:X)(c:Option X)(x:V)(P:Option V->MH->Prop)(H:MH):Prop:= ∃m',kG m t x=some m'/\rR C T n m' c (Zf C T n m' e P) H
noncomputable abbrev Zh(t:List String)(e:X)(c:Option X)(Q:PV)(iv:V)(H:MH):Prop:= ∃xs,xs.length<aO/\jl (fS iv xs) (Zg C T n m t e c) xs [] (Zd Q) H
noncomputable abbrev HO(r:Ref)(nm:String)(Q:PV)(vs:List V)(H:MH):Prop:=eO r nm vs Q H
end
section
variable{C:Cfg}{T:bG}{n:Nat}{m:MM}{H:MH}
theorem A2{K:PS}(k:wpS C T n s (kT C T n ss K) m H):bo C T n (s::ss) K m H:=by
 refine(?_:wpS C T n s _ m H);exact k
theorem ob{K:PS}(k:bo C T n ss K m H):kT C T n ss K .next m H:=k
theorem sB{K:PS}(k:K .next m H):kT C T n [] K .next m H:=k
theorem af0{ss:List S}{K:PS}(k:K .brk m H):kT C T n ss K .brk m H:=k
theorem af1{ss:List S}{K:PS}(k:K .cont m H):kT C T n ss K .cont m H:=k
theorem af2{ss:List S}{K:PS}(k:K (.ret v) m H):kT C T n ss K (.ret v) m H:=k
theorem pj{K:PS}(k:K .next m H):bo C T n [] K m H:=k
theorem af3{K:PS}(k:al C T n m e (YE m K) H):wpS C T n (.expr e) K m H:=k
theorem HP{K:PS}(k:al C T n m e (YF C T n m t K) H):wpS C T n (.asg t e) K m H:=k
theorem af4{K:PS}(k:al C T n m e (YG m K) H):wpS C T n (.ret e) K m H:=k
theorem af5{K:PS}(k:K (.ret .none) m H):wpS C T n .nJ K m H:=k
theorem af6{K:PS}(k:bH C T n m t (YH C T n m a b K) H):wpS C T n (.ite t a b) K m H:=k
theorem af7{K:PS}(k:K .brk m H):wpS C T n .brk K m H:=k
theorem af8{K:PS}(k:K .cont m H):wpS C T n .cont K m H:=k
theorem af9{K:PS}(k:K .next m H):wpS C T n .pass K m H:=k
theorem A3{K:MM->MH->Prop}(k:K (set m x v) H):jm C T n m (.name x) v K H:=k
theorem Zi{K:MM->MH->Prop}(k:al C T n m o (YI T nm v (K m)) H):jm C T n m (.attr o nm) v K H:=k
theorem HQ{K:MM->MH->Prop}(k:al C T n m o (YK C T n m i v (K m)) H):jm C T n m (.sub o i) v K H:=k
theorem Zj{K:MM->MH->Prop}(hl:vs.length=xs.length)(k:K ((xs.zip vs).foldl (λm p=>set m p.1 p.2) m) H):jm C T n m (.names xs) (.tup vs) K H:=⟨vs,rfl,hl,k⟩
theorem aga{K:MM->MH->Prop}(k:al C T n m gF (λov aj=>al C T n m wG (λiv aA=>d9 ov iv a (λbh=>al C T n m gG (λov cm=>al C T n m wH (λiv iZ=>d9 ov iv b (K m) iZ) cm) bh) aA) aj) H):jm C T n m (.subs gF wG gG wH) (.tup [a,b]) K H:=⟨a,b,rfl,k⟩
theorem agb{K:MM->MH->Prop}(k:al C T n m gF (λov aj=>fC T ov n₁ a (λbh=>al C T n m gG (λov cm=>fC T ov wI b (K m) cm) bh) aj) H):jm C T n m (.attrs gF n₁ gG wI) (.tup [a,b]) K H:=⟨a,b,rfl,k⟩
variable{Q:PV}{B:Bool->MH->Prop}
theorem agc(k:Q .none H):al C T n m .none Q H:=k
theorem agd(k:Q (.bool b) H):al C T n m (.bool b) Q H:=k
theorem age(k:Q (.int i) H):al C T n m (.int i) Q H:=k
theorem agf(k:Q (.str s) H):al C T n m (.str s) Q H:=k
theorem HR(h:m x=some v)(k:Q v H):al C T n m (.var x) Q H:=⟨v,h,k⟩
theorem HS(h:T.glob x=some v)(k:Q v H):al C T n m (.glob x) Q H:=⟨v,h,k⟩
theorem Zk(k:al C T n m a (YN C T n m op b Q) H):al C T n m (.bin op a b) Q H:=k
theorem agg(k:al C T n m a (YO Q) H):al C T n m (.neg a) Q H:=k
theorem agh{P:Int->Prop}(k:P i): ∃j,V.int i=.int j/\P j:=⟨i,rfl,k⟩
theorem agi(k:al C T n m a (ia (YQ Q)) H):al C T n m (.fQ a) Q H:=k
theorem agj(k:al C T n m a (YT C T n m b Q) H):al C T n m (.eE a b) Q H:=k
theorem agk(k:al C T n m a (YU C T n m b Q) H):al C T n m (.gn a b) Q H:=k
theorem agl(k:al C T n m a (HI C T n m op b Q) H):al C T n m (.cmp op a b) Q H:=k
theorem agm(k:al C T n m a (λu aj=>al C T n m b (λv aA=>de gF u v (λr bh=>fD r (λt cm=>if t then al C T n m c (λw iZ=>de gG v w Q iZ) cm else Q r cm) bh) aA) aj) H):al C T n m (.kD gF gG a b c) Q H:=k
theorem agn(k:bH C T n m t (YW C T n m a b Q) H):al C T n m (.jh t a b) Q H:=k
theorem Zl(k:eV C T n m xs [] (YX Q) H):al C T n m (.list xs) Q H:=k
theorem Zm(k:eV C T n m xs [] (YY Q) H):al C T n m (.tup xs) Q H:=k
theorem ago(k:cH (.dict []) Q H):al C T n m .lA Q H:=k
theorem Zn(k:al C T n m f (HJ C T n m xs Q) H):al C T n m (.call f xs) Q H:=k
theorem HT(k:P):(∃g',V.con g=.con g')/\P:=⟨⟨g,rfl⟩,k⟩
theorem agp(k:al C T n m a (λav aj=>al C T n m kx (λkv aA=>lB C n "sorted" av kv (if rev then some true else Option.none) Q aA) aj) H):al C T n m (.ji a kx rev) Q H:=k
theorem Zo(k:al C T n m o (HK C T n m nm xs Q) H):al C T n m (.ao o nm xs) Q H:=k
theorem agq(k:al C T n m o (λov aj=>(∃r xs,ov=.ref r/\aj r=some (.list xs))/\al C T n m kx (λkv aA=>lB C n "list.sort" ov kv (some true) Q aA) aj) H):al C T n m (.nI o kx) Q H:=k
theorem Zp(k:al C T n m o (HL T nm Q) H):al C T n m (.attr o nm) Q H:=k
theorem HU(k:al C T n m o (HM C T n m i Q) H):al C T n m (.sub o i) Q H:=k
theorem agr(k:al C T n m o (Y3 C T n m i Q) H):al C T n m (.jS o i) Q H:=k
theorem ags(k:al C T n m o (Y5 C T n m i Q) H):al C T n m (.kE o i) Q H:=k
theorem Zq{K:List V->MH->Prop}(k:K acc H):eV C T n m [] acc K H:=k
theorem HV{K:List V->MH->Prop}(k:al C T n m x (λv aj=>eV C T n m xs (acc++[v]) K aj) H):eV C T n m (x::xs) acc K H:=k
theorem agt(k:bH C T n m a (Y6 B) H):bH C T n m (.fQ a) B H:=k
theorem agu(k:bH C T n m a (Y7 C T n m b B) H):bH C T n m (.eE a b) B H:=k
theorem agv(k:bH C T n m a (Y8 C T n m b B) H):bH C T n m (.gn a b) B H:=k
theorem Zr(k:al C T n m a (HI C T n m op b (ia B)) H):bH C T n m (.cmp op a b) B H:=k
theorem agw(k:al C T n m a (λu aj=>al C T n m b (λv aA=>de gF u v (λr bh=>fD r (λt cm=>if t then al C T n m c (λw iZ=>de gG v w (λr wK=>fD r B wK) iZ) cm else B false cm) bh) aA) aj) H):bH C T n m (.kD gF gG a b c) B H:=k
theorem HW(h:m x=some (.bool b))(k:B b H):bH C T n m (.var x) B H:=⟨_,h,k⟩
theorem Zs(k:al C T n m f (HJ C T n m xs (ia B)) H):bH C T n m (.call f xs) B H:=k
theorem Zt(k:al C T n m o (HK C T n m nm xs (ia B)) H):bH C T n m (.ao o nm xs) B H:=k
theorem agx(k:al C T n m o (HL T nm (ia B)) H):bH C T n m (.attr o nm) B H:=k
theorem Zu(k:al C T n m o (HM C T n m i (ia B)) H):bH C T n m (.sub o i) B H:=k
theorem agy(k:B b H):bH C T n m (.bool b) B H:=k
theorem agz(k:B b H):fD (.bool b) B H:=k
theorem iI(h:ev T m x=some v)(k:Q v H):al C T n m x Q H:=by
 cases x<;>first|exact⟨v,h,k⟩|(exact Ns h;done)|(cases h;exact k)
theorem sC: ∀{vs acc:List V} {K:List V->MH->Prop},iH T m xs=some vs->K (acc++vs) H->eV C T n m xs acc K H:=by
 induction xs with
 |nil=>intro vs acc K h k;cases h;haveI k:=(f5 _)▸k;exact k
 |cons x xs ih=>
  intro vs acc K h k;unfold iH at h
  cases h1:ev T m x with
  |none=>replace h:=h1▸h;exact Ns h
  |some v=>
   replace h:=h1▸h
   cases h2:iH T m xs with
   |none=>replace h:=h2▸h;exact Ns h
   |some ws=>
    replace h:=h2▸h;cases h;exact HV (iI h1 (ih h2 (by refine rG (iu _ _ _) ?_;exact k)))
theorem A4(h:iz T v nm Q H)(k: ∀u,Q u H->Q' u H):iz T v nm Q' H:=by
 refine Df h λr Cl d j fs a b c h=>?_;exact⟨r,Cl,d,j,fs,a,b,c,h.elim (λZv=>l8 Zv λv e1 e2 e3 q=>.inl ⟨v,e1,e2,e3,k _ q⟩) λZw=>bX Zw λf e1 e2 q=>.inr ⟨f,e1,e2,k _ q⟩⟩
theorem HX{a b:(List V->MH->Prop)->MH->Prop}(h:methP C T n v nm a Q H)(k: ∀K H,a K H->b K H):methP C T n v nm b Q H:=by
 refine ab h λr e h=>?_;exact⟨r,e,h.elim (λZx=>wu Zx λCl d j fs f e1 e2 e3 e4 q=>.inl ⟨Cl,d,j,fs,f,e1,e2,e3,e4,k _ _ q⟩) λZy=>b9 Zy λa b q=>.inr ⟨a,b,k _ _ q⟩⟩
theorem A5(h:ev T m o=some v)(k:iz T v nm Q H):al C T n m (.attr o nm) Q H:=Zp (iI h k)
theorem agA(h:ev T m o=some v)(h':ev T m i=some w)(k:iz T v nm (HN w Q) H):al C T n m (.sub (.attr o nm) i) Q H:=HU (A5 h (A4 k λU q=>iI h' q))
theorem agB(h:ev T m o=some v)(h':ev T m i=some w)(k:f7 v w Q H):al C T n m (.sub o i) Q H:=HU (iI h (iI h' k))
theorem agC(h:ev T m a=some v)(h':ev T m b=some w)(k:kF op v w Q H):al C T n m (.bin op a b) Q H:=Zk (iI h (iI h' k))
theorem agD(h:ev T m a=some v)(h':ev T m b=some w)(k:de op v w (ia B) H):bH C T n m (.cmp op a b) B H:=Zr (iI h (iI h' k))
theorem A6(h:T.glob x=some (.con g))(h':iH T m xs=some vs)(k:aM C n (.con g) vs Q H):al C T n m (.call (.glob x) xs) Q H:=Zn (HS h (HT (sC h' k)))
theorem xq(h:ev T m o=some v)(h':iH T m xs=some vs)(k:methP C T n v nm (mK vs) Q H):al C T n m (.ao o nm xs) Q H:=Zo (iI h (HX k λU U q=>sC h' q))
theorem agE(h:iH T m xs=some vs)(hl:Nat.blt vs.length 1000000=true)(k:cH (.list vs) Q H):al C T n m (.list xs) Q H:=Zl (sC h ⟨Nat.blt_eq.mp hl,k⟩)
theorem agF(h:iH T m xs=some vs)(hl:Nat.blt vs.length 1000000=true)(k:Q (.tup vs) H):al C T n m (.tup xs) Q H:=Zm (sC h ⟨Nat.blt_eq.mp hl,k⟩)
theorem agG{K:MM->MH->Prop}(h:ev T m o=some v)(h':ev T m i=some w)(k:iz T v nm (YL w u (K m)) H):jm C T n m (.sub (.attr o nm) i) u K H:=HQ (A5 h (A4 k λU q=>iI h' q))
theorem agH{K:MM->MH->Prop}(h:ev T m o=some v)(h':ev T m i=some w)(k:d9 v w u (K m) H):jm C T n m (.sub o i) u K H:=HQ (iI h (iI h' k))
theorem agI{K:MM->MH->Prop}(h:ev T m o=some v)(k:fC T v nm u (K m) H):jm C T n m (.attr o nm) u K H:=Zi (iI h k)
theorem xu(h:ev T m o=some v)(h':iH T m xs=some vs)(k:methP C T n v nm (mK vs) (ia B) H):bH C T n m (.ao o nm xs) B H:=Zt (iI h (HX k λU U q=>sC h' q))
theorem A7(h:T.glob x=some (.con g))(h':iH T m xs=some vs)(k:aM C n (.con g) vs (ia B) H):bH C T n m (.call (.glob x) xs) B H:=Zs (HS h (HT (sC h' k)))
theorem agJ(h:ev T m o=some v)(h':ev T m i=some w)(k:iz T v nm (HN w (ia B)) H):bH C T n m (.sub (.attr o nm) i) B H:=Zu (A5 h (A4 k λU q=>iI h' q))
theorem uW(h:ev T m a=some v):iH T m [a]=some [v]:=by unfold iH;refine rG h ?_;rfl
theorem uX(h:ev T m a=some v)(h':ev T m b=some w):iH T m [a,b]=some [v,w]:=by unfold iH;exact rG h (rG (uW h') rfl)
theorem xv(h:ev T m a=some v)(h':ev T m b=some w)(mF:ev T m c=some u):iH T m [a,b,c]=some [v,w,u]:=by unfold iH;exact rG h (rG (uX h' mF) rfl)
theorem agK(h:T.glob x=some (.con g))(h1:ev T m a=some v)(k:aM C n (.con g) [v] Q H):al C T n m (.call (.glob x) [a]) Q H:=A6 h (uW h1) k
theorem agL(h:T.glob x=some (.con g))(h1:ev T m a=some v)(h2:ev T m b=some w)(k:aM C n (.con g) [v,w] Q H):al C T n m (.call (.glob x) [a,b]) Q H:=A6 h (uX h1 h2) k
theorem agM(h:T.glob x=some (.con g))(h1:ev T m a=some v)(h2:ev T m b=some w)(h3:ev T m c=some u)(k:aM C n (.con g) [v,w,u] Q H):al C T n m (.call (.glob x) [a,b,c]) Q H:=A6 h (xv h1 h2 h3) k
theorem agN(h:T.glob x=some (.con g))(h1:ev T m a=some v)(k:aM C n (.con g) [v] (ia B) H):bH C T n m (.call (.glob x) [a]) B H:=A7 h (uW h1) k
theorem agO(h:T.glob x=some (.con g))(h1:ev T m a=some v)(h2:ev T m b=some w)(k:aM C n (.con g) [v,w] (ia B) H):bH C T n m (.call (.glob x) [a,b]) B H:=A7 h (uX h1 h2) k
theorem agP(h:T.glob x=some (.con g))(h1:ev T m a=some v)(h2:ev T m b=some w)(h3:ev T m c=some u)(k:aM C n (.con g) [v,w,u] (ia B) H):bH C T n m (.call (.glob x) [a,b,c]) B H:=A7 h (xv h1 h2 h3) k
theorem agQ(h:ev T m o=some z)(k:methP C T n z nm (mK []) Q H):al C T n m (.ao o nm []) Q H:=xq h rfl k
theorem agR(h:ev T m o=some z)(h1:ev T m a=some v)(k:methP C T n z nm (mK [v]) Q H):al C T n m (.ao o nm [a]) Q H:=xq h (uW h1) k
theorem agS(h:ev T m o=some z)(h1:ev T m a=some v)(h2:ev T m b=some w)(k:methP C T n z nm (mK [v,w]) Q H):al C T n m (.ao o nm [a,b]) Q H:=xq h (uX h1 h2) k
theorem agT(h:ev T m o=some z)(h1:ev T m a=some v)(h2:ev T m b=some w)(h3:ev T m c=some u)(k:methP C T n z nm (mK [v,w,u]) Q H):al C T n m (.ao o nm [a,b,c]) Q H:=xq h (xv h1 h2 h3) k
theorem agU(h:ev T m o=some z)(k:methP C T n z nm (mK []) (ia B) H):bH C T n m (.ao o nm []) B H:=xu h rfl k
theorem agV(h:ev T m o=some z)(h1:ev T m a=some v)(k:methP C T n z nm (mK [v]) (ia B) H):bH C T n m (.ao o nm [a]) B H:=xu h (uW h1) k
theorem agW(h:ev T m o=some z)(h1:ev T m a=some v)(h2:ev T m b=some w)(k:methP C T n z nm (mK [v,w]) (ia B) H):bH C T n m (.ao o nm [a,b]) B H:=xu h (uX h1 h2) k
theorem agX(h:ev T m o=some z)(h1:ev T m a=some v)(h2:ev T m b=some w)(h3:ev T m c=some u)(k:methP C T n z nm (mK [v,w,u]) (ia B) H):bH C T n m (.ao o nm [a,b,c]) B H:=xu h (xv h1 h2 h3) k
theorem agY(k:Q (.int (a+b)) H):kF .Add (.int a) (.int b) Q H:=.EH k
theorem agZ(k:Q (.int (a-b)) H):kF .Sub (.int a) (.int b) Q H:=.EI k
theorem mM(h:a.natAbs<2^60/\b.natAbs<2^60)(k:Q (.int (a*b)) H):kF .Mult (.int a) (.int b) Q H:=.EJ h k
theorem A8(h:b≠0/\b.natAbs<1000000)(k:Q (.int (a.fdiv b)) H):kF .FloorDiv (.int a) (.int b) Q H:=.EK h k
theorem uY(h:b≠0)(k:Q (.int (a.fmod b)) H):kF .Mod (.int a) (.int b) Q H:=.EL h k
theorem HY(h:0<=b/\b<1000)(k:Q (.int (2^b.toNat)) H):kF .Pow (.int 2) (.int b) Q H:=.EM h k
theorem Zz(h:xs.length+ys.length<aO)(k:Q (.tup (xs++ys)) H):kF .Add (.tup xs) (.tup ys) Q H:=.EN h k
theorem ag0(k:Q (.bool (decide (a<b))) H):de .Lt (.int a) (.int b) Q H:=.lt k
theorem ag1(k:Q (.bool (decide (a<=b))) H):de .LtE (.int a) (.int b) Q H:=.le k
theorem ag2(k:Q (.bool (decide (b<a))) H):de .Gt (.int a) (.int b) Q H:=.gt k
theorem ag3(k:Q (.bool (decide (b<=a))) H):de .GtE (.int a) (.int b) Q H:=.ge k
theorem ag4(k:Q (.bool (decide (a=b))) H):de .Eq (.int a) (.int b) Q H:=.eq k
theorem ag5(k:Q (.bool (!decide (a=b))) H):de .NotEq (.int a) (.int b) Q H:=.ne k
theorem ag6(h:tU v=some b)(k:Q (.bool b) H):de .Is v .none Q H:=.is h k
theorem ag7(h:tU v=some b)(k:Q (.bool (!b)) H):de .IsNot v .none Q H:=.EV h k
theorem ZA{as bs:List Int}(k:Q (.bool (decide (as=bs))) H):de .Eq (.tup (as.map V.int)) (.tup (bs.map V.int)) Q H:=.EP k
theorem A9{as bs:List Int}(k:Q (.bool (!decide (as=bs))) H):de .NotEq (.tup (as.map V.int)) (.tup (bs.map V.int)) Q H:=.EQ k
theorem mN(e:H r=some (.list xs))(hz:xs.length<aO)(h0:0<=i)(hv:xs[i.toNat]?=some v)(k:Q v H):f7 (.ref r) (.int i) Q H:=.li e hz h0 hv k
theorem ZB(e:H r=some (.list xs))(hz:xs.length<aO)(hv:xs.getLast?=some v)(k:Q v H):f7 (.ref r) (.int (-1)) Q H:=.la e hz hv k
theorem jX(hz:xs.length<aO)(h0:0<=i)(hv:xs[i.toNat]?=some v)(k:Q v H):f7 (.tup xs) (.int i) Q H:=.tu hz h0 hv k
theorem xw(e:H r=some (.dict es))(hv:(es.find? λp=>decide (p.1=i))=some (i,v))(k:Q v H):f7 (.ref r) (.int i) Q H:=.di e hv k
theorem set_list{i:Int}{K:MH->Prop}(e:H r=some (.list xs))(hz:xs.length<aO)(h0:0<=i)(h1:i<xs.length)(k:K (upd H r (.list (xs.set i.toNat v)))):d9 (.ref r) (.int i) v K H:=.li e hz h0 h1 k
theorem set_dict{K:MH->Prop}(e:H r=some (.dict es))(hz:es.length<aO)(k:K (upd H r (.dict (putD es i v)))):d9 (.ref r) (.int i) v K H:=.di e hz k
theorem dh{args:(List V->MH->Prop)->MH->Prop}(e:H r=some (.list xs))(k:args (HO r "append" Q) H):methP C T n (.ref r) "append" args Q H:=⟨r,rfl,.inr ⟨.inl rfl,⟨xs,e⟩,k⟩⟩
theorem xx{args:(List V->MH->Prop)->MH->Prop}(e:H r=some (.list xs))(k:args (HO r "extend" Q) H):methP C T n (.ref r) "extend" args Q H:=⟨r,rfl,.inr ⟨.inr rfl,⟨xs,e⟩,k⟩⟩
theorem jA(e:H r=some (.list xs))(hz:xs.length<aO)(k:Q .none (upd H r (.list (xs++[v])))):eO r "append" [v] Q H:=.inl ⟨xs,v,e,rfl,rfl,hz,k⟩
theorem xy(e:H r=some (.list xs))(bt:r≠r')(e':H r'=some (.list ys))(hz:xs.length+ys.length<aO)(k:Q .none (upd H r (.list (xs++ys)))):eO r "extend" [.ref r'] Q H:=.inr ⟨xs,r',ys,e,rfl,rfl,bt,e',hz,k⟩
theorem alloc(t:Nat)(k: ∀r:Ref,H r=none->r.t=t->Q (.ref r) (upd H r o)):cH o Q H:=.inr ⟨t,k⟩
theorem sD{ok:MH->Prop}{body:V->PS->MM->MH->Prop}{Q:PS}(I:Nat->MM->MH->Prop)
  (hV: ∀i m H,I i m H->ok H)
  (step: ∀i x m H (K:PS),xs[i]?=some x->I i m H->(∀m' H',I (i+1) m' H'->K .next m' H')->(∀m' H',I (i+1) m' H'->K .cont m' H')->(∀m' H',Q .next m' H'->K .brk m' H')->(∀v m' H',Q (.ret v) m' H'->K (.ret v) m' H')->body x K m H)
  (fin: ∀m H,I xs.length m H->Q .next m H) (m:MM) (H:MH) (h:I 0 m H):iA ok body xs Q m H:=by
 haveI main: ∀(ys:List V) (j:Nat),(∀i,ys[i]?=xs[j+i]?)->j+ys.length=xs.length-> ∀m H,I j m H->iA ok body ys Q m H:=by
  intro ys
  induction ys with
  |nil=>intro j U hl m H h;exact⟨hV _ _ _ h,fin m H (by refine rB hl ?_;exact h)⟩
  |cons y ys ih=>
   intro j hj hl m H h;refine⟨hV _ _ _ h,?_⟩;haveI h0:xs[j]?=some y:=by haveI:=hj 0;simpa using this.symm
   haveI next: ∀m' H',I (j+1) m' H'->iA ok body ys Q m' H':=ih (j+1) (λi=>by haveI:=hj (i+1);simp only[rD] at this;refine rG this ?_;congr 1;exact DD) (by simp only[fh] at hl;exact DC hl)
   exact step j y m H _ h0 h next next (λU U q=>q) (λU U U q=>q)
 exact main xs 0 (λi=>by exact rG (Nat.zero_add _) rfl) (Nat.zero_add _) m H h
theorem uZ{test:MM->(Bool->MH->Prop)->MH->Prop}{body:PS->MM->MH->Prop}{Q:PS}(I:Nat->MM->MH->Prop)
  (step: ∀k m H (P:Bool->MH->Prop),I k m H->(∀H',0<k->(∀(K:PS),(∀m' bc j,j<k->I j m' bc->K .next m' bc)->(∀m' bc j,j<k->I j m' bc->K .cont m' bc)->(∀m' bc,Q .next m' bc->K .brk m' bc)->(∀v m' bc,Q (.ret v) m' bc->K (.ret v) m' bc)->body K m H')->P true H')->
   (∀H',Q .next m H'->P false H')->test m P H)
  (m:MM) (H:MH) (h:I k m H): ∃k,oP test body k Q m H:=by
 refine⟨k+1,?_⟩;haveI main: ∀(k K:Nat),k<K-> ∀m H,I k m H->oP test body K Q m H:=by
  intro k
  induction k using Nat.strongRecOn with
  |_ k ih=>
   intro K hK m H h;refine ag (⟨K-1,by exact Lr hK⟩: ∃K',K=K'+1) λK lF=>?_;subst lF;refine step k m H _ h (λH' hk hb=>?_) (λH' q=>q);haveI next: ∀m' bc j,j<k->I j m' bc->oP test body K Q m' bc:=λm' bc j hj h'=>ih j hj K (by exact Lq hK hj) m' bc h'
   exact hb _ next next (λU U q=>q) (λU U U q=>q)
 exact main k (k+1) (Nat.lt_succ_self _) m H h
theorem Ba{ok:MH->Prop}{step:V->(Option V->MH->Prop)->MH->Prop}{K:List V->MH->Prop}(I:Nat->List V->MH->Prop)
  (hV: ∀i acc H,I i acc H->ok H)
  (nT: ∀i x acc H (P:Option V->MH->Prop),xs[i]?=some x->I i acc H->(∀v H',I (i+1) (acc++[v]) H'->P (some v) H')->(∀H',I (i+1) acc H'->P none H')->step x P H)
  (fin: ∀acc H,I xs.length acc H->K acc H) (H:MH) (h:I 0 [] H):jl ok step xs [] K H:=by
 haveI main: ∀(ys:List V) (j:Nat),(∀i,ys[i]?=xs[j+i]?)->j+ys.length=xs.length-> ∀acc H,I j acc H->jl ok step ys acc K H:=by
  intro ys
  induction ys with
  |nil=>intro j U hl acc H h;exact⟨hV _ _ _ h,fin acc H (by refine rB hl ?_;exact h)⟩
  |cons y ys ih=>
   intro j hj hl acc H h;refine⟨hV _ _ _ h,?_⟩;haveI h0:xs[j]?=some y:=by haveI:=hj 0;simpa using this.symm
   have next:=ih (j+1) (λi=>by haveI:=hj (i+1);simp only[rD] at this;refine rG this ?_;congr 1;exact DD) (by simp only[fh] at hl;exact DC hl)
   exact nT j y acc H _ h0 h (λv H' q=>next _ H' q) (λH' q=>next _ H' q)
 exact main xs 0 (λi=>by exact rG (Nat.zero_add _) rfl) (Nat.zero_add _) [] H h
theorem HZ{ok:MH->Prop}{step:V->(Option V->MH->Prop)->MH->Prop}{K:List V->MH->Prop}(g:V->Option V): ∀{xs acc:List V},ok H->(∀x,x∈xs-> ∀(P:Option V->MH->Prop),P (g x) H->step x P H)->K (acc++xs.filterMap g) H->jl ok step xs acc K H
 |[],acc,o,_,k=>⟨o,by simpa using k⟩
 |x::xs,acc,o,st,k=>by
  refine⟨o,st x (.head _) _ ?_⟩
  cases e:g x with
  |none=>exact HZ g o (λy hy=>st y (.tail _ hy)) (by replace k:=(tP e)▸k;exact k)
  |some v=>exact HZ g o (λy hy=>st y (.tail _ hy)) (by replace k:=(rC e)▸k;simpa using k)
end
set_option genInjectivity false in
structure cS where
 rule:String
 cl:List Int
 eI:List Int
 note:V
noncomputable def cS.v(p:cS):V:=.tup [.str p.rule,.tup (p.cl.map V.int),.tup (p.eI.map V.int),p.note]
set_option genInjectivity false in
structure qD where
 steps:List cS
 empty:Int
set_option genInjectivity false in
structure St where
 asg:List Int
 lvl:List Int
 aB:List Int
 bk:List Int
 bB:List Int
 aq:List (List Int)
 bY:List Int
 bW:List Int
 bR:List Int
 aa:List Int
 ah:List Int
 head:Int
 told:Int
 cls:List (List Int)
 aW:List Int
 bS:List Bool
 act:List Int
 seen:List Bool
 aQ:List (Option Int)
 cq:Int
 gP:Bool
 emp:Option Int
 failed:List Int
 dK:Option Int
 af:qD
noncomputable abbrev St.i4(s:St)(x:List Int):St:={s with asg:=x}
noncomputable abbrev St.mO(s:St)(x:List Int):St:={s with lvl:=x}
noncomputable abbrev St.jY(s:St)(x:List Int):St:={s with aB:=x}
noncomputable abbrev St.pk(s:St)(x:List Int):St:={s with bk:=x}
noncomputable abbrev St.mP(s:St)(x:List Int):St:={s with bB:=x}
noncomputable abbrev St.jB(s:St)(x:List (List Int)):St:={s with aq:=x}
noncomputable abbrev St.xz(s:St)(x:List Int):St:={s with bY:=x}
noncomputable abbrev St.sE(s:St)(x:List Int):St:={s with bW:=x}
noncomputable abbrev St.sF(s:St)(x:List Int):St:={s with bR:=x}
noncomputable abbrev St.qE(s:St)(x:List Int):St:={s with aa:=x}
noncomputable abbrev St.pq(s:St)(x:List Int):St:={s with ah:=x}
noncomputable abbrev St.w_head(s:St)(x:Int):St:={s with head:=x}
noncomputable abbrev St.va(s:St)(x:Int):St:={s with told:=x}
noncomputable abbrev St.iJ(s:St)(x:List (List Int)):St:={s with cls:=x}
noncomputable abbrev St.Bb(s:St)(x:List Int):St:={s with aW:=x}
noncomputable abbrev St.Bc(s:St)(x:List Bool):St:={s with bS:=x}
noncomputable abbrev St.Bd(s:St)(x:List Int):St:={s with act:=x}
noncomputable abbrev St.dU(s:St)(x:List Bool):St:={s with seen:=x}
noncomputable abbrev St.gr(s:St)(x:List (Option Int)):St:={s with aQ:=x}
noncomputable abbrev St.mQ(s:St)(x:Int):St:={s with cq:=x}
noncomputable abbrev St.Ia(s:St)(x:Bool):St:={s with gP:=x}
noncomputable abbrev St.Ib(s:St)(x:Option Int):St:={s with emp:=x}
noncomputable abbrev St.f9(s:St)(x:List Int):St:={s with failed:=x}
noncomputable abbrev St.ga(s:St)(x:Option Int):St:={s with dK:=x}
noncomputable abbrev St.i5(s:St)(x:qD):St:={s with af:=x}
set_option genCtorIdx true in
inductive Sl where
 |cI|gQ|heap|dy|bY|bW|bR|asg|lvl|aB|bk|bB|aq|aa|ah|cls|aW|bS|act|seen|aQ|jZ|named
 |w (i:Nat)|c (i:Nat)
noncomputable def cJ:Sl->Nat
 | .cI=>102| .gQ=>103| .heap=>104| .dy=>105| .bY=>106| .bW=>107| .bR=>108| .asg=>109| .lvl=>110| .aB=>111| .bk=>112| .bB=>113
 | .aq=>114| .aa=>115| .ah=>116| .cls=>117| .aW=>118| .bS=>119| .act=>120| .seen=>121| .aQ=>122| .jZ=>123| .named=>124
 | .w i=>200+2*i| .c i=>201+2*i
noncomputable def Be(n:Nat):Sl:=cond (n.blt 200) (([.cI,.gQ,.heap,.dy,.bY,.bW,.bR,.asg,.lvl,.aB,.bk,.bB,.aq,.aa,.ah,.cls,.aW,.bS,.act,.seen,.aQ,.jZ,.named]:List Sl).getD (n-102) .cI) (cond ((n%2).beq 0) (.w ((n-200) / 2)) (.c ((n-201) / 2)))
theorem Ic(a:Sl):Be (cJ a)=a:=by
 cases a with
 |w i=>
  unfold Be cJ;refine rG (by cases e:Nat.blt (200+2*i) 200;rfl;exact absurd (Nat.blt_eq.mp e) (by exact LM):Nat.blt (200+2*i) 200=false) (rG (by exact LL:(200+2*i)%2=0) (rG (by exact LJ:(200+2*i-200) / 2=i) ?_));rfl
 |c i=>
  unfold Be cJ;refine rG (by cases e:Nat.blt (201+2*i) 200;rfl;exact absurd (Nat.blt_eq.mp e) (by exact LH):Nat.blt (201+2*i) 200=false) (rG (by exact LG:(201+2*i)%2=1) (rG (by exact LD:(201+2*i-201) / 2=i) ?_));rfl
 |_=>rfl
theorem mR(h:cJ a=cJ b):a=b:=by exact rB (Ic a) (rG h (rG (Ic _) rfl))
noncomputable def dS(a b:Sl):Decidable (a=b):=if h:a.ctorIdx=b.ctorIdx then decidable_of_iff _ ⟨@mR a b,bP cJ⟩ else isFalse λe=>h (bP _ e)
theorem fH{a b:Sl}(h:(a.ctorIdx).beq b.ctorIdx=false):a≠b:=λe=>Nat.ne_of_beq_eq_false h (bP _ e)
theorem qF(a:Sl):102<=cJ a:=by
 cases a with
 |w i=>exact eM (by decide) (Nat.le_add_right 200 _)
 |c i=>exact eM (by decide) (Nat.le_add_right 201 _)
 |_=>exact dO rfl
noncomputable def mS:Option Int->V
 |none=>.none
 |some i=>.int i
abbrev iL(l:List Int):dr:=.list (l.map V.int)
abbrev bL(l:List Bool):dr:=.list (l.map V.bool)
noncomputable def objOf(lay:Sl->Ref)(st:St):Sl->Option dr
 | .cI=>none| .gQ=>none| .heap=>none| .dy=>none
 | .bY=>some (iL st.bY)| .bW=>some (iL st.bW)| .bR=>some (iL st.bR)
 | .asg=>some (iL st.asg)| .lvl=>some (iL st.lvl)| .aB=>some (iL st.aB)| .bk=>some (iL st.bk)| .bB=>some (iL st.bB)
 | .aq=>some (.list ((List.range st.aq.length).map λi=>V.ref (lay (.w i))))
 | .aa=>some (iL st.aa)| .ah=>some (iL st.ah)
 | .cls=>some (.list ((List.range st.cls.length).map λi=>V.ref (lay (.c i))))
 | .aW=>some (iL st.aW)| .bS=>some (bL st.bS)| .act=>some (iL st.act)| .seen=>some (bL st.seen)
 | .aQ=>some (.list (st.aQ.map mS))
 | .jZ=>some (.list (st.af.steps.map cS.v))
 | .named=>some (iL [0])
 | .w i=>(st.aq[i]?).map iL
 | .c i=>(st.cls[i]?).map iL
noncomputable def iK(pr:Ref)(lay:Sl->Ref)(st:St):List (String×V):=[("hook",.none),("assigns",.ref (lay .asg)),("levels",.ref (lay .lvl)),("reasons",.ref (lay .aB)),("spots",.ref (lay .bk)),("phases",.ref (lay .bB)),("watches",.ref (lay .aq)),("heap",.ref (lay .heap)),("trail",.ref (lay .aa)),("starts",.ref (lay .ah)),("head",.int st.head),("told",.int st.told),("clauses",.ref (lay .cls)),("steps",.ref (lay .aW)),("droppable",.ref (lay .bS)),("activities",.ref (lay .act)),("learnt_count",.int 0),("proof",.ref pr),("seen",.ref (lay .seen)),("unit_steps",.ref (lay .aQ)),("rooted",.int st.cq),("is_ok",.bool st.gP),("empty_step",mS st.emp),("failed",.tup (st.failed.map V.int)),("failed_at",mS st.dK),("conflict_limit",.int 0),("conflicts",.int 0),("decisions",.int 0)]
noncomputable def sG(lay:Sl->Ref):List (String×V):=[("limit",.int 1000000000000),("step",.int 1024),("activity",.ref (lay .bY)),("heap",.ref (lay .bW)),("place",.ref (lay .bR))]
noncomputable def j3(lay:Sl->Ref)(p:qD):List (String×V):=[("steps",.ref (lay .jZ)),("named",.ref (lay .named)),("empty",.int p.empty)]
noncomputable def dj(H:MH)(r:Ref)(l:List (String×V)):Prop:= ∃k fs,H r=some (.fj k fs)/\k<800/\ ∀y,fs y=l.lookup y
structure ac(co pr:Ref)(lay:Sl->Ref)(st:St)(H:MH):Prop where
 gu:co.t=100
 gR:pr.t=101
 tag: ∀s,(lay s).t=cJ s
 core:H co=some (.inst 561 (lay .cI))
 cI:dj H (lay .cI) (iK pr lay st)
 af:H pr=some (.inst 713 (lay .gQ))
 i6:dj H (lay .gQ) (j3 lay st.af)
 heap:H (lay .heap)=some (.inst 201 (lay .dy))
 dy:dj H (lay .dy) (sG lay)
 obj: ∀s o,objOf lay st s=some o->H (lay s)=some o
noncomputable def At(co pr:Ref)(st:St)(H:MH):Prop:= ∃lay,ac co pr lay st H
noncomputable def bF(H H':MH):Prop:= ∀r o,r.t<100->H r=some o->H' r=some o
noncomputable def am(H H':MH):Prop:= ∀r o,H r=some o->H' r=some o
noncomputable def aR(lay:Sl->Ref)(H H':MH):Prop:= ∀r o,(∀s,r≠lay s)->H r=some o->H' r=some o
theorem aR.refl{lay:Sl->Ref}(H:MH):aR lay H H:=λU U U e=>e
theorem aR.trans{lay:Sl->Ref}(x:aR lay a b)(y:aR lay b c):aR lay a c:=λr o t e=>y r o t (x r o t e)
theorem am.od{lay:Sl->Ref}(x:am a b):aR lay a b:=λr o U e=>x r o e
theorem am.refl(H:MH):am H H:=λU U e=>e
theorem am.trans(x:am a b)(y:am b c):am a c:=λr o e=>y r o (x r o e)
theorem bF.refl(H:MH):bF H H:=λU U U e=>e
theorem bF.trans(x:bF a b)(y:bF b c):bF a c:=λr o t e=>y r o t (x r o t e)
theorem am.keep(x:am a b):bF a b:=λr o U e=>x r o e
theorem aI(H:MH)(r:Ref)(o:dr):upd H r o r=some o:=by unfold upd;exact rG (az rfl) rfl
theorem aD(h:x≠r):upd H r o x=H x:=by unfold upd;exact rG (ax h) rfl
theorem am.fresh(h:H r=none):am H (upd H r o):=λx o' e=>by
 refine rG (aD (λz=>by rw[z,h] at e;exact Ns e)) ?_;exact e
theorem ag8(h:100<=r.t):bF H (upd H r o):=λx o' t e=>by
 refine rG (aD (λz=>by rw[z] at t;exact LC h t)) ?_;exact e
theorem mT{lay:Sl->Ref}:aR lay H (upd H (lay s) o):=λx o' t e=>by refine rG (aD (t s)) ?_;exact e
theorem dz{a b:Ref}(h:a.t≠b.t):a≠b:=λe=>h (by exact rG e rfl)
section
variable{co pr:Ref}{lay:Sl->Ref}{st:St}{H H':MH}
theorem dj.bx(k:am H H')(x:dj H r l):dj H' r l:=by
 refine bM x λn fs e z=>?_;exact⟨n,fs,k _ _ e,z⟩
theorem dj.of_eq(k:H' r=H r)(x:dj H r l):dj H' r l:=by
 refine bM x λn fs e z=>?_;exact⟨n,fs,k.trans e,z⟩
theorem ac.keep(a:ac co pr lay st H)(k:aR lay H1 H2):bF H1 H2:=λr o t e=>k r o (λs z=>by haveI t:=(a.tag s)▸z▸t;haveI:=qF s;exact(LB t this).elim) e
theorem ac.bx(a:ac co pr lay st H)(k:am H H'):ac co pr lay st H':=
 ⟨a.gu,a.gR,a.tag,k _ _ a.core,a.cI.bx k,k _ _ a.af,a.i6.bx k,k _ _ a.heap,a.dy.bx k,λs o e=>k _ _ (a.obj s o e)⟩
theorem At.bx(a:At co pr st H)(k:am H H'):At co pr st H':=let ⟨l,a⟩:=a;⟨l,a.bx k⟩
theorem ac.at(a:ac co pr lay st H):At co pr st H:=⟨lay,a⟩
theorem ac.qG(a:ac co pr lay st H)(s:Sl):co≠lay s:=dz (by refine rG a.gu (rG (a.tag s) ?_);haveI:=qF s;exact Lz this)
theorem ac.qH(a:ac co pr lay st H)(s:Sl):pr≠lay s:=dz (by refine rG a.gR (rG (a.tag s) ?_);haveI:=qF s;exact Nat.ne_of_lt this)
theorem ac.ncp(a:ac co pr lay st H):co≠pr:=dz (by refine rG a.gR (rG a.gu ?_);exact Ly)
theorem ac.ns(a:ac co pr lay st H){s s':Sl}(h:s≠s'):lay s≠lay s':=dz (by refine rG (a.tag s) (rG (a.tag s') ?_);exact λe=>h (mR e))
theorem ac.lt(a:ac co pr lay st H)(s:Sl):100<=(lay s).t:=by refine rG (a.tag s) ?_;haveI:=qF s;exact Lx this
theorem ac.upd(a:ac co pr lay st H)(h4:s0≠.cI/\s0≠.gQ/\s0≠.heap/\s0≠.dy)(hc:iK pr lay ae=iK pr lay st)(hp:j3 lay ae.af=j3 lay st.af)(h0: ∀o',objOf lay ae s0=some o'->o'=o)(hs: ∀s,s≠s0->objOf lay ae s=objOf lay st s):
  ac co pr lay ae (upd H (lay s0) o):=by
 have k: ∀s,s≠s0->Internal.upd H (lay s0) o (lay s)=H (lay s):=λs h=>aD (a.ns h);refine⟨a.gu,a.gR,a.tag,(aD (a.qG _)).trans a.core,?_,(aD (a.qH _)).trans a.af,?_,(k _ h4.2.2.1.symm).trans a.heap,a.dy.of_eq (k _ h4.2.2.2.symm),λs o' e=>?_⟩
 .refine rG hc ?_;exact a.cI.of_eq (k _ h4.1.symm)
 .refine rG hp ?_;exact a.i6.of_eq (k _ h4.2.1.symm)
 .by_cases z:s=s0
  .subst z;exact rG (aI _ _ _) (rG (h0 _ e) rfl)
  .refine rG (k _ z) ?_;exact a.obj s o' (hs s z▸e)
noncomputable def mU(lay:Sl->Ref)(st:St):List dr:=[iL st.bY,iL st.bW,iL st.bR,iL st.asg,iL st.lvl,iL st.aB,iL st.bk,iL st.bB,.list ((List.range st.aq.length).map λi=>V.ref (lay (.w i))),iL st.aa,iL st.ah,.list ((List.range st.cls.length).map λi=>V.ref (lay (.c i))),iL st.aW,bL st.bS,iL st.act,bL st.seen,.list (st.aQ.map mS),.list (st.af.steps.map cS.v),iL [0]]
theorem vb(lay:Sl->Ref)(st:St)(s:Sl):(∃i,s=.w i)∨(∃i,s=.c i)∨objOf lay st s=cond (Nat.blt (cJ s) 106) none (mU lay st)[cJ s-106]?:=by
 cases s with
 |w i=>exact .inl ⟨i,rfl⟩
 |c i=>exact .inr (.inl ⟨i,rfl⟩)
 |_=>exact .inr (.inr rfl)
theorem ac.Ie(a:ac co pr lay st H)(hi:cJ s0=106+i)(aS:Nat.blt i 19=true)(hc:iK pr lay ae=iK pr lay st)(hp:j3 lay ae.af=j3 lay st.af)(hw:ae.aq=st.aq)(bj:ae.cls=st.cls)(ht:mU lay ae=(mU lay st).set i o):ac co pr lay ae (Internal.upd H (lay s0) o):=by
 haveI hb: ∀s:Sl,(∃j,s=.w j)∨(∃j,s=.c j)->200<=cJ s:=λs h=>by
  rcases h with ⟨j,rfl⟩|⟨j,rfl⟩
  .exact Nat.le_add_right _ _
  .exact eM (by decide) (Nat.le_add_right 201 _)
 have hl:=Nat.blt_eq.mp aS;haveI e0:objOf lay ae s0=some o:=by
  rcases vb lay ae s0 with h|h|h
  .exact absurd (hb s0 (.inl h)) (by exact DE hi hl)
  .exact absurd (hb s0 (.inr h)) (by exact DE hi hl)
  .refine rG h (rG hi (rG (by cases e:Nat.blt (106+i) 106;rfl;exact absurd (Nat.blt_eq.mp e) (by exact Lw):Nat.blt (106+i) 106=false) (rG (Nat.add_sub_cancel_left _ _) (rG ht ?_))));exact gj (hl:i<(mU lay st).length)
 refine a.upd (s0:=s0) ?_ hc hp (λo' e=>lx (e.symm.trans e0)) λs hs=>?_
 .haveI n: ∀s:Sl,cJ s<106->s0≠s:=λs h e=>by haveI h:=hi▸cX e▸h;exact Lu h
  exact⟨n _ (by decide),n _ (by decide),n _ (by decide),n _ (by decide)⟩
 .rcases vb lay st s with ⟨j,rfl⟩|⟨j,rfl⟩|h
  .refine(?_:(ae.aq[j]?).map iL=_);refine rG hw ?_;rfl
  .refine(?_:(ae.cls[j]?).map iL=_);refine rG bj ?_;rfl
  .rcases vb lay ae s with ⟨j,rfl⟩|⟨j,rfl⟩|h'
   .refine(?_:(ae.aq[j]?).map iL=_);refine rG hw ?_;rfl
   .refine(?_:(ae.cls[j]?).map iL=_);refine rG bj ?_;rfl
   .refine rG h (rG h' (rG ht ?_))
    cases e:Nat.blt (cJ s) 106 with
    |true=>rfl
    |false=>
     haveI e: ¬cJ s<106:=λq=>lw (e.symm.trans (Nat.blt_eq.mpr q));exact gk (λq=>hs (mR (by exact Ls hi e q)))
theorem qI{lay:Sl->Ref}(hw:ae.aq=st.aq)(bj:ae.cls=st.cls)(ht:mU lay ae=mU lay st)(s:Sl):objOf lay st s=objOf lay ae s:=by
 rcases vb lay st s with ⟨j,rfl⟩|⟨j,rfl⟩|h
 .refine(?_:_=(ae.aq[j]?).map iL);refine rG hw ?_;rfl
 .refine(?_:_=(ae.cls[j]?).map iL);refine rG bj ?_;rfl
 .rcases vb lay ae s with ⟨j,rfl⟩|⟨j,rfl⟩|h'
  .refine(?_:_=(ae.aq[j]?).map iL);refine rG hw ?_;rfl
  .refine(?_:_=(ae.cls[j]?).map iL);refine rG bj ?_;rfl
  .exact rG h (rG h' (rG ht rfl))
theorem ac.setG(a:ac co pr lay st H){α:Type}{f:α->V}{xs:List α}{j:Int}{x:α}{K:MH->Prop}(hz:xs.length<aO)(h0:0<=j)(h1:j<xs.length)(k: ∀H',ac co pr lay ae H'->aR lay H H'->K H')
  (e0:objOf lay st s0=some (.list (xs.map f))) (hi:cJ s0=106+i) (aS:Nat.blt i 19=true) (hc:iK pr lay ae=iK pr lay st) (hw:ae.aq=st.aq) (bj:ae.cls=st.cls) (hp:j3 lay ae.af=j3 lay st.af) (ht:mU lay ae=(mU lay st).set i (.list ((xs.set j.toNat x).map f))):d9 (.ref (lay s0)) (.int j) (f x) K H:=
 set_list (a.obj s0 _ e0) (by refine rG (au _) ?_;exact hz) h0 (by refine rG (au _) ?_;exact h1) (k _ (by refine rB List.map_set ?_;exact a.Ie hi aS hc hp hw bj ht) mT)
theorem ac.iM(a:ac co pr lay st H){α:Type}{f:α->V}{xs:List α}{x:α}(hz:xs.length<aO)(k: ∀H',ac co pr lay ae H'->aR lay H H'->Q .none H')
  (e0:objOf lay st s0=some (.list (xs.map f))) (hi:cJ s0=106+i) (aS:Nat.blt i 19=true) (hc:iK pr lay ae=iK pr lay st) (hw:ae.aq=st.aq) (bj:ae.cls=st.cls) (hp:j3 lay ae.af=j3 lay st.af) (ht:mU lay ae=(mU lay st).set i (.list ((xs++[x]).map f))):eO (lay s0) "append" [f x] Q H:=
 jA (a.obj s0 _ e0) (by refine rG (au _) ?_;exact hz) (k _ (by refine rB (List.map_singleton (f:=f)) (rB cN ?_);exact a.Ie hi aS hc hp hw bj ht) mT)
noncomputable def vc(l:List (String×V))(nm:String)(v:V):List (String×V):=l.map λp=>if p.1=nm then (p.1,v) else p
theorem Ig(y:String): ∀{l:List (String×V)},(vc l nm v).lookup y=if y=nm then (if (l.lookup y).isSome then some v else none) else l.lookup y
 |[]=>by simp[vc]
 |(x,u)::l=>by
  have ih:=Ig (nm:=nm) (v:=v) y (l:=l);unfold vc at ih ⊢;rw[dq,gC];by_cases e:y=x
  .subst e;by_cases z:y=nm
   .subst z;simp
   .simp[z]
  .have ne:(y==x)=false:=by simpa using e
   have:(y==(if x=nm then (x,v) else (x,u)).fst)=false:=by split<;>exact ne
   simp only[this,ih,gC,ne]
theorem dj.set{fs:String->Option V}(hk:k<800)(hf: ∀y,fs y=l.lookup y)(hs:(l.lookup nm).isSome=true)(hl:l'=vc l nm v)(h:H' r=some (.fj (if (fs nm).isSome then k else k+1) λy=>if y=nm then some v else fs y)):dj H' r l':=by
 refine⟨_,_,h,?_,λy=>?_⟩
 .refine rG (hf nm) (rG hs ?_);exact hk
 .refine(?_:(if y=nm then _ else _)=_);refine rG hl (rG (Ig _) ?_);by_cases e:y=nm
  .subst e;refine rG (az rfl) (rG (az rfl) (rG hs ?_));rfl
  .exact rG (ax e) (rG (ax e) (rG (hf _) rfl))
theorem ac.oe(a:ac co pr lay st H){eJ:Sl->Ref}{ae:St}{K:MH->Prop}(h1:tabs.attr 561 nm=true)(h2:((iK pr lay st).lookup nm).isSome=true)(h3:iK pr eJ ae=vc (iK pr lay st) nm v)
  (h4:eJ .cI=lay .cI/\eJ .gQ=lay .gQ/\eJ .heap=lay .heap/\eJ .dy=lay .dy) (Bf: ∀s,(eJ s).t=cJ s) (hp:j3 eJ ae.af=j3 lay st.af) (hh:sG eJ=sG lay)
  (ZC: ∀s o,objOf eJ ae s=some o->H (eJ s)=some o) (k: ∀H',ac co pr eJ ae H'->aR lay H H'->K H'):fC tabs (.ref co) nm v K H:=by
 refine bE a.cI λn fs e hn hf=>?_;refine⟨co,561,_,n,fs,rfl,a.core,e,h1,(bI hn rfl),k _ ?_ mT⟩;haveI t0:=Bf .cI;have q: ∀s,s≠.cI-> ∀o,Internal.upd H (lay .cI) o (eJ s)=H (eJ s):=λs h o=>aD (dz (by refine rG (Bf s) (rG (a.tag .cI) ?_);exact λe=>h (mR e)));refine⟨a.gu,a.gR,Bf,?_,?_,?_,?_,?_,?_,λs o he=>?_⟩
 .refine rG (aD (a.qG _)) (rG h4.1 ?_);exact a.core
 .refine rG h4.1 ?_;exact dj.set hn hf h2 h3 (aI _ _ _)
 .refine rG (aD (a.qH _)) (rG h4.2.1 ?_);exact a.af
 .refine rG hp (rG h4.2.1 ?_);exact a.i6.of_eq (by exact rB h4.2.1 (rG ((q _ (by exact fH rfl)) _) rfl))
 .refine rG ((q _ (by exact fH rfl)) _) (rG h4.2.2.1 (rG h4.2.2.2 ?_));exact a.heap
 .refine rG hh (rG h4.2.2.2 ?_);exact a.dy.of_eq (by exact rB h4.2.2.2 (rG ((q _ (by exact fH rfl)) _) rfl))
 .refine rG ((q s (λz=>by rw[z] at he;exact Ns he)) _) ?_;exact ZC s o he
theorem ac.attr(a:ac co pr lay st H)(h1:tabs.attr 561 nm=true)(h2:(iK pr lay st).lookup nm=some v)(h3:rQ v=true)(k:Q v H):iz tabs (.ref co) nm Q H:=by
 refine bE a.cI λn fs e hn hf=>?_;exact⟨co,561,_,n,fs,rfl,a.core,e,.inl ⟨v,(hf _).trans h2,h1,h3,k⟩⟩
theorem ac.aha(a:ac co pr lay st H)(h1:tabs.attr 201 nm=true)(h2:(sG lay).lookup nm=some v)(h3:rQ v=true)(k:Q v H):iz tabs (.ref (lay .heap)) nm Q H:=by
 refine bE a.dy λn fs e hn hf=>?_;exact⟨_,201,_,n,fs,rfl,a.heap,e,.inl ⟨v,(hf _).trans h2,h1,h3,k⟩⟩
theorem ac.iz(a:ac co pr lay st H)(h1:tabs.attr 713 nm=true)(h2:(j3 lay st.af).lookup nm=some v)(h3:rQ v=true)(k:Q v H):iz tabs (.ref pr) nm Q H:=by
 refine bE a.i6 λn fs e hn hf=>?_;exact⟨_,713,_,n,fs,rfl,a.af,e,.inl ⟨v,(hf _).trans h2,h1,h3,k⟩⟩
theorem ac.ahb(a:ac co pr lay st H)(h1:tabs.ao 561 nm=some f)(h2:(iK pr lay st).lookup nm=none)(k:Q (.ao f (.ref co)) H):Internal.iz tabs (.ref co) nm Q H:=by
 refine bE a.cI λn fs e hn hf=>?_;exact⟨co,561,_,n,fs,rfl,a.core,e,.inr ⟨f,(hf _).trans h2,h1,k⟩⟩
variable{C:Cfg}{n:Nat}
theorem ac.ao(a:ac co pr lay st H){args:(List V->MH->Prop)->MH->Prop}(h1:tabs.ao 561 nm=some f)(h2:(iK pr lay st).lookup nm=none)(k:args (A1 C n f (.ref co) Q) H):methP C tabs n (.ref co) nm args Q H:=by
 refine bE a.cI λn fs e hn hf=>?_;exact⟨co,rfl,.inl ⟨561,_,n,fs,f,a.core,e,(hf _).trans h2,h1,k⟩⟩
theorem ac.ahc(a:ac co pr lay st H){args:(List V->MH->Prop)->MH->Prop}(h1:tabs.ao 201 nm=some f)(h2:(sG lay).lookup nm=none)(k:args (A1 C n f (.ref (lay .heap)) Q) H):methP C tabs n (.ref (lay .heap)) nm args Q H:=by
 refine bE a.dy λn fs e hn hf=>?_;exact⟨_,rfl,.inl ⟨201,_,n,fs,f,a.heap,e,(hf _).trans h2,h1,k⟩⟩
theorem ac.methP(a:ac co pr lay st H){args:(List V->MH->Prop)->MH->Prop}(h1:tabs.ao 713 nm=some f)(h2:(j3 lay st.af).lookup nm=none)(k:args (A1 C n f (.ref pr) Q) H):Internal.methP C tabs n (.ref pr) nm args Q H:=by
 refine bE a.i6 λn fs e hn hf=>?_;exact⟨_,rfl,.inl ⟨713,_,n,fs,f,a.af,e,(hf _).trans h2,h1,k⟩⟩
end
section
variable{co pr:Ref}{lay:Sl->Ref}{st:St}{H:MH}{Q:PV}{K:MH->Prop}
theorem bC(e:H r=some (iL xs))(hz:xs.length<aO)(h0:0<=i)(hv:xs[i.toNat]?=some x)(k:Q (.int x) H):f7 (.ref r) (.int i) Q H:=
 mN e (by refine rG (au _) ?_;exact hz) h0 (by refine rG (fA) (rG hv ?_);rfl) k
theorem Bg(e:H r=some (bL xs))(hz:xs.length<aO)(h0:0<=i)(hv:xs[i.toNat]?=some x)(k:Q (.bool x) H):f7 (.ref r) (.int i) Q H:=
 mN e (by refine rG (au _) ?_;exact hz) h0 (by refine rG (fA) (rG hv ?_);rfl) k
theorem ac.xA(a:ac co pr lay st H)(hz:st.aQ.length<aO)(h0:0<=i)(hv:st.aQ[i.toNat]?=some x)(k:Q (mS x) H):f7 (.ref (lay .aQ)) (.int i) Q H:=
 mN (a.obj .aQ _ rfl) (by refine rG (au _) ?_;exact hz) h0 (by refine rG (fA) (rG hv ?_);rfl) k
theorem ac.xB(a:ac co pr lay st H)(hz:st.af.steps.length<aO)(h0:0<=i)(hv:st.af.steps[i.toNat]?=some x)(k:Q x.v H):f7 (.ref (lay .jZ)) (.int i) Q H:=
 mN (a.obj .jZ _ rfl) (by refine rG (au _) ?_;exact hz) h0 (by refine rG (fA) (rG hv ?_);rfl) k
theorem ac.xC(a:ac co pr lay st H){i:Int}(hz:st.aq.length<aO)(h0:0<=i)(h1:i<st.aq.length)(k:Q (.ref (lay (.w i.toNat))) H):f7 (.ref (lay .aq)) (.int i) Q H:=
 mN (a.obj .aq _ rfl) (by refine rG (au _) (rG dZ ?_);exact hz) h0 (by refine rG (fA) (rG (qc (oA h0 h1)) ?_);rfl) k
theorem ac.pt(a:ac co pr lay st H){i:Int}(hz:st.cls.length<aO)(h0:0<=i)(h1:i<st.cls.length)(k:Q (.ref (lay (.c i.toNat))) H):f7 (.ref (lay .cls)) (.int i) Q H:=
 mN (a.obj .cls _ rfl) (by refine rG (au _) (rG dZ ?_);exact hz) h0 (by refine rG (fA) (rG (qc (oA h0 h1)) ?_);rfl) k
theorem ac.pu(a:ac co pr lay st H)(h:st.aq[i]?=some l):H (lay (.w i))=some (iL l):=a.obj (.w i) _ (by refine(?_:(st.aq[i]?).map _=_);refine rG h ?_;rfl)
theorem ac.fU(a:ac co pr lay st H)(h:st.cls[i]?=some l):H (lay (.c i))=some (iL l):=a.obj (.c i) _ (by refine(?_:(st.cls[i]?).map _=_);refine rG h ?_;rfl)
theorem ac.Ih(a:ac co pr lay st H){i x:Int}(hz:st.asg.length<aO)(h0:0<=i)(h1:i<st.asg.length)(k: ∀H',ac co pr lay (st.i4 (st.asg.set i.toNat x)) H'->aR lay H H'->K H'):d9 (.ref (lay .asg)) (.int i) (.int x) K H:=a.setG (i:=3) (f:=V.int) (x:=x) hz h0 h1 k rfl rfl rfl rfl rfl rfl rfl rfl
theorem ac.ZD(a:ac co pr lay st H){i x:Int}(hz:st.lvl.length<aO)(h0:0<=i)(h1:i<st.lvl.length)(k: ∀H',ac co pr lay (st.mO (st.lvl.set i.toNat x)) H'->aR lay H H'->K H'):d9 (.ref (lay .lvl)) (.int i) (.int x) K H:=a.setG (i:=4) (f:=V.int) (x:=x) hz h0 h1 k rfl rfl rfl rfl rfl rfl rfl rfl
theorem ac.Ii(a:ac co pr lay st H){i x:Int}(hz:st.aB.length<aO)(h0:0<=i)(h1:i<st.aB.length)(k: ∀H',ac co pr lay (st.jY (st.aB.set i.toNat x)) H'->aR lay H H'->K H'):d9 (.ref (lay .aB)) (.int i) (.int x) K H:=a.setG (i:=5) (f:=V.int) (x:=x) hz h0 h1 k rfl rfl rfl rfl rfl rfl rfl rfl
theorem ac.ZE(a:ac co pr lay st H){i x:Int}(hz:st.bk.length<aO)(h0:0<=i)(h1:i<st.bk.length)(k: ∀H',ac co pr lay (st.pk (st.bk.set i.toNat x)) H'->aR lay H H'->K H'):d9 (.ref (lay .bk)) (.int i) (.int x) K H:=a.setG (i:=6) (f:=V.int) (x:=x) hz h0 h1 k rfl rfl rfl rfl rfl rfl rfl rfl
theorem ac.ZF(a:ac co pr lay st H){i x:Int}(hz:st.bB.length<aO)(h0:0<=i)(h1:i<st.bB.length)(k: ∀H',ac co pr lay (st.mP (st.bB.set i.toNat x)) H'->aR lay H H'->K H'):d9 (.ref (lay .bB)) (.int i) (.int x) K H:=a.setG (i:=7) (f:=V.int) (x:=x) hz h0 h1 k rfl rfl rfl rfl rfl rfl rfl rfl
theorem ac.ZG(a:ac co pr lay st H){i x:Int}(hz:st.bW.length<aO)(h0:0<=i)(h1:i<st.bW.length)(k: ∀H',ac co pr lay (st.sE (st.bW.set i.toNat x)) H'->aR lay H H'->K H'):d9 (.ref (lay .bW)) (.int i) (.int x) K H:=a.setG (i:=1) (f:=V.int) (x:=x) hz h0 h1 k rfl rfl rfl rfl rfl rfl rfl rfl
theorem ac.Ij(a:ac co pr lay st H){i x:Int}(hz:st.bR.length<aO)(h0:0<=i)(h1:i<st.bR.length)(k: ∀H',ac co pr lay (st.sF (st.bR.set i.toNat x)) H'->aR lay H H'->K H'):d9 (.ref (lay .bR)) (.int i) (.int x) K H:=a.setG (i:=2) (f:=V.int) (x:=x) hz h0 h1 k rfl rfl rfl rfl rfl rfl rfl rfl
theorem ac.Bh(a:ac co pr lay st H){i:Int}(hz:st.seen.length<aO)(h0:0<=i)(h1:i<st.seen.length)(k: ∀H',ac co pr lay (st.dU (st.seen.set i.toNat x)) H'->aR lay H H'->K H'):d9 (.ref (lay .seen)) (.int i) (.bool x) K H:=a.setG (i:=15) (f:=V.bool) (x:=x) hz h0 h1 k rfl rfl rfl rfl rfl rfl rfl rfl
theorem ac.ZH(a:ac co pr lay st H){i x:Int}(hz:st.aQ.length<aO)(h0:0<=i)(h1:i<st.aQ.length)(k: ∀H',ac co pr lay (st.gr (st.aQ.set i.toNat (some x))) H'->aR lay H H'->K H'):d9 (.ref (lay .aQ)) (.int i) (.int x) K H:=a.setG (i:=16) (f:=mS) (x:=some x) hz h0 h1 k rfl rfl rfl rfl rfl rfl rfl rfl
theorem ac.ZI(a:ac co pr lay st H)(hz:st.asg.length<aO)(k: ∀H',ac co pr lay (st.i4 (st.asg++[x])) H'->aR lay H H'->Q .none H'):eO (lay .asg) "append" [.int x] Q H:=a.iM (i:=3) (f:=V.int) (x:=x) hz k rfl rfl rfl rfl rfl rfl rfl rfl
theorem ac.ZJ(a:ac co pr lay st H)(hz:st.lvl.length<aO)(k: ∀H',ac co pr lay (st.mO (st.lvl++[x])) H'->aR lay H H'->Q .none H'):eO (lay .lvl) "append" [.int x] Q H:=a.iM (i:=4) (f:=V.int) (x:=x) hz k rfl rfl rfl rfl rfl rfl rfl rfl
theorem ac.ZK(a:ac co pr lay st H)(hz:st.aB.length<aO)(k: ∀H',ac co pr lay (st.jY (st.aB++[x])) H'->aR lay H H'->Q .none H'):eO (lay .aB) "append" [.int x] Q H:=a.iM (i:=5) (f:=V.int) (x:=x) hz k rfl rfl rfl rfl rfl rfl rfl rfl
theorem ac.ZL(a:ac co pr lay st H)(hz:st.bk.length<aO)(k: ∀H',ac co pr lay (st.pk (st.bk++[x])) H'->aR lay H H'->Q .none H'):eO (lay .bk) "append" [.int x] Q H:=a.iM (i:=6) (f:=V.int) (x:=x) hz k rfl rfl rfl rfl rfl rfl rfl rfl
theorem ac.ZM(a:ac co pr lay st H)(hz:st.bB.length<aO)(k: ∀H',ac co pr lay (st.mP (st.bB++[x])) H'->aR lay H H'->Q .none H'):eO (lay .bB) "append" [.int x] Q H:=a.iM (i:=7) (f:=V.int) (x:=x) hz k rfl rfl rfl rfl rfl rfl rfl rfl
theorem ac.ZN(a:ac co pr lay st H)(hz:st.bY.length<aO)(k: ∀H',ac co pr lay (st.xz (st.bY++[x])) H'->aR lay H H'->Q .none H'):eO (lay .bY) "append" [.int x] Q H:=a.iM (i:=0) (f:=V.int) (x:=x) hz k rfl rfl rfl rfl rfl rfl rfl rfl
theorem ac.ZO(a:ac co pr lay st H)(hz:st.bW.length<aO)(k: ∀H',ac co pr lay (st.sE (st.bW++[x])) H'->aR lay H H'->Q .none H'):eO (lay .bW) "append" [.int x] Q H:=a.iM (i:=1) (f:=V.int) (x:=x) hz k rfl rfl rfl rfl rfl rfl rfl rfl
theorem ac.ZP(a:ac co pr lay st H)(hz:st.bR.length<aO)(k: ∀H',ac co pr lay (st.sF (st.bR++[x])) H'->aR lay H H'->Q .none H'):eO (lay .bR) "append" [.int x] Q H:=a.iM (i:=2) (f:=V.int) (x:=x) hz k rfl rfl rfl rfl rfl rfl rfl rfl
theorem ac.ZQ(a:ac co pr lay st H)(hz:st.aa.length<aO)(k: ∀H',ac co pr lay (st.qE (st.aa++[x])) H'->aR lay H H'->Q .none H'):eO (lay .aa) "append" [.int x] Q H:=a.iM (i:=9) (f:=V.int) (x:=x) hz k rfl rfl rfl rfl rfl rfl rfl rfl
theorem ac.ZR(a:ac co pr lay st H)(hz:st.ah.length<aO)(k: ∀H',ac co pr lay (st.pq (st.ah++[x])) H'->aR lay H H'->Q .none H'):eO (lay .ah) "append" [.int x] Q H:=a.iM (i:=10) (f:=V.int) (x:=x) hz k rfl rfl rfl rfl rfl rfl rfl rfl
theorem ac.ZS(a:ac co pr lay st H)(hz:st.aW.length<aO)(k: ∀H',ac co pr lay (st.Bb (st.aW++[x])) H'->aR lay H H'->Q .none H'):eO (lay .aW) "append" [.int x] Q H:=a.iM (i:=12) (f:=V.int) (x:=x) hz k rfl rfl rfl rfl rfl rfl rfl rfl
theorem ac.ZT(a:ac co pr lay st H)(hz:st.act.length<aO)(k: ∀H',ac co pr lay (st.Bd (st.act++[x])) H'->aR lay H H'->Q .none H'):eO (lay .act) "append" [.int x] Q H:=a.iM (i:=14) (f:=V.int) (x:=x) hz k rfl rfl rfl rfl rfl rfl rfl rfl
theorem ac.ZU(a:ac co pr lay st H)(hz:st.bS.length<aO)(k: ∀H',ac co pr lay (st.Bc (st.bS++[x])) H'->aR lay H H'->Q .none H'):eO (lay .bS) "append" [.bool x] Q H:=a.iM (i:=13) (f:=V.bool) (x:=x) hz k rfl rfl rfl rfl rfl rfl rfl rfl
theorem ac.ZV(a:ac co pr lay st H)(hz:st.seen.length<aO)(k: ∀H',ac co pr lay (st.dU (st.seen++[x])) H'->aR lay H H'->Q .none H'):eO (lay .seen) "append" [.bool x] Q H:=a.iM (i:=15) (f:=V.bool) (x:=x) hz k rfl rfl rfl rfl rfl rfl rfl rfl
theorem ac.ZW(a:ac co pr lay st H)(hz:st.aQ.length<aO)(k: ∀H',ac co pr lay (st.gr (st.aQ++[none])) H'->aR lay H H'->Q .none H'):eO (lay .aQ) "append" [.none] Q H:=a.iM (i:=16) (f:=mS) (x:=none) hz k rfl rfl rfl rfl rfl rfl rfl rfl
theorem ac.ZX(a:ac co pr lay st H)(hz:st.af.steps.length<aO)(k: ∀H',ac co pr lay (st.i5 ({st.af with steps:=st.af.steps++[x]})) H'->aR lay H H'->Q .none H'):eO (lay .jZ) "append" [x.v] Q H:=a.iM (i:=17) (f:=cS.v) (x:=x) hz k rfl rfl rfl rfl rfl rfl rfl rfl
theorem ac.Bi(a:ac co pr lay st H)(h:st.aq[j]?=some l)(hz:l.length<aO)(k: ∀H',ac co pr lay (st.jB (st.aq.set j (l++[x]))) H'->aR lay H H'->Q .none H'):eO (lay (.w j)) "append" [.int x] Q H:=by
 haveI hj:j<st.aq.length:=(List.getElem?_eq_some_iff.mp h).1;refine jA (a.pu h) (by refine rG (au _) ?_;exact hz) (k _ (a.upd (s0:=.w j) ⟨λe=>(by cases e),λe=>(by cases e),λe=>(by cases e),λe=>(by cases e)⟩ rfl rfl (λo' e=>?_) (λs hs=>?_)) mT)
 .haveI e:((st.aq.set j (l++[x]))[j]?).map iL=some o':=e;replace e:=(gj hj)▸e;cases e;exact bP dr.list cN
 .cases s with
  |aq=>refine(?_:some (dr.list ((List.range (st.aq.set j (l++[x])).length).map _))=some (dr.list ((List.range st.aq.length).map _)));exact rG d7 rfl
  |w i=>
   refine(?_:((st.aq.set j (l++[x]))[i]?).map iL=(st.aq[i]?).map iL);exact rG (gk (λz=>hs (by rw[z]))) rfl
  |_=>rfl
theorem ac.ZY(a:ac co pr lay st H)(h:st.cls[j]?=some l):ac co pr lay (st.iJ (st.cls.set j l')) (Internal.upd H (lay (.c j)) (iL l')):=by
 haveI hj:j<st.cls.length:=(List.getElem?_eq_some_iff.mp h).1;refine a.upd (s0:=.c j) ⟨λe=>(by cases e),λe=>(by cases e),λe=>(by cases e),λe=>(by cases e)⟩ rfl rfl (λo' e=>?_) (λs hs=>?_)
 .haveI e:((st.cls.set j l')[j]?).map iL=some o':=e;replace e:=(gj hj)▸e;cases e;rfl
 .cases s with
  |cls=>refine(?_:some (dr.list ((List.range (st.cls.set j l').length).map _))=some (dr.list ((List.range st.cls.length).map _)));exact rG d7 rfl
  |c i=>
   refine(?_:((st.cls.set j l')[i]?).map iL=(st.cls[i]?).map iL);exact rG (gk (λz=>hs (by rw[z]))) rfl
  |_=>rfl
theorem ac.xD(a:ac co pr lay st H)(h:st.cls[j]?=some l)(hz:l.length<aO)(h0:0<=i)(h1:i<l.length)(k: ∀H',ac co pr lay (st.iJ (st.cls.set j (l.set i.toNat x))) H'->aR lay H H'->K H'):d9 (.ref (lay (.c j))) (.int i) (.int x) K H:=
 set_list (a.fU h) (by refine rG (au _) ?_;exact hz) h0 (by refine rG (au _) ?_;exact h1) (k _ (by refine rB List.map_set ?_;exact a.ZY h) mT)
theorem ac.Bj(a:ac co pr lay st H)(k: ∀H',ac co pr lay (st.w_head x) H'->aR lay H H'->K H'):fC tabs (.ref co) "head" (.int x) K H:=
 a.oe (eJ:=lay) (ae:=(st.w_head x)) rfl rfl rfl ⟨rfl,rfl,rfl,rfl⟩ a.tag rfl rfl (λs o e=>a.obj s o ((qI rfl rfl rfl s).trans e)) k
theorem ac.ZZ(a:ac co pr lay st H)(k: ∀H',ac co pr lay (st.va x) H'->aR lay H H'->K H'):fC tabs (.ref co) "told" (.int x) K H:=
 a.oe (eJ:=lay) (ae:=(st.va x)) rfl rfl rfl ⟨rfl,rfl,rfl,rfl⟩ a.tag rfl rfl (λs o e=>a.obj s o ((qI rfl rfl rfl s).trans e)) k
theorem ac.Z0(a:ac co pr lay st H)(k: ∀H',ac co pr lay (st.mQ x) H'->aR lay H H'->K H'):fC tabs (.ref co) "rooted" (.int x) K H:=
 a.oe (eJ:=lay) (ae:=(st.mQ x)) rfl rfl rfl ⟨rfl,rfl,rfl,rfl⟩ a.tag rfl rfl (λs o e=>a.obj s o ((qI rfl rfl rfl s).trans e)) k
theorem ac.aaa(a:ac co pr lay st H)(k: ∀H',ac co pr lay (st.Ia x) H'->aR lay H H'->K H'):fC tabs (.ref co) "is_ok" (.bool x) K H:=
 a.oe (eJ:=lay) (ae:=(st.Ia x)) rfl rfl rfl ⟨rfl,rfl,rfl,rfl⟩ a.tag rfl rfl (λs o e=>a.obj s o ((qI rfl rfl rfl s).trans e)) k
theorem ac.aab(a:ac co pr lay st H)(k: ∀H',ac co pr lay (st.Ib (some x)) H'->aR lay H H'->K H'):fC tabs (.ref co) "empty_step" (.int x) K H:=
 a.oe (eJ:=lay) (ae:=(st.Ib (some x))) rfl rfl rfl ⟨rfl,rfl,rfl,rfl⟩ a.tag rfl rfl (λs o e=>a.obj s o ((qI rfl rfl rfl s).trans e)) k
theorem ac.xE(a:ac co pr lay st H)(k: ∀H',ac co pr lay (st.f9 x) H'->aR lay H H'->K H'):fC tabs (.ref co) "failed" (.tup (x.map V.int)) K H:=
 a.oe (eJ:=lay) (ae:=(st.f9 x)) rfl rfl rfl ⟨rfl,rfl,rfl,rfl⟩ a.tag rfl rfl (λs o e=>a.obj s o ((qI rfl rfl rfl s).trans e)) k
theorem ac.Bk(a:ac co pr lay st H)(k: ∀H',ac co pr lay (st.ga x) H'->aR lay H H'->K H'):fC tabs (.ref co) "failed_at" (mS x) K H:=
 a.oe (eJ:=lay) (ae:=(st.ga x)) rfl rfl rfl ⟨rfl,rfl,rfl,rfl⟩ a.tag rfl rfl (λs o e=>a.obj s o ((qI rfl rfl rfl s).trans e)) k
noncomputable def dk(lay:Sl->Ref)(s0:Sl)(r:Ref):Sl->Ref:=λs=> @ite _ (s=s0) (dS s s0) r (lay s)
theorem lN(lay:Sl->Ref)(s0:Sl)(r:Ref):dk lay s0 r s0=r:=az rfl
theorem jC{lay:Sl->Ref}(h:s≠s0):dk lay s0 r s=lay s:=ax h
theorem sH{lay:Sl->Ref}(ht: ∀s,(lay s).t=cJ s)(hr:r.t=cJ s0)(s:Sl):(dk lay s0 r s).t=cJ s:=by
 unfold dk;split
 .rename_i e;refine rG e ?_;exact hr
 .exact ht s
theorem ac.aac(a:ac co pr lay st H)(hr:r.t=cJ .aa)(hl:H r=some (iL l))(k: ∀H',ac co pr (dk lay .aa r) (st.qE l) H'->aR lay H H'->K H'):fC tabs (.ref co) "trail" (.ref r) K H:=
 a.oe (eJ:=dk lay .aa r) (ae:=(st.qE l)) rfl rfl rfl ⟨rfl,rfl,rfl,rfl⟩ (sH a.tag hr) rfl rfl (λs o e=>by
  by_cases z:s=.aa
  .subst z;cases e;refine rG (lN _ _ _) ?_;exact hl
  .refine rG (jC z) ?_;exact a.obj s o (by cases s<;>first|exact e|exact absurd rfl z)) k
theorem ac.aad(a:ac co pr lay st H)(hr:r.t=cJ .ah)(hl:H r=some (iL l))(k: ∀H',ac co pr (dk lay .ah r) (st.pq l) H'->aR lay H H'->K H'):fC tabs (.ref co) "starts" (.ref r) K H:=
 a.oe (eJ:=dk lay .ah r) (ae:=(st.pq l)) rfl rfl rfl ⟨rfl,rfl,rfl,rfl⟩ (sH a.tag hr) rfl rfl (λs o e=>by
  by_cases z:s=.ah
  .subst z;cases e;refine rG (lN _ _ _) ?_;exact hl
  .refine rG (jC z) ?_;exact a.obj s o (by cases s<;>first|exact e|exact absurd rfl z)) k
theorem ac.aae(a:ac co pr lay st H){i:Int}(hz:st.aq.length<aO)(h0:0<=i)(h1:i<st.aq.length)(hr:r.t=cJ (.w i.toNat))(hl:H r=some (iL l))(k: ∀H',ac co pr (dk lay (.w i.toNat) r) (st.jB (st.aq.set i.toNat l)) H'->aR lay H H'->K H'):d9 (.ref (lay .aq)) (.int i) (.ref r) K H:=by
 haveI hi:i.toNat<st.aq.length:=(oA h0 h1);refine set_list (a.obj .aq _ rfl) (by refine rG (au _) (rG dZ ?_);exact hz) h0 (by refine rG (au _) (rG dZ ?_);exact h1) (k _ ?_ mT);haveI tg:=sH a.tag hr;haveI ne: ∀s,s≠.w i.toNat->dk lay (.w i.toNat) r s=lay s:=λs h=>jC h;have nl: ∀s,s≠.aq->dk lay (.w i.toNat) r s≠lay .aq:=λs h=>dz (by refine rG (tg s) (rG (a.tag _) ?_);exact λe=>h (mR e));have e1: ∀s,s≠.aq->s≠.w i.toNat->Internal.upd H (lay .aq) (.list (((List.range st.aq.length).map λi=>V.ref (lay (.w i))).set i.toNat (.ref r))) (dk lay (.w i.toNat) r s)=H (lay s):=λs h h'=>by exact rG (aD (nl s h)) (rG (ne s h') rfl)
 refine⟨a.gu,a.gR,tg,(aD (a.qG _)).trans a.core,?_,(aD (a.qH _)).trans a.af,?_,?_,?_,λs o e=>?_⟩
 .exact dj.of_eq (H:=H) (r:=lay .cI) (aD (a.ns (by exact fH rfl))) a.cI
 .exact dj.of_eq (H:=H) (r:=lay .gQ) (aD (a.ns (by exact fH rfl))) a.i6
 .refine rG (e1 _ (by exact fH rfl) (λe=>by cases e)) ?_;exact a.heap
 .exact dj.of_eq (H:=H) (r:=lay .dy) (aD (a.ns (by exact fH rfl))) a.dy
 .by_cases z:s=.w i.toNat
  .subst z;refine rG (aD (nl _ (λe=>by cases e))) (rG (lN _ _ _) (rG hl ?_));haveI e:((st.aq.set i.toNat l)[i.toNat]?).map iL=some o:=e;haveI e:=(gj hi)▸e;exact e
  .by_cases y:s=.aq
   .subst y;refine rG (jC (λe=>by cases e)) (rG (aI _ _ _) ?_);refine rB e ?_;refine(?_:_=some (dr.list ((List.range (st.aq.set i.toNat l).length).map _)));refine rG d7 ?_
    congr 2
    refine List.ext_getElem? λj=>?_;refine rG (List.getElem?_set) (rG (fA) (rG (au _) (rG dZ ?_)));by_cases q:i.toNat=j
    .subst q;refine rG (az rfl) (rG (az hi) (rG (fA) (rG (qc hi) ?_)));refine(?_:_=some (V.ref (dk lay (.w i.toNat) r (.w i.toNat))));exact rG (lN _ _ _) rfl
    .refine rG (ax q) (rG (fA) ?_)
     cases w:(List.range st.aq.length)[j]? with
     |none=>rfl
     |some j'=>
      haveI:j=j':=by
       haveI:=List.getElem?_eq_some_iff.mp w;refine ag this λU h=>?_;haveI h:=(List.getElem_range _)▸h;exact h
      subst this;refine(?_:some _=some (V.ref (dk lay (.w i.toNat) r (.w j))));exact rG (jC (λe=>q (by cases e;rfl))) rfl
   .refine rG (e1 s y z) ?_;refine a.obj s o ?_
    cases s with
    |w j=>
     haveI e:((st.aq.set i.toNat l)[j]?).map iL=some o:=e;rw[gk (λq=>z (by rw[q]))] at e;exact e
    |aq=>exact absurd rfl y
    |_=>exact e
theorem ac.aaf(a:ac co pr lay st H){i:Int}(hz:st.cls.length<aO)(h0:0<=i)(h1:i<st.cls.length)(hr:r.t=cJ (.c i.toNat))(hl:H r=some (iL l))(k: ∀H',ac co pr (dk lay (.c i.toNat) r) (st.iJ (st.cls.set i.toNat l)) H'->aR lay H H'->(∀x,x≠lay .cls->H' x=H x)->K H'):d9 (.ref (lay .cls)) (.int i) (.ref r) K H:=by
 haveI hi:i.toNat<st.cls.length:=(oA h0 h1);refine set_list (a.obj .cls _ rfl) (by refine rG (au _) (rG dZ ?_);exact hz) h0 (by refine rG (au _) (rG dZ ?_);exact h1) (k _ ?_ mT λx hx=>aD hx);haveI tg:=sH a.tag hr;haveI ne: ∀s,s≠.c i.toNat->dk lay (.c i.toNat) r s=lay s:=λs h=>jC h;have nl: ∀s,s≠.cls->dk lay (.c i.toNat) r s≠lay .cls:=λs h=>dz (by refine rG (tg s) (rG (a.tag _) ?_);exact λe=>h (mR e));have e1: ∀s,s≠.cls->s≠.c i.toNat->Internal.upd H (lay .cls) (.list (((List.range st.cls.length).map λi=>V.ref (lay (.c i))).set i.toNat (.ref r))) (dk lay (.c i.toNat) r s)=H (lay s):=λs h h'=>by exact rG (aD (nl s h)) (rG (ne s h') rfl)
 refine⟨a.gu,a.gR,tg,(aD (a.qG _)).trans a.core,?_,(aD (a.qH _)).trans a.af,?_,?_,?_,λs o e=>?_⟩
 .exact dj.of_eq (H:=H) (r:=lay .cI) (aD (a.ns (by exact fH rfl))) a.cI
 .exact dj.of_eq (H:=H) (r:=lay .gQ) (aD (a.ns (by exact fH rfl))) a.i6
 .refine rG (e1 _ (by exact fH rfl) (λe=>by cases e)) ?_;exact a.heap
 .exact dj.of_eq (H:=H) (r:=lay .dy) (aD (a.ns (by exact fH rfl))) a.dy
 .by_cases z:s=.c i.toNat
  .subst z;refine rG (aD (nl _ (λe=>by cases e))) (rG (lN _ _ _) (rG hl ?_));haveI e:((st.cls.set i.toNat l)[i.toNat]?).map iL=some o:=e;haveI e:=(gj hi)▸e;exact e
  .by_cases y:s=.cls
   .subst y;refine rG (jC (λe=>by cases e)) (rG (aI _ _ _) ?_);refine rB e ?_;refine(?_:_=some (dr.list ((List.range (st.cls.set i.toNat l).length).map _)));refine rG d7 ?_
    congr 2
    refine List.ext_getElem? λj=>?_;refine rG (List.getElem?_set) (rG (fA) (rG (au _) (rG dZ ?_)));by_cases q:i.toNat=j
    .subst q;refine rG (az rfl) (rG (az hi) (rG (fA) (rG (qc hi) ?_)));refine(?_:_=some (V.ref (dk lay (.c i.toNat) r (.c i.toNat))));exact rG (lN _ _ _) rfl
    .refine rG (ax q) (rG (fA) ?_)
     cases w:(List.range st.cls.length)[j]? with
     |none=>rfl
     |some j'=>
      haveI:j=j':=by
       haveI:=List.getElem?_eq_some_iff.mp w;refine ag this λU h=>?_;haveI h:=(List.getElem_range _)▸h;exact h
      subst this;refine(?_:some _=some (V.ref (dk lay (.c i.toNat) r (.c j))));exact rG (jC (λe=>q (by cases e;rfl))) rfl
   .refine rG (e1 s y z) ?_;refine a.obj s o ?_
    cases s with
    |c j=>
     haveI e:((st.cls.set i.toNat l)[j]?).map iL=some o:=e;rw[gk (λq=>z (by rw[q]))] at e;exact e
    |cls=>exact absurd rfl y
    |_=>exact e
end
section
variable{co pr:Ref}{lay:Sl->Ref}{st:St}{H:MH}{Q:PV}{K:MH->Prop}
theorem ac.aag(a:ac co pr lay st H)(hz:st.cls.length<aO)(hr:r.t=cJ (.c st.cls.length))(hl:H r=some (iL l))(k: ∀H',ac co pr (dk lay (.c st.cls.length) r) (st.iJ (st.cls++[l])) H'->aR lay H H'->Q .none H'):eO (lay .cls) "append" [.ref r] Q H:=by
 refine jA (a.obj .cls _ rfl) (by refine rG (au _) (rG dZ ?_);exact hz) (k _ ?_ mT);haveI tg:=sH a.tag hr;haveI ne: ∀s,s≠.c st.cls.length->dk lay (.c st.cls.length) r s=lay s:=λs h=>jC h;have nl: ∀s,s≠.cls->dk lay (.c st.cls.length) r s≠lay .cls:=λs h=>dz (by refine rG (tg s) (rG (a.tag _) ?_);exact λe=>h (mR e));have e1: ∀s,s≠.cls->s≠.c st.cls.length->Internal.upd H (lay .cls) (.list (((List.range st.cls.length).map λi=>V.ref (lay (.c i)))++[.ref r])) (dk lay (.c st.cls.length) r s)=H (lay s):=λs h h'=>by exact rG (aD (nl s h)) (rG (ne s h') rfl)
 refine⟨a.gu,a.gR,tg,(aD (a.qG _)).trans a.core,?_,(aD (a.qH _)).trans a.af,?_,?_,?_,λs o e=>?_⟩
 .exact dj.of_eq (H:=H) (r:=lay .cI) (aD (a.ns (by exact fH rfl))) a.cI
 .exact dj.of_eq (H:=H) (r:=lay .gQ) (aD (a.ns (by exact fH rfl))) a.i6
 .refine rG (e1 _ (by exact fH rfl) (λe=>by cases e)) ?_;exact a.heap
 .exact dj.of_eq (H:=H) (r:=lay .dy) (aD (a.ns (by exact fH rfl))) a.dy
 .by_cases z:s=.c st.cls.length
  .subst z;refine rG (aD (nl _ (λe=>by cases e))) (rG (lN _ _ _) (rG hl ?_));haveI e:((st.cls++[l])[st.cls.length]?).map iL=some o:=e;haveI e:=(g9)▸e;exact e
  .by_cases y:s=.cls
   .subst y;refine rG (jC (λe=>by cases e)) (rG (aI _ _ _) ?_);refine rB e ?_;refine(?_:_=some (dr.list ((List.range (st.cls++[l]).length).map _)));refine rG bm (rG cV (rG List.range_succ (rG cN ?_)))
    congr 3
    .refine p9 λj hj=>?_;haveI hj:=List.mem_range.mp hj;exact rG (jC (λe=>by cases e;exact y9 hj)) rfl
    .refine(?_:_=[V.ref (dk lay (.c st.cls.length) r (.c st.cls.length))]);exact rG (lN _ _ _) rfl
   .refine rG (e1 s y z) ?_;refine a.obj s o ?_
    cases s with
    |c j=>
     haveI e:((st.cls++[l])[j]?).map iL=some o:=e;refine rB e ?_;refine(?_:(st.cls[j]?).map iL=_);by_cases q:j<st.cls.length
     .exact rG (gi q) rfl
     .haveI hj:j≠st.cls.length:=λw=>z (by exact rG w rfl);exact rG (rE (Nat.le_of_not_lt q)) (rG (rE (by rw[bm,cV];exact DF q hj)) rfl)
    |cls=>exact absurd rfl y
    |_=>exact e
theorem ac.Ik(a:ac co pr lay st H)(hz:st.aq.length<aO)(hr:r.t=cJ (.w st.aq.length))(hl:H r=some (iL l))(k: ∀H',ac co pr (dk lay (.w st.aq.length) r) (st.jB (st.aq++[l])) H'->aR lay H H'->Q .none H'):eO (lay .aq) "append" [.ref r] Q H:=by
 refine jA (a.obj .aq _ rfl) (by refine rG (au _) (rG dZ ?_);exact hz) (k _ ?_ mT);haveI tg:=sH a.tag hr;haveI ne: ∀s,s≠.w st.aq.length->dk lay (.w st.aq.length) r s=lay s:=λs h=>jC h;have nl: ∀s,s≠.aq->dk lay (.w st.aq.length) r s≠lay .aq:=λs h=>dz (by refine rG (tg s) (rG (a.tag _) ?_);exact λe=>h (mR e));have e1: ∀s,s≠.aq->s≠.w st.aq.length->Internal.upd H (lay .aq) (.list (((List.range st.aq.length).map λi=>V.ref (lay (.w i)))++[.ref r])) (dk lay (.w st.aq.length) r s)=H (lay s):=λs h h'=>by exact rG (aD (nl s h)) (rG (ne s h') rfl)
 refine⟨a.gu,a.gR,tg,(aD (a.qG _)).trans a.core,?_,(aD (a.qH _)).trans a.af,?_,?_,?_,λs o e=>?_⟩
 .exact dj.of_eq (H:=H) (r:=lay .cI) (aD (a.ns (by exact fH rfl))) a.cI
 .exact dj.of_eq (H:=H) (r:=lay .gQ) (aD (a.ns (by exact fH rfl))) a.i6
 .refine rG (e1 _ (by exact fH rfl) (λe=>by cases e)) ?_;exact a.heap
 .exact dj.of_eq (H:=H) (r:=lay .dy) (aD (a.ns (by exact fH rfl))) a.dy
 .by_cases z:s=.w st.aq.length
  .subst z;refine rG (aD (nl _ (λe=>by cases e))) (rG (lN _ _ _) (rG hl ?_));haveI e:((st.aq++[l])[st.aq.length]?).map iL=some o:=e;haveI e:=(g9)▸e;exact e
  .by_cases y:s=.aq
   .subst y;refine rG (jC (λe=>by cases e)) (rG (aI _ _ _) ?_);refine rB e ?_;refine(?_:_=some (dr.list ((List.range (st.aq++[l]).length).map _)));refine rG bm (rG cV (rG List.range_succ (rG cN ?_)))
    congr 3
    .refine p9 λj hj=>?_;haveI hj:=List.mem_range.mp hj;exact rG (jC (λe=>by cases e;exact y9 hj)) rfl
    .refine(?_:_=[V.ref (dk lay (.w st.aq.length) r (.w st.aq.length))]);exact rG (lN _ _ _) rfl
   .refine rG (e1 s y z) ?_;refine a.obj s o ?_
    cases s with
    |w j=>
     haveI e:((st.aq++[l])[j]?).map iL=some o:=e;refine rB e ?_;refine(?_:(st.aq[j]?).map iL=_);by_cases q:j<st.aq.length
     .exact rG (gi q) rfl
     .haveI hj:j≠st.aq.length:=λw=>z (by exact rG w rfl);exact rG (rE (Nat.le_of_not_lt q)) (rG (rE (by rw[bm,cV];exact DF q hj)) rfl)
    |aq=>exact absurd rfl y
    |_=>exact e
end
noncomputable def kU:List (Addr×List String×List S):=[(100,["self"],XC),(107,["self", "var"],XD),(114,["self", "one", "other"],XE),(121,["self", "n"],XF),(128,["self", "spot", "var"],XG),(135,["self", "spot"],XH),(156,["self", "var"],XI),(212,["lit"],XJ),(219,["lit"],XK),(226,["lits"],XM),(233,["clause"],XN),(247,["self", "hook"],XO),(254,["self"],XQ),(268,["self", "lit"],XR),(275,["self"],XS),(282,["self", "var"],XT),(289,["self", "some"],XU),(296,["self", "clause", "step", "can_drop"],XV),(303,["self", "number"],XW),(317,["self", "lit"],XX),(324,["self", "lits"],XY),(338,["self", "number"],AZ),(345,["self", "lit", "number"],XZ),(352,["self"],X1),(359,["self", "level"],X2),(366,["self"],X3),(373,["self", "gone"],X4),(380,["self", "number", "lits"],X5),(417,["self"],X6),(424,["self", "lits", "step"],X7),(438,["self"],X8),(445,["self"],X9),(452,["self", "clause", "first", "pairs"],Yb),(457,["self", "some"],Yc),(464,["self", "var"],Yd),(469,["self", "number"],Ye),(476,["self"],Yg),(551,["self", "lit"],Yh),(558,["self", "number", "skipped", "marked", "roots"],Yi),(571,["literal"],Yj),(578,["literals"],Yk),(585,["clause"],Yl),(590,["one", "other", "variable"],Ym),(604,["self"],Yn),(632,["self"],Yo),(639,["self", "step"],Yp),(653,["self", "rule", "clause", "premises", "note"],Yq),(658,["self", "first", "pairs"],Yr),(679,["self", "last"],Ys),(698,["self", "last"],Yt),(722,["vat", "many"],Yu),(729,["vat", "n"],Yv),(734,["clauses", "begun"],HB),(739,["clauses", "literals", "n"],Yw),(744,["core", "decided", "sure"],Yx),(749,["proof", "step", "failed", "clauses", "n"],Yy),(756,["core", "proof", "clauses", "n", "lit", "grounds", "sure", "decided"],Yz),(761,["script"],sA)]
noncomputable def Bl(K:Frag):Bool:=kU.all λe=>pc K e.1 e.2.1 e.2.2&&pe K e.1 e.2.1
theorem Il{α:Type}{a:Addr}{x:α}: ∀{l:List (Addr×α)},l.lookup a=some x->(a,x)∈l
 |(b,y)::l,h=>by
  rw[gC] at h
  cases e:a==b with
  |true=>replace h:=e▸h;cases h;refine rG (eq_of_beq e) ?_;exact .head _
  |false=>replace h:=e▸h;exact .tail _ (Il h)
theorem vd{K:Frag}(h:Bl K=true){a:Addr}(e:kU.lookup a=some (ps,ss)):(pc K a ps ss&&pe K a ps)=true:=List.all_eq_true.mp h _ (Il e)
structure Env(C:Cfg):Prop where
 ok:C.Ok
 tok:tabs.Ok C
 fns:Bl C.K=true
theorem Env.oZ(E:Env C)(h:kU.lookup a=some (params,ss))(hl:params.length=args.length)
  (k:bo C tabs n ss (cR Q) (da (λU=>none) params args) H):aM C (n+1) (.con (.ref a)) args Q H:=by
 exact V2 E.ok E.tok (aV (vd E.fns h)) (aY (vd E.fns h)) hl k
theorem Env.Im(E:Env C)(h:kU.lookup a=some (params,ss))(hl:params.length=args.length)
  (k:bo C tabs n ss (cR Q) (da (λU=>none) params args) H):jw C (n+1) (.con (.ref a)) args Q H:=by
 exact GI E.ok E.tok (aV (vd E.fns h)) (aY (vd E.fns h)) hl k
section
variable(C:Cfg)(T:bG)(n:Nat)(m:MM)
noncomputable abbrev kE1(K:List V->MH->Prop)(v:V)(H:MH):Prop:=K [v] H
noncomputable abbrev kEb(v:V)(K:List V->MH->Prop)(w:V)(H:MH):Prop:=K [v,w] H
noncomputable abbrev kE2(y:X)(K:List V->MH->Prop)(v:V)(H:MH):Prop:=al C T n m y (kEb v K) H
noncomputable abbrev kEd(v w:V)(K:List V->MH->Prop)(u:V)(H:MH):Prop:=K [v,w,u] H
noncomputable abbrev kEc(z:X)(v:V)(K:List V->MH->Prop)(w:V)(H:MH):Prop:=al C T n m z (kEd v w K) H
noncomputable abbrev kE3(y z:X)(K:List V->MH->Prop)(v:V)(H:MH):Prop:=al C T n m y (kEc C T n m z v K) H
end
section
variable{C:Cfg}{T:bG}{n:Nat}{m:MM}{H:MH}{K:List V->MH->Prop}
theorem ahd(k:K [] H):eV C T n m [] [] K H:=k
theorem Io(k:al C T n m x (kE1 K) H):eV C T n m [x] [] K H:=k
theorem ahe(k:al C T n m x (kE2 C T n m y K) H):eV C T n m [x,y] [] K H:=k
theorem ahf(k:al C T n m x (kE3 C T n m y z K) H):eV C T n m [x,y,z] [] K H:=k
theorem ahg(k:al C T n m x (λv aj=>al C T n m y (λw aA=>al C T n m z (λu bh=>al C T n m t (λr cm=>K [v,w,u,r] cm) bh) aA) aj) H):eV C T n m [x,y,z,t] [] K H:=k
theorem ahh(k:al C T n m x (λv aj=>al C T n m y (λw aA=>al C T n m z (λu bh=>al C T n m t (λr cm=>al C T n m q (λs iZ=>K [v,w,u,r,s] iZ) cm) bh) aA) aj) H):eV C T n m [x,y,z,t,q] [] K H:=k
theorem ahi(k:bH C T n m t (λc aj=>(c=true->bo C T n a P m aj)/\(c=false->bo C T n b P m aj)) H)(mono: ∀{B B':Bool->MH->Prop},(∀c H,B c H->B' c H)->bH C T n m t B H->bH C T n m t B' H):wpS C T n (.ite t a b) P m H:=
 mono (λc H h=>by cases c;exact h.2 rfl;exact h.1 rfl) k
theorem aJ{c:Bool}{p q:Prop}(h1:c=true->p)(h2:c=false->q):if c=true then p else q:=by
 cases c
 .exact h2 rfl
 .exact h1 rfl
theorem ahj(k:al C T n m it (Za C T n m t body P) H):wpS C T n (.dF t it body) P m H:=k
theorem ahk(k: ∃j,oP (Zb C T n t) (Zc C T n body) j P m H):wpS C T n (.mj t body) P m H:=k
theorem aan(k:al C T n m it (Zh C T n m t e c Q) H):al C T n m (.comp e t it c) Q H:=k
theorem sI(bt:r≠r')(e:H r=some (.list xs))(e':H r'=some (.list []))(k:Q (.bool xs.isEmpty) H):de .Eq (.ref r) (.ref r') Q H:=.ER e e' k
theorem aao(bt:r≠r')(e:H r=some (.list xs))(e':H r'=some (.list []))(k:Q (.bool (!xs.isEmpty)) H):de .NotEq (.ref r) (.ref r') Q H:=.ES e e' k
theorem aap(bt:r≠r')(e:H r=some (iL as))(e':H r'=some (iL bs))(k:Q (.bool (decide (as=bs))) H):de .Eq (.ref r) (.ref r') Q H:=.ET e e' k
theorem Bm(bt:r≠r')(e:H r=some (iL as))(e':H r'=some (iL bs))(k:Q (.bool (!decide (as=bs))) H):de .NotEq (.ref r) (.ref r') Q H:=.EU e e' k
theorem sJ(e:H r=some (iL as))(k:Q (.bool (decide (a∈as))) H):de .In (.int a) (.ref r) Q H:=.inl e k
theorem ve{as:List Int}(k:Q (.bool (decide (a∈as))) H):de .In (.int a) (.tup (as.map V.int)) Q H:=.int k
theorem Ip(e:H r=some (.dict es))(k:Q (.bool (es.any λp=>decide (p.1=a))) H):de .In (.int a) (.ref r) Q H:=.ind e k
theorem xF(e:H r=some (iL as))(k:Q (.bool (!decide (a∈as))) H):de .NotIn (.int a) (.ref r) Q H:=.EW e k
theorem am.upd(k:am H H')(hr:H r=none):am H (upd H' r o):=λx o' e=>by
 refine rG (aD (λz=>by rw[z,hr] at e;exact Ns e)) ?_;exact k x o' e
theorem bF.upd(k:bF H H')(hr:H r=none):bF H (Internal.upd H' r o):=λx o' t e=>by
 refine rG (aD (λz=>by rw[z,hr] at e;exact Ns e)) ?_;exact k x o' t e
theorem some_ne_none(e:H r=some o)(e':H r'=none):r≠r':=λz=>by replace e:=e'▸z▸e;exact Ns e
end
section
variable{C:Cfg}{n:Nat}{H:MH}{Q:PV}{a:Addr}{ss:List S}{x1 x2 x3 x4 x5 x6 x7 x8:V}
abbrev em:MM:=λU=>none
theorem Env.iN(E:Env C)(h:kU.lookup a=some ([p1],ss))(k:bo C tabs n ss (cR Q) (set em p1 x1) H):aM C (n+1) (.con (.ref a)) [x1] Q H:=E.oZ h rfl k
theorem Env.aaq(E:Env C)(h:kU.lookup a=some ([p1],ss))(k:bo C tabs n ss (cR Q) (set em p1 x1) H):jw C (n+1) (.con (.ref a)) [x1] Q H:=E.Im h rfl k
theorem Env.eY(E:Env C)(h:kU.lookup a=some ([p1,p2],ss))(k:bo C tabs n ss (cR Q) (set (set em p1 x1) p2 x2) H):aM C (n+1) (.con (.ref a)) [x1,x2] Q H:=E.oZ h rfl k
theorem Env.Bn(E:Env C)(h:kU.lookup a=some ([p1,p2],ss))(k:bo C tabs n ss (cR Q) (set (set em p1 x1) p2 x2) H):jw C (n+1) (.con (.ref a)) [x1,x2] Q H:=E.Im h rfl k
theorem Env.og(E:Env C)(h:kU.lookup a=some ([p1,p2,p3],ss))(k:bo C tabs n ss (cR Q) (set (set (set em p1 x1) p2 x2) p3 x3) H):aM C (n+1) (.con (.ref a)) [x1,x2,x3] Q H:=E.oZ h rfl k
theorem Env.Iq(E:Env C)(h:kU.lookup a=some ([p1,p2,p3,p4],ss))(k:bo C tabs n ss (cR Q) (set (set (set (set em p1 x1) p2 x2) p3 x3) p4 x4) H):aM C (n+1) (.con (.ref a)) [x1,x2,x3,x4] Q H:=E.oZ h rfl k
theorem Env.Bo(E:Env C)(h:kU.lookup a=some ([p1,p2,p3,p4,p5],ss))(k:bo C tabs n ss (cR Q) (set (set (set (set (set em p1 x1) p2 x2) p3 x3) p4 x4) p5 x5) H):aM C (n+1) (.con (.ref a)) [x1,x2,x3,x4,x5] Q H:=E.oZ h rfl k
theorem Env.aar(E:Env C)(h:kU.lookup a=some ([p1,p2,p3,p4,p5,p6,p7,p8],ss))(k:bo C tabs n ss (cR Q) (set (set (set (set (set (set (set (set em p1 x1) p2 x2) p3 x3) p4 x4) p5 x5) p6 x6) p7 x7) p8 x8) H):aM C (n+1) (.con (.ref a)) [x1,x2,x3,x4,x5,x6,x7,x8] Q H:=E.oZ h rfl k
theorem aas{vs:List V}(h:Nat.blt vs.length 1000000=true)(k:p):vs.length<aO/\p:=⟨by haveI:=Nat.blt_eq.mp h;exact this,k⟩
end
open Lean in
local macro_rules
 | `(tactic|fail $s)=>do
  let s:=s.getString
  match s.splitOn " " with
  |w::v::l=> `(tactic|first|fail $(quote w)|fail $(quote (" ".intercalate (v::l))))
  |_=>
   let c:=s.back
   let u:=s.dropEnd 1|>.toString
   let t:=quote u
   if c=='!' then `(tactic|(fail $t;exact rfl))
   else if c=='?' then `(tactic|(fail $t;walk_at "var"))
   else if c=='*' then `(tactic|with_reducible apply $(mkIdent u.toName) (by assumption))
   else `(tactic|with_reducible apply $(mkIdent s.toName))
local macro_rules | `(tactic|walk_at "var")=> `(tactic|first|exact rfl|assumption)
local macro_rules | `(tactic|walk_at"w")=> `(tactic|fail "A2 ob agK!? agL!?? agM!??? agN!? agO!?? agP!??? agQ? agR?? agS??? agT???? agU? agV?? agW??? agX???? A6!! A7!! agA?? agJ?? agB?? A5? agC?? agD?? agE!! agF!! agG?? agH?? agI? af0 af1 af2 pj af3 HP af4 af5 af6 ahj ahk af7 af8 af9 A3 Zi HQ aga agb Zj! HR? age Zp HU HS! Zn HT Zo Io ahe ahf ahd ahg ahh agc agd agf Zk agg agh agl agn Zl aan Zm agi agj agk agm ago agp agq agr ags agt agu agv Zr agw Zs Zt agx Zu agy HW? agz aas! agY agZ ag0 ag1 ag2 ag3 ag4 ag5 ag6! ag7! ac.attr*!!! ac.aha*!!! ac.iz*!!! ac.ahb*!! ac.ao*!! ac.ahc*!! ac.methP*!!")
local macro_rules | `(tactic|walk_at"ws")=> `(tactic|repeat walk_at"w")
section
variable{C:Cfg}{n:Nat}{H:MH}{Q:PV}{co pr:Ref}{lay:Sl->Ref}{st:St}
noncomputable def bz(l:Int):Nat:=if 0<l then (2*l).toNat else (1-2*l).toNat
theorem vg(E:Env C)(hl:l.natAbs<1000)(k:Q (.int (bz l)) H):aM C (n+1) (.con (.ref 212)) [.int l] Q H:=by
 refine E.iN rfl ?_;walk_at"ws";refine aJ (λh=>?_) (λh=>?_)<;>simp only[bf,ct] at h
 .walk_at"ws";refine mM (by exact DH hl) ?_;haveI:(bz l:Int)=2*l:=by unfold bz;refine rG (az h) ?_;exact LP h
  haveI k:=this▸k;exact k
 .walk_at"ws";refine mM (by exact DH hl) ?_;walk_at"ws";haveI:(bz l:Int)=1-2*l:=by unfold bz;refine rG (ax h) ?_;exact LO h
  haveI k:=this▸k;exact k
theorem aat(E:Env C)(k:Q (.tup [.int l.natAbs,.int l]) H):aM C (n+1) (.con (.ref 219)) [.int l] Q H:=by
 refine E.iN rfl ?_;walk_at"ws";refine gM ?_;walk_at"ws";exact k
theorem aau(E:Env C)(k:Q (.tup [.int l.natAbs,.bool (decide (0<l))]) H):aM C (n+1) (.con (.ref 571)) [.int l] Q H:=by
 refine E.iN rfl ?_;walk_at"ws";refine gM ?_;walk_at"ws";exact k
theorem lid:aO=1000000:=rfl
noncomputable def at'(l:List Int)(i:Int):Int:=l.getD i.toNat 0
structure bU(N:Nat)(st:St):Prop where
 big:N<=5
 asg:st.asg.length=N+1
 lvl:st.lvl.length=N+1
 aB:st.aB.length=N+1
 bk:st.bk.length=N+1
 bB:st.bB.length=N+1
 seen:st.seen.length=N+1
 aQ:st.aQ.length=N+1
 aq:st.aq.length=2*N+2
 aa:st.aa.length<=N
 ah:st.ah.length<=N
 cls:st.cls.length<=8
 aW:st.aW.length=st.cls.length
 act:st.act.length<=8
 bS:st.bS.length<=8
 af:st.af.steps.length<60
 hp:st.bR.length=N+1/\ ∀v:Int,0<v->v<=N->0<=at' st.bR v
theorem gS(h0:0<=i)(h1:i<l.length):l[i.toNat]?=some (at' l i):=by
 unfold at';refine rG (iT) (rG (eL (oA h0 h1)) ?_);rfl
noncomputable def val(st:St)(l:Int):Int:=if 0<l then at' st.asg l else-at' st.asg (-l)
theorem aav(E:Env C)(a:ac co pr lay st H)(hz:st.asg.length<100)(hl:l.natAbs<st.asg.length)(k:Q (.int (val st l)) H):aM C (n+1) (.con (.ref 268)) [.ref co,.int l] Q H:=by
 refine E.eY rfl ?_;walk_at"ws";refine aJ (λh=>?_) (λh=>?_)<;>simp only[bf,ct] at h
 .walk_at"ws";refine bC (a.obj .asg _ rfl) (bI hz rfl) (oK h) (gS (oK h) (Kn hl h)) ?_;unfold val at k;haveI k:=(az h)▸k;exact k
 .walk_at"ws";refine bC (a.obj .asg _ rfl) (bI hz rfl) (by exact DG h) (gS (by exact DG h) (by exact LN hl)) ?_;unfold val at k;haveI k:=(ax h)▸k;walk_at"ws";exact k
end
theorem aaw{α β:Type}{g:α->β}{l1 l2:List β}(h:l1.Perm l2): ∀{xs:List α},l2=xs.map g-> ∃ys:List α,ys.Perm xs/\l1=ys.map g:=by
 induction h with
 |nil=>
  intro xs e
  cases xs with
  |nil=>exact⟨[],.nil,rfl⟩
  |cons a b=>exact Nc e
 |cons x h ih=>
  intro xs e
  cases xs with
  |nil=>exact Cn e
  |cons a xs=>
   injection e with e1 e2
   refine ab (ih e2) λys hp o1=>?_;subst o1;exact⟨a::ys,hp.cons a,by refine rG e1 ?_;rfl⟩
 |swap x y l=>
  intro xs e
  cases xs with
  |nil=>exact Cn e
  |cons a xs=>cases xs with
   |nil=>cases e
   |cons b xs=>
    injection e with e1 e2
    injection e2 with e2 e3
    exact⟨b::a::xs,.swap _ _ _,by refine rG e1 (rG e2 (rG e3 ?_));rfl⟩
 |trans h1 h2 ih1 As=>
  intro xs e;refine ab (As e) λys hp e'=>?_;refine ab (ih1 e') λzs hq e''=>?_;exact⟨zs,hq.trans hp,e''⟩
theorem xG{rev:Bool}{g:Int->V}(h:n4 rev (xs.map g) (xs.map V.int) out): ∃ys:List Int,ys.Perm xs/\out=ys.map V.int/\ys.Pairwise λa b=>(if rev=true then KL (g a) (g b) else KL (g b) (g a))=false:=by
 obtain ⟨ps,hp,rfl,hs⟩:=h;have e:(xs.map g).zip (xs.map V.int)=xs.map λx=>(g x,V.int x):=by
  clear hp
  induction xs with
  |nil=>rfl
  |cons x xs ih=>simp only[dq,List.zip_cons_cons,ih]
 refine ab (aaw hp e) λys hy o3=>?_;subst o3;refine⟨ys,hy,by refine rG eN ?_;rfl,?_⟩;rw[eC] at hs;exact hs
noncomputable def ez(l:List Int):Prop:=l.Pairwise λa b=>a.natAbs<b.natAbs
theorem xH(hp:ys.Perm xs)(hn:(xs.map Int.natAbs).Nodup)(h:ys.Pairwise λa b=>a.natAbs<=b.natAbs):ez ys:=by
 have kO:(ys.map Int.natAbs).Nodup:=(hp.map _).nodup_iff.mpr hn;unfold List.Nodup at kO;rw[eC] at kO;exact(h.and kO).imp λaaz=>aE aaz λa b=>Nat.lt_of_le_of_ne a b
theorem sK(h:ez l):(l.map Int.natAbs).Nodup:=by
 unfold List.Nodup;refine rI eC ?_;exact h.imp λq=>Nat.ne_of_lt q
theorem qJ: ∀{a b:List Int},ez a->ez b->(∀x,x∈a↔x∈b)->a=b
 |[],[],_,_,_=>rfl
 |[],b::_,_,_,h=>by have:=(h b).mpr (.head _);cases this
 |a::_,[],_,_,h=>by have:=(h a).mp (.head _);cases this
 |a::as,b::bs,ha,hb,h=>by
  have gO:=List.pairwise_cons.mp ha;have iF:=List.pairwise_cons.mp hb;have e:a=b:=by
   rcases List.mem_cons.mp ((h a).mp (.head _)) with e|e
   .exact e
   .rcases List.mem_cons.mp ((h b).mpr (.head _)) with e'|e'
    .exact e'.symm
    .have:=gO.1 b e';have:=iF.1 a e;exact(LR (by assumption) this).elim
  subst e
  congr 1
  refine qJ gO.2 iF.2 λx=>⟨λhx=>?_,λhx=>?_⟩
  .rcases List.mem_cons.mp ((h x).mp (.tail _ hx)) with e|e
   .subst e;have:=gO.1 x hx;exact(zb this).elim
   .exact e
  .rcases List.mem_cons.mp ((h x).mpr (.tail _ hx)) with e|e
   .subst e;have:=iF.1 x hx;exact(zb this).elim
   .exact e
theorem Bp(H:MH)(r:Ref)(a b:dr):upd (upd H r a) r b=upd H r b:=by
 funext x;unfold upd;split<;>rfl
section
variable{C:Cfg}{n:Nat}{H:MH}{Q:PV}{co pr:Ref}{lay:Sl->Ref}{st:St}
theorem vh{K:List V->MH->Prop}{g:V->V}: ∀{xs acc:List V},(∀x,x∈xs-> ∀(Q:PV),Q (g x) H->aM C n kx [x] Q H)->K (acc++xs.map g) H->n6 C n kx xs acc K H
 |[],acc,_,k=>by replace k:=(f5 _)▸List.map_nil▸k;exact k
 |x::xs,acc,h,k=>h x (.head _) _ (vh (λy hy=>h y (.tail _ hy)) (by simpa using k))
theorem Ir{f:Int->Int}(src:(∃r,a=.ref r/\H r=some (iL xs))∨a=.tup (xs.map V.int))(h5:xs.length<=5)(hk:sv kx=true)
  (aaA: ∀x,x∈xs-> ∀(Q:PV),Q (.int (f x)) H->aM C n kx [.int x] Q H) (t:Nat)
  (k: ∀ys:List Int,ys.Perm xs->(ys.Pairwise λa b=>if rev.getD false=true then f b<=f a else f a<=f b)-> ∀r:Ref,H r=none->r.t=t->Q (.ref r) (upd H r (iL ys))):lB C (n+1) "sorted" a kx rev Q H:=by
 refine Hk (xs:=xs.map V.int) (by rcases src with ⟨r,rfl,e⟩|e;exact .inl ⟨r,rfl,e⟩;exact .inr e) (by refine rG (au _) ?_;exact h5) hk (vh (g:=λv=>match v with| .int x=>.int (f x)|v=>v) (λx hx Q q=>?_) ⟨.inl λk dg=>?_,λout ho=>?_⟩)
 .refine ab (List.mem_map.mp hx) λy hy o4=>?_;subst o4;exact aaA y hy Q q
 .replace dg:=eN▸(gD _)▸dg;refine ab (List.mem_map.mp dg) λy hy o5=>?_;subst o5;exact⟨_,rfl⟩
 .replace ho:=eN▸(gD _)▸ho;refine bX (xG (g:=λx=>V.int (f x)) ho) λys hp o6 hs=>?_;subst o6;refine alloc t λr hr ht=>k ys hp (hs.imp λ{a b} q=>?_) r hr ht;split at q<;>rename_i z
  .refine rG (az z) ?_;simp only[w8,ct] at q;exact za q
  .refine rG (ax z) ?_;simp only[w8,ct] at q;exact za q
theorem It(E:Env C)(src:(∃r,a=.ref r/\H r=some (iL xs))∨a=.tup (xs.map V.int))(h5:xs.length<=5)(t:Nat)
  (k: ∀ys:List Int,ys.Perm xs->(ys.Pairwise λa b=>a.natAbs<=b.natAbs)-> ∀r:Ref,H r=none->r.t=t->Q (.ref r) (upd H r (iL ys))):lB C (n+2) "sorted" a (.con (.ref 219)) none Q H:=by
 refine Hk (n:=n+1) (xs:=xs.map V.int) (by rcases src with ⟨r,rfl,e⟩|e;exact .inl ⟨r,rfl,e⟩;exact .inr e) (by refine rG (au _) ?_;exact h5) rfl (vh (g:=λv=>match v with| .int x=>.tup [.int x.natAbs,.int x]|v=>v) (λx hx Q q=>?_) ⟨.inr (.inl λk dg=>?_),λout ho=>?_⟩)
 .refine ab (List.mem_map.mp hx) λy hy o7=>?_;subst o7;exact aat E q
 .replace dg:=eN▸(gD _)▸dg;refine ab (List.mem_map.mp dg) λy hy o8=>?_;subst o8;exact⟨_,_,rfl⟩
 .replace ho:=eN▸(gD _)▸ho;refine bX (xG (g:=λx=>V.tup [.int x.natAbs,.int x]) ho) λys hp o9 hs=>?_;subst o9;refine alloc t λr hr ht=>k ys hp (hs.imp λ{a b} q=>?_) r hr ht;simp only[w7,Option.getD_none,nB,ix,Bool.or_eq_false_iff,ct] at q;exact DI q.1
theorem Iu(src:(∃r,a=.ref r/\H r=some (iL xs))∨a=.tup (xs.map V.int))(h5:xs.length<=5)(t:Nat)
  (k: ∀ys:List Int,ys.Perm xs->(ys.Pairwise λa b=>a.natAbs<=b.natAbs)-> ∀r:Ref,H r=none->r.t=t->Q (.ref r) (upd H r (iL ys))):lB C (n+2) "sorted" a (.con (.builtin "abs")) none Q H:=by
 refine Ir (n:=n+1) (f:=λx=>x.natAbs) src h5 rfl (λx U Q q=>gM q) t λys hp hs r hr ht=>k ys hp (hs.imp λ{a b} q=>?_) r hr ht;simp only[Option.getD_none,nB,ix] at q;exact yO q
end
theorem map_some{α:Type}{g:α->V}{xs:List α}{i:Nat}(h:(xs.map g)[i]?=some x): ∃y,xs[i]?=some y/\x=g y:=by
 replace h:=(fA)▸h
 cases e:xs[i]? with
 |none=>replace h:=e▸h;exact Ns h
 |some y=>replace h:=e▸h;cases h;exact⟨y,rfl,rfl⟩
theorem take_snoc{α:Type}{xs:List α}{i:Nat}{x:α}(h:xs[i]?=some x):xs.take (i+1)=xs.take i++[x]:=by
 refine rG List.take_add_one (rG h ?_);rfl
section
variable{C:Cfg}{n:Nat}{H:MH}{Q:PV}{co pr:Ref}{lay:Sl->Ref}{st:St}
theorem Bq(E:Env C){a:V}{xs:List Int}(src:(∃r,a=.ref r/\H r=some (iL xs))∨a=.tup (xs.map V.int))(h5:xs.length<=5)(hn:(xs.map Int.natAbs).Nodup)
  (k: ∀ys,ys.Perm xs->ez ys-> ∀H',am H H'->Q (.tup (ys.map V.int)) H'):aM C (n+3) (.con (.ref 226)) [a] Q H:=by
 refine E.iN rfl ?_;walk_at"ws";refine alloc 5 λr hr ht=>?_;walk_at"ws";refine It E (by rcases src with ⟨r',rfl,e⟩|e;exact .inl ⟨r',rfl,am.fresh hr _ _ e⟩;exact .inr e) h5 6 λys hp hs r2 bZ qK=>?_;have hS:=xH hp hn hs;have oh:ys.length<=5:=by refine rG hp.length_eq ?_;exact h5
 haveI e1:upd H r (.list []) r=some (iL []):=aI _ _ _;have bt:r≠r2:=some_ne_none e1 bZ;refine⟨ys.map V.int,sD (λi m H'=>m "found" =some (.ref r)/\H' r=some (iL (ys.take i))/\H' r2=some (iL ys)/\am H H') ?_ ?_ ?_ _ _ ⟨rfl,by refine rG (aD bt) ?_;exact e1,aI _ _ _,(am.fresh hr).trans (am.fresh bZ)⟩⟩
 .intro i m H' o1;refine gW o1 λU U h U=>?_;clear o1;exact h
 .intro i x m H' K hx o2 kn U U U;refine gW o2 λh1 h2 h3 h4=>?_;clear o2;refine ab (map_some hx) λy hy o3=>?_;subst o3;have hi:i<ys.length:=(List.getElem?_eq_some_iff.mp hy).1;refine⟨_,rfl,?_⟩;have app: ∀bc:MH,bc r=some (iL (ys.take i))->bc r2=some (iL ys)->am H bc->K .next (set m "lit" (.int y)) (upd bc r (iL (ys.take (i+1)))):=λbc q2 q3 q4=>
   kn _ _ ⟨h1,aI _ _ _,by refine rG (aD bt.symm) ?_;exact q3,q4.upd hr⟩
  walk_at"ws";refine alloc 7 λr3 dA sL=>?_;have q2:=am.fresh (o:=.list []) dA _ _ h2;refine sI (some_ne_none h2 dA) q2 (aI _ _ _) ?_;walk_at"ws";have go:bo C tabs (n+2) [S.expr (X.ao (X.var "found") "append" [X.var "lit"])] (kT C tabs (n+2) [] K) (set m "lit" (.int y)) (upd H' r3 (.list [])):=by
   walk_at"ws";refine dh q2 ?_;walk_at"ws";refine jA q2 (by refine rG (au _) (rG lid ?_);haveI:=List.length_take_le i ys;exact DK oh hi this) ?_;haveI:=app _ q2 (am.fresh dA _ _ h3) (h4.trans (am.fresh dA));haveI this:=(take_snoc hy)▸this;simp only[iL,cN] at this;exact this
  refine aJ (λU=>go) (λh=>?_);walk_at"ws";have lO:i≠0:=λz=>by subst z;simp at h
  haveI hl:(ys.take i).getLast?=some (ys[i-1]'(by exact DJ hi)):=by
   (refine rG (List.getLast?_eq_getElem?) (rG ku (rG (Nat.min_eq_left (eT hi)) (rG (nq (C5 lO)) ?_)));rw[eL])
  refine ZB q2 (by refine rG (au _) (rG lid ?_);haveI:=List.length_take_le i ys;exact DK oh hi this) (by refine rG (List.getLast?_map) (rG hl ?_);rfl) ?_;walk_at"ws";refine aJ (λU=>go) (λh=>?_);exfalso;haveI h:=wv h;haveI:=List.pairwise_iff_getElem.mp hS (i-1) i (by exact DJ hi) hi (C5 lO);haveI this:=h▸this;haveI e:ys[i]=y:=by haveI hy:=(eL hi)▸hy;exact lx hy
  haveI this:=e▸this;exact(zb this).elim
 .intro m H' o4;refine gW o4 λh1 h2 h3 h4=>?_;clear o4;walk_at"ws";haveI h2:=ko▸(au _)▸h2;refine qy h2 (by refine lm ?_;exact aX oh rfl) ?_;exact k ys hp hS H' h4
end
theorem xI(hc:c=1∨c= -1)(ha:a.natAbs<1000000)(hb:b.natAbs<1000000):Builtin.Range.small a b c=true:=by
 unfold Builtin.Range.small Builtin.Range.rangeFitsLong Builtin.Range.rangeSize;simp only[jN,bf,Bool.or_eq_true,beq_iff_eq];rcases hc with rfl|rfl
 .refine⟨⟨⟨⟨by exact wz ha,by exact wz hb⟩,by exact Mf⟩,?_⟩,.inr ?_⟩
  .refine rG (az (aC 0)) ?_;split<;>simp<;>exact Me ha hb
  .refine rG (az (aC 0)) ?_;simp;exact DP hb
 .refine⟨⟨⟨⟨by exact wz ha,by exact wz hb⟩,by exact Md⟩,?_⟩,.inr ?_⟩
  .refine rG (ax (by exact zc)) ?_;split<;>simp<;>exact Mc ha hb
  .refine rG (ax (by exact zc)) ?_;simp;exact DP hb
theorem Br(a b:Int):(iY a b 1).length=(b-a).toNat:=by
 unfold iY Builtin.Range.rangeSize;refine rG (au _) (rG dZ (rG (az (aC 0)) ?_));split<;>simp<;>exact Mb (by assumption)
theorem Iv(a b:Int):(iY a b (-1)).length=(a-b).toNat:=by
 unfold iY Builtin.Range.rangeSize;refine rG (au _) (rG dZ (rG (ax (by exact zc)) ?_));split<;>simp<;>exact Ma (by assumption)
theorem Iw{a b c:Int}{i:Nat}(h:(iY a b c)[i]?=some x):x=.int (a+i*c):=by
 refine ab (map_some h) λy hy o1=>?_;subst o1;refine ag (List.getElem?_eq_some_iff.mp hy) λhl e=>?_;haveI e:=(List.getElem_range _)▸e;subst e;rfl
theorem aaB{a b:Int}{i:Nat}(h:(iY a b 1)[i]?=some x):x=.int (a+i)/\a+i<b:=by
 haveI hl:=(List.getElem?_eq_some_iff.mp h).1;haveI hl:=(Br _ _)▸hl;haveI:=Iw h;haveI this:=(Int.mul_one _)▸this;exact⟨this,by exact L9 hl⟩
theorem aaC{a b:Int}{i:Nat}(h:(iY a b (-1))[i]?=some x):x=.int (a-i)/\b<a-i:=by
 haveI hl:=(List.getElem?_eq_some_iff.mp h).1;haveI hl:=(Iv _ _)▸hl;haveI:=Iw h;haveI this:=(by exact L8:a+(i:Int)* -1=a-i)▸this;exact⟨this,by exact L7 hl⟩
theorem kW: ∀(k:Nat) (l:List Nat),l.Nodup->(∀x,x∈l->x<k)->l.length<=k
 |0,[],_,_=>cG _
 |0,x::_,_,h=>by have:=h x (.head _);exact(L6 this).elim
 |k+1,l,hn,h=>by
  have ih:=kW k (l.erase k) (hn.erase _) λx hx=>by
   have:=h x (List.mem_of_mem_erase hx);have:x≠k:=λe=>by subst e;exact(List.Nodup.not_mem_erase hn) hx
   exact wm (by assumption) (by assumption)
  by_cases e:k∈l
  .replace ih:=(List.length_erase_of_mem e)▸ih;exact L5 ih
  .replace ih:=(List.erase_of_not_mem e)▸ih;exact jO ih
theorem Bs(h:ez l)(h0: ∀x,x∈l->x≠0)(hx:x∈l): -x∉l:=λhy=>by
 haveI n0:=h0 x hx;haveI key: ∀{l:List Int},ez l->x∈l-> -x∈l->False:=by
  intro l
  induction l with
  |nil=>intro U hx;cases hx
  |cons a l ih=>
   intro h hx hy;haveI h':=List.pairwise_cons.mp h;rcases List.mem_cons.mp hx with e|e
   .rcases List.mem_cons.mp hy with e'|e'
    .exact(DO n0 e e').elim
    .haveI:=h'.1 _ e';haveI this:=cX e▸this;exact(L4 this).elim
   .rcases List.mem_cons.mp hy with e'|e'
    .haveI:=h'.1 _ e;haveI this:=cX e'▸this;exact(L3 this).elim
    .exact ih h'.2 e e'
 exact key h hx hy
theorem vj{xs:List Int}{i:Nat}(h:xs[i]?=some y):(xs.map V.int)[i]?=some (.int y):=by refine rG (fA) (rG h ?_);rfl
section
variable{body:V->PS->MM->MH->Prop}{Q:PS}
theorem pz{a b:Int}(ha:a.natAbs<1000000)(hb:b.natAbs<1000000)(I:Nat->MM->MH->Prop)
  (step: ∀(i:Nat) m H (K:PS),a+i<b->I i m H->(∀m' H',I (i+1) m' H'->K .next m' H')->(∀m' H',I (i+1) m' H'->K .cont m' H')->(∀m' H',Q .next m' H'->K .brk m' H')->(∀v m' H',Q (.ret v) m' H'->K (.ret v) m' H')->body (.int (a+i)) K m H)
  (fin: ∀m H,I (b-a).toNat m H->Q .next m H) {m:MM} (h:I 0 m H): ∃xs,iA (fS (.bq a b 1) xs) body xs Q m H:=
 ⟨iY a b 1,sD I (λU U U U=>⟨xI (.inl rfl) ha hb,rfl⟩) (λi x m H K hx hi k1 k2 k3 k4=>by refine aE (aaB hx) λo2 hb=>?_;subst o2;exact step i m H K hb hi k1 k2 k3 k4) (by refine rG (Br _ _) ?_;exact fin) _ _ h⟩
theorem Bt{a b:Int}(ha:a.natAbs<1000000)(hb:b.natAbs<1000000)(I:Nat->MM->MH->Prop)
  (step: ∀(i:Nat) m H (K:PS),b<a-i->I i m H->(∀m' H',I (i+1) m' H'->K .next m' H')->(∀m' H',I (i+1) m' H'->K .cont m' H')->(∀m' H',Q .next m' H'->K .brk m' H')->(∀v m' H',Q (.ret v) m' H'->K (.ret v) m' H')->body (.int (a-i)) K m H)
  (fin: ∀m H,I (a-b).toNat m H->Q .next m H) {m:MM} (h:I 0 m H): ∃xs,iA (fS (.bq a b (-1)) xs) body xs Q m H:=
 ⟨iY a b (-1),sD I (λU U U U=>⟨xI (.inr rfl) ha hb,rfl⟩) (λi x m H K hx hi k1 k2 k3 k4=>by refine aE (aaC hx) λo3 hb=>?_;subst o3;exact step i m H K hb hi k1 k2 k3 k4) (by refine rG (Iv _ _) ?_;exact fin) _ _ h⟩
theorem oi{α:Type}(g:α->V)(ys:List α)(I:Nat->MM->MH->Prop)(hV: ∀i m H,I i m H->H r=some (.list (ys.map g)))
  (step: ∀(i:Nat) (y:α) m H (K:PS),ys[i]?=some y->I i m H->(∀m' H',I (i+1) m' H'->K .next m' H')->(∀m' H',I (i+1) m' H'->K .cont m' H')->(∀m' H',Q .next m' H'->K .brk m' H')->(∀v m' H',Q (.ret v) m' H'->K (.ret v) m' H')->body (g y) K m H)
  (fin: ∀m H,I ys.length m H->Q .next m H) (h:I 0 m H): ∃xs,iA (fS (.ref r) xs) body xs Q m H:=
 ⟨ys.map g,sD I hV (λi x m H K hx hi k1 k2 k3 k4=>by refine ab (map_some hx) λy hy o4=>?_;subst o4;exact step i y m H K hy hi k1 k2 k3 k4) (by refine rG (au _) ?_;exact fin) _ _ h⟩
theorem Bu{α:Type}(g:α->V)(ys:List α)(I:Nat->MM->MH->Prop)
  (step: ∀(i:Nat) (y:α) m H (K:PS),ys[i]?=some y->I i m H->(∀m' H',I (i+1) m' H'->K .next m' H')->(∀m' H',I (i+1) m' H'->K .cont m' H')->(∀m' H',Q .next m' H'->K .brk m' H')->(∀v m' H',Q (.ret v) m' H'->K (.ret v) m' H')->body (g y) K m H)
  (fin: ∀m H,I ys.length m H->Q .next m H) (h:I 0 m H): ∃xs,iA (fS (.tup (ys.map g)) xs) body xs Q m H:=
 ⟨ys.map g,sD I (λU U U U=>rfl) (λi x m H K hx hi k1 k2 k3 k4=>by refine ab (map_some hx) λy hy o5=>?_;subst o5;exact step i y m H K hy hi k1 k2 k3 k4) (by refine rG (au _) ?_;exact fin) _ _ h⟩
end
section
variable{C:Cfg}{n:Nat}{H:MH}{Q:PV}{co pr:Ref}{lay:Sl->Ref}{st:St}
theorem aaD(E:Env C){xs:List Int}(h5:xs.length<=5)(hs:ez xs)(k:Q (.bool false) H):aM C (n+1) (.con (.ref 233)) [.tup (xs.map V.int)] Q H:=by
 refine E.iN rfl ?_;walk_at"ws";refine AC (by refine lm ?_;exact aX h5 rfl) ?_;refine AD ?_;refine pz (dO rfl) (by refine rG (au _) ?_;exact aX h5 rfl) (λi m H'=>H'=H/\m "clause" =some (.tup (xs.map V.int))) ?_ ?_ ⟨rfl,rfl⟩
 .intro i m H' K hi o6 kn U U U;refine aE o6 λo7 h1=>?_;clear o6;subst o7;replace hi:=(au _)▸hi;refine⟨_,rfl,?_⟩;haveI e1:xs[(1+(i:Int)).toNat]?=some (xs[i+1]'(by exact DM hi)):=by (refine rG (by exact L2:(1+(i:Int)).toNat=i+1) ?_;rw[eL])
  haveI e2:xs[(1+(i:Int)-1).toNat]?=some (xs[i]'(by exact DN hi)):=by (refine rG (by exact LZ:(1+(i:Int)-1).toNat=i) ?_;rw[eL])
  walk_at"ws";refine jX (by refine lm ?_;exact aX h5 rfl) (aC (1+i)) (vj e1) ?_;walk_at"ws";refine jX (by refine lm ?_;exact aX h5 rfl) (by exact LY) (vj e2) ?_;walk_at"ws";haveI:=List.pairwise_iff_getElem.mp hs i (i+1) (by exact DN hi) (by exact DM hi) (cG i.succ);refine aJ (λh=>?_) (λU=>?_)
  .haveI h:=fP h;exact(LW this h).elim
  .walk_at"ws";exact kn _ _ ⟨rfl,h1⟩
 .intro m H' o8;refine aE o8 λo9 h1=>?_;clear o8;subst o9;walk_at"ws";exact k
theorem aaE(E:Env C){xs:List Int}(h5:xs.length<=5)(hs:ez xs)(h0: ∀x,x∈xs->x≠0)(k:Q (.bool true) H):aM C (n+1) (.con (.ref 585)) [.tup (xs.map V.int)] Q H:=by
 refine E.iN rfl ?_;walk_at"ws";refine AC (by refine lm ?_;exact aX h5 rfl) ?_;refine qx ?_;refine pz (dO rfl) (by refine rG (au _) ?_;exact aX h5 rfl) (λi m H'=>H'=H/\m "clause" =some (.tup (xs.map V.int))) ?_ ?_ ⟨rfl,rfl⟩
 .intro i m H' K hi cY kn U U U;refine aE cY λeb h1=>?_;clear cY;subst eb;replace hi:=(au _)▸hi;refine⟨_,rfl,?_⟩;have e1:xs[(0+(i:Int)).toNat]?=some (xs[i]'(wn hi)):=by (refine rG (yN:(0+(i:Int)).toNat=i) ?_;rw[eL])
  walk_at"ws";refine jX (by refine lm ?_;exact aX h5 rfl) (aC (0+i)) (vj e1) ?_;walk_at"ws";refine aJ (λh=>?_) (λU=>?_)
  .haveI h:=fP h;exact absurd h (h0 _ (List.getElem_mem _))
  .walk_at"ws";refine aJ (λh=>?_) (λU=>?_)
   .haveI h:=fP h;haveI e2:xs[(0+(i:Int)-1).toNat]?=some (xs[i-1]'(by exact DL hi)):=by (refine rG (by exact LV:(0+(i:Int)-1).toNat=i-1) ?_;rw[eL])
    walk_at"ws";refine jX (by refine lm ?_;exact aX h5 rfl) (by exact LU h) (vj e2) ?_;refine gM ?_;walk_at"ws";refine jX (by refine lm ?_;exact aX h5 rfl) (aC (0+i)) (vj e1) ?_;refine gM ?_;walk_at"ws";haveI:=List.pairwise_iff_getElem.mp hs (i-1) i (by exact DL hi) (wn hi) (Ko h);refine aJ (λh=>?_) (λU=>?_)
    .haveI h:=fP h;exact(LS this h).elim
    .walk_at"ws";exact kn _ _ ⟨rfl,h1⟩
   .refine aJ (Ft) (λU=>?_);walk_at"ws";exact kn _ _ ⟨rfl,h1⟩
 .intro m H' f8;refine aE f8 λiC h1=>?_;clear f8;subst iC;walk_at"ws";exact k
end
theorem sM{es:List (Int×V)}:(es.any λp=>decide (p.1=i))=decide (i∈es.map (·.1)):=by
 refine rI Bool.eq_iff_iff (rI List.any_eq_true (rG bf (rI List.mem_map ?_)));constructor
 .intro o1;refine ab o1 λp hp e=>?_;exact⟨p,hp,by simpa using e⟩
 .intro o2;refine ab o2 λp hp e=>?_;exact⟨p,hp,by simpa using e⟩
theorem xJ{es:List (Int×V)}:(putD es i v).map (·.1)=if i∈es.map (·.1) then es.map (·.1) else es.map (·.1)++[i]:=by
 unfold putD;refine rG sM ?_;by_cases h:i∈es.map (·.1)
 .refine rG (az (by simpa using h)) (rG (az h) (rG eN ?_));refine p9 λp U=>?_;refine(?_:(if p.1=i then (p.1,v) else p).1=p.1);split<;>rfl
 .refine rG (ax (by simpa using h)) (rG (ax h) (rG cN ?_));rfl
theorem ib{l:List Int}(h:l[i]?=some y)(x:Int):x∈l.take (i+1)↔x∈l.take i∨x=y:=by
 rw[take_snoc h,dG,cx]
section
variable{C:Cfg}{n:Nat}{H:MH}{Q:PV}{co pr:Ref}{lay:Sl->Ref}{st:St}
theorem sN{l:List Int}(h:(l.map Int.natAbs).Nodup)(hb: ∀x,x∈l->x.natAbs<=5/\x≠0):l.length<=5:=by
 haveI:((l.map Int.natAbs).map (· - 1)).length<=5:=by
  refine kW 5 _ ?_ ?_
  .unfold List.Nodup;refine rI eC ?_;refine ir ?_ h;intro a b ha iF ne e;refine ab (List.mem_map.mp ha) λx hx o3=>?_;subst o3;refine ab (List.mem_map.mp iF) λy hy o4=>?_;subst o4;haveI a1:=hb x hx;haveI a2:=hb y hy;exact ne (R2 e a1 a2)
  .intro x hx;refine ab (List.mem_map.mp hx) λy hy o5=>?_;subst o5;refine ab (List.mem_map.mp hy) λz hz o6=>?_;subst o6;haveI:=hb z hz;exact Mi this.1
 simpa using this
theorem xK{l:List Int}(h:l.Nodup)(hc: ∀x,x∈l-> -x∉l):(l.map Int.natAbs).Nodup:=by
 unfold List.Nodup;refine rI eC ?_;refine ir ?_ h;intro a b ha hb ne e;haveI:b= -a∨b=a:=by exact Mh e
 rcases this with e|e
 .subst e;exact hc a ha hb
 .exact ne e.symm
theorem aaF(E:Env C){r:Ref}(e:H r=some (iL l))(hz:l.length<100)(hb: ∀x,x∈l->x.natAbs<=5/\x≠0)(hc: ∀x,x∈l-> -x∉l)
  (k: ∀ys,ez ys->(∀x,x∈ys↔x∈l)-> ∀H',am H H'->Q (.tup (ys.map V.int)) H'):aM C (n+3) (.con (.ref 578)) [.ref r] Q H:=by
 refine E.iN rfl ?_;walk_at"ws";refine alloc 5 λrk hr ht=>?_;walk_at"ws";refine oi V.int l (λi m H'=> ∃es,m "kept" =some (.ref rk)/\H' rk=some (.dict es)/\H' r=some (iL l)/\am H H'/\(es.map (·.1)).Nodup/\ ∀x,x∈es.map (·.1)↔x∈l.take i) ?_ ?_ ?_ ⟨[],rfl,aI _ _ _,am.fresh hr _ _ e,am.fresh hr,eD,λx=>Iff.rfl⟩
 .intro i m H' o7;refine l8 o7 λes U U h U=>?_;exact h
 .intro i y m H' K hy o8 kn U U U;refine tI o8 λes h1 h2 h3 h4 h5 h6=>?_;haveI hi:i<l.length:=(List.getElem?_eq_some_iff.mp hy).1;haveI jD:y∈l:=bd hy;refine⟨_,rfl,?_⟩;walk_at"ws";refine Ip h2 ?_;walk_at"ws";refine rG sM ?_;refine aJ (λh=>?_) (λU=>?_)
  .rw[bf,h6] at h;exact absurd (km h) (hc y jD)
  .walk_at"ws";refine set_dict h2 ?_ ?_
   .haveI oh:(es.map (·.1)).length<=5:=sN (xK h5 λx hx eH=>hc x (km ((h6 x).mp hx)) (km ((h6 _).mp eH))) λx hx=>hb x (km ((h6 x).mp hx));haveI oh:=(au _)▸oh;exact aX oh rfl
   refine kn _ _ ⟨_,h1,aI _ _ _,by refine rG (aD (some_ne_none e hr)) ?_;exact h3,h4.upd hr,?_,λx=>?_⟩
   .refine rG xJ ?_;split
    .exact h5
    .rename_i z
     refine List.nodup_append.mpr ⟨h5,List.nodup_cons.mpr ⟨dp,eD⟩,λa ha b iF e=>?_⟩;rw[cx] at iF;exact z (iF▸e▸ha)
   .refine rG xJ (rI (ib hy _) ?_);split
    .rename_i z
     refine rI (h6 _) ?_;exact⟨.inl,λq=>q.elim id λq=>by refine rG q ?_;exact(h6 y).mp z⟩
    .rw[dG,h6,cx]
 .intro m H' o9;refine tI o9 λes h1 h2 h3 h4 h5 h6=>?_;replace h6:=ko▸h6;have kR:((es.map (·.1)).map Int.natAbs).Nodup:=xK h5 λx hx eH=>hc x ((h6 x).mp hx) ((h6 _).mp eH);have Ix:es.length<=5:=by haveI:=sN kR λx hx=>hb x ((h6 x).mp hx);rwa [au] at this
  walk_at"ws";have em:(es.map λp=>V.int p.1)=(es.map (·.1)).map V.int:=by refine rG eN ?_;rfl
  refine W9 (n:=n+1) E.ok h2 Ix rfl (vh (g:=λv=>match v with| .int x=>.tup [.int x.natAbs,.bool (decide (0<x))]|v=>v) (λx hx Q q=>?_) ⟨.inr (.inr ⟨λk dg=>?_,?_⟩),λout ho=>?_⟩)
  .replace hx:=em▸hx;refine ab (List.mem_map.mp hx) λy hy cY=>?_;subst cY;exact aau E q
  .replace dg:=eN▸em▸(gD _)▸dg;refine ab (List.mem_map.mp dg) λy hy eb=>?_;subst eb;exact⟨_,_,rfl⟩
  .refine rG (gD _) (rG em (rG eN (rI eC ?_)));unfold List.Nodup at kR;rw[eC] at kR;refine kR.imp λ{a b} ne x y x' y' e e' q=>?_;injection e with e;injection e with e _;injection e with e
   injection e' with e';injection e' with e' _;injection e' with e'
   exact ne (by exact Mg q e e')
  .replace ho:=eN▸em▸(gD _)▸ho;refine bX (xG (g:=λx=>V.tup [.int x.natAbs,.bool (decide (0<x))]) ho) λys hp f8 hs=>?_;subst f8;refine alloc 6 λr3 dA U=>?_;haveI hS:ez ys:=xH hp kR (hs.imp λ{a b} q=>by
    simp only[GS,Option.getD_none,nB,ix,ct] at q;exact DI q)
   refine qy (aI _ _ _) (by refine rG (au _) (rG hp.length_eq (rG (au _) (rG lid ?_)));exact aX Ix rfl) ?_;exact k ys hS (λx=>(hp.mem_iff).trans (h6 x)) _ (h4.trans (am.fresh dA))
noncomputable def xL(one other:List Int)(v:Int)(out:List Int):Prop:=
 ez out/\(∀x,x∈out->x.natAbs<=5/\x≠0)/\ ∃s,(s=v∨s= -v)/\s≠0/\s∈one/\ -s∈other/\ ∀x,x∈out↔(x∈one/\x≠s)∨(x∈other/\x≠ -s)
theorem ahl{p:Int->Bool}(l:List Int):(l.map V.int).filterMap (λv=>match v with| .int x=>if p x then some (V.int x) else none|_=>none)=(l.filter p).map V.int:=by
 induction l with
 |nil=>rfl
 |cons x l ih=>
  refine rG dq (rG md ?_);by_cases h:p x=true
  .refine rG (rC (b:=V.int x) (by simp[h])) (rG ih (rG (az h) ?_));rfl
  .exact rG (tP (by simp[h])) (rG ih (rG (ax h) rfl))
end
section
variable{H:MH}{step:V->(Option V->MH->Prop)->MH->Prop}{K:List V->MH->Prop}
theorem vk{α:Type}{ok:MH->Prop}(g:α->V)(f:α->Option V): ∀{ys:List α} {acc:List V},ok H->(∀y,y∈ys-> ∀(P:Option V->MH->Prop),P (f y) H->step (g y) P H)->K (acc++ys.filterMap f) H->jl ok step (ys.map g) acc K H
 |[],acc,o,_,k=>⟨o,by simpa using k⟩
 |y::ys,acc,o,st,k=>by
  refine⟨o,st y (.head _) _ ?_⟩
  cases e:f y with
  |none=>exact vk g f o (λy hy=>st y (.tail _ hy)) (by replace k:=(tP e)▸k;exact k)
  |some v=>exact vk g f o (λy hy=>st y (.tail _ hy)) (by replace k:=(rC e)▸k;simpa using k)
theorem xM{α:Type}(g:α->V)(ys:List α)(f:α->Option V)(hz:ys.length<aO)(h: ∀y,y∈ys-> ∀(P:Option V->MH->Prop),P (f y) H->step (g y) P H)(k:K (ys.filterMap f) H):
  ∃xs,xs.length<aO/\jl (fS (.tup (ys.map g)) xs) step xs [] K H:=⟨ys.map g,by refine rG (au _) ?_;exact hz,vk g f rfl h (by simpa using k)⟩
theorem pA{α:Type}(g:α->V)(ys:List α)(f:α->Option V)(e:H r=some (.list (ys.map g)))(hz:ys.length<aO)(h: ∀y,y∈ys-> ∀(P:Option V->MH->Prop),P (f y) H->step (g y) P H)(k:K (ys.filterMap f) H):
  ∃xs,xs.length<aO/\jl (fS (.ref r) xs) step xs [] K H:=⟨ys.map g,by refine rG (au _) ?_;exact hz,vk g f e h (by simpa using k)⟩
noncomputable def kX(a b:Int):List Int:=(List.range (b-a).toNat).map λ(k:Nat)=>a+(k:Int)
theorem Iy(a b:Int):iY a b 1=(kX a b).map V.int:=by
 haveI:(Builtin.Range.rangeSize a b 1).toNat=(b-a).toNat:=by
  haveI:=Br a b;unfold iY at this;haveI this:=dZ▸(au _)▸this;exact this
 unfold iY kX;refine rG this (rG eN ?_);refine p9 λk U=>?_;refine(?_:V.int _=V.int _);exact rG (Int.mul_one _) rfl
theorem xN(a b:Int):(kX a b).length=(b-a).toNat:=by unfold kX;exact rG (au _) (rG dZ rfl)
theorem aaG(f:Int->Option V)(ha:a.natAbs<10000)(hb:b.natAbs<10000)(h: ∀y,y∈kX a b-> ∀(P:Option V->MH->Prop),P (f y) H->step (.int y) P H)(k:K ((kX a b).filterMap f) H):
  ∃xs,xs.length<aO/\jl (fS (.bq a b 1) xs) step xs [] K H:=
 ⟨(kX a b).map V.int,by refine rG (au _) (rG (xN _ _) (rG lid ?_));exact Mk ha hb,vk V.int f ⟨xI (.inl rfl) (bI ha rfl) (bI hb rfl),(Iy a b).symm⟩ h (by simpa using k)⟩
end
noncomputable def oj(p:Int->Bool)(x:Int):Option V:=if p x=true then some (.int x) else none
theorem Bv(p:Int->Bool)(l:List Int):l.filterMap (oj p)=(l.filter p).map V.int:=by
 induction l with
 |nil=>rfl
 |cons x l ih=>
  refine rG md ?_;by_cases h:p x=true
  .refine rG (rC (b:=V.int x) (by simp[oj,h])) (rG ih (rG (az h) ?_));rfl
  .exact rG (tP (by simp[oj,h])) (rG ih (rG (ax h) rfl))
section
variable{C:Cfg}{n:Nat}{H:MH}{Q:PV}{co pr:Ref}{lay:Sl->Ref}{st:St}
theorem aaH(E:Env C)(hR:xL one other v out)(h1:ez one)(kK: ∀x,x∈one->x≠0)(hz:one.length<=5)(om:other.length<=5)
  (k: ∀H',am H H'->Q (.tup (out.map V.int)) H'):aM C (n+4) (.con (.ref 590)) [.tup (one.map V.int),.tup (other.map V.int),.int v] Q H:=by
 refine b9 hR λhS hb bw=>?_;clear hR;refine kj bw λs hs fJ dW ic hm=>?_;clear bw;haveI gT: -s∉one:=Bs h1 kK dW;refine E.og rfl ?_;have fin: ∀(H':MH) (m:MM) (r:Ref),m "rest" =some (.ref r)->am H H'->H' r=some (iL (one.filter (λx=>decide (x≠s))++other.filter (λx=>decide (x≠ -s))))->
   bo C tabs (n+3) [S.ret (X.call (X.glob "tidy") [X.var "rest"])] (cR Q) m H':=by
  intro H' m r jp hk he;walk_at"ws";have mem: ∀x,x∈one.filter (λx=>decide (x≠s))++other.filter (λx=>decide (x≠ -s))↔x∈out:=λx=>by
   rw[hm,dG,jP,jP,bf,bf]
  refine aaF E he ?_ (λx hx=>hb x ((mem x).mp hx)) (λx hx eH=>Bs hS (λy hy=>(hb y hy).2) ((mem x).mp hx) ((mem _).mp eH)) λys vm hy bc dg=>?_
  .refine rG bm ?_;haveI:=oG (λx=>decide (x≠s)) one;haveI:=oG (λx=>decide (x≠ -s)) other;exact Mj hz om (by assumption) this
  .haveI:ys=out:=qJ vm hS λx=>(hy x).trans (mem x);refine rG this ?_;exact k bc (hk.trans dg)
 have comp: ∀{m:MM} {u:Int} {Q':PV} {H':MH} {src:X} {l:List Int} {e:X},(∀(x:Int) (j4:PV),j4 (.int u) H'->al C tabs (n+3) (set m "literal" (.int x)) e j4 H')->l.length<=5->(∀(j4:PV),j4 (.tup (l.map V.int)) H'->al C tabs (n+3) m src j4 H')->
   (∀r,H' r=none->Q' (.ref r) (upd H' r (iL (l.filter λx=>decide (x≠u)))))->al C tabs (n+3) m (.comp (.var "literal") ["literal"] src (some (.cmp .NotEq (.var "literal") e))) Q' H':=by
  intro m u Q' H' src l e hu hl aaI hk;refine aan (aaI _ ?_);refine xM V.int l (oj λx=>decide (x≠u)) (aX hl rfl) (λy U P hP=>?_) ?_
  .refine⟨_,rfl,?_⟩;refine(?_:bH _ _ _ _ _ _ _);walk_at"ws";refine hu _ _ ?_;walk_at"ws";unfold oj at hP;refine aJ (λh=>?_) (λh=>?_)
   .walk_at"ws";rw[az (by simpa using h)] at hP;exact hP
   .rw[ax (by simpa using h)] at hP;exact hP
  .refine rG (Bv _ _) ?_;exact alloc 5 λr hr U=>hk r hr
 haveI len:=λ(u:Int) (l:List Int)=>oG (λx=>decide (x≠u)) l;rcases hs with rfl|rfl
 .walk_at"ws";refine ve ?_;walk_at"ws";refine aJ (λU=>?_) (λh=>by haveI h:=ma h;exact absurd dW h);walk_at"ws";refine ve ?_;walk_at"ws";refine aJ (λU=>?_) (λh=>by haveI h:=ma h;exact absurd ic h);refine A2 (HP (comp (u:=s) (l:=one) (λx j4 q=>by walk_at"ws";exact q) hz (λj4 q=>by walk_at"ws";exact q) λr hr=>?_));walk_at"ws";refine xx (aI _ _ _) ?_;refine Io (comp (u:= -s) (l:=other) (λx j4 q=>by walk_at"ws";exact q) om (λj4 q=>by walk_at"ws";exact q) λr2 bZ=>?_);haveI bt:r≠r2:=some_ne_none (aI _ _ _) bZ;refine xy ((aD bt).trans (aI _ _ _)) bt (aI _ _ _) ?_ ?_
  .refine rG (au _) (rG (au _) (rG lid ?_));haveI:=len s one;haveI:=len (-s) other;exact DQ hz om (by assumption) this
  .refine sB ?_;refine fin _ _ r rfl (((am.fresh hr).trans (am.fresh bZ)).upd hr) ?_;exact rG (aI _ _ _) (rB cN rfl)
 .haveI e0: - -v=v:=hH v;rw[e0] at ic hm gT;walk_at"ws";refine ve ?_;walk_at"ws";refine aJ (λh=>by haveI h:=fP h;exact absurd h gT) (λU=>?_);refine aJ (Ft) (λU=>?_);walk_at"ws";refine ve ?_;walk_at"ws";refine aJ (λU=>?_) (λh=>by haveI h:=ma h;exact absurd dW h);walk_at"ws";refine ve ?_;walk_at"ws";refine aJ (λU=>?_) (λh=>by haveI h:=ma h;exact absurd ic h);refine A2 (HP (comp (u:= -v) (l:=one) (λx j4 q=>by walk_at"ws";exact q) hz (λj4 q=>by walk_at"ws";exact q) λr hr=>?_));walk_at"ws";refine xx (aI _ _ _) ?_;refine Io (comp (u:=v) (l:=other) (λx j4 q=>by walk_at"ws";exact q) om (λj4 q=>by walk_at"ws";exact q) λr2 bZ=>?_);haveI bt:r≠r2:=some_ne_none (aI _ _ _) bZ;refine xy ((aD bt).trans (aI _ _ _)) bt (aI _ _ _) ?_ ?_
  .refine rG (au _) (rG (au _) (rG lid ?_));haveI:=len (-v) one;haveI:=len v other;exact DQ hz om (by assumption) this
  .refine sB (sB ?_);haveI fin:=e0▸fin;refine fin _ _ r rfl (((am.fresh hr).trans (am.fresh bZ)).upd hr) ?_;exact rG (aI _ _ _) (rB cN rfl)
end
noncomputable def j5(p:qD)(s:cS):qD:=⟨p.steps++[s],if s.cl=[]/\p.empty<0 then p.steps.length else p.empty⟩
section
variable{C:Cfg}{n:Nat}{H:MH}{Q:PV}{co pr:Ref}{lay:Sl->Ref}{st:St}{K:MH->Prop}
theorem ac.aaJ(a:ac co pr lay st H)(k: ∀H',ac co pr lay (st.i5 ({st.af with empty:=x})) H'->aR lay H H'->K H'):fC tabs (.ref pr) "empty" (.int x) K H:=by
 refine bE a.i6 λn fs e hn hf=>?_;refine⟨pr,713,_,n,fs,rfl,a.af,e,rfl,(bI hn rfl),k _ ?_ (mT)⟩;have q: ∀s,s≠.gQ-> ∀o,Internal.upd H (lay .gQ) o (lay s)=H (lay s):=λs h o=>aD (a.ns h);refine⟨a.gu,a.gR,a.tag,?_,?_,?_,?_,?_,?_,λs o he=>?_⟩
 .refine rG (aD (a.qG _)) ?_;exact a.core
 .exact a.cI.of_eq (q _ (by exact fH rfl) _)
 .refine rG (aD (a.qH _)) ?_;exact a.af
 .exact dj.set hn hf rfl rfl (aI _ _ _)
 .refine rG ((q _ (by exact fH rfl)) _) ?_;exact a.heap
 .exact a.dy.of_eq (q _ (by exact fH rfl) _)
 .refine rG ((q s (λz=>by rw[z] at he;cases he)) _) ?_;exact a.obj s o (by cases s<;>exact he)
theorem xO(E:Env C)(a:ac co pr lay st H)(hz:st.af.steps.length<1000)(h0:0<=i)(hp:st.af.steps[i.toNat]?=some p)(k:Q (.tup (p.cl.map V.int)) H):aM C (n+1) (.con (.ref 639)) [.ref pr,.int i] Q H:=by
 refine E.eY rfl ?_;walk_at"ws";refine a.xB (bI hz rfl) h0 hp ?_;walk_at"ws";refine jX (v:=.tup (p.cl.map V.int)) (by refine(?_:4<1000000);decide) (by decide) rfl ?_;exact k
theorem Iz(E:Env C)(a:ac co pr lay st H){rule:String}{cl eI:List Int}(hz:st.af.steps.length<1000)(hr:rule∈rules)(h5:cl.length<=5)(hs:ez cl)(h0: ∀x,x∈cl->x≠0)
  (hp: ∀x,x∈eI->0<=x/\x<st.af.steps.length)
  (k: ∀H',ac co pr lay (st.i5 (j5 st.af ⟨rule,cl,eI,note⟩)) H'->aR lay H H'->Q (.int st.af.steps.length) H'):aM C (n+2) (.con (.ref 653)) [.ref pr,.str rule,.tup (cl.map V.int),.tup (eI.map V.int),note] Q H:=by
 refine E.Bo rfl ?_;walk_at"ws";refine fF (a.obj .jZ _ rfl) (by refine lm ?_;exact bI hz rfl) ?_;refine rG (au _) ?_;walk_at"ws";refine .EX (as:=rules) hr ?_;walk_at"ws";refine aJ (λh=>by cases h) (λU=>?_);walk_at"ws";refine aaE E h5 hs h0 ?_;walk_at"ws";refine aJ (λh=>by cases h) (λU=>?_);walk_at"ws";refine Bu V.int eI (λi m H'=>H'=H/\m "number" =some (.int st.af.steps.length)/\m "self" =some (.ref pr)/\m "rule" =some (.str rule)/\m "clause" =some (.tup (cl.map V.int))/\m "premises" =some (.tup (eI.map V.int))/\m "note" =some note) ?_ ?_ ⟨rfl,rfl,rfl,rfl,rfl,rfl,rfl⟩
 .intro i y m H' K hy o1 kn U U U;refine C8 o1 λo2 h1 h2 h3 h4 h5 h6=>?_;clear o1;subst o2;haveI:=hp y (bd hy);refine⟨_,rfl,?_⟩;walk_at"ws";refine aJ (λU=>?_) (λh=>by haveI h:=ma h;exact(DS this.1 h).elim);walk_at"ws";refine aJ (λh=>by haveI h:=tL h;exact(Ml this.2 h).elim) (λU=>?_);walk_at"ws";exact kn _ _ ⟨rfl,h1,h2,h3,h4,h5,h6⟩
 .intro m H' o3;refine C8 o3 λo4 h1 h2 h3 h4 h6 h7=>?_;clear o3;subst o4;walk_at"ws";refine dh (a.obj .jZ _ rfl) ?_;walk_at"ws";refine GN ?_;walk_at"ws";refine GN ?_;walk_at"ws";refine a.ZX (x:=⟨rule,cl,eI,note⟩) (bI hz rfl) λH1 a1 k1=>?_;walk_at"ws";refine AC (by refine lm ?_;exact aX h5 rfl) ?_;walk_at"ws";have done: ∀H2,ac co pr lay (st.i5 (j5 st.af ⟨rule,cl,eI,note⟩)) H2->aR lay H' H2->bo C tabs (n+1) [S.ret (X.var "number")] (cR Q) m H2:=by
   intro H2 a2 k2;walk_at"ws";exact k H2 a2 k2
  haveI pB:(cl.map V.int).length=cl.length:=au ..;refine aJ (λh=>?_) (λh=>?_)
  ·(rewrite [bf] at h;haveI h:=pB▸h)
   haveI hc:cl=[]:=List.length_eq_zero_iff.mp (gz h);walk_at"ws";refine aJ (λh=>?_) (λh=>?_)
   .haveI h:=fP h;walk_at"ws";refine a1.aaJ λH2 a2 k2=>?_;refine sB (ob (done H2 ?_ (k1.trans k2)));haveI:j5 st.af ⟨rule,cl,eI,note⟩={steps:=st.af.steps++[⟨rule,cl,eI,note⟩],empty:=st.af.steps.length}:=by
     unfold j5;exact rG (az ⟨hc,h⟩) rfl
    refine rG this ?_;exact a2
   .haveI h:=ma h;refine pj (ob (done H1 ?_ k1));haveI:j5 st.af ⟨rule,cl,eI,note⟩={st.af with steps:=st.af.steps++[⟨rule,cl,eI,note⟩]}:=by
     unfold j5;exact rG (ax (λz=>h z.2)) rfl
    refine rG this ?_;exact a1
  ·(rewrite [ct] at h;haveI h:=pB▸h)
   haveI hc:cl≠[]:=λz=>h (by refine rG z ?_;rfl);refine aJ (λh=>by cases h) (λU=>?_);refine pj (ob (done H1 ?_ k1));haveI:j5 st.af ⟨rule,cl,eI,note⟩={st.af with steps:=st.af.steps++[⟨rule,cl,eI,note⟩]}:=by
    unfold j5;exact rG (ax (λz=>hc z.1)) rfl
   refine rG this ?_;exact a1
end
noncomputable def i7(c:List Int):Prop:=ez c/\ ∀x,x∈c->x.natAbs<=5/\x≠0
theorem i7.len(h:i7 c):c.length<=5:=sN (sK h.1) h.2
inductive dB(af:List cS):List Int->List (Int×Int)->List Int->Prop
 |nil {c:List Int}:dB af c [] c
 |cons {c d e:List Int} {v o:Int} {p:cS} {r:List (Int×Int)}:0<=o->af[o.toNat]?=some p->p.cl.length<=5->xL c p.cl v d->dB af d r e->dB af c ((v,o)::r) e
noncomputable def pv(p:Int×Int):V:=.tup [.int p.1,.int p.2]
noncomputable def qL(first:Int)(pairs:List (Int×Int))(out:List Int):cS:=⟨"resolve",out,first::pairs.map (·.2),.tup (pairs.map λp=>.int p.1)⟩
noncomputable def eA(p:qD)(first:Int)(pairs:List (Int×Int))(out:List Int):Int×qD:=if pairs=[] then (first,p) else (p.steps.length,j5 p (qL first pairs out))
theorem dB.good(h:dB af c ps e)(g:i7 c):i7 e:=by
 induction h with
 |nil=>exact g
 |cons _ _ _ hr _ ih=>exact ih ⟨hr.1,hr.2.1⟩
theorem dB.mem(h:dB af c ps e): ∀p,p∈ps->0<=p.2/\p.2<af.length:=by
 induction h with
 |nil=>intro p hp;cases hp
 |cons h0 hp _ _ _ ih=>
  intro q hq;rcases List.mem_cons.mp hq with rfl|hq
  .haveI:=(List.getElem?_eq_some_iff.mp hp).1;exact⟨h0,by show _<_;exact yT h0 this⟩
  .exact ih q hq
section
variable{co pr:Ref}{lay:Sl->Ref}{st:St}{H H':MH}
theorem ac.IA(a:ac co pr lay st H)(h1: ∀o s,objOf lay st s=some o->r≠lay s)(h2:r≠co)(h3:r≠pr)(h4:r≠lay .cI)(h5:r≠lay .gQ)(h6:r≠lay .heap)(h7:r≠lay .dy):ac co pr lay st (Internal.upd H r o'):=
 ⟨a.gu,a.gR,a.tag,(aD h2.symm).trans a.core,a.cI.of_eq (aD h4.symm),(aD h3.symm).trans a.af,a.i6.of_eq (aD h5.symm),(aD h6.symm).trans a.heap,a.dy.of_eq (aD h7.symm),λs o e=>(aD (h1 o s e).symm).trans (a.obj s o e)⟩
theorem ac.aaK(a0:ac co pr lay st H0)(a:ac co pr lay st H)(hr:H0 r=none):ac co pr lay st (Internal.upd H r o'):=
 a.IA (λo s e z=>by haveI:=a0.obj s o e;replace this:=hr▸cX z▸this;exact Ns this) (λz=>by haveI:=a0.core;replace this:=hr▸cX z▸this;exact Ns this) (λz=>by haveI:=a0.af;replace this:=hr▸cX z▸this;exact Ns this) (λz=>by refine bM a0.cI λU U e U=>?_;replace e:=hr▸cX z▸e;exact Ns e) (λz=>by refine bM a0.i6 λU U e U=>?_;replace e:=hr▸cX z▸e;exact Ns e) (λz=>by haveI:=a0.heap;replace this:=hr▸cX z▸this;exact Ns this) (λz=>by refine bM a0.dy λU U e U=>?_;replace e:=hr▸cX z▸e;exact Ns e)
theorem aR.Bw(k:aR lay H H')(hr:H r=none):aR lay H (Internal.upd H' r o):=λx o' t e=>by
 refine rG (aD (λz=>by rw[z,hr] at e;exact Ns e)) ?_;exact k x o' t e
end
section
variable{C:Cfg}{n:Nat}{H:MH}{Q:PV}{co pr:Ref}{lay:Sl->Ref}{st:St}
theorem aaL(E:Env C)(a:ac co pr lay st H)(hz:st.af.steps.length<1000)(h0:0<=first)(qM:st.af.steps[first.toNat]?=some p0)(g0:i7 p0.cl)(hn:pairs≠[])(hl:pairs.length<1000)(hc:dB st.af.steps p0.cl pairs out)
  (e:H rp=some (.list (pairs.map pv)))
  (k: ∀H',ac co pr lay (st.i5 (j5 st.af (qL first pairs out))) H'->aR lay H H'->Q (.int st.af.steps.length) H'):aM C (n+6) (.con (.ref 658)) [.ref pr,.int first,.ref rp] Q H:=by
 refine E.og rfl ?_;walk_at"ws";refine xO E a hz h0 qM ?_;walk_at"ws";refine oi pv pairs (λi m H'=> ∃c,m "stand" =some (.tup (c.map V.int))/\i7 c/\dB st.af.steps c (pairs.drop i) out/\am H H'/\m "self" =some (.ref pr)/\m "first" =some (.int first)/\m "pairs" =some (.ref rp)) ?_ ?_ ?_ ⟨p0.cl,rfl,g0,hc,am.refl _,rfl,rfl,rfl⟩
 .intro i m H' o1;refine kj o1 λc U U U h U=>?_;clear o1;exact h _ _ e
 .rintro i ⟨v,o⟩ m H' K hy ⟨c,h1,h2,h3,h4,h5,h6,h7⟩ kn _ _ _;haveI a':=a.bx h4;refine⟨_,rfl,?_⟩;haveI hd:pairs.drop i=(v,o)::pairs.drop (i+1):=by
   haveI hi:=(List.getElem?_eq_some_iff.mp hy);refine ag hi λhi he=>?_;exact rG (pY hi) (rG he rfl)
  replace h3:=hd▸h3
  cases h3 with
  |cons q0 q1 q2 q3 q4=>
   walk_at"ws";refine xO E a' hz q0 q1 ?_;walk_at"ws";refine aaH E q3 h2.1 (λx hx=>(h2.2 x hx).2) h2.len q2 λH2 k2=>?_;walk_at"ws";refine aJ (Ft) (λU=>?_);walk_at"ws";exact kn _ _ ⟨_,rfl,⟨q3.1,q3.2.1⟩,q4,h4.trans k2,h5,h6,h7⟩
 .intro m H' o4;refine wp o4 λc h1 h2 h3 h4 h5 h6 h7=>?_;clear o4;replace h3:=List.drop_length▸h3;cases h3;haveI a':=a.bx h4;have e':=h4 _ _ e;walk_at"ws";refine fF e' (by refine lm ?_;exact bI hl rfl) ?_;walk_at"ws";haveI pB:(pairs.map pv).length=pairs.length:=au ..;refine aJ (λh=>?_) (λU=>?_)
  ·(rewrite [bf] at h;haveI h:=pB▸h)
   exact absurd (List.length_eq_zero_iff.mp (gz h)) hn
  walk_at"ws";refine pA pv pairs (λp=>some (.int p.2)) e' (bI hl rfl) (λp U P hP=>⟨_,rfl,?_⟩) ?_
  .refine(?_:al _ _ _ _ _ _ _);walk_at"ws";exact hP
  refine alloc 5 λr1 dX U=>?_;refine rG nu ?_;refine qy (aI _ _ _) (by refine lm ?_;exact bI hl rfl) ?_;refine Zz (by refine rG (au _) (rG lid ?_);simp;exact R1 hl) ?_;haveI e2:=am.fresh (o:=.list (pairs.map λp=>V.int p.2)) dX _ _ e';haveI sO:=a'.bx (am.fresh (o:=.list (pairs.map λp=>V.int p.2)) dX);walk_at"ws";refine pA pv pairs (λp=>some (.int p.1)) e2 (bI hl rfl) (λp U P hP=>⟨_,rfl,?_⟩) ?_
  .refine(?_:al _ _ _ _ _ _ _);walk_at"ws";exact hP
  refine alloc 5 λr2 bZ U=>?_;refine rG nu ?_;refine qy (aI _ _ _) (by refine lm ?_;exact bI hl rfl) ?_;haveI a2:=sO.bx (am.fresh (o:=.list (pairs.map λp=>V.int p.1)) bZ);have ep:[V.int first]++List.map (λp=>V.int p.2) pairs=(first::pairs.map (·.2)).map V.int:=by refine rG dq (rG eN ?_);rfl
  refine rG ep ?_;refine Iz E a2 hz (by decide) h2.len h2.1 (λx hx=>(h2.2 x hx).2) (λx hx=>?_) λH3 a3 k3=>?_
  .rcases List.mem_cons.mp hx with rfl|hx
   .haveI:=(List.getElem?_eq_some_iff.mp qM).1;exact⟨h0,(yT h0 this)⟩
   .refine ab (List.mem_map.mp hx) λp hp o5=>?_;subst o5;exact hc.mem p hp
  .exact k H3 a3 ((h4.trans ((am.fresh dX).trans (am.fresh bZ))).od.trans k3)
theorem Bx(E:Env C)(a:ac co pr lay st H)(hz:st.af.steps.length<900)(h0:0<=first)(qM:st.af.steps[first.toNat]?=some p0)(g0:i7 p0.cl)(hl:pairs.length<1000)(hc:dB st.af.steps p0.cl pairs out)
  (e:H rp=some (.list (pairs.map pv)))
  (k: ∀H',ac co pr lay (st.i5 ((eA st.af first pairs out).2)) H'->aR lay H H'->Q (.int (eA st.af first pairs out).1) H'):aM C (n+7) (.con (.ref 452)) [.ref co,.tup (out.map V.int),.int first,.ref rp] Q H:=by
 refine E.Iq rfl ?_;walk_at"ws";refine aJ (Ft) (λU=>?_);walk_at"ws";refine alloc 5 λr1 dX U=>?_;have e1:=am.fresh (o:=.list []) dX _ _ e;haveI a1:=a.bx (am.fresh (o:=.list []) dX);refine sI (some_ne_none e dX) e1 (aI _ _ _) ?_;walk_at"ws";refine aJ (λh=>?_) (λh=>?_)
 .have hn:pairs=[]:=by cases pairs with|nil=>rfl|cons=>exact Ft h
  unfold eA at k;haveI k:=(az hn)▸k;walk_at"ws";exact k _ a1 (am.fresh dX).od
 .have hn:pairs≠[]:=λz=>by replace h:=z▸h;exact Tf h
  unfold eA at k;haveI k:=(ax hn)▸k;walk_at"ws";refine aaL E a1 (bI hz rfl) h0 qM g0 hn hl hc e1 λH2 a2 k2=>?_;walk_at"ws";haveI hs:(j5 st.af (qL first pairs out)).steps[((st.af.steps.length:Nat):Int).toNat]?=some (qL first pairs out):=by
   show (st.af.steps++[_])[_]?=_;exact rG (bO _) (rG (g9) rfl)
  refine xO E a2 (by refine(?_:(st.af.steps++[_]).length<1000);refine rG bm (rG cV ?_);exact aX hz rfl) (aC st.af.steps.length) hs ?_;walk_at"ws";refine A9 ?_;walk_at"ws";refine aJ (λh=>?_) (λU=>?_)
  .haveI h:=tL h;exact absurd rfl h
  walk_at"ws";exact k _ a2 ((am.fresh dX).od.trans k2)
end
theorem By(h0:0<=i)(h1:i<l.length)(h2:0<=j):at' (l.set i.toNat x) j=if i=j then x else at' l j:=by
 unfold at';refine rG (iT) (rG (List.getElem?_set) ?_);by_cases e:i=j
 .subst e;refine rG (az rfl) (rG (az rfl) (rG (az (oA h2 h1)) ?_));rfl
 .exact rG (ax (by exact MI h0 h2 e)) (rG (ax e) (rG (iT) rfl))
theorem ahm(h:j.toNat<l.length):at' (l++[x]) j=at' l j:=by
 unfold at';exact rG (iT) (rG (gi h) (rG (iT) rfl))
noncomputable def Lit(N:Nat)(l:Int):Prop:=l≠0/\l.natAbs<=N
theorem Lit.neg(h:Lit N l):Lit N (-l):=⟨by haveI:=h.1;exact ze this,by haveI:=h.2;exact CZ this⟩
noncomputable def mV(ah:List Int)(i:Int):Nat:=(ah.filter λs=>decide (s<=i)).length
noncomputable def Bz(st:St)(i:Nat)(l:Int):Prop:=(at' st.aB l.natAbs= -1/\(i:Int)∈st.ah)∨((i:Int)∉st.ah/\ ∃(j:Nat) (c:List Int),at' st.aB l.natAbs=j/\st.cls[j]?=some c/\l∈c/\ ∀x,x∈c->x≠l-> -x∈st.aa.take i)
structure Tr(N:Nat)(st:St):Prop where
 bq: ∀l,l∈st.aa->Lit N l
 nd:(st.aa.map Int.natAbs).Nodup
 asg: ∀v:Int,0<v->v<=N->at' st.asg v=if v∈st.aa then 1 else if -v∈st.aa then -1 else 0
 bk: ∀(i:Nat) l,st.aa[i]?=some l->at' st.bk l.natAbs=i
 lvl: ∀(i:Nat) l,st.aa[i]?=some l->at' st.lvl l.natAbs=mV st.ah i
 ah:st.ah.Pairwise (· <= ·)/\ ∀s,s∈st.ah->0<=s/\s<=st.aa.length
 aB: ∀(i:Nat) l,st.aa[i]?=some l->Bz st i l
theorem IB{l:List Int}(h:(l.map Int.natAbs).Nodup)(h0:x≠0)(hx:x∈l): -x∉l:=λhy=>by
 unfold List.Nodup at h;rw[eC] at h;haveI key: ∀{l:List Int},l.Pairwise (λa b=>a.natAbs≠b.natAbs)->x∈l-> -x∈l->False:=by
  intro l
  induction l with
  |nil=>intro U hx;cases hx
  |cons a l ih=>
   intro h hx hy;haveI h':=List.pairwise_cons.mp h;rcases List.mem_cons.mp hx with e|e
   .rcases List.mem_cons.mp hy with e'|e'
    .exact(DO h0 e e').elim
    .haveI:=h'.1 _ e';exact(MG e this).elim
   .rcases List.mem_cons.mp hy with e'|e'
    .haveI:=h'.1 _ e;exact(MF e' this).elim
    .exact ih h'.2 e e'
 exact key h hx hy
theorem fV{l:List Int}(h:(l.map Int.natAbs).Nodup):l.Nodup:=by
 unfold List.Nodup at h ⊢;rw[eC] at h;exact h.imp λne e=>ne (by exact rG e rfl)
theorem get_inj{l:List Int}(h:l.Nodup){i j:Nat}(hi:l[i]?=some x)(hj:l[j]?=some x):i=j:=by
 refine ag (List.getElem?_eq_some_iff.mp hi) λce ei=>?_;refine ag (List.getElem?_eq_some_iff.mp hj) λpC ej=>?_;have:=List.pairwise_iff_getElem.mp h;rcases Nat.lt_trichotomy i j with q|q|q
 .exact absurd (ei.trans ej.symm) (this i j ce pC q)
 .exact q
 .exact absurd (ej.trans ei.symm) (this j i pC ce q)
section
variable{N:Nat}{st:St}
theorem Tr.con(t:Tr N st){l:Int}(h:l∈st.aa): -l∉st.aa:=IB t.nd (t.bq l h).1 h
theorem Tr.vl(t:Tr N st)(hl:Lit N l):Internal.val st l=if l∈st.aa then 1 else if -l∈st.aa then -1 else 0:=by
 unfold Internal.val;by_cases h:0<l
 .exact rG (az h) (rG (t.asg l h (by haveI:=hl.2;exact ME this)) rfl)
 .refine rG (ax h) (rG (t.asg (-l) (by haveI:=hl.1;exact MD h this) (by haveI:=hl.2;exact MC this)) (rG (hH _) ?_));by_cases q:l∈st.aa
  .refine rG (az q) (rG (az q) (rG (ax (t.con q)) ?_));rfl
  .refine rG (ax q) (rG (ax q) ?_);split<;>rfl
theorem Tr.val_one(t:Tr N st)(hl:Lit N l):Internal.val st l=1↔l∈st.aa:=by
 refine rG (t.vl hl) ?_;constructor
 .intro h;split at h
  .assumption
  .split at h<;>(first|exact(MA h).elim|exact(MB h).elim)
 .intro h;exact rG (az h) rfl
theorem Tr.val_neg(t:Tr N st)(hl:Lit N l):Internal.val st l= -1↔ -l∈st.aa:=by
 refine rG (t.vl hl) ?_;constructor
 .intro h;split at h
  .exact(Mz h).elim
  .split at h
   .assumption
   .exact(My h).elim
 .intro h;exact rG (ax (λq=>t.con q h)) (rG (az h) rfl)
theorem Tr.val_zero(t:Tr N st)(hl:Lit N l):Internal.val st l=0↔l∉st.aa/\ -l∉st.aa:=by
 refine rG (t.vl hl) ?_;constructor
 .intro h;split at h
  .exact(Mx h).elim
  .split at h
   .exact(Mw h).elim
   .exact⟨by assumption,by assumption⟩
 .intro h;exact rG (ax h.1) (rG (ax h.2) rfl)
noncomputable def sgn(l:Int):Int:=if 0<l then 1 else -1
noncomputable def cK(st:St)(l c:Int):St:=(((((st.i4 (st.asg.set l.natAbs (sgn l))).mO (st.lvl.set l.natAbs st.ah.length)).jY (st.aB.set l.natAbs c)).pk (st.bk.set l.natAbs st.aa.length)).qE (st.aa++[l]))
theorem xP{l:List Int}{i:Nat}{j:Int}{x:Int}(h1:i<l.length)(h2:0<=j):at' (l.set i x) j=if (i:Int)=j then x else at' l j:=by
 haveI:=By (l:=l) (i:=(i:Int)) (j:=j) (x:=x) (aC i) (oB h1) h2
 rwa [bO] at this
theorem aaM(h: ∀s,s∈ah->s<=i):mV ah i=ah.length:=by
 unfold mV;rw[List.filter_eq_self.mpr];intro s hs;simpa using h s hs
theorem mW{α:Type}{l:List α}{x y:α}{i:Nat}(h:(l++[x])[i]?=some y):(i<l.length/\l[i]?=some y)∨(i=l.length/\y=x):=by
 by_cases q:i<l.length
 .replace h:=(gi q)▸h;exact .inl ⟨q,h⟩
 .have hl:=(List.getElem?_eq_some_iff.mp h).1;replace hl:=cV▸bm▸hl;have:i=l.length:=by exact Mv q hl
  subst this;replace h:=(g9)▸h;exact .inr ⟨rfl,(lx h).symm⟩
theorem BA{L:List Int}:l.natAbs∈L.map Int.natAbs↔l∈L∨ -l∈L:=by
 refine rI List.mem_map ?_;constructor
 .intro o1;refine ab o1 λx hx e=>?_;clear o1;rcases ((yP e):x=l∨x= -l) with rfl|rfl
  .exact .inl hx
  .exact .inr hx
 .intro o2;rcases o2 with h|h
  .exact⟨_,h,rfl⟩
  .exact⟨_,h,by exact Mu⟩
theorem BB{l:List Int}{x y:Int}{i:Nat}(h:l[i]?=some y)(hx:x∉l/\ -x∉l):(x.natAbs:Int)≠y.natAbs:=λe=>by
 haveI hy:=bd h;rcases (by exact Mt e:x=y∨ -x=y) with rfl|rfl
 .exact hx.1 hy
 .exact hx.2 hy
theorem bU.cK(d:bU N st)(t:Tr N st){l c:Int}(hl:Lit N l)(hn:l∉st.aa/\ -l∉st.aa):bU N (cK st l c):=by
 haveI hlen:(st.aa++[l]).length<=N:=by
  haveI h1:(((st.aa++[l]).map Int.natAbs).map (· - 1)).length<=N:=by
   refine kW N _ ?_ ?_
   .haveI:((st.aa++[l]).map Int.natAbs).Nodup:=by
     refine rG cN ?_;refine List.nodup_append.mpr ⟨t.nd,List.nodup_cons.mpr ⟨dp,eD⟩,λa ha b hb e=>?_⟩;haveI hb:b=l.natAbs:=by simpa using hb
     haveI e:=hb▸e;haveI ha:=e▸ha;rcases BA.mp ha with q|q
     .exact hn.1 q
     .exact hn.2 q
    unfold List.Nodup;refine rI eC ?_;refine ir ?_ this;intro a b ha hb ne e;refine ab (List.mem_map.mp ha) λx hx o3=>?_;subst o3;refine ab (List.mem_map.mp hb) λy hy o4=>?_;subst o4;have p: ∀z,z∈st.aa++[l]->z≠0:=λz hz=>by
     rcases List.mem_append.mp hz with q|q
     .exact(t.bq z q).1
     .refine rG (List.mem_singleton.mp q) ?_;exact hl.1
    haveI:=p x hx;haveI:=p y hy;exact ne (wl (by assumption) (by assumption) (by assumption))
   .intro x hx;refine ab (List.mem_map.mp hx) λy hy o5=>?_;subst o5;refine ab (List.mem_map.mp hy) λz hz o6=>?_;subst o6;have hL:Lit N z:=by
     rcases List.mem_append.mp hz with q|q
     .exact t.bq z q
     .refine rG (List.mem_singleton.mp q) ?_;exact hl
    haveI:=hL.1;haveI:=hL.2;exact tH (by assumption) (by assumption)
  rwa [au,au] at h1
 exact⟨d.big,by simp[Internal.cK,d.asg],by simp[Internal.cK,d.lvl],by simp[Internal.cK,d.aB],by simp[Internal.cK,d.bk],d.bB,d.seen,d.aQ,d.aq,hlen,d.ah,d.cls,d.aW,d.act,d.bS,d.af,d.hp⟩
theorem Tr.cK(d:bU N st)(t:Tr N st){l c:Int}(hl:Lit N l)(hn:l∉st.aa/\ -l∉st.aa)
  (hw:(c= -1/\(st.aa.length:Int)∈st.ah)∨((st.aa.length:Int)∉st.ah/\ ∃(j:Nat) (cl:List Int),c=j/\st.cls[j]?=some cl/\l∈cl/\ ∀x,x∈cl->x≠l-> -x∈st.aa)):Tr N (cK st l c):=by
 have b:=hl.2;refine⟨λx hx=>?_,?_,λv h0 h1=>?_,λi x hx=>?_,λi x hx=>?_,⟨t.ah.1,λs hs=>?_⟩,λi x hx=>?_⟩
 .rcases List.mem_append.mp hx with q|q
  .exact t.bq x q
  .refine rG (List.mem_singleton.mp q) ?_;exact hl
 .refine(?_:((st.aa++[l]).map Int.natAbs).Nodup);refine rG cN ?_;refine List.nodup_append.mpr ⟨t.nd,List.nodup_cons.mpr ⟨dp,eD⟩,λa ha b hb e=>?_⟩;haveI hb:b=l.natAbs:=by simpa using hb
  haveI e:=hb▸e;haveI ha:=e▸ha;rcases BA.mp ha with q|q
  .exact hn.1 q
  .exact hn.2 q
 .refine(?_:at' (st.asg.set l.natAbs (sgn l)) v=if v∈st.aa++[l] then 1 else if -v∈st.aa++[l] then -1 else 0);refine rG (xP (by rw[d.asg];exact iU b) (oK h0)) (rG (t.asg v h0 h1) ?_);simp only[dG,cx];by_cases e:(l.natAbs:Int)=v
  .refine rG (az e) ?_;unfold sgn;by_cases q:0<l
   .exact rG (az q) (rG (az (.inr (by exact Ms e q))) rfl)
   ·(refine rG (ax q) ?_;rewrite [ax];exact rG (az (.inr (by exact Mr e q))) rfl)
    intro o7;rcases o7 with h|h
    .haveI:v= -l:=by exact Mq e q
     subst this;exact hn.2 h
    .exact Mp h0 q h
  .refine rG (ax e) ?_;haveI e1: ¬v=l:=λz=>e (by exact Mo h0 z);haveI e2: ¬ -v=l:=λz=>e (by exact Mn h0 z);simp only[e1,e2,or_false]
 .refine(?_:at' (st.bk.set l.natAbs st.aa.length) x.natAbs=i);refine rG (xP (by rw[d.bk];exact iU b) (aC x.natAbs)) ?_;rcases mW hx with ⟨hi,q⟩|⟨rfl,rfl⟩
  .refine rG (ax (BB q hn)) ?_;exact t.bk i x q
  .exact rG (az rfl) rfl
 .refine(?_:at' (st.lvl.set l.natAbs st.ah.length) x.natAbs=_);refine rG (xP (by rw[d.lvl];exact iU b) (aC x.natAbs)) ?_;rcases mW hx with ⟨hi,q⟩|⟨rfl,rfl⟩
  .refine rG (ax (BB q hn)) ?_;exact t.lvl i x q
  .refine rG (az rfl) ?_;refine(?_:_=((mV st.ah (st.aa.length:Int):Nat):Int));exact rG (aaM λs hs=>(t.ah.2 s hs).2) rfl
 .refine(?_:0<=s/\s<=(st.aa++[l]).length);haveI:=t.ah.2 s hs;refine rG bm (rG cV ?_);exact Mm this.1 this.2
 .unfold Bz;refine(?_:(at' (st.aB.set l.natAbs c) x.natAbs= -1/\(i:Int)∈st.ah)∨((i:Int)∉st.ah/\ ∃(j:Nat) (cl:List Int),at' (st.aB.set l.natAbs c) x.natAbs=j/\st.cls[j]?=some cl/\x∈cl/\ ∀y,y∈cl->y≠x-> -y∈(st.aa++[l]).take i));refine rG (xP (by rw[d.aB];exact iU b) (aC x.natAbs)) ?_;rcases mW hx with ⟨hi,q⟩|⟨rfl,rfl⟩
  .refine rG (ax (BB q hn)) (rG (wC (eT hi)) ?_);exact t.aB i x q
  .refine rG (az rfl) ?_;rcases hw with hw|⟨h1,j,cl,h2,h3,h4,h5⟩
   .exact .inl hw
   .exact .inr ⟨h1,j,cl,h2,h3,h4,λy hy ne=>by rw[List.take_left'];exact h5 y hy ne;rfl⟩
end
noncomputable def pD(st:St)(l:Int):Int:=if val st l≠ -1 then (st.ah.length:Int)+1 else at' st.lvl l.natAbs
section
variable{C:Cfg}{n:Nat}{H:MH}{Q:PV}{co pr:Ref}{lay:Sl->Ref}{st:St}{N:Nat}
theorem vn(E:Env C)(a:ac co pr lay st H)(hz:st.ah.length<1000)(k:Q (.int st.ah.length) H):aM C (n+1) (.con (.ref 275)) [.ref co] Q H:=by
 refine E.iN rfl ?_;walk_at"ws";refine fF (a.obj .ah _ rfl) (by refine lm ?_;exact bI hz rfl) ?_;refine rG (au _) ?_;exact k
theorem on(E:Env C)(a:ac co pr lay st H)(d:bU N st)(hl:Lit N l)(k:Q (.int (val st l)) H):aM C (n+1) (.con (.ref 268)) [.ref co,.int l] Q H:=
 aav E a (by haveI:=d.asg;haveI:=d.big;exact cF (by assumption) (by assumption) rfl) (by haveI:=d.asg;haveI:=hl.2;exact wi (by assumption) (by assumption)) k
theorem xQ(E:Env C)(a:ac co pr lay st H)(d:bU N st)(hl:Lit N l)(k: ∀H',ac co pr lay (cK st l c) H'->aR lay H H'->Q .none H'):aM C (n+2) (.con (.ref 345)) [.ref co,.int l,.int c] Q H:=by
 have hb:=hl.2;have hN:=d.big;haveI d1:=d.asg;haveI d2:=d.lvl;haveI d3:=d.aB;haveI d4:=d.bk;haveI d5:=d.aa;haveI d6:=d.ah;refine E.og rfl ?_;walk_at"ws";refine gM ?_;walk_at"ws";haveI go: ∀x,sgn l=x->al C tabs (n+1) (set (set (set (set em "self" (V.ref co)) "lit" (V.int l)) "number" (V.int c)) "var" (V.int l.natAbs)) (.var "self") (λv aj=>iz tabs v "assigns" (λov aj=>al C tabs (n+1) (set (set (set (set em "self" (V.ref co)) "lit" (V.int l)) "number" (V.int c)) "var" (V.int l.natAbs)) (.var "var") (λiv aA=>d9 ov iv (.int x) (λaA=>bo C tabs (n+1) [.asg (.sub (.attr (.var "self") "levels") (.var "var")) (.ao (.var "self") "depth" []),.asg (.sub (.attr (.var "self") "reasons") (.var "var")) (.var "number"),.asg (.sub (.attr (.var "self") "spots") (.var "var")) (.call (.glob "len") [.attr (.var "self") "trail"]),.expr (.ao (.attr (.var "self") "trail") "append" [.var "lit"])] (cR Q) (set (set (set (set em "self" (V.ref co)) "lit" (V.int l)) "number" (V.int c)) "var" (V.int l.natAbs)) aA) aA) aj) aj) H:=by
  intro x o1;subst o1;walk_at"ws";refine a.Ih (cF d1 hN rfl) (aC l.natAbs) (eB d1 hb) λH1 a1 k1=>?_;walk_at"ws";refine vn E a1 (by refine(?_:st.ah.length<1000);exact cT d6 hN rfl) ?_;walk_at"ws";refine a1.ZD (by refine(?_:st.lvl.length<_);exact cF d2 hN rfl) (aC l.natAbs) (by refine(?_:_<((st.lvl.length:Nat):Int));exact eB d2 hb) λH2 a2 k2=>?_;walk_at"ws";refine a2.Ii (by refine(?_:st.aB.length<_);exact cF d3 hN rfl) (aC l.natAbs) (by refine(?_:_<((st.aB.length:Nat):Int));exact eB d3 hb) λH3 a3 k3=>?_;walk_at"ws";refine fF (a3.obj .aa _ rfl) (by refine rG (au _) (rG lid ?_);refine(?_:st.aa.length<_);exact cT d5 hN rfl) ?_;refine rG (au _) ?_;walk_at"ws";refine a3.ZE (by refine(?_:st.bk.length<_);exact cF d4 hN rfl) (aC l.natAbs) (by refine(?_:_<((st.bk.length:Nat):Int));exact eB d4 hb) λH4 a4 k4=>?_;walk_at"ws";refine dh (a4.obj .aa _ rfl) ?_;walk_at"ws";refine a4.ZQ (by refine(?_:st.aa.length<_);exact cT d5 hN rfl) λH5 a5 k5=>?_;walk_at"ws";exact k H5 a5 (k1.trans (k2.trans (k3.trans (k4.trans k5))))
 unfold sgn at go;refine aJ (λh=>?_) (λh=>?_)
 .haveI h:=fP h;walk_at"w";exact go 1 (az h)
 .haveI h:=ma h;walk_at"w";exact go (-1) (ax h)
theorem aaN(E:Env C)(a:ac co pr lay st H)(hz:st.ah.length<1000)(om:st.aa.length<1000)(k: ∀H',ac co pr lay (st.pq (st.ah++[(st.aa.length:Int)])) H'->aR lay H H'->Q .none H'):aM C (n+1) (.con (.ref 352)) [.ref co] Q H:=by
 refine E.iN rfl ?_;walk_at"ws";refine dh (a.obj .ah _ rfl) ?_;walk_at"ws";refine fF (a.obj .aa _ rfl) (by refine lm ?_;exact bI om rfl) ?_;refine rG (au _) ?_;refine a.ZR (bI hz rfl) λH1 a1 k1=>?_;walk_at"ws";refine aJ (Ft) (λU=>?_);walk_at"ws";exact k H1 a1 k1
theorem aaO(E:Env C)(a:ac co pr lay st H)(d:bU N st)(hl:Lit N l)(k:Q (.int (pD st l)) H):jw C (n+2) (.con (.ref 317)) [.ref co,.int l] Q H:=by
 haveI hb:=hl.2;haveI hN:=d.big;haveI d2:=d.lvl;haveI d6:=d.ah;refine E.Bn rfl ?_;walk_at"ws";refine on E a d hl ?_;walk_at"ws";unfold pD at k;refine aJ (λh=>?_) (λh=>?_)
 .haveI h:=tL h;haveI k:=(az h)▸k;walk_at"ws";refine vn E a (cT d6 hN rfl) ?_;walk_at"ws";exact k
 .haveI h:=wv h;rw[ax (λz=>z h)] at k;walk_at"ws";refine gM ?_;refine bC (a.obj .lvl _ rfl) (cF d2 hN rfl) (aC l.natAbs) (gS (aC l.natAbs) (eB d2 hb)) ?_;walk_at"ws";exact k
theorem aaP(E:Env C)(a:ac co pr lay st H)(d:bU N st){v:Int}(h0:0<=v)(h1:v<=N)(k:Q (.int (at' st.bk v)) H):jw C (n+1) (.con (.ref 282)) [.ref co,.int v] Q H:=by
 haveI hN:=d.big;haveI d2:=d.bk;refine E.Bn rfl ?_;walk_at"ws";refine bC (a.obj .bk _ rfl) (cF d2 hN rfl) (h0) (gS (h0) (by exact DT h1 d2)) ?_;exact k
theorem aaQ(E:Env C)(a:ac co pr lay st H)(d:bU N st)(e:H rc=some (iL xs))(h5:xs.length<=5)(hb: ∀x,x∈xs->Lit N x)(t:Nat)(ht:0<t)
  (k: ∀ys r,ys.Perm xs->(ys.Pairwise λa b=>pD st b<=pD st a)->H r=none->r.t=t->Q (.ref r) (upd H r (iL ys))):aM C (n+5) (.con (.ref 324)) [.ref co,.ref rc] Q H:=by
 refine E.eY rfl ?_;walk_at"ws";refine It E (.inl ⟨rc,rfl,e⟩) h5 t λys hp hs r hr ht=>?_;walk_at"ws";haveI e1:upd H r (iL ys) r=some (iL ys):=aI _ _ _;refine⟨⟨r,_,rfl,e1⟩,?_⟩;haveI a1:=a.bx (am.fresh (o:=iL ys) hr);walk_at"ws";haveI oh:ys.length<=5:=by refine rG hp.length_eq ?_;exact h5
 refine WZ (n:=n+3) e1 (by refine rG (au _) ?_;exact oh) rfl ?_;haveI a2:ac co pr lay st (upd (upd H r (iL ys)) r .gone):=by rw[Bp];exact a.bx (am.fresh hr)
 refine vh (g:=λv=>match v with| .int x=>.int (pD st x)|v=>v) (λx hx Q q=>?_) ⟨.inl λk dg=>?_,λout ho=>⟨aI _ _ _,?_⟩⟩
 .refine ab (List.mem_map.mp hx) λy hy o2=>?_;subst o2;exact Hv (aaO E a2 d (hb y (hp.mem_iff.mp hy)) q)
 .replace dg:=eN▸(gD _)▸dg;refine ab (List.mem_map.mp dg) λy hy o3=>?_;subst o3;exact⟨_,rfl⟩
 .replace ho:=eN▸(gD _)▸ho;refine bX (xG (g:=λx=>V.int (pD st x)) ho) λzs hq o4 iO=>?_;subst o4;rw[Bp,Bp];walk_at"ws";refine k zs r (hq.trans hp) (iO.imp λ{a b} q=>?_) hr ht;simp only[Option.getD_some,if_true,w8,ct] at q;exact za q
theorem aaR(E:Env C)(a:ac co pr lay st H)(d:bU N st){rs:Ref}(e:H rs=some (iL xs))(h5:xs.length<=5)(hb: ∀x,x∈xs->0<=x/\x<=N)
  (k: ∀ys r,ys.Perm xs->H r=none->r.t=9->Q (.ref r) (upd H r (iL ys))):aM C (n+4) (.con (.ref 289)) [.ref co,.ref rs] Q H:=by
 refine E.eY rfl ?_;walk_at"ws";refine Ir (n:=n+2) (f:=λx=>at' st.bk x) (.inl ⟨rs,rfl,e⟩) h5 rfl (λx hx Q q=>Hv (aaP E a d (hb x hx).1 (hb x hx).2 q)) 9 λys hp U r hr ht=>?_;exact k ys r hp hr ht
end
theorem IC(e:H r=some (iL xs))(hz:xs.length<aO)(h0:0<=i)(k:cH (iL (xs.take i.toNat)) Q H):tX (.ref r) (.int i) Q H:=by
 refine .li e (by refine rG (au _) ?_;exact hz) h0 ?_;refine rB List.map_take ?_;exact k
theorem aaS(e:H r=some (iL xs))(hz:xs.length<aO)(h0:0<=i)(k:cH (iL (xs.drop i.toNat)) Q H):tW (.ref r) (.int i) Q H:=by
 refine .li e (by refine rG (au _) ?_;exact hz) h0 ?_;refine rB List.map_drop ?_;exact k
structure BC(N:Nat)(st:St)(ss:List Int)(s0:Int)(ae:St):Prop where
 eq: ∃asg aB bB told,ae=(((((((st.i4 asg).jY aB).mP bB).qE (st.aa.take s0.toNat)).pq ss).w_head ((if s0<st.head then s0 else st.head))).va told)
 la:ae.asg.length=N+1
 lr:ae.aB.length=N+1
 lp:ae.bB.length=N+1
 asg: ∀v:Int,0<v->v<=N->at' ae.asg v=if v.natAbs∈(st.aa.drop s0.toNat).map Int.natAbs then 0 else at' st.asg v
 aB: ∀v:Int,0<v->v<=N->v.natAbs∉(st.aa.drop s0.toNat).map Int.natAbs->at' ae.aB v=at' st.aB v
section
variable{C:Cfg}{n:Nat}{H:MH}{Q:PV}{co pr:Ref}{lay:Sl->Ref}{st:St}{N:Nat}
theorem aaT(E:Env C)(a:ac co pr lay st H)(d:bU N st){v:Int}(h0:0<v)(h1:v<=N)(k:Q .none H):aM C (n+2) (.con (.ref 156)) [.ref (lay .heap),.int v] Q H:=by
 haveI hN:=d.big;haveI hp:=d.hp.2 v h0 h1;haveI hl:=d.hp.1;refine E.eY rfl ?_;walk_at"ws";refine E.eY rfl ?_;walk_at"ws";refine bC (a.obj .bR _ rfl) (cF hl hN rfl) (oK h0) (gS (oK h0) (by exact DT h1 hl)) ?_;walk_at"ws";refine aJ (λU=>?_) (λh=>by haveI h:=ma h;exact(DS hp h).elim);walk_at"ws";exact k
theorem BD(E:Env C)(a:ac co pr lay st H)(hz:st.ah.length<1000)(hl:(st.ah.length:Int)<=l)(k:Q .none H):aM C (n+2) (.con (.ref 359)) [.ref co,.int l] Q H:=by
 refine E.eY rfl ?_;walk_at"ws";refine vn E a hz ?_;walk_at"ws";refine aJ (λU=>?_) (λh=>by haveI h:=ma h;exact(MU hl h).elim);walk_at"ws";exact k
theorem aaU(E:Env C)(a:ac co pr lay st H)(d:bU N st)(t:Tr N st){ss:List Int}(hs:st.ah=ss++[s0])
  (k: ∀H' ae,At co pr ae H'->BC N st ss s0 ae->bF H H'->Q .none H'):aM C (n+3) (.con (.ref 359)) [.ref co,.int ss.length] Q H:=by
 have hN:=d.big;haveI d1:=d.asg;haveI d3:=d.aB;haveI d4:=d.bB;haveI d5:=d.aa;haveI d6:=d.ah;haveI pE:st.ah.length=ss.length+1:=by exact rG hs (rG bm (rG cV rfl))
 have fJ:0<=s0/\s0<=st.aa.length:=t.ah.2 s0 (by refine rG hs ?_;simp);refine E.eY rfl ?_;walk_at"ws";refine vn E a (cT d6 hN rfl) ?_;walk_at"ws";refine aJ (λh=>by haveI h:=fP h;exact(MT pE h).elim) (λU=>?_);walk_at"ws";refine bC (x:=s0) (a.obj .ah _ rfl) (cT d6 hN rfl) (aC ss.length) (by exact rG hs (rG (bO _) (rG (g9) rfl))) ?_;walk_at"ws";refine fF (a.obj .aa _ rfl) (by refine lm ?_;exact cT d5 hN rfl) ?_;refine rG (au _) ?_;walk_at"ws";refine AE (by exact zf) (dO rfl) ?_;refine Bt (by exact MS hN d5) (by exact MR hN d5 fJ.1 fJ.2) (λi m H'=> ∃asg aB bB,ac co pr lay (((st.i4 asg).jY aB).mP bB) H'/\aR lay H H'/\asg.length=N+1/\aB.length=N+1/\bB.length=N+1/\
   (∀v:Int,0<v->v<=N->at' asg v=if v.natAbs∈(st.aa.drop (st.aa.length-i)).map Int.natAbs then 0 else at' st.asg v)/\
   (∀v:Int,0<v->v<=N->v.natAbs∉(st.aa.drop (st.aa.length-i)).map Int.natAbs->at' aB v=at' st.aB v)/\
   m "self" =some (.ref co)/\m "start" =some (.int s0)/\m "level" =some (.int ss.length)) ?_ ?_ ?_
 .intro i m H' K hi o1 kn U U U;refine yY o1 λasg aB bB a1 k1 q1 q2 q3 q4 q5 h1 h2 h3=>?_;haveI ce:st.aa.length-1-i<st.aa.length:=by exact MQ fJ.1 hi
  refine ag (⟨_,eL ce⟩: ∃l,st.aa[st.aa.length-1-i]?=some l) λl hl=>?_;have hL:=t.bq l (bd hl);have hb:=hL.2;haveI BE:=hL.1;haveI cZ:st.aa[((st.aa.length:Int)-1-(i:Int)).toNat]?=some l:=by refine rG (by exact MP:((st.aa.length:Int)-1-(i:Int)).toNat=st.aa.length-1-i) ?_;exact hl
  have hd:st.aa.drop (st.aa.length-(i+1))=l::st.aa.drop (st.aa.length-i):=by
   refine ag (List.getElem?_eq_some_iff.mp hl) λhq he=>?_;exact rG (by exact MO:st.aa.length-(i+1)=st.aa.length-1-i) (rG (pY hq) (rG he (rG (by exact MN fJ.1 hi:st.aa.length-1-i+1=st.aa.length-i) rfl)))
  refine⟨_,rfl,?_⟩;walk_at"ws";refine bC (a1.obj .aa _ rfl) (by refine(?_:st.aa.length<_);exact cT d5 hN rfl) (by exact ML fJ.1 hi) cZ ?_;refine gM ?_;walk_at"ws";refine bC (a1.obj .asg _ rfl) (by refine(?_:asg.length<_);exact cF q1 hN rfl) (aC l.natAbs) (gS (l:=asg) (aC l.natAbs) (eB q1 hb)) ?_;walk_at"ws";refine a1.ZF (by refine(?_:bB.length<_);exact cF q3 hN rfl) (aC l.natAbs) (by refine(?_:_<((bB.length:Nat):Int));exact eB q3 hb) λH2 a2 k2=>?_;walk_at"ws";refine a2.Ih (by refine(?_:asg.length<_);exact cF q1 hN rfl) (aC l.natAbs) (by refine(?_:_<((asg.length:Nat):Int));exact eB q1 hb) λH3 a3 k3=>?_;walk_at"ws";refine a3.Ii (by refine(?_:aB.length<_);exact cF q2 hN rfl) (aC l.natAbs) (by refine(?_:_<((aB.length:Nat):Int));exact eB q2 hb) λH4 a4 k4=>?_;walk_at"ws";refine aaT (N:=N) E a4 ⟨d.big,?_,d.lvl,?_,d.bk,?_,d.seen,d.aQ,d.aq,d.aa,d.ah,d.cls,d.aW,d.act,d.bS,d.af,d.hp⟩ (by exact DV BE) (CX hb) ?_
  .refine(?_:(asg.set _ _).length=_);refine rG d7 ?_;exact q1
  .refine(?_:(aB.set _ _).length=_);refine rG d7 ?_;exact q2
  .refine(?_:(bB.set _ _).length=_);refine rG d7 ?_;exact q3
  walk_at"ws";refine kn _ _ ⟨_,_,_,a4,k1.trans (k2.trans (k3.trans (k4))),by refine rG d7 ?_;exact q1,by refine rG d7 ?_;exact q2,by refine rG d7 ?_;exact q3,λv v0 v1=>?_,λv v0 v1 hv=>?_,h1,h2,h3⟩
  .refine(?_:at' (asg.set _ _) v=_);refine rG (By (aC l.natAbs) (eB q1 hb) (oK v0)) (rG hd (rG dq ?_));by_cases e:(l.natAbs:Int)=v
   ·(refine rG (az e) ?_;rw[az]);refine rI gE ?_;exact .inl (by exact DU e)
   .refine rG (ax e) (rG (q4 v v0 v1) ?_);haveI:v.natAbs≠l.natAbs:=by exact MK v0 e
    simp only[gE,this,false_or]
  ·(haveI hv:=dq▸hd▸hv;rewrite [gE] at hv)
   refine(?_:at' (aB.set _ _) v=_);refine rG (By (aC l.natAbs) (eB q2 hb) (oK v0)) (rG (ax (λe=>hv (.inl (by exact DU e)))) ?_);exact q5 v v0 v1 λz=>hv (.inr z)
 .intro m H' o2;refine yY o2 λasg aB bB a1 k1 q1 q2 q3 q4 q5 h1 h2 h3=>?_;haveI ei:st.aa.length-((st.aa.length:Int)-1-(s0-1)).toNat=s0.toNat:=by exact MJ fJ.2
  rw[ei] at q4 q5;walk_at"ws";refine IC (a1.obj .aa _ rfl) (by refine(?_:st.aa.length<_);exact cT d5 hN rfl) fJ.1 (alloc (cJ .aa) λr hr ht=>?_);haveI a2:=a1.bx (am.fresh (o:=iL (st.aa.take s0.toNat)) hr);walk_at"ws";refine a2.aac ht (aI _ _ _) λH3 a3 k3=>?_;walk_at"ws";haveI et:st.ah.take ((ss.length:Int)).toNat=ss:=by (refine rG hs (rG (bO _) ?_);rw[List.take_left']);rfl
  refine IC (a3.obj .ah _ rfl) (by refine(?_:st.ah.length<_);exact cT d6 hN rfl) (aC ss.length) ?_;refine(?_:cH (iL (st.ah.take _)) _ _);refine rG et ?_;refine alloc (cJ .ah) λr2 bZ qK=>?_;haveI a4:=a3.bx (am.fresh (o:=iL ss) bZ);walk_at"ws";refine a4.aad qK (aI _ _ _) λH5 a5 k5=>?_;walk_at"ws";refine GJ ?_;walk_at"ws";refine a5.Bj λH6 a6 k6=>?_;walk_at"ws";refine GJ ?_;walk_at"ws";refine a6.ZZ λH7 a7 k7=>?_;walk_at"ws";refine aJ (Ft) (λU=>?_);walk_at"ws";exact k H7 _ a7.at ⟨⟨asg,aB,bB,(if s0<st.told then s0 else st.told),rfl⟩,q1,q2,q3,q4,q5⟩ ((a.keep (k1.trans ((am.fresh hr).od.trans k3))).trans ((am.fresh bZ).keep.trans ((a3.keep k5).trans ((a5.keep k6).trans (a6.keep k7)))))
 .refine⟨st.asg,st.aB,st.bB,a,aR.refl _,d1,d3,d4,λv v0 v1=>?_,λv v0 v1 U=>rfl,rfl,rfl,rfl⟩;refine rG (Nat.sub_zero _) (rG List.drop_length ?_);rfl
end
noncomputable def GoodC(N:Nat)(c:List Int):Prop:=ez c/\c≠[]/\c.length<=3/\ ∀x,x∈c->Lit N x
structure Cl(N:Nat)(cs:List (List Int))(st:St):Prop where
 rel: ∀(k:Nat) c,st.cls[k]?=some c-> ∃c0,cs[k]?=some c0/\c.Perm c0
 good: ∀(k:Nat) c0,cs[k]?=some c0->GoodC N c0
structure CG(N:Nat)(c:List Int):Prop where
 nd:(c.map Int.natAbs).Nodup
 ne:c≠[]
 len:c.length<=3
 lit: ∀x,x∈c->Lit N x
theorem Cl.cg{N:Nat}{cs:List (List Int)}{st:St}(h:Cl N cs st){k:Nat}(e:st.cls[k]?=some c):CG N c:=by
 refine ab (h.rel k c e) λc0 e0 hp=>?_;refine gW (h.good k c0 e0) λh1 h2 h3 h4=>?_;exact⟨(hp.map _).nodup_iff.mpr (sK h1),λz=>h2 (by haveI hp:=z▸hp;exact List.nil_perm.mp hp),by refine rG hp.length_eq ?_;exact h3,λx hx=>h4 x (hp.mem_iff.mp hx)⟩
theorem vo(h:Lit N l):bz l<2*N+2:=by
 haveI:=h.2;unfold bz;split<;>(first|exact M3 this|exact M4 this)
theorem qN(h:Lit N l)(h':Lit N l')(e:bz l=bz l'):l=l':=by
 haveI:=h.1;haveI:=h'.1;unfold bz at e;split at e<;>split at e<;>(first|exact MZ (by assumption) e|exact(M0 (by assumption) e).elim|exact(M1 (by assumption) e).elim|exact M2 (by assumption) e)
section
variable{C:Cfg}{n:Nat}{H:MH}{Q:PV}{co pr:Ref}{lay:Sl->Ref}{st:St}{N:Nat}
theorem aaV(E:Env C)(a:ac co pr lay st H)(d:bU N st)(hc:st.cls[k]?=some (x0::x1::r))(dA:r.length<=3)(hl: ∀x,x∈r->Lit N x)(hw: ∀x,x∈r-> ∀ws,st.aq[bz x]?=some ws->ws.length<1000)
  (kt: ∀(i:Nat) x ws H',r[i]?=some x->val st x≠ -1->st.aq[bz x]?=some ws->ac co pr lay ((st.iJ (st.cls.set k (x0::x::r.set i x1))).jB (st.aq.set (bz x) (ws++[(k:Int)]))) H'->aR lay H H'->Q (.bool true) H')
  (kf:(∀x,x∈r->val st x= -1)->Q (.bool false) H):aM C (n+2) (.con (.ref 380)) [.ref co,.int k,.ref (lay (.c k))] Q H:=by
 have hN:=d.big;haveI d1:=d.asg;haveI dw:=d.aq;refine E.og rfl ?_;walk_at"ws";refine fF (a.fU hc) (by refine rG (au _) (rG lid ?_);simp;exact DY dA) ?_;refine rG (au _) ?_;refine AD ?_;refine pz (dO rfl) (by simp;exact MY dA) (λi m H'=>H'=H/\(∀j,j<i-> ∀x,r[j]?=some x->val st x= -1)/\m "self" =some (.ref co)/\m "lits" =some (.ref (lay (.c k)))/\m "number" =some (.int k)) ?_ ?_ ⟨rfl,λj hj=>absurd hj (Nat.not_lt_zero _),rfl,rfl,rfl⟩
 .intro i m H' K hi o1 kn U U kr;refine nj o1 λo2 hf h1 h2 h3=>?_;clear o1;subst o2;simp only[fh] at hi;haveI hir:i<r.length:=by exact MX hi
  refine ag (⟨_,eL hir⟩: ∃x,r[i]?=some x) λx hx=>?_;have hL:=hl x (bd hx);haveI hb:=hL.2;have BF:(x0::x1::r)[((2:Int)+i).toNat]?=some x:=by
   refine rG (by exact DW:((2:Int)+i).toNat=i+1+1) (rG (rD) (rG (rD) ?_));exact hx
  have cL:(x0::x1::r).length<aO:=by refine rG lid ?_;simp;exact DY dA
  refine⟨_,rfl,?_⟩;walk_at"ws";refine bC (a.fU hc) cL (aC (2+i)) BF ?_;refine on E a d hL ?_;walk_at"ws";refine aJ (λh=>?_) (λh=>?_)
  .haveI h:=tL h;walk_at"ws";refine bC (a.fU hc) cL (aC (2+i)) BF ?_;walk_at"ws";refine bC (x:=x1) (a.fU hc) cL (aC 1) rfl ?_;walk_at"ws";refine a.xD hc cL (aC 1) (by simp;exact DX) λH1 a1 k1=>?_;haveI xR:(st.cls.set k ((x0::x1::r).set (1:Int).toNat x))[k]?=some (x0::x::r):=by
    refine rG (gj (List.getElem?_eq_some_iff.mp hc).1) ?_;rfl
   walk_at"ws";refine a1.xD xR cL (aC (2+i)) (by simp;exact MW hi) λH2 a2 k2=>?_;haveI es:(x0::x::r).set ((2:Int)+i).toNat x1=x0::x::r.set i x1:=by
    refine rG (by exact DW:((2:Int)+i).toNat=i+1+1) ?_;rfl
   replace a2:=es▸a2;haveI lP:((st.cls.set k ((x0::x1::r).set (1:Int).toNat x)).set k (x0::x::r.set i x1))[k]?=some (x0::x::r.set i x1):=by
    exact rG (gj (by rw[d7];exact(List.getElem?_eq_some_iff.mp hc).1)) rfl
   walk_at"ws";refine bC (x:=x) (a2.fU lP) (by refine rG lid ?_;simp;exact bI cL rfl) (aC 1) rfl ?_;refine vg E (cT hb hN rfl) ?_;haveI hp:=vo hL;refine a2.xC (by refine(?_:st.aq.length<_);exact tD dw hN rfl) (aC (bz x)) (by refine(?_:_<((st.aq.length:Nat):Int));exact zg dw hp) ?_;refine ag (⟨_,eL (tG dw hp)⟩: ∃ws,st.aq[bz x]?=some ws) λws pF=>?_;refine rG (bO _) ?_;refine dh (a2.pu pF) ?_;walk_at"ws";refine a2.Bi pF (by refine rG lid ?_;haveI:=hw x (bd hx) ws pF;exact bI this rfl) λH3 a3 k3=>?_;walk_at"ws";refine kr _ _ _ ?_;refine kt i x ws H3 hx h pF ?_ (k1.trans (k2.trans k3));haveI:(st.cls.set k ((x0::x1::r).set (1:Int).toNat x)).set k (x0::x::r.set i x1)=st.cls.set k (x0::x::r.set i x1):=by exact rG (List.set_set _) rfl
   refine rB this ?_;exact a3
  .haveI h:=wv h;walk_at"ws";refine kn _ _ ⟨rfl,λj hj y hy=>?_,h1,h2,h3⟩;rcases Nat.lt_succ_iff_lt_or_eq.mp hj with q|q
   .exact hf j q y hy
   .subst q;replace hy:=hx▸hy;cases hy;exact h
 .intro m H' o3;refine b9 o3 λo4 hf U=>?_;clear o3;subst o4;walk_at"ws";refine kf λx hx=>?_;refine ag (List.mem_iff_getElem?.mp hx) λj hj=>?_;haveI:=(List.getElem?_eq_some_iff.mp hj).1;exact hf j (by simp only[fh];exact MV this) x hj
end
noncomputable def jE(st:St)(l:Int)(ws:List Int):Prop:=ws.Nodup/\ ∀j:Int,j∈ws↔ ∃(k:Nat) (a b:Int) (r:List Int),j=k/\st.cls[k]?=some (a::b::r)/\(a=l∨b=l)
noncomputable def qO(N:Nat)(st:St):Prop:= ∀l,Lit N l-> ∃ws,st.aq[bz l]?=some ws/\jE st l ws
noncomputable def iP(st:St)(T T':List Int):Prop:= ∀(k:Nat) a b r,st.cls[k]?=some (a::b::r)->(-a∈T->b∈T')/\(-b∈T->a∈T')
noncomputable def kY(st:St)(T:List Int):Prop:= ∀(k:Nat) a,st.cls[k]?=some [a]->a∈T
structure Base(N:Nat)(cs:List (List Int))(st:St):Prop where
 aT:bU N st
 tr:Tr N st
 cl:Cl N cs st
 w:qO N st
 qs: ∀s,s∈st.ah->iP st (st.aa.take s.toNat) (st.aa.take s.toNat)/\kY st (st.aa.take s.toNat)
 qu:kY st st.aa
structure Quiet(N:Nat)(cs:List (List Int))(st:St):Prop extends Base N cs st where
 cU:0<=st.head/\st.head<=st.aa.length
 mu: ∀s,s∈st.ah->s<=st.head
 qh:iP st (st.aa.take st.head.toNat) st.aa
theorem Tr.perm{st ae:St}(t:Tr N st)(e:ae.asg=st.asg/\ae.lvl=st.lvl/\ae.aB=st.aB/\ae.bk=st.bk/\ae.aa=st.aa/\ae.ah=st.ah)(h: ∀(k:Nat) c,st.cls[k]?=some c-> ∃c',ae.cls[k]?=some c'/\c'.Perm c):Tr N ae:=by
 refine eK e λe1 e2 e3 e4 e5 e6=>?_;clear e;refine⟨by refine rG e5 ?_;exact t.bq,by refine rG e5 ?_;exact t.nd,by refine rG e1 (rG e5 ?_);exact t.asg,by refine rG e4 (rG e5 ?_);exact t.bk,by refine rG e2 (rG e5 (rG e6 ?_));exact t.lvl,by refine rG e5 (rG e6 ?_);exact t.ah,λi l hl=>?_⟩;haveI hl:=e5▸hl;unfold Bz;refine rG e3 (rG e5 (rG e6 ?_));rcases t.aB i l hl with q|⟨q1,j,c,q2,q3,q4,q5⟩
 .exact .inl q
 .refine ab (h j c q3) λc' h1 h2=>?_;exact .inr ⟨q1,j,c',q2,h1,h2.mem_iff.mpr q4,λx hx=>q5 x (h2.mem_iff.mp hx)⟩
theorem mX{α:Type}{l:List α}{k j:Nat}{x y:α}(h:(l.set k x)[j]?=some y):(j=k/\y=x)∨(j≠k/\l[j]?=some y):=by
 by_cases e:j=k
 .subst e;haveI hl:=(List.getElem?_eq_some_iff.mp h).1;haveI hl:=d7▸hl;haveI h:=(gj hl)▸h;exact .inl ⟨rfl,(lx h).symm⟩
 .haveI h:=(gk (Ne.symm e))▸h;exact .inr ⟨e,h⟩
theorem ID{l:List (List Int)}{c0 c1:List Int}(h0:l[k]?=some c0)(hp:c1.Perm c0)(j:Nat)(c:List Int)(h:l[j]?=some c): ∃c',(l.set k c1)[j]?=some c'/\c'.Perm c:=by
 by_cases e:j=k
 .subst e;replace h:=h0▸h;cases h;exact⟨c1,gj (List.getElem?_eq_some_iff.mp h0).1,hp⟩
 .exact⟨c,by refine rG (gk (Ne.symm e)) ?_;exact h,.refl _⟩
theorem Cl.set{N:Nat}{cs:List (List Int)}{st ae:St}(h:Cl N cs st)(h0:st.cls[k]?=some c0)(hp:c1.Perm c0)(e:ae.cls=st.cls.set k c1):Cl N cs ae:=by
 refine⟨λj c hj=>?_,h.good⟩;replace hj:=e▸hj;rcases mX hj with ⟨rfl,rfl⟩|⟨_,q⟩
 .refine ab (h.rel j c0 h0) λd h1 h2=>?_;exact⟨d,h1,hp.trans h2⟩
 .exact h.rel j c q
theorem ahn{l:List Int}(h:i<=j)(hx:x∈l.take i):x∈l.take j:=by
 haveI hx:=(by rw[List.take_take,Nat.min_eq_left h]:l.take i=(l.take j).take i)▸hx;exact km hx
structure VI(N:Nat)(cs:List (List Int))(h:Nat)(g:Int)(bD:List Int)(i:Nat)(kept:List Int)(st:St):Prop where
 aT:bU N st
 tr:Tr N st
 cl:Cl N cs st
 hg:st.aa[h]?=some g
 i8: ∀s,s∈st.ah->s<=h
 head:st.head=h+1
 wo: ∀l,Lit N l->l≠ -g-> ∃ws,st.aq[bz l]?=some ws/\jE st l ws
 wg:st.aq[bz (-g)]?=some bD
 wk:jE st (-g) (kept++bD.drop i)
 qs: ∀s,s∈st.ah->iP st (st.aa.take s.toNat) (st.aa.take s.toNat)/\kY st (st.aa.take s.toNat)
 qu:kY st st.aa
 ca:iP st (st.aa.take h) st.aa
 cb: ∀(k:Nat) a b r,st.cls[k]?=some (a::b::r)->(k:Int)∉bD.drop i->(a= -g->b∈st.aa)/\(b= -g->a∈st.aa)
theorem lQ{l:List Int}{i:Nat}{x:Int}(h:l[i]?=some x):l.drop i=x::l.drop (i+1):=by
 refine ag (List.getElem?_eq_some_iff.mp h) λhi e=>?_;exact rG (pY hi) (rG e rfl)
section
variable{N:Nat}{cs:List (List Int)}{h:Nat}{g:Int}{bD:List Int}{i:Nat}{kept:List Int}{st:St}
theorem VI.gt(v:VI N cs h g bD i kept st):g∈st.aa:=bd v.hg
theorem VI.gl(v:VI N cs h g bD i kept st):Lit N g:=v.tr.bq g v.gt
theorem VI.BG(v:VI N cs h g bD i kept st): -g∉st.aa:=v.tr.con v.gt
theorem VI.at(v:VI N cs h g bD i kept st){j:Int}(hj:bD[i]?=some j): ∃(k:Nat) (a b:Int) (r:List Int),j=k/\st.cls[k]?=some (a::b::r)/\(a= -g∨b= -g):=
 (v.wk.2 j).mp (by refine rG (lQ hj) ?_;simp)
theorem jE.swap{l:Int}{ws:List Int}{ae:St}(w:jE st l ws)(hc:st.cls[k]?=some (a::b::r))(e:ae.cls=st.cls.set k (b::a::r)):jE ae l ws:=by
 refine⟨w.1,λj=>(w.2 j).trans ⟨λaaX=>f4 aaX λk' a' b' r' h1 h2 h3=>?_,λaaY=>f4 aaY λk' a' b' r' h1 h2 h3=>?_⟩⟩
 .by_cases q:k'=k
  .subst q;replace h2:=hc▸h2;cases h2;exact⟨k',b,a,r,h1,by refine rG e ?_;exact gj (List.getElem?_eq_some_iff.mp hc).1,h3.symm⟩
  .exact⟨k',a',b',r',h1,by refine rG e (rG (gk (Ne.symm q)) ?_);exact h2,h3⟩
 .replace h2:=e▸h2;rcases mX h2 with ⟨rfl,q⟩|⟨_,q⟩
  .cases q;exact⟨k',a,b,r,h1,hc,h3.symm⟩
  .exact⟨k',a',b',r',h1,q,h3⟩
theorem iP.swap{T T':List Int}{ae:St}{k:Nat}(w:iP st T T')(hc:st.cls[k]?=some (a::b::r))(e:ae.cls=st.cls.set k (b::a::r)):iP ae T T':=by
 intro k' a' b' r' h2;replace h2:=e▸h2;rcases mX h2 with ⟨rfl,q⟩|⟨_,q⟩
 .cases q;exact(w k' a b r hc).symm
 .exact w k' a' b' r' q
theorem kY.set{T:List Int}{ae:St}{k:Nat}(w:kY st T)(hc:c.length≠1)(e:ae.cls=st.cls.set k c):kY ae T:=by
 intro k' a' h2;replace h2:=e▸h2;rcases mX h2 with ⟨rfl,q⟩|⟨_,q⟩
 .haveI hc:=cX q▸hc;exact absurd rfl hc
 .exact w k' a' q
theorem bU.aaZ(d:bU N st):bU N (st.iJ (st.cls.set k c)):=
 ⟨d.big,d.asg,d.lvl,d.aB,d.bk,d.bB,d.seen,d.aQ,d.aq,d.aa,d.ah,by refine(?_:(st.cls.set k c).length<=8);refine rG d7 ?_;exact d.cls,by refine(?_:_=(st.cls.set k c).length);refine rG d7 ?_;exact d.aW,d.act,d.bS,d.af,d.hp⟩
theorem VI.swap(v:VI N cs h g bD i kept st){k:Nat}{a b:Int}{r:List Int}(hc:st.cls[k]?=some (a::b::r)):VI N cs h g bD i kept (st.iJ (st.cls.set k (b::a::r))):=by
 haveI hp:(b::a::r).Perm (a::b::r):=.swap _ _ _;refine⟨v.aT.aaZ,v.tr.perm ⟨rfl,rfl,rfl,rfl,rfl,rfl⟩ (ID hc hp),v.cl.set hc hp rfl,v.hg,v.i8,v.head,λl hl ne=>let ⟨ws,h1,h2⟩:=v.wo l hl ne;⟨ws,h1,h2.swap hc rfl⟩,v.wg,v.wk.swap hc rfl,λs hs=>⟨(v.qs s hs).1.swap hc rfl,(v.qs s hs).2.set (by simp) rfl⟩,v.qu.set (by simp) rfl,v.ca.swap hc rfl,λk' a' b' r' h2 hk=>?_⟩;rcases mX h2 with ⟨rfl,q⟩|⟨_,q⟩
 .cases q;exact(v.cb k' a b r hc hk).symm
 .exact v.cb k' a' b' r' q hk
theorem VI.keep(v:VI N cs h g bD i kept st){k:Nat}(hj:bD[i]?=some (k:Int))(hc:st.cls[k]?=some (x0:: -g::r))(hx:x0∈st.aa):VI N cs h g bD (i+1) (kept++[(k:Int)]) st:=by
 refine⟨v.aT,v.tr,v.cl,v.hg,v.i8,v.head,v.wo,v.wg,?_,v.qs,v.qu,v.ca,λk' a b r' h2 hk=>?_⟩
 .haveI:=v.wk;haveI this:=(lQ hj)▸this;rwa [iu]
 .by_cases e:k'=k
  .subst e;replace h2:=hc▸h2;cases h2;exact⟨λz=>absurd hx (z▸v.BG),λU=>hx⟩
  .refine v.cb k' a b r' h2 λz=>?_;haveI z:=(lQ hj)▸z;rcases List.mem_cons.mp z with q|q
   .exact e (gz q)
   .exact hk q
theorem pG:x∈(cK st l c).aa↔x∈st.aa∨x=l:=by refine(?_:x∈st.aa++[l]↔_);rw[dG,cx]
theorem VI.cK(v:VI N cs h g bD i kept st){k:Nat}(hj:bD[i]?=some (k:Int))(hc:st.cls[k]?=some (x0:: -g::r))(hx:x0∉st.aa/\ -x0∉st.aa)(hr: ∀x,x∈r-> -x∈st.aa):VI N cs h g bD (i+1) (kept++[(k:Int)]) (cK st x0 k):=by
 have hh:h<st.aa.length:=(List.getElem?_eq_some_iff.mp v.hg).1;haveI hL:Lit N x0:=(v.cl.cg hc).lit x0 (.head _);haveI hn:(st.aa.length:Int)∉st.ah:=λz=>by haveI:=v.i8 _ z;exact(Nb hh this).elim
 haveI tk: ∀s:Int,s∈st.ah->(st.aa++[x0]).take s.toNat=st.aa.take s.toNat:=λs hs=>by
  haveI:=(v.tr.ah.2 s hs);exact rG (wC (by exact Na this.2)) rfl
 refine⟨v.aT.cK v.tr hL hx,v.tr.cK v.aT hL hx (.inr ⟨hn,k,_,rfl,hc,.head _,λx eH ne=>?_⟩),⟨v.cl.rel,v.cl.good⟩,?_,v.i8,v.head,v.wo,v.wg,?_,λs hs=>?_,λk' a h2=>pG.mpr (.inl (v.qu k' a h2)),λk' a b r' h2=>?_,λk' a b r' h2 hk=>?_⟩
 .rcases List.mem_cons.mp eH with e|e
  .exact absurd e ne
  .rcases List.mem_cons.mp e with e|e
   .refine rG e (rG (hH _) ?_);exact v.gt
   .exact hr x e
 .refine(?_:(st.aa++[x0])[h]?=some g);refine rG (gi hh) ?_;exact v.hg
 .haveI:=v.wk;haveI this:=(lQ hj)▸this;rwa [iu]
 .refine(?_:iP _ ((st.aa++[x0]).take s.toNat) ((st.aa++[x0]).take s.toNat)/\kY _ ((st.aa++[x0]).take s.toNat));refine rG (tk s hs) ?_;exact v.qs s hs
 .haveI:=v.ca k' a b r' h2;refine(?_:(-a∈(st.aa++[x0]).take h->_)/\(-b∈(st.aa++[x0]).take h->_));refine rG (wC (eT hh)) ?_;exact⟨λz=>pG.mpr (.inl (this.1 z)),λz=>pG.mpr (.inl (this.2 z))⟩
 .haveI h2:st.cls[k']?=some (a::b::r'):=h2;by_cases e:k'=k
  .subst e;replace h2:=hc▸h2;cases h2;refine⟨λz=>absurd v.gt ?_,λU=>pG.mpr (.inr rfl)⟩;haveI:=hx.2;haveI this:=(hH _)▸z▸this;exact this
  .haveI:=v.cb k' a b r' h2 λz=>by
    haveI z:=(lQ hj)▸z;rcases List.mem_cons.mp z with q|q
    .exact e (gz q)
    .exact hk q
   exact⟨λz=>pG.mpr (.inl (this.1 z)),λz=>pG.mpr (.inl (this.2 z))⟩
theorem VI.moved(v:VI N cs h g bD i kept st){k m:Nat}{x0 x:Int}{r ws:List Int}(hj:bD[i]?=some (k:Int))(hc:st.cls[k]?=some (x0:: -g::r))(h0:x0∉st.aa)(hx:r[m]?=some x)(eH: -x∉st.aa)(hw:st.aq[bz x]?=some ws):
  VI N cs h g bD (i+1) kept ((st.iJ (st.cls.set k (x0::x::r.set m (-g)))).jB (st.aq.set (bz x) (ws++[(k:Int)]))):=by
 have cg:=v.cl.cg hc;have BH:x∈r:=bd hx;have sP:Lit N x:=cg.lit x (.tail _ (.tail _ BH));haveI hLg:=v.gl.neg;haveI bN:=cg.nd;simp only[dq,kB,gE,not_or] at bN;have n1:x0.natAbs≠(-g).natAbs:=bN.1.1;haveI n2:x0.natAbs≠x.natAbs:=λe=>bN.1.2 (e▸mc BH);have n3:(-g).natAbs≠x.natAbs:=λe=>bN.2.1 (e▸mc BH);have kl:=(List.getElem?_eq_some_iff.mp hc).1;have hp:(x0::x::r.set m (-g)).Perm (x0:: -g::r):=by
  refine List.Perm.cons _ ?_;refine ag (List.getElem?_eq_some_iff.mp hx) λhm e=>?_;haveI e1:r=r.take m++x::r.drop (m+1):=by rw[<-e,<-pY hm,List.take_append_drop]
  haveI e2:r.set m (-g)=r.take m++(-g)::r.drop (m+1):=by rw[List.set_eq_take_append_cons_drop,az hm]
  rw[e2];refine List.Perm.trans ?_ (List.Perm.cons _ (List.Perm.of_eq e1.symm));refine(List.Perm.cons x List.perm_middle).trans ((List.Perm.swap _ _ _).trans (List.Perm.cons _ List.perm_middle.symm))
 haveI dW:(st.cls.set k (x0::x::r.set m (-g)))[k]?=some (x0::x::r.set m (-g)):=gj kl;have IE:(k:Int)∉bD.drop (i+1)/\(k:Int)∉kept:=by
  have:=v.wk.1;rw[lQ hj,List.nodup_append] at this;exact⟨(List.nodup_cons.mp this.2.1).1,λz=>this.2.2 _ z _ (.head _) rfl⟩
 have lR: ∀{k':Nat} {c:List Int},k'≠k->((st.cls.set k (x0::x::r.set m (-g)))[k']?=some c↔st.cls[k']?=some c):=λq=>by rw[gk (Ne.symm q)]
 haveI nx0: ∀{T:List Int},(∀z,z∈T->z∈st.aa)->(-x0∈T-> -g∈st.aa)-> -x0∉T:=λU q z=>v.BG (q z);have IF: ∀{T T':List Int},(∀z,z∈T->z∈st.aa)->(∀z,z∈T'->z∈st.aa)->iP st T T'->iP ((st.iJ (st.cls.set k (x0::x::r.set m (-g)))).jB (st.aq.set (bz x) (ws++[(k:Int)]))) T T':=by
  intro T T' hT hT' bj k' a b r' h2;rcases mX h2 with ⟨rfl,q⟩|⟨_,q⟩
  .cases q;haveI:=(bj k' x0 (-g) r hc).1;exact⟨λz=>absurd (hT' _ (this z)) v.BG,λz=>absurd (hT _ z) eH⟩
  .exact bj k' a b r' q
 have pne:bz x≠bz (-g):=λe=>n3 (by rw[qN sP hLg e]);have hwx: ∀l ie,Lit N l->st.aq[bz l]?=some ie->jE st l ie->l≠x->l≠ -g->jE ((st.iJ (st.cls.set k (x0::x::r.set m (-g)))).jB (st.aq.set (bz x) (ws++[(k:Int)]))) l ie:=by
  intro l ie hl U w nx ng;refine⟨w.1,λj=>(w.2 j).trans ⟨λaa4=>f4 aa4 λk' a b r' h1 h2 h3=>?_,λaa5=>f4 aa5 λk' a b r' h1 h2 h3=>?_⟩⟩
  .by_cases q:k'=k
   .subst q;rw[hc] at h2;cases h2;refine⟨k',_,_,_,h1,dW,?_⟩;rcases h3 with h3|h3
    .exact .inl h3
    .exact absurd h3.symm ng
   .exact⟨k',a,b,r',h1,(lR q).mpr h2,h3⟩
  .rcases mX h2 with ⟨rfl,q⟩|⟨q',q⟩
   .cases q;refine⟨k',_,_,_,h1,hc,?_⟩;rcases h3 with h3|h3
    .exact .inl h3
    .exact absurd h3.symm nx
   .exact⟨k',a,b,r',h1,q,h3⟩
 refine⟨⟨v.aT.big,v.aT.asg,v.aT.lvl,v.aT.aB,v.aT.bk,v.aT.bB,v.aT.seen,v.aT.aQ,by refine(?_:(st.aq.set _ _).length=_);rw[d7];exact v.aT.aq,v.aT.aa,v.aT.ah,by refine(?_:(st.cls.set _ _).length<=8);rw[d7];exact v.aT.cls,by refine(?_:_=(st.cls.set _ _).length);rw[d7];exact v.aT.aW,v.aT.act,v.aT.bS,v.aT.af,v.aT.hp⟩,v.tr.perm ⟨rfl,rfl,rfl,rfl,rfl,rfl⟩ (ID hc hp),v.cl.set hc hp rfl,v.hg,v.i8,v.head,λl hl ne=>?_,?_,?_,λs hs=>?_,v.qu.set (by simp) rfl,IF (λz hz=>km hz) (λz hz=>hz) v.ca,λk' a b r' h2 hk=>?_⟩
 .refine ab (v.wo l hl ne) λie h1 h2=>?_;by_cases e:l=x
  .subst e;rw[hw] at h1;cases h1;refine⟨_,gj (List.getElem?_eq_some_iff.mp hw).1,?_,λj=>?_⟩
   .refine List.nodup_append.mpr ⟨h2.1,List.nodup_cons.mpr ⟨dp,eD⟩,λy hy z hz e=>?_⟩;rw[cx] at hz;refine f4 ((h2.2 y).mp hy) λk' a b r' q1 q2 q3=>?_;haveI:k'=k:=by exact M9 hz e q1
    subst this;replace q2:=hc▸q2;cases q2;rcases q3 with q3|q3
    .exact n2 (by exact rG q3 rfl)
    .exact n3 (by exact rG q3 rfl)
   .rw[dG,cx,h2.2 j];constructor
    .intro o1;rcases o1 with ⟨k',a,b,r',q1,q2,q3⟩|q
     .have:k'≠k:=λz=>by
       subst z;rw[hc] at q2;cases q2;rcases q3 with q3|q3
       .exact n2 (by rw[q3])
       .exact n3 (by rw[q3])
      exact⟨k',a,b,r',q1,(lR this).mpr q2,q3⟩
     .exact⟨k,_,_,_,q,dW,.inr rfl⟩
    .intro o2;refine f4 o2 λk' a b r' q1 q2 q3=>?_;clear o2;rcases mX q2 with ⟨rfl,q⟩|⟨q',q⟩
     .exact .inr q1
     .exact .inl ⟨k',a,b,r',q1,q,q3⟩
  .refine⟨ie,?_,hwx l ie hl h1 h2 e ne⟩;refine(?_:(st.aq.set _ _)[bz l]?=_);rw[gk (λz=>e (qN hl sP z.symm))];exact h1
 .refine(?_:(st.aq.set _ _)[bz (-g)]?=_);refine rG (gk pne) ?_;exact v.wg
 .haveI w:=v.wk;replace w:=(lQ hj)▸w;refine⟨?_,λj=>?_⟩
  .have:=w.1;rw[List.nodup_append] at this ⊢;exact⟨this.1,(List.nodup_cons.mp this.2.1).2,λa ha b hb=>this.2.2 a ha b (.tail _ hb)⟩
  .haveI w2:=w.2 j;rw[dG,gE] at w2;refine rI dG ?_;constructor
   .intro xS;haveI:j≠k:=λz=>by haveI xS:=z▸xS;exact xS.elim IE.2 IE.1
    refine f4 (w2.mp (xS.imp_right .inr)) λk' a b r' q1 q2 q3=>?_;exact⟨k',a,b,r',q1,(lR (λz=>this (by exact M8 q1 z))).mpr q2,q3⟩
   .intro o3;refine f4 o3 λk' a b r' q1 q2 q3=>?_;clear o3;rcases mX q2 with ⟨rfl,q⟩|⟨q',q⟩
    .cases q;rcases q3 with q3|q3
     .exact absurd (by exact rG q3 rfl) n1
     .exact absurd (by exact rG q3 rfl) n3.symm
    .rcases w2.mpr ⟨k',a,b,r',q1,q,q3⟩ with z|z|z
     .exact .inl z
     .exact absurd (by exact M7 q1 z) q'
     .exact .inr z
 .refine⟨IF (λz hz=>km hz) (λz hz=>km hz) (v.qs s hs).1,(v.qs s hs).2.set (by simp) rfl⟩
 .rcases mX h2 with ⟨rfl,q⟩|⟨q',q⟩
  .cases q;exact⟨λz=>absurd (by exact rG z rfl) n1,λz=>absurd (by exact rG z rfl) n3.symm⟩
  .refine v.cb k' a b r' q λz=>?_;haveI z:=(lQ hj)▸z;rcases List.mem_cons.mp z with e|e
   .exact q' (gz e)
   .exact hk e
theorem jE.len(w:jE st l ws)(h8:st.cls.length<=8):ws.length<=8:=by
 haveI:(ws.map Int.toNat).length<=8:=by
  refine kW 8 _ ?_ ?_
  .unfold List.Nodup;refine rI eC ?_;refine ir ?_ w.1;intro a b ha hb ne e;refine tK ((w.2 a).mp ha) λk U U U q U=>?_;refine tK ((w.2 b).mp hb) λk' U U U q' U=>?_;exact ne (by exact M6 e q q')
  .intro x hx;refine ab (List.mem_map.mp hx) λy hy o4=>?_;subst o4;refine f4 ((w.2 y).mp hy) λk U U U q q' U=>?_;haveI:=(List.getElem?_eq_some_iff.mp q').1;exact M5 h8 q this
 rwa [au] at this
theorem VI.finish(v:VI N cs h g bD i kept st){ks:List Int}(hk:jE st (-g) ks):Base N cs (st.jB (st.aq.set (bz (-g)) ks)):=by
 haveI hd:=v.aT;refine⟨⟨hd.big,hd.asg,hd.lvl,hd.aB,hd.bk,hd.bB,hd.seen,hd.aQ,by refine(?_:(st.aq.set _ _).length=_);refine rG d7 ?_;exact hd.aq,hd.aa,hd.ah,hd.cls,hd.aW,hd.act,hd.bS,hd.af,hd.hp⟩,?_,⟨v.cl.rel,v.cl.good⟩,λl hl=>?_,v.qs,v.qu⟩
 .exact v.tr.perm ⟨rfl,rfl,rfl,rfl,rfl,rfl⟩ (λk c hc=>⟨c,hc,.refl _⟩)
 .by_cases e:l= -g
  .subst e;exact⟨ks,gj (List.getElem?_eq_some_iff.mp v.wg).1,hk⟩
  .refine ab (v.wo l hl e) λws h1 h2=>?_;exact⟨ws,by refine rG (gk (λz=>e (qN hl v.gl.neg z.symm))) ?_;exact h1,h2⟩
theorem VI.closed(v:VI N cs h g bD i kept st)(hd:bD.drop i=[]):iP st (st.aa.take (h+1)) st.aa:=by
 intro k a b r hc;haveI h1:=v.ca k a b r hc;haveI h2:=v.cb k a b r hc (by refine rG hd ?_;exact dp);haveI tk:st.aa.take (h+1)=st.aa.take h++[g]:=take_snoc v.hg;refine rG tk ?_;refine⟨λz=>?_,λz=>?_⟩
 .rcases List.mem_append.mp z with z|z
  .exact h1.1 z
  .exact h2.1 (by haveI:=List.mem_singleton.mp z;exact zh this)
 .rcases List.mem_append.mp z with z|z
  .exact h1.2 z
  .exact h2.2 (by haveI:=List.mem_singleton.mp z;exact zh this)
structure Ext(st ae:St):Prop where
 ah:ae.ah=st.ah
 seen:ae.seen=st.seen
 aQ:ae.aQ=st.aQ
 cq:ae.cq=st.cq
 af:ae.af=st.af
 aW:ae.aW=st.aW
 gP:ae.gP=st.gP
 aa: ∃e,ae.aa=st.aa++e
 cls:ae.cls.length=st.cls.length
theorem Ext.refl(st:St):Ext st st:=⟨rfl,rfl,rfl,rfl,rfl,rfl,rfl,⟨[],by exact rG (f5 _) rfl⟩,rfl⟩
theorem Ext.trans(x:Ext a b)(y:Ext b c):Ext a c:=
 ⟨y.ah.trans x.ah,y.seen.trans x.seen,y.aQ.trans x.aQ,y.cq.trans x.cq,y.af.trans x.af,y.aW.trans x.aW,y.gP.trans x.gP,by refine ag x.aa λe h=>?_;refine ag y.aa λe' h'=>?_;exact⟨e++e',by exact rG h' (rG h (rG (iu _ _ _) rfl))⟩,y.cls.trans x.cls⟩
theorem Ext.cK(st:St)(l c:Int):Ext st (cK st l c):=⟨rfl,rfl,rfl,rfl,rfl,rfl,rfl,⟨[l],rfl⟩,rfl⟩
theorem Ext.cw(st:St){cls aq:List (List Int)}(h:cls.length=st.cls.length):Ext st ((st.iJ cls).jB aq):=⟨rfl,rfl,rfl,rfl,rfl,rfl,rfl,⟨[],by exact rG (f5 _) rfl⟩,h⟩
noncomputable def sQ(st:St)(c:Int):Prop:= ∃(k:Nat) (cl:List Int),c=k/\st.cls[k]?=some cl/\ ∀x,x∈cl-> -x∈st.aa
end
section
variable{C:Cfg}{n:Nat}{H:MH}{Q:PV}{co pr:Ref}{lay:Sl->Ref}{st:St}{N:Nat}{cs:List (List Int)}
theorem aa6(E:Env C)(a:ac co pr lay st H)(v:VI N cs h g bD 0 [] st)
  (k: ∀H' ae c,At co pr ae H'->bF H H'->Ext st ae->Base N cs ae->ae.head=h+1->((c= -1/\iP ae (ae.aa.take (h+1)) ae.aa)∨(c≠ -1/\sQ ae c))->Q (.int c) H'):
  aM C (n+3) (.con (.ref 373)) [.ref co,.int (-g)] Q H:=by
 have hN:=v.aT.big;have IG:=v.gl.2;have hp:=vo v.gl.neg;haveI dw:=v.aT.aq;haveI lS:=v.wk.len v.aT.cls;replace lS:=ly▸(gD _)▸lS;refine E.eY rfl ?_;walk_at"ws";refine vg E (C1 IG hN rfl) ?_;refine a.xC (tD dw hN rfl) (aC (bz (-g))) (by exact D2 hp dw) ?_;refine rG (bO _) ?_;walk_at"ws";refine alloc (cJ (.w (bz (-g)))) λrk i9 kZ=>?_;walk_at"ws";have a0:=a.bx (am.fresh (o:=.list []) i9);haveI hwr:=a0.pu v.wg;refine fF hwr (by refine lm ?_;exact aX lS rfl) ?_;refine rG (au _) ?_;refine qx ?_;haveI iQ: ∀s,s=Sl.w (bz (-g))∨s≠Sl.w (bz (-g))->rk≠lay s:=by
  intro s o1 e;rcases o1 with rfl|hs
  .replace i9:=(a.pu v.wg)▸e▸i9;cases i9
  .haveI:=a.tag s;haveI this:=kZ▸cX e▸this;exact hs (mR this).symm
 have iQ: ∀s,rk≠lay s:=λs=>iQ s (Classical.em _);have tail: ∀(m:MM) (H':MH) (ay:St) (ks:List Int) (c:Int) (i:Nat) (kept:List Int),ac co pr lay ay H'->bF H H'->Ext st ay->VI N cs h g bD i kept ay->H' rk=some (iL ks)->jE ay (-g) ks->((c= -1/\bD.drop i=[])∨(c≠ -1/\sQ ay c))->
   m "self" =some (.ref co)->m "gone" =some (.int (-g))->m "kept" =some (.ref rk)->m "conflict" =some (.int c)->
   bo C tabs (n+2) [S.asg (Tg.sub (X.attr (.var "self") "watches") (X.call (X.glob "place_of") [X.var "gone"])) (X.var "kept"),S.ret (X.var "conflict")] (cR Q) m H':=by
  intro m H' ay ks c i kept a1 k1 x1 v1 hk hV hc h1 h2 h3 h4;walk_at"ws";refine vg E (C1 IG hN rfl) ?_;haveI IH:=v1.aT.aq;refine a1.aae (i:=((bz (-g):Nat):Int)) (r:=rk) (l:=ks) (tD IH hN rfl) (aC (bz (-g))) (by exact D2 hp IH) kZ hk λH2 a2 k2=>?_;walk_at"ws";haveI a2:=(bO _)▸a2;refine k H2 _ c a2.at (k1.trans (a1.keep k2)) (x1.trans (Ext.cw ay rfl)) (v1.finish hV) v1.head ?_;rcases hc with ⟨e,hd⟩|⟨e,hc⟩
  .exact .inl ⟨e,v1.closed hd⟩
  .exact .inr ⟨e,hc⟩
 refine pz (dO rfl) (aX lS rfl) (λi m H'=> ∃ay kept,ac co pr lay ay H'/\VI N cs h g bD i kept ay/\H' rk=some (iL kept)/\bF H H'/\Ext st ay/\
   m "self" =some (.ref co)/\m "gone" =some (.int (-g))/\m "watching" =some (.ref (lay (.w (bz (-g)))))/\m "kept" =some (.ref rk)/\m "conflict" =some (.int (-1))) ?_ ?_ ?_
 .intro i m H' K hi o2 kn kc kb kr;refine Db o2 λay kept a1 v1 hk k1 x1 h1 h2 h3 h4 h5=>?_;haveI ce:i<bD.length:=(wn hi);refine ag (⟨_,eL ce⟩: ∃j,bD[i]?=some j) λj hj=>?_;refine f4 (v1.at hj) λkk x0 ja r o3 hc hg=>?_;subst o3;have gN:=(List.getElem?_eq_some_iff.mp hc).1;haveI bj:=v1.aT.cls;haveI hji:bD[((0:Int)+i).toNat]?=some (kk:Int):=by refine rG (yN:((0:Int)+i).toNat=i) ?_;exact hj
  refine⟨_,rfl,?_⟩;walk_at"ws";refine bC (a1.pu v1.wg) (aX lS rfl) (aC (0+i)) hji ?_;walk_at"ws";refine a1.pt (aX bj rfl) (aC kk) (oB gN) ?_;refine rG (bO _) ?_;walk_at"ws";refine aJ (λh=>by cases h) (λU=>?_);walk_at"ws";have cg:=v1.cl.cg hc;have gb:=cg.len;refine bC (x:=x0) (a1.fU hc) (aX gb rfl) (aC 0) rfl ?_;walk_at"ws";have rest: ∀(m:MM) (H':MH) (ay:St) (x0:Int) (r:List Int),ac co pr lay ay H'->VI N cs h g bD i kept ay->ay.cls[kk]?=some (x0:: -g::r)->H' rk=some (iL kept)->bF H H'->Ext st ay->
    m "self" =some (.ref co)->m "gone" =some (.int (-g))->m "watching" =some (.ref (lay (.w (bz (-g)))))->m "kept" =some (.ref rk)->m "conflict" =some (.int (-1))->m "lits" =some (.ref (lay (.c kk)))->m "number" =some (.int kk)->m "spot" =some (.int (0+(i:Int)))->
    bo C tabs (n+2) [S.ite (X.eE (.cmp .NotEq (.ao (.var "self") "value" [.sub (.var "lits") (.int 0)]) (.glob "TRUE")) (.ao (.var "self") "moved" [.var "number",.var "lits"])) [S.cont] [],
     S.expr (.ao (.var "kept") "append" [.var "number"]),.ite (.cmp .Eq (.ao (.var "self") "value" [.sub (.var "lits") (.int 0)]) (.glob "FALSE")) [.asg (.name "conflict") (.var "number"),.expr (.ao (.var "kept") "extend" [.jS (.var "watching") (.bin .Add (.var "spot") (.int 1))]),.brk] [],.ite (.cmp .Eq (.ao (.var "self") "value" [.sub (.var "lits") (.int 0)]) (.glob "UNKNOWN")) [.expr (.ao (.var "self") "enqueue" [.sub (.var "lits") (.int 0),.var "number"])] []] K m H':=by
   clear hg hc ja cg gb;intro m H' ay x0 r a1 v1 hc hk k1 x1 h1 h2 h3 h4 h5 h6 h7 h8;have cg:=v1.cl.cg hc;haveI gb:=cg.len;have gc:Lit N x0:=cg.lit _ (.head _);simp only[fh] at gb;have cL:(x0:: -g::r).length<aO:=by refine rG lid ?_;simp;exact aX gb rfl
   have after:(x0∈ay.aa∨((∀x,x∈r->val ay x= -1)/\x0∉ay.aa))->bo C tabs (n+2) [S.expr (.ao (.var "kept") "append" [.var "number"]),.ite (.cmp .Eq (.ao (.var "self") "value" [.sub (.var "lits") (.int 0)]) (.glob "FALSE")) [.asg (.name "conflict") (.var "number"),.expr (.ao (.var "kept") "extend" [.jS (.var "watching") (.bin .Add (.var "spot") (.int 1))]),.brk] [],.ite (.cmp .Eq (.ao (.var "self") "value" [.sub (.var "lits") (.int 0)]) (.glob "UNKNOWN")) [.expr (.ao (.var "self") "enqueue" [.sub (.var "lits") (.int 0),.var "number"])] []] K m H':=by
    intro II;haveI xT:=v1.wk.len v1.aT.cls;replace xT:=bm▸xT;walk_at"ws";refine dh hk ?_;walk_at"ws";refine jA hk (by refine lm ?_;exact Nj xT) ?_;haveI e2:List.map V.int kept++[V.int kk]=List.map V.int (kept++[(kk:Int)]):=by refine rG cN ?_;rfl
    refine rG e2 ?_;have a2:ac co pr lay ay (upd H' rk (iL (kept++[(kk:Int)]))):=⟨a1.gu,a1.gR,a1.tag,(aD (λe=>by haveI:=a1.gu;exact(D1 (kZ▸e▸this)).elim)).trans a1.core,dj.of_eq (H:=H') (aD (iQ _).symm) a1.cI,(aD (λe=>by haveI:=a1.gR;exact(D0 (kZ▸e▸this)).elim)).trans a1.af,dj.of_eq (H:=H') (aD (iQ _).symm) a1.i6,(aD (iQ _).symm).trans a1.heap,dj.of_eq (H:=H') (aD (iQ _).symm) a1.dy,λs o e=>(aD (iQ _).symm).trans (a1.obj s o e)⟩;haveI k2:bF H (upd H' rk (iL (kept++[(kk:Int)]))):=k1.upd i9;haveI kN:upd H' rk (iL (kept++[(kk:Int)])) rk=some (iL (kept++[(kk:Int)])):=aI _ _ _;generalize upd H' rk (iL (kept++[(kk:Int)]))=H2 at a2 k2 kN ⊢;walk_at"ws";refine bC (x:=x0) (a2.fU hc) cL (aC 0) rfl ?_;refine on E a2 v1.aT gc ?_;walk_at"ws";refine aJ (λhf=>?_) (λhf=>?_)
    .rw[bf,v1.tr.val_neg gc] at hf;haveI h0:x0∉ay.aa:=λz=>v1.tr.con z hf;haveI hr:=(II.resolve_left h0).1;walk_at"ws";refine xx kN ?_;walk_at"ws";refine aaS (a2.pu v1.wg) (aX lS rfl) (aC (0+i+1)) (alloc 5 λr3 dA U=>?_);haveI a3:=a2.bx (am.fresh (o:=iL (bD.drop ((0:Int)+i+1).toNat)) dA);haveI xU:=am.fresh (o:=iL (bD.drop ((0:Int)+i+1).toNat)) dA _ _ kN;haveI ne3:=some_ne_none kN dA;refine xy xU ne3 (aI _ _ _) (by refine rG (au _) (rG (au _) (rG lid (rG bm ?_)));haveI:=List.length_drop (i:=((0:Int)+i+1).toNat) (l:=bD);simp only[List.length_drop,cV];exact Ni lS xT) ?_;walk_at"ws";haveI e4:List.map V.int (kept++[(kk:Int)])++List.map V.int (bD.drop ((0:Int)+i+1).toNat)=List.map V.int (kept++bD.drop i):=by
      refine rB cN (rG (by exact Nh:((0:Int)+i+1).toNat=i+1) (rG (iu _ _ _) (rG (lQ hj) ?_)));rfl
     refine rG e4 ?_;refine kb _ _ ?_;refine tail _ _ ay (kept++bD.drop i) kk i kept ?_ ((k2.trans (am.fresh dA).keep).upd i9) x1 v1 (aI _ _ _) v1.wk (.inr ⟨by exact Ng,kk,_,rfl,hc,λx hx=>?_⟩) h1 h2 h4 rfl
     .exact⟨a3.gu,a3.gR,a3.tag,(aD (λe=>by haveI:=a1.gu;exact(D1 (kZ▸e▸this)).elim)).trans a3.core,dj.of_eq (aD (iQ _).symm) a3.cI,(aD (λe=>by haveI:=a1.gR;exact(D0 (kZ▸e▸this)).elim)).trans a3.af,dj.of_eq (aD (iQ _).symm) a3.i6,(aD (iQ _).symm).trans a3.heap,dj.of_eq (aD (iQ _).symm) a3.dy,λs o e=>(aD (iQ _).symm).trans (a3.obj s o e)⟩
     .rcases List.mem_cons.mp hx with e|e
      .refine rG e ?_;exact hf
      .rcases List.mem_cons.mp e with e|e
       .refine rG e (rG (hH _) ?_);exact v1.gt
       .exact(v1.tr.val_neg (cg.lit x (.tail _ (.tail _ e)))).mp (hr x e)
    .rw[ct,v1.tr.val_neg gc] at hf;walk_at"ws";refine bC (x:=x0) (a2.fU hc) cL (aC 0) rfl ?_;refine on E a2 v1.aT gc ?_;walk_at"ws";refine aJ (λhu=>?_) (λhu=>?_)
     .rw[bf,v1.tr.val_zero gc] at hu;haveI hr:=(II.resolve_left hu.1).1;walk_at"ws";refine bC (x:=x0) (a2.fU hc) cL (aC 0) rfl ?_;walk_at"ws";refine xQ E a2 v1.aT gc λH3 a3 k3=>?_;walk_at"ws";refine kn _ _ ⟨_,_,a3,v1.cK hj hc hu λx hx=>(v1.tr.val_neg (cg.lit x (.tail _ (.tail _ hx)))).mp (hr x hx),?_,k2.trans (a2.keep k3),x1.trans (Ext.cK _ _ _),h1,h2,h3,h4,h5⟩;exact k3 _ _ iQ kN
     .rw[ct,v1.tr.val_zero gc] at hu;haveI gJ:x0∈ay.aa:=jL λz=>hu ⟨z,hf⟩;walk_at"ws";exact kn _ _ ⟨_,_,a2,v1.keep hj hc gJ,kN,k2,x1,h1,h2,h3,h4,h5⟩
   walk_at"ws";refine bC (x:=x0) (a1.fU hc) cL (aC 0) rfl ?_;refine on E a1 v1.aT gc ?_;walk_at"ws";refine aJ (λht=>?_) (λht=>?_)
   ·(replace ht:=(gB _)▸ht;rewrite [ct,v1.tr.val_one gc] at ht)
    walk_at"ws";refine aaV E a1 v1.aT hc (by exact Nf gb) (λx hx=>cg.lit x (.tail _ (.tail _ hx))) (λx hx ws pF=>?_) (λmi x ws H2 hx hvx pF a2 k2=>?_) λhr=>?_
    .haveI sP:=cg.lit x (.tail _ (.tail _ hx));haveI bN:=cg.nd;simp only[dq,kB] at bN;refine ab (v1.wo x sP (λz=>bN.2.1 (by refine rB z ?_;exact mc hx))) λws' e1 e2=>?_;replace e1:=pF▸e1;cases e1;haveI:=e2.len v1.aT.cls;exact aX this rfl
    .walk_at"ws";refine aJ (λU=>?_) (λh=>by cases h);walk_at"ws";haveI sP:=cg.lit x (.tail _ (.tail _ (bd hx)));refine kc _ _ ⟨_,_,a2,v1.moved hj hc ht hx (λz=>hvx ((v1.tr.val_neg sP).mpr z)) pF,?_,k1.trans (a1.keep k2),x1.trans (Ext.cw ay (by exact rG d7 rfl)),h1,h2,h3,h4,h5⟩;exact k2 _ _ iQ hk
    .walk_at"ws";refine aJ (λh=>by cases h) (λU=>?_);exact pj (ob (after (.inr ⟨hr,ht⟩)))
   ·(haveI ht:=(nA _)▸ht;rewrite [bf,v1.tr.val_one gc] at ht)
    refine aJ (λh=>by cases h) (λU=>?_);exact pj (ob (after (.inl ht)))
  refine aJ (λe=>?_) (λe=>?_)
  .haveI e:=fP e;subst e;haveI cL:(-g::ja::r).length<aO:=(aX gb rfl);walk_at"ws";refine bC (x:=ja) (a1.fU hc) cL (aC 1) rfl ?_;walk_at"ws";refine a1.xD hc cL (aC 0) (by simp;exact Nd) λH2 a2 k2=>?_;haveI lP:(ay.cls.set kk ((-g::ja::r).set (0:Int).toNat ja))[kk]?=some (ja::ja::r):=by refine rG (gj gN) ?_;rfl
   walk_at"ws";refine a2.xD lP cL (aC 1) (by simp;exact DX) λH3 a3 k3=>?_;haveI e3:(ay.cls.set kk ((-g::ja::r).set (0:Int).toNat ja)).set kk ((ja::ja::r).set (1:Int).toNat (-g))=ay.cls.set kk (ja:: -g::r):=by refine rG (List.set_set _) ?_;rfl
   haveI a3':ac co pr lay (ay.iJ (ay.cls.set kk (ja:: -g::r))) H3:=by refine rB e3 ?_;exact a3
   refine sB (ob (rest _ H3 _ ja r a3' (v1.swap hc) (by refine(?_:(ay.cls.set _ _)[kk]?=_);exact rG (gj gN) rfl) (k3 _ _ iQ (k2 _ _ iQ hk)) (k1.trans (a1.keep (k2.trans k3))) (x1.trans ?_) h1 h2 h3 h4 h5 rfl rfl rfl));exact Ext.cw (cls:=ay.cls.set kk (ja:: -g::r)) (aq:=ay.aq) ay (by exact rG d7 rfl)
  .haveI e:=ma e;haveI hg':=hg.resolve_left e;subst hg';exact pj (ob (rest _ H' ay x0 r a1 v1 hc hk k1 x1 h1 h2 h3 h4 h5 rfl rfl rfl))
 .intro m H' o4;refine Db o4 λay kept a1 v1 hk k1 x1 h1 h2 h3 h4 h5=>?_;haveI ei:((bD.length:Int)-0).toNat=bD.length:=by exact DZ
  replace v1:=ei▸v1;haveI hw:=v1.wk;haveI hw:=(f5 _)▸List.drop_length▸hw;exact tail m H' ay kept (-1) bD.length kept a1 k1 x1 v1 hk hw (.inl ⟨rfl,List.drop_length⟩) h1 h2 h4 h5
 .exact⟨st,[],a0,v,aI _ _ _,(am.fresh i9).keep,Ext.refl _,rfl,rfl,rfl,rfl,rfl⟩
end
section
variable{N:Nat}{cs:List (List Int)}{st:St}
theorem Quiet.vi(q:Quiet N cs st){h:Nat}(hh:st.head=h)(hg:st.aa[h]?=some g): ∃bD,VI N cs h g bD 0 [] (st.w_head (st.head+1)):=by
 haveI hL:=(q.tr.bq g (bd hg)).neg;refine ab (q.w (-g) hL) λws h1 h2=>?_;haveI d:=q.aT;refine⟨ws,⟨d.big,d.asg,d.lvl,d.aB,d.bk,d.bB,d.seen,d.aQ,d.aq,d.aa,d.ah,d.cls,d.aW,d.act,d.bS,d.af,d.hp⟩,q.tr.perm ⟨rfl,rfl,rfl,rfl,rfl,rfl⟩ (λk c hc=>⟨c,hc,.refl _⟩),⟨q.cl.rel,q.cl.good⟩,hg,λs hs=>by haveI:=q.mu s hs;exact Nm hh this,by refine(?_:st.head+1=_);exact Nl hh,λl hl U=>q.w l hl,h1,h2,q.qs,q.qu,?_,λk a b r hc hk=>?_⟩
 .haveI:=q.qh;haveI this:=(bO _)▸hh▸this;exact this
 .have gT: ¬(a= -g∨b= -g):=λz=>hk (by refine rG ly ?_;exact(h2.2 _).mpr ⟨k,a,b,r,rfl,hc,z⟩);exact⟨λz=>absurd (.inl z) gT,λz=>absurd (.inr z) gT⟩
theorem Ext.len(x:Ext st ae):st.aa.length<=ae.aa.length:=by
 refine ag x.aa λe h=>?_;refine rG h (rG bm ?_);exact Nk
structure vp(N:Nat)(cs:List (List Int))(st ae:St)(c:Int):Prop where
 ext:Ext st ae
 base:Base N cs ae
 hd:ae.head=ae.aa.length
 out:(c= -1/\Quiet N cs ae)∨(c≠ -1/\sQ ae c)
end
section
variable{C:Cfg}{n:Nat}{H:MH}{Q:PV}{co pr:Ref}{st:St}{N:Nat}{cs:List (List Int)}
theorem abc(E:Env C)(a:At co pr st H)(q:Quiet N cs st)
  (k: ∀H' ae c,At co pr ae H'->bF H H'->vp N cs st ae c->Q (.int c) H'):aM C (n+4) (.con (.ref 366)) [.ref co] Q H:=by
 have hN:=q.aT.big;refine E.iN rfl ?_;walk_at"ws";refine uZ (λj m H'=> ∃ay,At co pr ay H'/\Quiet N cs ay/\bF H H'/\Ext st ay/\j=N - ay.head.toNat/\m "self" =some (.ref co)) ?_ (k:=N - st.head.toNat) _ _ ⟨st,a,q,bF.refl _,Ext.refl _,rfl,rfl⟩;rintro j m H1 P ⟨ay,⟨lay,a1⟩,q1,k1,x1,rfl,h1⟩ ht hf;have sR:=q1.aT.aa;haveI hh:=q1.cU;walk_at"ws";refine fF (a1.obj .aa _ rfl) (by refine lm ?_;exact cT sR hN rfl) ?_;refine rG (au _) ?_;walk_at"ws";by_cases aS:ay.head<(ay.aa.length:Int)
 .refine rG (decide_eq_true aS) ?_;refine ht _ (by exact Nt sR hh.1 aS) λK kn kc kb kr=>?_;refine ag (⟨ay.head.toNat,by exact D3 hh.1⟩: ∃h:Nat,ay.head=h) λh lb=>?_;refine ag (⟨_,eL (Km aS lb)⟩: ∃g,ay.aa[h]?=some g) λg hg=>?_;refine ag (q1.vi lb hg) λbD v=>?_;walk_at"ws";refine bC (a1.obj .aa _ rfl) (cT sR hN rfl) (hh.left) (by refine rG lb (rG (bO _) ?_);exact hg) ?_;walk_at"ws";refine a1.Bj λH2 a2 k2=>?_;walk_at"ws";refine aa6 E a2 v λH3 ig c a3 k3 x3 b3 vq hc=>?_;refine ag a3 λqP a3=>?_;have xV:Ext ay ig:=⟨x3.ah,x3.seen,x3.aQ,x3.cq,x3.af,x3.aW,x3.gP,x3.aa,x3.cls⟩;haveI lc:=xV.len;walk_at"ws";refine aJ (λfu=>?_) (λfu=>?_)
  ·(replace fu:=(gB _)▸fu;rewrite [ct] at fu)
   haveI lP:=(hc.resolve_left λz=>fu z.1).2;walk_at"ws";refine fF (a3.obj .aa _ rfl) (by refine rG (au _) (rG lid ?_);haveI:=b3.aT.aa;exact cT this hN rfl) ?_;refine rG (au _) ?_;walk_at"ws";refine a3.Bj λH4 a4 k4=>?_;walk_at"ws";refine kr _ _ _ ?_;haveI d:=b3.aT;refine k H4 _ c a4.at (k1.trans ((a1.keep k2).trans (k3.trans (a3.keep k4)))) ⟨x1.trans (xV.trans ⟨rfl,rfl,rfl,rfl,rfl,rfl,rfl,⟨[],by exact rG (f5 _) rfl⟩,rfl⟩),⟨⟨d.big,d.asg,d.lvl,d.aB,d.bk,d.bB,d.seen,d.aQ,d.aq,d.aa,d.ah,d.cls,d.aW,d.act,d.bS,d.af,d.hp⟩,b3.tr.perm ⟨rfl,rfl,rfl,rfl,rfl,rfl⟩ (λk c hc=>⟨c,hc,.refl _⟩),⟨b3.cl.rel,b3.cl.good⟩,b3.w,b3.qs,b3.qu⟩,rfl,.inr ⟨fu,lP⟩⟩
  ·(haveI fu:=(nA _)▸fu;rewrite [bf] at fu)
   haveI lP:=(hc.resolve_right λz=>z.1 fu).2;walk_at"ws";refine kn _ _ (N-ig.head.toNat) (by exact Nr sR aS lb vq) ⟨ig,⟨qP,a3⟩,⟨b3,⟨by exact Nq vq,by exact Np aS lb vq lc⟩,λs hs=>?_,?_⟩,k1.trans ((a1.keep k2).trans k3),x1.trans xV,rfl,h1⟩
   .haveI:=q1.mu s (by refine rB xV.ah ?_;exact hs);exact No lb vq this
   .refine rG vq (rG (by exact wA:((h:Int)+1).toNat=h+1) ?_);exact lP
 .refine rG (nE aS) ?_;refine hf _ ?_;walk_at"ws";exact k _ ay (-1) ⟨lay,a1⟩ k1 ⟨x1,q1.toBase,by exact Nn hh.2 aS,.inl ⟨rfl,q1⟩⟩
theorem IJ(E:Env C)(a:At co pr st H)(q:Quiet N cs st)
  (k: ∀H' ae c,At co pr ae H'->bF H H'->vp N cs st ae c->Q (.int c) H'):aM C (n+5) (.con (.ref 476)) [.ref co] Q H:=by
 refine ag a λlay a=>?_;refine E.iN rfl ?_;walk_at"ws";exact abc E ⟨lay,a⟩ q λH' ae c a' k' p=>k H' ae c a' k' p
end
noncomputable def mJ(σ:Nat->Bool)(x:Int):Prop:=if 0<x then σ x.natAbs=true else σ x.natAbs=false
theorem IK{σ:Nat->Bool}(h:x≠0):mJ σ (-x)↔ ¬mJ σ x:=by
 unfold mJ;refine rG (fB _) ?_;by_cases q:0<x
 .refine rG (az q) (rG (ax (by exact NA q)) ?_);simp
 .refine rG (ax q) (rG (az (by exact Nz h q)) ?_);simp
noncomputable def Sat(σ:Nat->Bool)(c:List Int):Prop:= ∃x,x∈c/\mJ σ x
theorem xL.sat(h:xL one other v out){σ:Nat->Bool}(h1:Sat σ one)(h2:Sat σ other):Sat σ out:=by
 refine b9 h λU U bw=>?_;refine kj bw λs U h0 U U hm=>?_;refine ab h1 λx hx tx=>?_;refine ab h2 λy hy ty=>?_;by_cases e:x=s
 .by_cases e':y= -s
  .subst e;subst e';exact absurd tx ((IK h0).mp ty)
  .exact⟨y,(hm y).mpr (.inr ⟨hy,e'⟩),ty⟩
 .exact⟨x,(hm x).mpr (.inl ⟨hx,e⟩),tx⟩
theorem dB.sat(h:dB af c ps e){σ:Nat->Bool}(h1:Sat σ c)(h2: ∀p,p∈ps-> ∀s,af[p.2.toNat]?=some s->Sat σ s.cl):Sat σ e:=by
 induction h with
 |nil=>exact h1
 |cons _ hp _ hr _ ih=>exact ih (hr.sat h1 (h2 _ (.head _) _ hp)) λp jb=>h2 p (.tail _ jb)
theorem dB.ext(h:dB af c ps e):dB (af++e2) c ps e:=by
 induction h with
 |nil=>exact .nil
 |cons h0 hp hl hr _ ih=>exact .cons h0 (by refine rG (gi (List.getElem?_eq_some_iff.mp hp).1) ?_;exact hp) hl hr ih
theorem dB.append(h:dB af c ps d)(h':dB af d qs e):dB af c (ps++qs) e:=by
 induction h with
 |nil=>exact h'
 |cons h0 hp hl hr _ ih=>exact .cons h0 hp hl hr (ih h')
theorem dB.nil_eq(h:dB af c [] e):c=e:=by cases h;rfl
noncomputable def vt(N:Nat)(cs:List (List Int))(steps:List cS)(k:Nat)(s:cS):Prop:=
 (ez s.cl/\ ∀x,x∈s.cl->Lit N x)/\((s.rule= "input" /\s.eI=[]/\ ∃j:Nat,s.note=.int j/\cs[j]?=some s.cl)∨
  (s.rule= "resolve" /\(∀q,q∈s.eI->0<=q/\q<k)/\ ∀σ,(∀q,q∈s.eI-> ∀t,steps[q.toNat]?=some t->Sat σ t.cl)->Sat σ s.cl))
noncomputable def j6(N:Nat)(cs:List (List Int))(steps:List cS):Prop:= ∀(k:Nat) s,steps[k]?=some s->vt N cs steps k s
theorem j6.snoc(h:j6 N cs steps)(hs:vt N cs steps steps.length s):j6 N cs (steps++[s]):=by
 have mono: ∀{k:Nat} {t:cS},k<=steps.length->vt N cs steps k t->vt N cs (steps++[s]) k t:=by
  intro k t hk ⟨h1,h2⟩;refine⟨h1,h2.imp_right λabd=>b9 abd λq1 q2 q3=>⟨q1,q2,λσ qC=>q3 σ λq hq u hu=>qC q hq u ?_⟩⟩;haveI:=q2 q hq;refine rG (gi (by exact Ny hk this.1 this.2)) ?_;exact hu
 intro k t ht;rcases mW ht with ⟨hk,q⟩|⟨rfl,rfl⟩
 .exact mono (eT hk) (h k t q)
 .exact mono (cG _) hs
theorem j6.good{N:Nat}{cs:List (List Int)}{steps:List cS}(h:j6 N cs steps)(h5:N<=5){k:Nat}{s:cS}(hs:steps[k]?=some s):i7 s.cl:=
 ⟨(h k s hs).1.1,λx hx=>by haveI:=(h k s hs).1.2 x hx;exact⟨by haveI:=this.2;exact eM this h5,this.1⟩⟩
theorem dB.step(h:j6 N cs steps)(h0:0<=first)(hp:steps[first.toNat]?=some p0)(hc:dB steps p0.cl pairs out)(hl: ∀x,x∈out->Lit N x)(hs:ez out):
  vt N cs steps steps.length (qL first pairs out):=by
 refine⟨⟨hs,hl⟩,.inr ⟨rfl,λq hq=>?_,λσ qC=>?_⟩⟩
 .rcases List.mem_cons.mp hq with rfl|hq
  .haveI:=(List.getElem?_eq_some_iff.mp hp).1;exact Nx h0 this
  .refine ab (List.mem_map.mp hq) λp jb o1=>?_;subst o1;exact hc.mem p jb
 .exact hc.sat (qC first (.head _) p0 hp) λp jb s hs=>qC p.2 (.tail _ (mc jb)) s hs
theorem xW(h:ez l)(p:Int->Bool):ez (l.filter p):=rH p h
theorem abe(o:Int->Int)(L:List Int): ∀c:List Int,i7 c->L.Nodup->(∀x,x∈L->x∈c/\0<=o x/\ ∃p,steps[(o x).toNat]?=some p/\p.cl=[-x])->
  dB steps c (L.map λx=>((x.natAbs:Int),o x)) (c.filter λx=>decide (x∉L)):=by
 induction L with
 |nil=>intro c U U U;rw[List.filter_eq_self.mpr (by simp)];exact .nil
 |cons x L BI=>
  intro c g hn h;refine b9 (h x (.head _)) λhx h0 bw=>?_;refine ab bw λp hp bj=>?_;have kO:=List.nodup_cons.mp hn;haveI gx:=g.2 x hx;have qQ: ∀y,y∈c.filter (λy=>decide (y≠x))↔y∈c/\y≠x:=λy=>by rw[jP,bf]
  have g':i7 (c.filter λy=>decide (y≠x)):=⟨xW g.1 _,λy hy=>g.2 y ((qQ y).mp hy).1⟩;haveI ih:=BI (c.filter λy=>decide (y≠x)) g' kO.2 λy hy=>by
   refine aE (h y (.tail _ hy)) λq1 q2=>?_;exact⟨(qQ y).mpr ⟨q1,λe=>kO.1 (e▸hy)⟩,q2⟩
  haveI e:(c.filter λy=>decide (y≠x)).filter (λy=>decide (y∉L))=c.filter λy=>decide (y∉x::L):=by
   refine rG List.filter_filter ?_;refine List.filter_congr λy U=>?_;simp only[gE,not_or];refine rI Bool.eq_iff_iff (rG (jN _ _) (rG bf (rG bf (rG bf ?_))));exact And.comm
  rw[e] at ih;refine .cons h0 hp (by refine rG bj ?_;simp) ⟨g'.1,g'.2,x,by exact Nw,gx.2,hx,by refine rG bj ?_;exact .head _,λy=>?_⟩ ih;refine rI (qQ _) (rG bj (rI cx ?_));constructor
  .exact λq=>.inl q
  .intro o2;rcases o2 with q|q
   .exact q
   .exact absurd q.1 q.2
theorem IL(ps:List (Int×Int)): ∀c:List Int,i7 c->(ps.map (·.1)).Nodup->(∀p,p∈ps-> ∃(x:Int) (q:cS),x∈c/\p.1=x.natAbs/\0<=p.2/\steps[p.2.toNat]?=some q/\q.cl=[-x])->
  dB steps c ps (c.filter λx=>decide ((x.natAbs:Int)∉ps.map (·.1))):=by
 induction ps with
 |nil=>intro c U U U;rw[List.filter_eq_self.mpr (by simp)];exact .nil
 |cons w ps BI=>
  obtain ⟨v,s⟩:=w;intro c g hn h;refine gX (h (v,s) (.head _)) λx q hx hv h0 hp bj=>?_;haveI kO:=List.nodup_cons.mp hn;haveI gx:=g.2 x hx;simp only at hv h0 hp;have qQ: ∀y,y∈c.filter (λy=>decide (y≠x))↔y∈c/\y≠x:=λy=>by rw[jP,bf]
  have g':i7 (c.filter λy=>decide (y≠x)):=⟨xW g.1 _,λy hy=>g.2 y ((qQ y).mp hy).1⟩;have gT: -x∉c:=Bs g.1 (λy hy=>(g.2 y hy).2) hx;haveI ih:=BI (c.filter λy=>decide (y≠x)) g' kO.2 λp jb=>by
   refine bE (h p (.tail _ jb)) λy q' h1 h2 h3=>?_;refine⟨y,q',(qQ y).mpr ⟨h1,λe=>kO.1 ?_⟩,h2,h3⟩;subst e;exact List.mem_map.mpr ⟨p,jb,by refine rG h2 ?_;exact hv.symm⟩
  haveI e:(c.filter λy=>decide (y≠x)).filter (λy=>decide ((y.natAbs:Int)∉ps.map (·.1)))=c.filter λy=>decide ((y.natAbs:Int)∉((v,s)::ps).map (·.1)):=by
   refine rG List.filter_filter ?_;refine List.filter_congr λy hy=>?_;simp only[dq,gE,not_or];refine rI Bool.eq_iff_iff (rG (jN _ _) (rG bf (rG bf (rG bf ?_))));refine⟨λq=>⟨λz=>?_,q.1⟩,λq=>⟨q.2,λz=>q.1 (by refine rG z ?_;exact hv.symm)⟩⟩;rcases (by exact Nv hv z:y=x∨y= -x) with e|e
   .exact q.2 e
   .exact gT (e▸hy)
  rw[e] at ih;refine .cons h0 hp (by refine rG bj ?_;simp) ⟨g'.1,g'.2,x,by exact Nu hv,gx.2,hx,by refine rG bj ?_;exact .head _,λy=>?_⟩ ih;refine rI (qQ _) (rG bj (rI cx ?_));exact⟨λq=>.inl q,λq=>q.elim id λq=>absurd q.1 q.2⟩
structure bV(N:Nat)(cs:List (List Int))(b:Nat)(st:St):Prop where
 af:j6 N cs st.af.steps
 aW: ∀(j:Nat) c,st.cls[j]?=some c-> ∃(s:Int) (p:cS),st.aW[j]?=some s/\0<=s/\st.af.steps[s.toNat]?=some p/\cs[j]?=some p.cl
 r0:0<=st.cq/\st.cq<=st.aa.length/\ ∀s,s∈st.ah->st.cq<=s
 us: ∀(i:Nat) l,st.aa[i]?=some l->(i:Int)<st.cq-> ∃(s:Int) (p:cS),st.aQ[l.natAbs]?=some (some s)/\0<=s/\st.af.steps[s.toNat]?=some p/\p.cl=[l]
 un: ∀l,Lit N l->(∀i:Nat,(i:Int)<st.cq->st.aa[i]?≠some l/\st.aa[i]?≠some (-l))->st.aQ[l.natAbs]?=some none
 cnt:st.af.steps.length<=b+st.cq.toNat/\b<=40
structure dm(st ae:St):Prop where
 eq: ∃aQ r af,ae=(((st.gr aQ).mQ r).i5 af)
 ext: ∃e,ae.af.steps=st.af.steps++e
 len:ae.aQ.length=st.aQ.length
theorem dm.mY{st ae:St}(x:dm st ae):ae.aa=st.aa:=by refine dM x.eq λU U bw=>?_;refine ag bw λU e=>?_;exact rG e rfl
theorem dm.sS{st ae:St}(x:dm st ae):ae.ah=st.ah:=by refine dM x.eq λU U bw=>?_;refine ag bw λU e=>?_;exact rG e rfl
theorem dm.abf{st ae:St}(x:dm st ae):ae.aW=st.aW:=by refine dM x.eq λU U bw=>?_;refine ag bw λU e=>?_;exact rG e rfl
theorem dm.abg{st ae:St}(x:dm st ae):ae.cls=st.cls:=by refine dM x.eq λU U bw=>?_;refine ag bw λU e=>?_;exact rG e rfl
theorem dm.refl(st:St):dm st st:=⟨⟨_,_,_,rfl⟩,⟨[],by exact rG (f5 _) rfl⟩,rfl⟩
theorem dm.trans(x:dm a b)(y:dm b c):dm a c:=by
 obtain ⟨⟨u,r,p,rfl⟩,⟨e,he⟩,hl⟩:=x;obtain ⟨⟨u',r',p',rfl⟩,⟨e',BJ⟩,cZ⟩:=y;exact⟨⟨_,_,_,rfl⟩,⟨e++e',by exact rG BJ (rG he (rG (iu _ _ _) rfl))⟩,cZ.trans hl⟩
section
variable{N b:Nat}{cs:List (List Int)}{st ae:St}
theorem dm.tr(x:dm st ae)(t:Tr N st):Tr N ae:=by
 obtain ⟨⟨u,r,p,rfl⟩,_,_⟩:=x;exact t.perm ⟨rfl,rfl,rfl,rfl,rfl,rfl⟩ λk c hc=>⟨c,hc,.refl _⟩
theorem dm.cl(x:dm st ae)(t:Cl N cs st):Cl N cs ae:=by
 obtain ⟨⟨u,r,p,rfl⟩,_,_⟩:=x;exact⟨t.rel,t.good⟩
theorem dm.aT(x:dm st ae)(d:bU N st)(u:bV N cs b ae):bU N ae:=by
 haveI h1:=u.cnt;haveI h2:=u.r0;haveI h3:=x.len;obtain ⟨⟨un,r,p,rfl⟩,_,_⟩:=x;haveI h4:=d.aa;refine⟨d.big,d.asg,d.lvl,d.aB,d.bk,d.bB,d.seen,h3.trans d.aQ,d.aq,d.aa,d.ah,d.cls,d.aW,d.act,d.bS,?_,d.hp⟩;haveI h5:=d.big;haveI h6:r<=(st.aa.length:Int):=h2.2.1;haveI h7:p.steps.length<=b+r.toNat:=h1.1;haveI:=h1.2;refine(?_:p.steps.length<60);exact NB h1.2 h4 h5 h6 h7
theorem dm.base(x:dm st ae)(q:Base N cs st)(u:bV N cs b ae):Base N cs ae:=by
 haveI hd:=x.aT q.aT u;haveI ht:=x.tr q.tr;haveI hc:=x.cl q.cl;obtain ⟨⟨un,r,p,rfl⟩,_,_⟩:=x;exact⟨hd,ht,hc,q.w,q.qs,q.qu⟩
theorem dm.quiet(x:dm st ae)(q:Quiet N cs st)(u:bV N cs b ae):Quiet N cs ae:=by
 haveI hb:=x.base q.toBase u;obtain ⟨⟨un,r,p,rfl⟩,_,_⟩:=x;exact⟨hb,q.cU,q.mu,q.qh⟩
theorem bV.step(u:bV N cs b st)(c:Cl N cs st){j:Nat}{cl:List Int}(h:st.cls[j]?=some cl): ∃(s:Int) (p:cS),st.aW[j]?=some s/\0<=s/\st.af.steps[s.toNat]?=some p/\cl.Perm p.cl/\ez p.cl:=by
 refine dN (u.aW j cl h) λs p h1 h2 h3 h4=>?_;refine ab (c.rel j cl h) λc0 e hp=>?_;replace e:=h4▸e;cases e;exact⟨s,p,h1,h2,h3,hp,(c.good j _ h4).1⟩
end
section
variable{C:Cfg}{n:Nat}{H:MH}{Q:PV}{co pr:Ref}{lay:Sl->Ref}{st:St}{N b:Nat}{cs:List (List Int)}
theorem IM(E:Env C)(a:ac co pr lay st H)(d:bU N st)(t:Tr N st)(c:Cl N cs st)(u:bV N cs b st){i:Nat}(hl:st.aa[i]?=some l)(hi: ∀s,s∈st.ah->(i:Int)<s)
  (k: ∀H' ae s,ac co pr lay ae H'->aR lay H H'->dm st ae->bV N cs b ae->(∃p,ae.aQ[l.natAbs]?=some (some s)/\0<=s/\ae.af.steps[s.toNat]?=some p/\p.cl=[l])->Q (.int s) H'):
  aM C (n+8) (.con (.ref 464)) [.ref co,.int l.natAbs] Q H:=by
 have hN:=d.big;have dH:=(List.getElem?_eq_some_iff.mp hl).1;refine E.eY rfl ?_;walk_at"ws";refine uZ (Q:=kT C tabs (n+7) [S.ret (.sub (.attr (.var "self") "unit_steps") (.var "var"))] (cR Q)) (λj m H'=> ∃ay,ac co pr lay ay H'/\aR lay H H'/\dm st ay/\bV N cs b ay/\j=i+1 - ay.cq.toNat/\m "self" =some (.ref co)/\m "var" =some (.int l.natAbs)) ?_ (k:=i+1 - st.cq.toNat) _ _ ⟨st,a,aR.refl _,dm.refl _,u,rfl,rfl,rfl⟩;intro j m H1 P o1 ht hf;refine wp o1 λay a1 k1 x1 u1 o2 h1 h2=>?_;clear o1;subst o2;have d1:=x1.aT d u1;have t1:=x1.tr t;have c1:=x1.cl c;have mY:=x1.mY;haveI sS:=x1.sS;rw[<-mY] at hl dH;replace hi:=cX sS▸hi;have hL:=t1.bq l (bd hl);haveI hb:=hL.2;have mZ:=d1.aQ;walk_at"ws";by_cases hr:(i:Int)<ay.cq
 .refine dN (u1.us i l hl hr) λs p e1 e2 e3 e4=>?_;refine a1.xA (x:=some s) (cF mZ hN rfl) (aC l.natAbs) e1 ?_;walk_at"ws";refine hf _ ?_;refine(?_:bo _ _ _ _ _ _ _);walk_at"ws";refine a1.xA (x:=some s) (cF mZ hN rfl) (aC l.natAbs) e1 ?_;exact k H1 ay s a1 k1 x1 u1 ⟨p,e1,e2,e3,e4⟩
 .haveI e1:ay.aQ[l.natAbs]?=some none:=u1.un l hL λi' ce=>⟨λe=>by
    haveI:=get_inj (fV t1.nd) e hl;exact(NQ hr ce this).elim,λe=>t1.con (bd hl) (bd e)⟩
  refine a1.xA (x:=none) (cF mZ hN rfl) (aC l.natAbs) e1 ?_;walk_at"ws";have BK:=u1.r0.1;refine ag (⟨ay.cq.toNat,(CW BK)⟩: ∃ρ:Nat,ay.cq=ρ) λρ oo=>?_;refine ht _ (by exact NP hr) λK kn kc kb kr=>?_;refine ag (⟨_,eL (by exact NO dH hr oo)⟩: ∃x,ay.aa[ρ]?=some x) λx hx=>?_;have xX:=t1.bq x (bd hx);have jc:=xX.2;haveI fW:=d1.aa;haveI eZ:=d1.aB;obtain ⟨jj,cl,w1,w2,w3,w4⟩: ∃(j:Nat) (c:List Int),at' ay.aB x.natAbs=j/\ay.cls[j]?=some c/\x∈c/\ ∀y,y∈c->y≠x-> -y∈ay.aa.take ρ:=by
   rcases t1.aB ρ x hx with q|q
   .haveI:=hi _ q.2;exact(NN hr oo this).elim
   .exact q.2
  haveI oq:=(List.getElem?_eq_some_iff.mp w2).1;haveI sT:=d1.cls;haveI abh:=d1.aW;have cg:=c1.cg w2;have j7:=cg.len;refine gX (u1.step c1 w2) λs0 p0 g1 g2 g3 g4 g5=>?_;walk_at"ws";refine bC (a1.obj .aa _ rfl) (cT fW hN rfl) (BK) (by refine rG oo (rG (bO _) ?_);exact hx) ?_;walk_at"ws";refine gM ?_;refine bC (a1.obj .aB _ rfl) (cF eZ hN rfl) (aC x.natAbs) (gS (aC x.natAbs) (eB eZ jc)) ?_;refine rG w1 ?_;walk_at"ws";refine alloc 5 λrp pH U=>?_;haveI a2:=a1.bx (am.fresh (o:=.list []) pH);walk_at"ws";refine a2.pt (aX sT rfl) (aC jj) (oB oq) ?_;refine rG (bO _) ?_;refine Bq E (.inl ⟨_,rfl,a2.fU w2⟩) (iS j7 rfl) cg.nd λys hp hS H2 k2=>?_;haveI vm:ys=p0.cl:=qJ hS g5 λz=>(hp.mem_iff).trans g4.mem_iff;subst vm;haveI a3:=a2.bx k2;have hun: ∀y,y∈p0.cl->y≠x-> ∃(s:Int) (p:cS),ay.aQ[y.natAbs]?=some (some s)/\0<=s/\ay.af.steps[s.toNat]?=some p/\p.cl=[-y]:=by
   intro y hy ne;haveI:=w4 y (g4.mem_iff.mpr hy) ne;refine ag (List.mem_iff_getElem?.mp this) λi' ce=>?_;haveI aS:=(List.getElem?_eq_some_iff.mp ce).1;replace aS:=ku▸aS;haveI ce:=(nq (by exact lu aS))▸ce;refine dN (u1.us i' (-y) ce (by exact NM oo aS)) λs p q1 q2 q3 q4=>?_;haveI q1:=(fB _)▸q1;exact⟨s,p,q1,q2,q3,q4⟩
  let o:Int->Int:=λy=>((ay.aQ[y.natAbs]?).getD none).getD 0
  have ho: ∀y,y∈p0.cl->y≠x->ay.aQ[y.natAbs]?=some (some (o y))/\0<=o y/\ ∃p,ay.af.steps[(o y).toNat]?=some p/\p.cl=[-y]:=by
   intro y hy ne;refine dN (hun y hy ne) λs p q1 q2 q3 q4=>?_;haveI:o y=s:=by refine(?_:((ay.aQ[y.natAbs]?).getD none).getD 0=s);refine rG q1 ?_;rfl
   refine rG this ?_;exact⟨q1,q2,p,q3,q4⟩
  let pf:Int->Int×Int:=λy=>((y.natAbs:Int),o y)
  refine Bu V.int p0.cl (λq m' H'=>ac co pr lay ay H'/\aR lay H1 H'/\H' rp=some (.list (((((p0.cl.take q).filter λy=>decide (y≠x)).map pf)).map pv))/\m' "self" =some (.ref co)/\m' "var" =some (.int l.natAbs)/\m' "lit" =some (.int x)/\m' "number" =some (.int jj)/\m' "pairs" =some (.ref rp)) ?_ ?_ ⟨a3,(am.fresh pH).od.trans k2.od,k2 _ _ (aI _ _ _),h1,h2,rfl,rfl,rfl⟩
  .intro q y m' H' K' hy o3 IN U U U;refine yV o3 λa4 k4 h4 m4 ot BL BM BN=>?_;clear o3;haveI sU:y∈p0.cl:=bd hy;haveI m5:=cg.lit y (g4.mem_iff.mpr sU);haveI vu:=m5.2;haveI BO:p0.cl.length<=3:=by refine rB g4.length_eq ?_;exact j7
   refine⟨_,rfl,?_⟩;walk_at"ws";haveI IP:p0.cl.take (q+1)=p0.cl.take q++[y]:=take_snoc hy;refine aJ (λbt=>?_) (λbt=>?_)
   .replace bt:=tL bt;refine b9 (ho y sU bt) λq1 q2 bw=>?_;refine ab bw λp q3 q4=>?_;clear bw;walk_at"ws";refine dh h4 ?_;walk_at"ws";refine gM ?_;walk_at"ws";refine gM ?_;refine a4.xA (x:=some (o y)) (cF mZ hN rfl) (aC y.natAbs) q1 ?_;walk_at"ws";haveI hlen:=oG (λy=>decide (y≠x)) (p0.cl.take q);haveI abj:(p0.cl.take q).length<=p0.cl.length:=by refine rG ku ?_;exact NL
    refine jA h4 (by refine rG (au _) (rG (au _) (rG lid ?_));exact NK BO hlen abj) ?_;walk_at"ws";refine IN _ _ ⟨?_,?_,?_,m4,ot,BL,BM,BN⟩
    .exact a1.aaK a4 pH
    .exact k4.Bw pH
    .refine rG (aI _ _ _) (rG IP (rG (oJ _ _) (rG md (rG (az (by simpa using bt)) (rG nF (rG cN (rG cN ?_)))))));rfl
   .haveI bt:=wv bt;walk_at"ws";refine IN _ _ ⟨a4,k4,?_,m4,ot,BL,BM,BN⟩;rw[IP,oJ,md,ax (by simpa using bt),nF,f5];exact h4
  .intro m' H' o4;refine yV o4 λa4 k4 h4 m4 ot BL BM BN=>?_;clear o4;rw[ko] at h4;haveI BO:p0.cl.length<=3:=by rw[<-g4.length_eq];exact j7
   have m7:=u1.af.good hN g3;haveI iG:=d1.af
   let L:=p0.cl.filter λy=>decide (y≠x)
   have IQ: ∀y,y∈L↔y∈p0.cl/\y≠x:=λy=>by refine(?_:y∈p0.cl.filter _↔_);rw[jP,bf]
   haveI hxp:x∈p0.cl:=g4.mem_iff.mp w3;have nU:p0.cl.filter (λy=>decide (y∉L))=[x]:=by
    refine qJ (xW m7.1 _) (pZ _ _) λy=>?_;rw[jP,bf,IQ,cx];constructor
    .intro o5;refine aE o5 λq1 q2=>?_;clear o5;exact jL λz=>q2 ⟨q1,z⟩
    .intro o6;subst o6;exact⟨hxp,λz=>z.2 rfl⟩
   have lT:=abe (steps:=ay.af.steps) o L p0.cl m7 (rH _ (fV (sK m7.1))) λy hy=>by
    refine aE ((IQ y).mp hy) λq1 q2=>?_;exact⟨q1,(ho y q1 q2).2⟩
   rw[nU] at lT;haveI hlen:L.length<=p0.cl.length:=oG _ _;walk_at"ws";refine bC (x:=s0) (a4.obj .aW _ rfl) (tE abh sT rfl) (aC jj) g1 ?_;walk_at"ws";refine Bx (out:=[x]) E a4 (bI iG rfl) g2 g3 m7 (by refine rG (au _) ?_;exact cT hlen BO rfl) lT h4 λH5 a5 k5=>?_;walk_at"ws";refine gM ?_;refine a5.ZH (by refine(?_:ay.aQ.length<_);exact cF mZ hN rfl) (aC x.natAbs) (by refine(?_:_<((ay.aQ.length:Nat):Int));exact eB mZ jc) λH6 a6 k6=>?_;walk_at"ws";refine a6.Z0 λH7 a7 k7=>?_;walk_at"ws";haveI a7:=(bO _)▸a7;haveI lp:(∃e,(eA ay.af s0 (L.map pf) [x]).2.steps=ay.af.steps++e)/\j6 N cs (eA ay.af s0 (L.map pf) [x]).2.steps/\(eA ay.af s0 (L.map pf) [x]).2.steps.length<=ay.af.steps.length+1/\0<=(eA ay.af s0 (L.map pf) [x]).1/\ ∃p,(eA ay.af s0 (L.map pf) [x]).2.steps[(eA ay.af s0 (L.map pf) [x]).1.toNat]?=some p/\p.cl=[x]:=by
    unfold eA;split
    .rename_i lU
     refine⟨⟨[],by exact rG (f5 _) rfl⟩,u1.af,jR _,g2,p0,g3,?_⟩;haveI BP:dB ay.af.steps p0.cl (L.map pf) [x]:=lT;haveI BP:=lU▸BP;exact BP.nil_eq
    .refine⟨⟨[_],rfl⟩,u1.af.snoc (dB.step u1.af g2 g3 lT (λy hy=>by refine rG (List.mem_singleton.mp hy) ?_;exact xX) (pZ _ _)),?_,aC _,qL s0 (L.map pf) [x],?_,rfl⟩
     .refine(?_:(ay.af.steps++[_]).length<=_);refine rG bm (rG cV ?_);exact cG _
     .show (ay.af.steps++[_])[_]?=_;exact rG (bO _) (rG (g9) rfl)
   refine nj lp λo7 hpo pI fJ vv=>?_;clear lp;refine ab vv λpn abm abn=>?_;clear vv;refine ag o7 λe he=>?_;clear o7;have old: ∀{q:Nat} {p:cS},ay.af.steps[q]?=some p->(eA ay.af s0 (L.map pf) [x]).2.steps[q]?=some p:=λ{q p} hq=>by
    refine rG he (rG (gi (List.getElem?_eq_some_iff.mp hq).1) ?_);exact hq
   refine kn _ _ (i+1-(ay.cq+1).toNat) (by exact NJ hr oo) ⟨_,a7,k1.trans (k4.trans (k5.trans (k6.trans k7))),x1.trans ⟨⟨_,_,_,rfl⟩,⟨e,he⟩,d7⟩,⟨hpo,λj' c' fu=>?_,⟨by refine(?_:0<=ay.cq+1);exact NI oo,by refine(?_:ay.cq+1<=ay.aa.length);exact NH dH hr,λs hs=>by haveI:=hi s hs;refine(?_:ay.cq+1<=s);exact NG hr this⟩,λi' l' cZ ce=>?_,λl' cZ gT=>?_,?_,u1.cnt.2⟩,rfl,m4,ot⟩
   .refine dN (u1.aW j' c' fu) λs p q1 q2 q3 q4=>?_;exact⟨s,p,q1,q2,old q3,q4⟩
   .haveI cZ:ay.aa[i']?=some l':=cZ;haveI ce:(i':Int)<ay.cq+1:=ce;by_cases q:i'=ρ
    .subst q;replace cZ:=hx▸cZ;cases cZ;exact⟨_,pn,gj (by refine(?_:x.natAbs<ay.aQ.length);exact wi mZ jc),fJ,abm,abn⟩
    .refine dN (u1.us i' l' cZ (by exact NF oo ce q)) λs p q1 q2 q3 q4=>?_;refine⟨s,p,?_,q2,old q3,q4⟩;show (ay.aQ.set _ _)[_]?=_
     rw[gk];exact q1;intro z;rcases ((yP z):x=l'∨x= -l') with e|e
     .subst e;exact q (get_inj (fV t1.nd) cZ hx)
     .haveI:=t1.con (bd cZ);haveI this:=cX e▸this;exact this (bd hx)
   .haveI fG:=gT ρ (by refine(?_:(ρ:Int)<ay.cq+1);exact NE oo);show (ay.aQ.set _ _)[_]?=_
    rw[gk]
    .exact u1.un l' cZ λi' ce=>gT i' (by refine(?_:(i':Int)<ay.cq+1);exact ND ce)
    .intro z;rcases ((yP z):x=l'∨x= -l') with e|e
     .exact fG.1 (e▸hx)
     .exact fG.2 (e▸hx)
   .refine(?_:(eA ay.af s0 (L.map pf) [x]).2.steps.length<=b+(ay.cq+1).toNat);haveI:=u1.cnt.1;exact NC oo pI this
end
section
variable{C:Cfg}{n:Nat}{H:MH}{Q:PV}{co pr:Ref}{lay:Sl->Ref}{st:St}{N b:Nat}{cs:List (List Int)}
noncomputable def xY(st:St)(ps:List (Int×Int)):Prop:= ∀p,p∈ps-> ∃(l:Int) (q:cS),l∈st.aa/\p.1=l.natAbs/\0<=p.2/\st.af.steps[p.2.toNat]?=some q/\q.cl=[l]
theorem dm.abo(x:dm st ae)(h:xY st ps):xY ae ps:=by
 intro p hp;refine gX (h p hp) λl q h1 h2 h3 h4 h5=>?_;refine ag x.ext λe he=>?_;haveI et:=x.mY;exact⟨l,q,by refine rG et ?_;exact h1,h2,h3,by refine rG he (rG (gi (List.getElem?_eq_some_iff.mp h4).1) ?_);exact h4,h5⟩
theorem IR(E:Env C)(a:ac co pr lay st H)(d:bU N st)(t:Tr N st)(c:Cl N cs st)(u:bV N cs b st)(e:H rs=some (iL vs))(h5:vs.length<=5)
  (hv: ∀v,v∈vs-> ∃(i:Nat) (l:Int),st.aa[i]?=some l/\v=l.natAbs/\ ∀s,s∈st.ah->(i:Int)<s)
  (k: ∀H' ae ps r,ac co pr lay ae H'->aR lay H H'->dm st ae->bV N cs b ae->H' r=some (.list (ps.map pv))->r.t=5->(ps.map (·.1)).Perm vs->xY ae ps->Q (.ref r) H'):
  aM C (n+9) (.con (.ref 457)) [.ref co,.ref rs] Q H:=by
 haveI hN:=d.big;refine E.eY rfl ?_;walk_at"ws";refine aJ (Ft) (λU=>?_);walk_at"ws";refine aaR E a d e h5 (λv hO=>?_) λys r hp hr ht=>?_
 .refine bE (hv v hO) λi l h1 o1 U=>?_;subst o1;haveI:=(t.bq l (bd h1)).2;exact NT this
 haveI a1:=a.bx (am.fresh (o:=iL ys) hr);haveI rn: ∀s,r≠lay s:=λs z=>by haveI:=a.tag s;haveI this:=ht▸cX z▸this;haveI:=qF s;exact(NS (by assumption) this).elim
 haveI jD:ys.length<=5:=by refine rG hp.length_eq ?_;exact h5
 refine⟨ys.map V.int,by refine lm ?_;exact aX jD rfl,Ba (λi acc H'=> ∃ay ps,ac co pr lay ay H'/\aR lay H H'/\dm st ay/\bV N cs b ay/\acc=ps.map pv/\ps.map (·.1)=ys.take i/\xY ay ps/\H' r=some (iL ys)) ?_ ?_ ?_ _ ?_⟩
 .intro i acc H' o2;refine yW o2 λay ps U U U U U U U h=>?_;clear o2;exact h
 .intro i x acc H' P hx o3 k1 U;refine yW o3 λay ps a2 k2 x2 u2 o4 e2 vw bZ=>?_;clear o3;subst o4;refine ab (map_some hx) λv hO o5=>?_;subst o5;refine bE (hv v (hp.mem_iff.mp (bd hO))) λi' l h1 o6 h3=>?_;subst o6;haveI mY:=x2.mY;haveI sS:=x2.sS;refine⟨_,rfl,?_⟩;refine(?_:al _ _ _ _ _ _ _);walk_at"ws";refine IM E a2 (x2.aT d u2) (x2.tr t) (x2.cl c) u2 (by refine rG mY ?_;exact h1) (by refine rG sS ?_;exact h3) λH3 ig s a3 k3 x3 u3 hs=>?_;walk_at"ws";refine l8 hs λp q1 q2 q3 q4=>?_;clear hs;refine k1 _ _ ⟨ig,ps++[((l.natAbs:Int),s)],a3,k2.trans k3,x2.trans x3,u3,by refine rG cN ?_;rfl,?_,λp' jb=>?_,k3 _ _ rn bZ⟩
  .refine rG cN (rG e2 (rG (take_snoc hO) ?_));rfl
  .rcases List.mem_append.mp jb with z|z
   .exact x3.abo vw p' z
   .rw[cx] at z;subst z;haveI et3:=x3.mY;exact⟨l,p,by refine rG et3 (rG mY ?_);exact bd h1,rfl,q2,q3,q4⟩
 .intro acc H' o7;refine yW o7 λay ps a2 k2 x2 u2 o8 e2 vw bZ=>?_;clear o7;subst o8;haveI e2:=ko▸(au _)▸e2;refine alloc 5 λr3 dA sL=>?_;exact k _ ay ps r3 (a2.bx (am.fresh dA)) (k2.trans (am.fresh dA).od) x2 u2 (aI _ _ _) sL (by refine rG e2 ?_;exact hp) vw
 .exact⟨st,[],a1,(am.fresh hr).od,dm.refl _,u,rfl,by refine rG List.take_zero ?_;rfl,λp hp=>absurd hp dp,aI _ _ _⟩
theorem abq(u:bV N cs b st)(h0:0<=first)(qM:st.af.steps[first.toNat]?=some p0)(hc:dB st.af.steps p0.cl pairs out)(hl: ∀x,x∈out->Lit N x)(hs:ez out):
  (∃e,(eA st.af first pairs out).2.steps=st.af.steps++e)/\j6 N cs (eA st.af first pairs out).2.steps/\(eA st.af first pairs out).2.steps.length<=st.af.steps.length+1/\0<=(eA st.af first pairs out).1/\ ∃p,(eA st.af first pairs out).2.steps[(eA st.af first pairs out).1.toNat]?=some p/\p.cl=out:=by
 unfold eA;split
 .rename_i lU
  subst lU;exact⟨⟨[],by exact rG (f5 _) rfl⟩,u.af,jR _,h0,p0,qM,hc.nil_eq⟩
 .refine⟨⟨[_],rfl⟩,u.af.snoc (dB.step u.af h0 qM hc hl hs),?_,aC _,qL first pairs out,?_,rfl⟩
  .refine(?_:(st.af.steps++[_]).length<=_);refine rG bm (rG cV ?_);exact cG _
  .show (st.af.steps++[_])[_]?=_;exact rG (bO _) (rG (g9) rfl)
theorem abr(E:Env C)(a:ac co pr lay st H)(d:bU N st)(t:Tr N st)(c:Cl N cs st)(u:bV N cs b st)(hs:st.ah=[]){kk:Nat}(hc:st.cls[kk]?=some cl)(hf: ∀x,x∈cl-> -x∈st.aa)
  (k: ∀H' ae,ac co pr lay ae H'->aR lay H H'->ae.gP=false->Q .none H'):
  aM C (n+10) (.con (.ref 469)) [.ref co,.int kk] Q H:=by
 haveI hN:=d.big;haveI gN:=(List.getElem?_eq_some_iff.mp hc).1;haveI sT:=d.cls;have cg:=c.cg hc;have j7:=cg.len;refine gX (u.step c hc) λs0 p0 g1 g2 g3 g4 g5=>?_;refine E.eY rfl ?_;walk_at"ws";refine a.pt (aX sT rfl) (aC kk) (oB gN) ?_;refine rG (bO _) ?_;refine pA V.int cl (λx=>some (.int x.natAbs)) (a.fU hc) (aX j7 rfl) (λy U P hP=>⟨_,rfl,?_⟩) ?_
 .refine(?_:al _ _ _ _ _ _ _);walk_at"ws";refine gM ?_;exact hP
 haveI BQ:cl.filterMap (λx=>some (V.int x.natAbs))=(cl.map λx=>(x.natAbs:Int)).map V.int:=by refine rG nu (rG eN ?_);rfl
 refine rG BQ ?_;refine alloc 6 λr1 dX U=>?_;haveI a1:=a.bx (am.fresh (o:=iL (cl.map λx=>(x.natAbs:Int))) dX);refine IR E a1 d t c u (aI _ _ _) (by refine rG (au _) ?_;exact iS j7 rfl) (λv hv=>?_) λH2 m8 ps r2 a2 k2 x2 u2 bZ qK cB vw=>?_
 .refine ab (List.mem_map.mp hv) λx hx o9=>?_;subst o9;refine ag (List.mem_iff_getElem?.mp (hf x hx)) λi hi=>?_;exact⟨i,-x,hi,by exact rG (fB _) rfl,λs iO=>by replace iO:=hs▸iO;cases iO⟩
 haveI et:=x2.mY;haveI es:=x2.abf;have d2:=x2.aT d u2;have vx:m8.af.steps[s0.toNat]?=some p0:=by
  refine ag x2.ext λe he=>?_;refine rG he (rG (gi (List.getElem?_eq_some_iff.mp g3).1) ?_);exact g3
 have m7:=u2.af.good hN vx;haveI lT:=IL (steps:=m8.af.steps) ps p0.cl m7 (by
  refine rI cB.nodup_iff ?_;haveI:=cg.nd;unfold List.Nodup at this ⊢;rw[eC] at this ⊢;exact this.imp λne e=>ne (gz e)) λp hp=>by
   refine gX (vw p hp) λl q h1 h2 h3 h4 h5=>?_;haveI hm:=cB.mem_iff.mp (mc hp);refine ab (List.mem_map.mp hm) λx hx IS=>?_;haveI hxl:l= -x:=by
    haveI eH:=hf x hx;haveI h1:=et▸h1;rcases (by exact NR h2 IS:l=x∨l= -x) with e|e
    .subst e;exact absurd h1 (by haveI:=t.con eH;rwa [hH] at this)
    .exact e
   exact⟨x,q,g4.mem_iff.mp hx,IS.symm,h3,h4,by exact rG h5 (rG hxl rfl)⟩
 haveI nU:(p0.cl.filter λx=>decide ((x.natAbs:Int)∉ps.map (·.1)))=[]:=by
  refine rI List.filter_eq_nil_iff ?_;intro x hx h;haveI h:=fP h;exact h (cB.mem_iff.mpr (List.mem_map.mpr ⟨x,g4.mem_iff.mpr hx,rfl⟩))
 haveI lT:=nU▸lT;walk_at"ws";haveI abu:=d2.aW;haveI lP:=d2.cls;haveI ecl:=x2.abg;refine bC (x:=s0) (a2.obj .aW _ rfl) (tE abu lP rfl) (aC kk) (by refine rG es (rG (bO _) ?_);exact g1) ?_;walk_at"ws";haveI iG:ps.length<=5:=by
  haveI:=cB.length_eq;haveI this:=(au _)▸(au _)▸this;exact D4 j7 this
 haveI fy:=d2.af;refine Bx (out:=[]) E a2 (bI fy rfl) g2 vx m7 (aX iG rfl) lT bZ λH3 a3 k3=>?_;walk_at"ws";refine a3.aab λH4 a4 k4=>?_;walk_at"ws";refine a4.aaa λH5 a5 k5=>?_;walk_at"ws";exact k H5 _ a5 ((am.fresh dX).od.trans (k2.trans (k3.trans (k4.trans k5)))) rfl
end
theorem sV{α:Type}{l:List α}{x y:α}{k:Nat}(h:l[k]?=some y):(l++[x])[k]?=some y:=by
 refine rG (gi (List.getElem?_eq_some_iff.mp h).1) ?_;exact h
section
variable{N b:Nat}{cs:List (List Int)}{st ae:St}
theorem bV.move(u:bV N cs b st)(e:ae.aQ=st.aQ/\ae.cq=st.cq/\ae.af=st.af/\ae.aW=st.aW)(hc:ae.cls.length=st.cls.length)(ht: ∀i:Nat,(i:Int)<st.cq->ae.aa[i]?=st.aa[i]?)(hr:st.cq<=ae.aa.length/\ ∀s,s∈ae.ah->st.cq<=s):bV N cs b ae:=by
 refine gW e λe1 e2 e3 e4=>?_;refine⟨by refine rG e3 ?_;exact u.af,λj c hj=>?_,by refine rG e2 ?_;exact⟨u.r0.1,hr⟩,λi l hl hi=>?_,λl hl gT=>?_,by refine rG e2 (rG e3 ?_);exact u.cnt⟩
 .haveI aS:=(List.getElem?_eq_some_iff.mp hj).1;haveI aS:=hc▸aS;refine rG e3 (rG e4 ?_);exact u.aW j _ (eL aS)
 .replace hi:=e2▸hi;haveI hl:=(ht i hi)▸hl;refine rG e1 (rG e3 ?_);exact u.us i l hl hi
 .refine rG e1 ?_;refine u.un l hl λi hi=>?_;refine rB (ht i hi) ?_;exact gT i (by refine rG e2 ?_;exact hi)
theorem bV.ext(u:bV N cs b st)(x:Ext st ae):bV N cs b ae:=by
 refine ag x.aa λe he=>?_;haveI hr:=u.r0;refine u.move ⟨x.aQ,x.cq,x.af,x.aW⟩ x.cls (λi hi=>?_) ⟨?_,λs hs=>hr.2.2 s (by refine rB x.ah ?_;exact hs)⟩
 .exact rG he (rG (gi (by exact D6 hr.2.1 hi)) rfl)
 .refine rG he (rG bm ?_);exact D5 hr.2.1
theorem bV.cK(u:bV N cs b st):bV N cs b (cK st l c):=u.ext (Ext.cK st l c)
noncomputable def cC(st:St)(ys:List Int)(s:Int)(aq:List (List Int)):St:=(((((st.iJ (st.cls++[ys])).Bb (st.aW++[s])).Bc (st.bS++[false])).Bd (st.act++[0])).jB aq)
theorem BR(d:bU N st)(h8:st.cls.length<8)(ha:st.act.length=st.cls.length)(hd:st.bS.length=st.cls.length)(hw:aq.length=st.aq.length):bU N (cC st ys s aq):=by
 refine⟨d.big,d.asg,d.lvl,d.aB,d.bk,d.bB,d.seen,d.aQ,hw.trans d.aq,d.aa,d.ah,?_,?_,?_,?_,d.af,d.hp⟩
 .refine(?_:(st.cls++[ys]).length<=8);refine rG bm (rG cV ?_);exact bI h8 rfl
 .refine(?_:(st.aW++[s]).length=(st.cls++[ys]).length);refine rG bm (rG bm (rG d.aW ?_));rfl
 .refine(?_:(st.act++[0]).length<=8);refine rG bm (rG cV ?_);exact tF ha h8 rfl
 .refine(?_:(st.bS++[false]).length<=8);refine rG bm (rG cV ?_);exact tF hd h8 rfl
theorem IT(t:Tr N st){ys:List Int}{s:Int}:Tr N (cC st ys s aq):=
 t.perm ⟨rfl,rfl,rfl,rfl,rfl,rfl⟩ λk c hc=>⟨c,sV hc,.refl _⟩
theorem abv(c:Cl N cs st)(e:cs[st.cls.length]?=some c0)(hp:ys.Perm c0):Cl N cs (cC st ys s aq):=by
 refine⟨λk c' hc=>?_,c.good⟩;rcases mW hc with ⟨_,q⟩|⟨rfl,rfl⟩
 .exact c.rel k c' q
 .exact⟨c0,e,hp⟩
theorem abw(u:bV N cs b st)(d:bU N st){ys c0:List Int}{s:Int}(e:cs[st.cls.length]?=some c0)(h0:0<=s)(hp:st.af.steps[s.toNat]?=some p)(hc:p.cl=c0):bV N cs b (cC st ys s aq):=by
 refine⟨u.af,λj c hj=>?_,u.r0,u.us,u.un,u.cnt⟩;rcases mW hj with ⟨_,q⟩|⟨rfl,rfl⟩
 .refine bM (u.aW j c q) λs' p' q1 q2=>?_;exact⟨s',p',sV q1,q2⟩
 .refine⟨s,p,?_,h0,hp,by refine rG hc ?_;exact e⟩;refine(?_:(st.aW++[s])[st.cls.length]?=some s);exact rB d.aW (rG (g9) rfl)
theorem abx(w:qO N st){a s:Int}:qO N (cC st [a] s st.aq):=by
 intro l hl;refine ab (w l hl) λws h1 h2=>?_;refine⟨ws,h1,h2.1,λj=>(h2.2 j).trans ⟨λaby=>f4 aby λk x y r q1 q2 q3=>⟨k,x,y,r,q1,sV q2,q3⟩,λabz=>f4 abz λk x y r q1 q2 q3=>?_⟩⟩;rcases mW q2 with ⟨_,q⟩|⟨_,q⟩
 .exact⟨k,x,y,r,q1,q,q3⟩
 .cases q
theorem abA(w:qO N st){x0 x1 s:Int}{r bD ie:List Int}(h0:Lit N x0)(h1:Lit N x1)(bt:x0≠x1)(e0:st.aq[bz x0]?=some bD)(e1:st.aq[bz x1]?=some ie):
  qO N (cC st (x0::x1::r) s ((st.aq.set (bz x0) (bD++[(st.cls.length:Int)])).set (bz x1) (ie++[(st.cls.length:Int)]))):=by
 haveI BS:bz x1≠bz x0:=λe=>bt (qN h1 h0 e).symm;have key: ∀(l:Int) (ws:List Int),jE st l ws->(l=x0∨l=x1)->jE (cC st (x0::x1::r) s ((st.aq.set (bz x0) (bD++[(st.cls.length:Int)])).set (bz x1) (ie++[(st.cls.length:Int)]))) l (ws++[(st.cls.length:Int)]):=by
  intro l ws hw hl;refine⟨List.nodup_append.mpr ⟨hw.1,List.nodup_cons.mpr ⟨dp,eD⟩,λa ha b hb e=>?_⟩,λj=>?_⟩
  .rw[cx] at hb;refine f4 ((hw.2 a).mp ha) λk U U U q1 q2 U=>?_;haveI:=(List.getElem?_eq_some_iff.mp q2).1;exact(NU hb e q1 this).elim
  .refine rI dG (rI cx (rI (hw.2 j) ?_));constructor
   .intro o1;rcases o1 with ⟨k,a,b,r',q1,q2,q3⟩|q
    .exact⟨k,a,b,r',q1,sV q2,q3⟩
    .exact⟨st.cls.length,x0,x1,r,q,g9,hl.imp cX cX⟩
   .intro o2;refine f4 o2 λk a b r' q1 q2 q3=>?_;rcases mW q2 with ⟨_,q⟩|⟨rfl,_⟩
    .exact .inl ⟨k,a,b,r',q1,q,q3⟩
    .exact .inr q1
 intro l hl;refine ab (w l hl) λws q1 q2=>?_;by_cases z1:l=x1
 .subst z1;replace q1:=e1▸q1;cases q1;exact⟨_,gj (by refine rG d7 ?_;exact(List.getElem?_eq_some_iff.mp e1).1),key _ _ q2 (.inr rfl)⟩
 .by_cases z0:l=x0
  .subst z0;replace q1:=e0▸q1;cases q1;refine⟨_,?_,key _ _ q2 (.inl rfl)⟩;refine(?_:((st.aq.set _ _).set _ _)[bz l]?=_);exact rG (gk BS) (rG (gj (List.getElem?_eq_some_iff.mp e0).1) rfl)
  .refine⟨ws,?_,q2.1,λj=>(q2.2 j).trans ⟨λabB=>f4 abB λk x y r' q1 q2 q3=>⟨k,x,y,r',q1,sV q2,q3⟩,λabC=>f4 abC λk x y r' q1 q2 q3=>?_⟩⟩
   .refine(?_:((st.aq.set _ _).set _ _)[bz l]?=_);refine rG (gk (λe=>z1 (qN h1 hl e).symm)) (rG (gk (λe=>z0 (qN h0 hl e).symm)) ?_);exact q1
   .rcases mW q2 with ⟨_,q⟩|⟨_,q⟩
    .exact⟨k,x,y,r',q1,q,q3⟩
    .cases q;rcases q3 with q3|q3
     .exact absurd q3.symm z0
     .exact absurd q3.symm z1
structure j8(N:Nat)(cs:List (List Int))(b:Nat)(st:St):Prop where
 q:Quiet N cs st
 ah:st.ah=[]
 head:st.head=0
 lf:bV N cs b st
 gP:st.gP=true
 act:st.act.length=st.cls.length
 bS:st.bS.length=st.cls.length
end
section
variable{C:Cfg}{n:Nat}{H:MH}{Q:PV}{co pr:Ref}{lay:Sl->Ref}{st:St}{N b:Nat}{cs:List (List Int)}
theorem abD(E:Env C)(a:ac co pr lay st H)(d:bU N st)(h5:c0.length<=5)
  (k: ∀H' eJ,ac co pr eJ ((((st.iJ (st.cls++[c0])).Bb (st.aW++[s])).Bc (st.bS++[false])).Bd (st.act++[0])) H'->bF H H'->Q (.int st.cls.length) H'):aM C (n+1) (.con (.ref 296)) [.ref co,.tup (c0.map V.int),.int s,.bool false] Q H:=by
 have h1:=d.cls;haveI h2:=d.aW;haveI h3:=d.act;haveI h4:=d.bS;refine E.Iq rfl ?_;walk_at"ws";refine fF (a.obj .cls _ rfl) (by refine rG (au _) (rG dZ (rG lid ?_));exact aX h1 rfl) ?_;refine rG (au _) (rG dZ ?_);walk_at"ws";refine dh (a.obj .cls _ rfl) ?_;walk_at"ws";refine GL (by refine rG (au _) (rG lid ?_);exact aX h5 rfl) ?_;refine alloc (cJ (.c st.cls.length)) λr hr ht=>?_;haveI a1:=a.bx (am.fresh (o:=iL c0) hr);refine a1.aag (by refine rG lid ?_;exact aX h1 rfl) ht (aI _ _ _) λH2 a2 k2=>?_;walk_at"ws";refine dh (a2.obj .aW _ rfl) ?_;walk_at"ws";refine a2.ZS (by refine rG lid ?_;refine(?_:st.aW.length<_);exact tE h2 h1 rfl) λH3 a3 k3=>?_;walk_at"ws";refine dh (a3.obj .bS _ rfl) ?_;walk_at"ws";refine a3.ZU (by refine rG lid ?_;refine(?_:st.bS.length<_);exact aX h4 rfl) λH4 a4 k4=>?_;walk_at"ws";refine dh (a4.obj .act _ rfl) ?_;walk_at"ws";refine a4.ZT (by refine rG lid ?_;refine(?_:st.act.length<_);exact aX h3 rfl) λH5 a5 k5=>?_;walk_at"ws";refine aJ (Ft) (λU=>?_);walk_at"ws";exact k H5 _ a5 ((am.fresh hr).keep.trans ((a1.keep k2).trans ((a2.keep k3).trans ((a3.keep k4).trans (a4.keep k5)))))
theorem abE(E:Env C)(a:ac co pr lay st H)(hN:N<=5)(hw:st.aq.length=2*N+2)(pJ:st.cls.length<=8){kk:Nat}(hr:r.length<=5)(hc:st.cls[kk]?=some (x0::x1::r))(h0:Lit N x0)(h1:Lit N x1)(bt:x0≠x1)(e0:st.aq[bz x0]?=some bD)(e1:st.aq[bz x1]?=some ie)(l0:bD.length<1000)(l1:ie.length<1000)
  (k: ∀H',ac co pr lay (st.jB ((st.aq.set (bz x0) (bD++[(kk:Int)])).set (bz x1) (ie++[(kk:Int)]))) H'->aR lay H H'->Q .none H'):aM C (n+2) (.con (.ref 303)) [.ref co,.int kk] Q H:=by
 have b0:=h0.2;haveI b1:=h1.2;haveI p0:=vo h0;haveI p1:=vo h1;haveI gN:=(List.getElem?_eq_some_iff.mp hc).1;have cL:(x0::x1::r).length<aO:=by refine rG lid ?_;simp;exact NZ hr
 refine E.eY rfl ?_;walk_at"ws";refine a.pt (by refine rG lid ?_;exact aX pJ rfl) (aC kk) (oB gN) ?_;refine rG (bO _) ?_;walk_at"ws";refine bC (x:=x0) (a.fU hc) cL (aC 0) rfl ?_;refine vg E (cT b0 hN rfl) ?_;refine a.xC (by refine rG lid ?_;exact tD hw hN rfl) (aC (bz x0)) (by exact zg hw p0) ?_;refine rG (bO _) ?_;refine dh (a.pu e0) ?_;walk_at"ws";refine a.Bi e0 (by refine rG lid ?_;exact bI l0 rfl) λH2 a2 k2=>?_;walk_at"ws";refine bC (x:=x1) (a2.fU hc) cL (aC 1) rfl ?_;refine vg E (cT b1 hN rfl) ?_;refine a2.xC (by refine rG lid (rG d7 ?_);exact tD hw hN rfl) (aC (bz x1)) (by refine rG d7 ?_;exact zg hw p1) ?_;refine rG (bO _) ?_;haveI m4:(st.aq.set (bz x0) (bD++[(kk:Int)]))[bz x1]?=some ie:=by
  refine rG (gk (λe=>bt (qN h0 h1 e))) ?_;exact e1
 refine dh (a2.pu m4) ?_;walk_at"ws";refine a2.Bi m4 (by refine rG lid ?_;exact bI l1 rfl) λH3 a3 k3=>?_;walk_at"ws";exact k H3 a3 (k2.trans k3)
theorem IU(t:Tr N st)(hs:st.ah=[])(hl:Lit N l):pD st l=if val st l= -1 then 0 else 1:=by
 unfold pD;by_cases h:val st l= -1
 .refine rG (ax (λz=>z h)) (rG (az h) ?_);haveI:=(t.val_neg hl).mp h;refine ag (List.mem_iff_getElem?.mp this) λi hi=>?_;haveI:=t.lvl i (-l) hi;haveI this:=(fB _)▸this;refine rG this (rG hs ?_);rfl
 .refine rG (az h) (rG (ax h) (rG hs ?_));rfl
structure Fail(N:Nat)(cs:List (List Int)):Prop where
 ex: ∃st c,Tr N st/\Cl N cs st/\st.ah=[]/\sQ st c
theorem abF{l:List Int}(h:1<(l.length:Int)): ∃a b r,l=a::b::r:=by
 cases l with
 |nil=>cases h
 |cons a l=>cases l with
  |nil=>cases h
  |cons b r=>exact⟨a,b,r,rfl⟩
theorem abG{l:List Int}(h:l≠[])(h': ¬1<(l.length:Int)): ∃a,l=[a]:=by
 cases l with
 |nil=>exact absurd rfl h
 |cons a l=>cases l with
  |nil=>exact⟨a,rfl⟩
  |cons b r=>exact absurd (Int.ofNat_lt.mpr (Nat.succ_lt_succ (Nat.succ_pos _))) h'
theorem place_spec(E:Env C){aP:St}(R:j8 N cs b aP)(h8:aP.cls.length<8)(fz:aP.cls.length=k0)(ec:cs[k0]?=some c0)(g0:GoodC N c0)(fJ:0<=s)(ou:aP.af.steps[s.toNat]?=some p)(pI:p.cl=c0)
  (a:ac co pr lay (cC aP c0 s aP.aq) H)
  (kt: ∀H' ae,At co pr ae H'->bF H H'->j8 N cs b ae->ae.cls.length=k0+1->ae.af=aP.af->ae.seen=aP.seen->Q (.int (-1)) H')
  (kf: ∀H' eJ ae,ac co pr eJ ae H'->bF H H'->bU N ae->Tr N ae->Cl N cs ae->bV N cs b ae->ae.ah=[]->(∃cl,ae.cls[k0]?=some cl/\ ∀x,x∈cl-> -x∈ae.aa)->Q (.int k0) H'):
  aM C (n+6) (.con (.ref 338)) [.ref co,.int k0] Q H:=by
 subst fz;have hN:=R.q.aT.big;haveI hw0:=R.q.aT.aq;haveI d1:bU N (cC aP c0 s aP.aq):=BR R.q.aT h8 R.act R.bS rfl;haveI t1:Tr N (cC aP c0 s aP.aq):=IT R.q.tr;haveI xR:(cC aP c0 s aP.aq).cls[aP.cls.length]?=some c0:=g9;have sW:(cC aP c0 s aP.aq).cls.length=aP.cls.length+1:=by refine(?_:(aP.cls++[c0]).length=_);refine rG bm ?_;rfl
 haveI dW:(cC aP c0 s aP.aq).ah=[]:=R.ah;generalize gq:cC aP c0 s aP.aq=ay at*;have j9:=g0.2.2.1;refine E.eY rfl ?_;walk_at"ws";refine a.pt (by refine rG lid ?_;exact gy sW h8 rfl) (aC aP.cls.length) (by exact wB sW) ?_;refine rG (bO _) ?_;refine fF (a.fU xR) (by refine rG (au _) (rG lid ?_);exact aX j9 rfl) ?_;walk_at"ws";haveI main:bo C tabs (n+5) (AZ.drop 1) (cR Q) (set (set em "self" (.ref co)) "number" (.int aP.cls.length)) H:=by
  refine rG oH (rG ly ?_);walk_at"ws";refine a.pt (by refine rG lid ?_;exact gy sW h8 rfl) (aC aP.cls.length) (by exact wB sW) ?_;refine rG (bO _) ?_;refine aaQ E a d1 (a.fU xR) (iS j9 rfl) g0.2.2.2 (cJ (.c aP.cls.length)) (by exact NY) λys r hp hh hr ii=>?_;haveI a2:=a.bx (am.fresh (o:=iL ys) hr);walk_at"ws";refine a2.aaf (i:=((aP.cls.length:Nat):Int)) (l:=ys) (by refine rG lid ?_;exact gy sW h8 rfl) (aC aP.cls.length) (by exact wB sW) (by refine rG (bO _) ?_;exact ii) (aI _ _ _) λH3 a3 k3 xU=>?_;haveI a3:=(bO _)▸a3;have dA:H3 r=some (iL ys):=by
   exact rG (xU r (λz=>by rw[z,a.tag] at ii;exact absurd (mR ii) (by intro q;cases q))) (rG (aI _ _ _) rfl)
  haveI pK:bF H H3:=(am.fresh hr).keep.trans (a2.keep k3);clear xU k3 a2;have e3:((ay.iJ (ay.cls.set aP.cls.length ys)):St)=cC aP ys s aP.aq:=by
   haveI q:(aP.cls++[c0]).set aP.cls.length ys=aP.cls++[ys]:=by refine rG (List.set_append_right _ _ (cG _)) (rG (Nat.sub_self _) ?_);rfl
   refine rB gq ?_;exact(bP (St.iJ (cC aP c0 s aP.aq)) q).trans rfl
  replace a3:=e3▸a3;haveI uS:dk lay (.c aP.cls.length) r (.c aP.cls.length)=r:=lN _ _ _;generalize dk lay (.c aP.cls.length) r=qP at a3 uS;have jD:ys.length<=3:=by refine rG hp.length_eq ?_;exact j9
  have IV:ys≠[]:=λz=>g0.2.1 (by haveI hp:=z▸hp;exact List.nil_perm.mp hp);have m5: ∀x,x∈ys->Lit N x:=λx hx=>g0.2.2.2 x (hp.mem_iff.mp hx);have xZ:(ys.map Int.natAbs).Nodup:=(hp.map _).nodup_iff.mpr (sK g0.1);haveI IW: ∀x,val aP x=val ay x:=λx=>by refine rB gq ?_;rfl
  have vy: ∀(x:Int) IX e8,val (cC aP IX s e8) x=val aP x:=λx IX e8=>rfl;have t0:=R.q.tr;have lb:ys.Pairwise λa b=>val aP a= -1->val aP b= -1:=by
   refine ir ?_ hh;intro x y hx hy q z;haveI q:=(az z)▸cX (IW _)▸cX (IW _)▸(IU t1 dW (m5 y hy))▸(IU t1 dW (m5 x hx))▸q;apply jL;intro w;haveI q:=(ax w)▸q;exact NX q
  have done: ∀(H4:MH) (e8:List (List Int)) (m:MM) (y0:Int) (yr:List Int),ys=y0::yr->ac co pr qP (cC aP ys s e8) H4->aR qP H3 H4->H4 r=some (iL ys)->e8.length=aP.aq.length->qO N (cC aP ys s e8)->m "self" =some (.ref co)->m "number" =some (.int aP.cls.length)->m "lits" =some (.ref r)->
    bo C tabs (n+5) (AZ.drop 4) (cR Q) m H4:=by
   intro H4 e8 m y0 yr hy a4 k4 fX lS IY h1 h2 h3;have d4:bU N (cC aP ys s e8):=BR R.q.aT h8 R.act R.bS lS;have t4:Tr N (cC aP ys s e8):=IT t0;have c4:Cl N cs (cC aP ys s e8):=abv R.q.cl ec hp;have u4:bV N cs b (cC aP ys s e8):=abw R.lf R.q.aT ec fJ ou pI;haveI w9:(cC aP ys s e8).cls[aP.cls.length]?=some ys:=g9;have BU:(cC aP ys s e8).cls.length=aP.cls.length+1:=by refine(?_:(aP.cls++[ys]).length=_);refine rG bm ?_;rfl
   have gc:Lit N y0:=m5 y0 (by refine rG hy ?_;exact .head _);haveI ht: ∀x,x∈(cC aP ys s e8).aa↔x∈aP.aa:=λx=>Iff.rfl;have cL:ys.length<aO:=by refine rG lid ?_;exact aX jD rfl
   have e0:ys[(0:Int).toNat]?=some y0:=by refine rG hy ?_;rfl
   have quiet: ∀ae,(bU N ae/\Tr N ae/\Cl N cs ae/\qO N ae/\ae.ah=[]/\ae.head=0/\bV N cs b ae/\ae.gP=true/\ae.act.length=ae.cls.length/\ae.bS.length=ae.cls.length/\kY ae ae.aa)->j8 N cs b ae:=by
    intro ae o1;refine Kp o1 λq1 q2 q3 q4 q5 q6 q7 q8 q9 q10 q11=>?_;refine⟨⟨⟨q1,q2,q3,q4,λs hs=>(by replace hs:=q5▸hs;cases hs),q11⟩,(by refine rG q6 ?_;exact⟨Int.le_refl _,aC _⟩),λs hs=>(by replace hs:=q5▸hs;cases hs),?_⟩,q5,q6,q7,q8,q9,q10⟩;refine rG q6 ?_;intro k' x y r' U;exact⟨λz=>absurd z (by simp),λz=>absurd z (by simp)⟩
   have bY:(cC aP ys s e8).act.length=(cC aP ys s e8).cls.length:=by refine(?_:(aP.act++[0]).length=(aP.cls++[ys]).length);refine rG bm (rG bm (rG R.act ?_));rfl
   have IZ:(cC aP ys s e8).bS.length=(cC aP ys s e8).cls.length:=by refine(?_:(aP.bS++[false]).length=(aP.cls++[ys]).length);refine rG bm (rG bm (rG R.bS ?_));rfl
   have unit: ∀T,(∀x,x∈aP.aa->x∈T)->(∀x,ys=[x]->x∈T)->kY (cC aP ys s e8) T:=by
    intro T h1 h2 k' x hx;rcases mW hx with ⟨_,q⟩|⟨_,q⟩
    .exact h1 _ (R.q.qu k' x q)
    .exact h2 x q.symm
   have I0:(∀x,ys=[x]->x∈aP.aa)->j8 N cs b (cC aP ys s e8):=λh=>quiet _ ⟨d4,t4,c4,IY,R.ah,R.head,u4,R.gP,bY,IZ,unit _ (λx hx=>hx) h⟩;have push:y0∉aP.aa-> -y0∉aP.aa->(∀x,x∈yr-> -x∈aP.aa)->j8 N cs b (cK (cC aP ys s e8) y0 aP.cls.length):=by
    intro n1 n2 hf;refine quiet _ ⟨d4.cK t4 gc ⟨n1,n2⟩,t4.cK d4 gc ⟨n1,n2⟩ (.inr ⟨?_,aP.cls.length,ys,rfl,w9,by refine rG hy ?_;exact .head _,λx hx ne=>?_⟩),⟨c4.rel,c4.good⟩,IY,R.ah,R.head,u4.cK,R.gP,bY,IZ,?_⟩
    .refine(?_:_∉aP.ah);refine rG R.ah ?_;exact dp
    .haveI hx:=hy▸hx;rcases List.mem_cons.mp hx with e|e
     .exact absurd e ne
     .exact hf x e
    .exact unit _ (λx hx=>pG.mpr (.inl hx)) (λx hx=>pG.mpr (.inr (by replace hx:=hy▸hx;cases hx;rfl)))
   haveI yr1:val aP y0= -1-> ∀x,x∈ys->val aP x= -1:=λq x hx=>by
    rw[hy] at hx lb;rcases List.mem_cons.mp hx with e|e
    .refine rG e ?_;exact q
    .exact(List.pairwise_cons.mp lb).1 x e q
   have fin: ∀H5,At co pr (cC aP ys s e8) H5->bF H H5->j8 N cs b (cC aP ys s e8)->Q (.int (-1)) H5:=λH5 q1 q2 q3=>kt H5 _ q1 q2 q3 BU rfl rfl;have kH:bF H H4:=pK.trans (a3.keep k4);simp only[oH,ly];walk_at"ws";refine fF fX (by refine rG (au _) ?_;exact cL) ?_;refine rG (au _) ?_;walk_at"ws";refine aJ (λh=>by rw[bf] at h;exact absurd (List.length_eq_zero_iff.mp (gz h)) IV) (λU=>?_);walk_at"ws";refine bC fX cL (aC 0) e0 ?_;refine on E a4 d4 gc ?_;walk_at"ws";refine aJ (λhf=>?_) (λhf=>?_)
   ·(rewrite [bf] at hf;haveI hf:=(vy _ _ _)▸hf)
    walk_at"ws";refine kf H4 _ _ a4 kH d4 t4 c4 u4 R.ah ⟨ys,w9,λx hx=>?_⟩;exact(t0.val_neg (m5 x hx)).mp (yr1 hf x hx)
   (rewrite [ct] at hf;haveI hf:=(vy _ _ _)▸hf;rewrite [t0.val_neg gc] at hf)
   walk_at"ws";refine bC fX cL (aC 0) e0 ?_;refine on E a4 d4 gc ?_;walk_at"ws";refine aJ (λhu=>?_) (λhu=>?_)
   ·(rewrite [bf] at hu;replace hu:=(vy _ _ _)▸hu;rewrite [t0.val_zero gc] at hu)
    walk_at"ws";refine fF fX (by refine rG (au _) ?_;exact cL) ?_;refine rG (au _) ?_;walk_at"ws";refine aJ (λfG=>?_) (λfG=>?_)
    .rw[bf] at fG;haveI hyr:yr=[]:=List.length_eq_zero_iff.mp (by haveI fG:=hy▸fG;simp only[fh] at fG;exact NW fG);walk_at"ws";refine bC fX cL (aC 0) e0 ?_;walk_at"ws";refine xQ E a4 d4 gc λH5 a5 k5=>?_;walk_at"ws";exact kt H5 _ a5.at (kH.trans (a4.keep k5)) (push hu.1 hu.2 λx hx=>by replace hx:=hyr▸hx;cases hx) BU rfl rfl
    .rw[ct] at fG;obtain ⟨y1,vz,rfl⟩: ∃y1 vz,yr=y1::vz:=by
      cases yr with
      |nil=>haveI fG:=hy▸fG;exact absurd rfl fG
      |cons y1 vz=>exact⟨y1,vz,rfl⟩
     have BV:Lit N y1:=m5 y1 (by refine rG hy ?_;exact .tail _ (.head _));have e1:ys[(1:Int).toNat]?=some y1:=by refine rG hy ?_;rfl
     walk_at"ws";refine bC fX cL (aC 1) e1 ?_;refine on E a4 d4 BV ?_;walk_at"ws";refine aJ (λqR=>?_) (λqR=>?_)
     ·(rewrite [bf] at qR;replace qR:=(vy _ _ _)▸qR)
      haveI kd: ∀x,x∈y1::vz->val aP x= -1:=λx hx=>by
       rcases List.mem_cons.mp hx with e|e
       .refine rG e ?_;exact qR
       .haveI lb:=hy▸lb;exact(List.pairwise_cons.mp (List.pairwise_cons.mp lb).2).1 x e qR
      haveI vA:=BV.2;haveI kQ:at' (cC aP ys s e8).lvl y1.natAbs=0:=by
       refine ag (List.mem_iff_getElem?.mp ((t0.val_neg BV).mp qR)) λi hi=>?_;haveI:=t0.lvl i (-y1) hi;haveI this:=R.ah▸(fB _)▸this;exact this
      haveI gb:=d4.lvl;walk_at"ws";refine bC fX cL (aC 1) e1 ?_;refine gM ?_;refine bC (a4.obj .lvl _ rfl) (by refine rG lid ?_;exact cF gb hN rfl) (aC y1.natAbs) (gS (aC y1.natAbs) (eB gb vA)) ?_;refine rG kQ ?_;refine BD E a4 (by refine(?_:aP.ah.length<_);refine rG R.ah ?_;simp) (by refine(?_:(aP.ah.length:Int)<=0);refine rG R.ah ?_;exact Int.le_refl _) ?_;walk_at"ws";refine bC fX cL (aC 0) e0 ?_;walk_at"ws";refine xQ E a4 d4 gc λH5 a5 k5=>?_;walk_at"ws";refine kt H5 _ a5.at (kH.trans (a4.keep k5)) (push hu.1 hu.2 λx hx=>?_) BU rfl rfl;exact(t0.val_neg (m5 x (by refine rG hy ?_;exact .tail _ hx))).mp (kd x hx)
     .walk_at"ws";exact fin H4 a4.at kH (I0 λx hx=>by replace hx:=hy▸hx;cases hx)
   ·(rewrite [ct] at hu;haveI hu:=(vy _ _ _)▸hu;rewrite [t0.val_zero gc] at hu)
    haveI gJ:y0∈aP.aa:=jL λz=>hu ⟨z,hf⟩;walk_at"ws";exact fin H4 a4.at kH (I0 λx hx=>by replace hx:=hy▸hx;cases hx;exact gJ)
  walk_at"ws";refine fF dA (by refine rG (au _) (rG lid ?_);exact aX jD rfl) ?_;refine rG (au _) ?_;walk_at"ws";refine aJ (λh=>?_) (λh=>?_)
  .rw[bf] at h;refine Dc (abF h) λx0 x1 yr hy=>?_;have L0:Lit N x0:=m5 x0 (by refine rG hy ?_;exact .head _);have L1:Lit N x1:=m5 x1 (by refine rG hy ?_;exact .tail _ (.head _));have bt:x0≠x1:=by
    haveI xZ:=hy▸xZ;simp only[dq,kB,gE,not_or] at xZ;exact λe=>xZ.1.1 (by exact rG e rfl)
   refine ab (R.q.w x0 L0) λbD e0 o0=>?_;refine ab (R.q.w x1 L1) λie e1 o1=>?_;haveI pB:=o0.len R.q.aT.cls;haveI abL:=o1.len R.q.aT.cls;haveI d3:bU N (cC aP ys s aP.aq):=BR R.q.aT h8 R.act R.bS rfl;walk_at"ws";refine abE E a3 hN d3.aq d3.cls (kk:=aP.cls.length) (x0:=x0) (x1:=x1) (r:=yr) (by haveI jD:=hy▸jD;simp only[fh] at jD;exact NV jD) (by show (aP.cls++[ys])[_]?=_;exact rG (g9) (rG hy rfl)) L0 L1 bt e0 e1 (aX pB rfl) (aX abL rfl) λH4 a4 k4=>?_;refine sB ?_;refine done H4 ((aP.aq.set (bz x0) (bD++[(aP.cls.length:Int)])).set (bz x1) (ie++[(aP.cls.length:Int)])) _ x0 (x1::yr) hy a4 k4 ?_ (by exact rG d7 (rG d7 rfl)) (by refine rG hy ?_;exact abA R.q.w L0 L1 bt e0 e1) rfl rfl rfl;refine rB uS ?_;exact a4.fU (i:=aP.cls.length) (l:=ys) (by show (aP.cls++[ys])[_]?=_;exact rG (g9) rfl)
  .rw[ct] at h;refine ag (abG IV h) λx0 hy=>?_;refine pj ?_;refine done H3 aP.aq _ x0 [] hy a3 (aR.refl _) dA rfl (by refine rG hy ?_;exact abx R.q.w) rfl rfl rfl
 refine aJ (λh=>?_) (λh=>?_)
 .walk_at"ws";refine BD E a (by refine rG dW ?_;simp) (by refine rG dW ?_;exact Int.le_refl _) ?_;exact main
 .exact main
end
section
variable{C:Cfg}{n:Nat}{H:MH}{Q:PV}{co pr:Ref}{lay:Sl->Ref}{st:St}{N b:Nat}{cs:List (List Int)}
theorem abM(E:Env C)(a:At co pr st H)(R:j8 N cs b st)(h8:st.cls.length<8)(ec:cs[st.cls.length]?=some c0)(g0:GoodC N c0)(fJ:0<=s)(ou:st.af.steps[s.toNat]?=some p)(pI:p.cl=c0)
  (kt: ∀H' ae,At co pr ae H'->bF H H'->j8 N cs b ae->ae.cls.length=st.cls.length+1->ae.af=st.af->ae.seen=st.seen->Q (.bool true) H')
  (kf: ∀H',bF H H'->Fail N cs->Q (.bool false) H'):
  aM C (n+11) (.con (.ref 424)) [.ref co,.tup (c0.map V.int),.int s] Q H:=by
 refine ag a λlay a=>?_;have lc:=g0.2.2.1;refine E.og rfl ?_;walk_at"ws";refine Bq E (.inr rfl) (iS lc rfl) (sK g0.1) λys hp hS H1 k1=>?_;haveI vm:ys=c0:=qJ hS g0.1 λx=>hp.mem_iff;subst vm;have a1:=a.bx k1;walk_at"ws";refine BD E a1 (by refine rG R.ah ?_;simp) (by refine rG R.ah ?_;exact Int.le_refl _) ?_;walk_at"ws";refine rG R.gP ?_;refine aJ (λU=>?_) (λh=>by cases h);walk_at"ws";refine aaD E (iS lc rfl) g0.1 ?_;walk_at"ws";refine aJ (λU=>?_) (Tf);walk_at"ws";refine abD E a1 R.q.aT (iS lc rfl) λH2 I1 a2 k2=>?_;walk_at"ws";refine place_spec E R h8 rfl ec g0 fJ ou pI a2 (λH3 ig a3 k3 R3 lc vB sX=>?_) λH3 qP ig a3 k3 d3 t3 c3 u3 sX abN=>ab abN λcl hc hf=>?_
 .refine ag a3 λqP a3=>?_;walk_at"ws";refine aJ (Ft) (λU=>?_);walk_at"ws";refine rG R3.gP ?_;exact kt H3 ig ⟨qP,a3⟩ (k1.keep.trans (k2.trans k3)) R3 lc vB sX
 .walk_at"ws";refine aJ (λU=>?_) (λh=>by (haveI h:=(nA _)▸h;rewrite [bf] at h);exact(N0 h).elim);walk_at"ws";refine abr E a3 d3 t3 c3 u3 sX hc hf λH4 st4 a4 k4 hV=>?_;walk_at"ws";refine rG hV ?_;exact kf H4 (k1.keep.trans (k2.trans (k3.trans (a3.keep k4)))) ⟨ig,st.cls.length,t3,c3,sX,st.cls.length,cl,rfl,hc,hf⟩
end
noncomputable def canon(l:List Int):List Int:=(List.range 6).filterMap λ(v:Nat)=>if v=0 then none else if (v:Int)∈l then some (v:Int) else if -(v:Int)∈l then some (-(v:Int)) else none
theorem abO(l:List Int):ez (canon l):=by
 unfold canon ez;refine rI List.pairwise_filterMap ?_;refine List.pairwise_lt_range.imp ?_;intro a b lL x hx y hy;have eH:x.natAbs=a:=by
  split at hx
  .exact Ns hx
  .split at hx
   .cases hx;exact Ea
   .split at hx
    .cases hx;exact D9
    .exact Ns hx
 haveI gd:y.natAbs=b:=by
  split at hy
  .exact Ns hy
  .split at hy
   .cases hy;exact Ea
   .split at hy
    .cases hy;exact D9
    .exact Ns hy
 exact N3 lL eH gd
theorem abP(hb: ∀x,x∈l->x.natAbs<=5/\x≠0)(hc: ∀x,x∈l-> -x∉l)(x:Int):x∈canon l↔x∈l:=by
 unfold canon;refine rI List.mem_filterMap ?_;constructor
 .intro o1;refine ab o1 λv U h=>?_;clear o1;split at h
  .exact Ns h
  .split at h
   .cases h;assumption
   .split at h
    .cases h;assumption
    .exact Ns h
 .intro h;haveI:=hb x h;refine⟨x.natAbs,List.mem_range.mpr (by exact N2 this.1),?_⟩;refine rG (ax (by exact Z2 this.2)) ?_;by_cases p:0<x
  .haveI e:(x.natAbs:Int)=x:=(yS p);exact rG e (rG (az h) rfl)
  .haveI e:(x.natAbs:Int)= -x:=by exact D8 p
   exact rG e (rG (ax (hc x h)) (rG (hH _) (rG (az h) rfl)))
inductive dC(st:St):Int->Int->Prop
 |refl (l:Int):dC st l l
 |step {l y x:Int} {i j:Nat} {c:List Int} {s:Int}:st.aa[i]?=some l->s∈st.ah->s<=i->at' st.aB l.natAbs=j->st.cls[j]?=some c->y∈c->y≠l->dC st (-y) x->dC st l x
theorem dC.snoc{st:St}{l x y:Int}{i j:Nat}(h:dC st l x)(h1:st.aa[i]?=some x)(h2:s∈st.ah)(h3:s<=i)(h4:at' st.aB x.natAbs=j)(h5:st.cls[j]?=some c)(h6:y∈c)(h7:y≠x):dC st l (-y):=by
 induction h with
 |refl l=>exact .step h1 h2 h3 h4 h5 h6 h7 (.refl _)
 |step a1 a2 a3 a4 a5 a6 a7 _ ih=>exact .step a1 a2 a3 a4 a5 a6 a7 (ih h1 h4 h7)
theorem dC.closed{st:St}{P:Int->Prop}(hs: ∀(l y:Int) (i j:Nat) (c:List Int) (s:Int),P l->st.aa[i]?=some l->s∈st.ah->s<=i->at' st.aB l.natAbs=j->st.cls[j]?=some c->y∈c->y≠l->P (-y))(h:dC st l x)(h0:P l):P x:=by
 induction h with
 |refl l=>exact h0
 |step a1 a2 a3 a4 a5 a6 a7 _ ih=>exact ih (hs _ _ _ _ _ _ h0 a1 a2 a3 a4 a5 a6 a7)
noncomputable def fY(N:Nat)(seen:List Bool)(M:List Int):Prop:=seen.length=N+1/\ ∀v:Nat,v<=N->seen[v]?=some (decide ((v:Int)∈M))
theorem fY.set{seen:List Bool}(h:fY N seen M)(hv:v<=N)(hm: ∀w:Nat,w<=N->((w:Int)∈M'↔if w=v then x=true else (w:Int)∈M)):fY N (seen.set v x) M':=by
 refine⟨by refine rG d7 ?_;exact h.1,λw hw=>?_⟩;by_cases e:w=v
 .subst e;refine rG (gj (by haveI:=h.1;exact wi this hv)) ?_;haveI:=hm w hw;haveI this:=(az rfl)▸this
  congr 1
  cases x
  .exact(nE (λz=>by have:=this.mp z;exact Ft this)).symm
  .exact(decide_eq_true (this.mpr rfl)).symm
 .refine rG (gk (Ne.symm e)) (rG (h.2 w hw) ?_);haveI:=hm w hw;haveI this:=(ax e)▸this
  congr 1
  exact decide_eq_decide.mpr this.symm
theorem fY.unique(h:fY N a M)(h':fY N b M')(e: ∀w:Nat,w<=N->((w:Int)∈M↔(w:Int)∈M')):a=b:=by
 refine List.ext_getElem? λi=>?_;by_cases hi:i<=N
 .refine rG (h.2 i hi) (rG (h'.2 i hi) ?_);congr 1;exact decide_eq_decide.mpr (e i hi)
 .exact rG (rE (by haveI:=h.1;exact D7 hi this)) (rG (rE (by haveI:=h'.1;exact D7 hi this)) rfl)
noncomputable def e9(st:St)(v:Int):Bool:=decide (at' st.lvl v=0)
section
variable{C:Cfg}{n:Nat}{H:MH}{Q:PV}{co pr:Ref}{lay:Sl->Ref}{st:St}{N b:Nat}{cs:List (List Int)}
noncomputable def fZ(lay:Sl->Ref)(a b:Ref)(H H':MH):Prop:= ∀r o,(∀s,r≠lay s)->r≠a->r≠b->H r=some o->H' r=some o
theorem fZ.refl{a b:Ref}:fZ lay a b H H:=λU U U U U e=>e
theorem fZ.trans{a b:Ref}(x:fZ lay a b H1 H2)(y:fZ lay a b H2 H3):fZ lay a b H1 H3:=λr o t t1 t2 e=>y r o t t1 t2 (x r o t t1 t2 e)
theorem aR.abQ{a b:Ref}(x:aR lay H1 H2):fZ lay a b H1 H2:=λr o t U U e=>x r o t e
theorem fZ.abR{a b:Ref}(x:fZ lay a b H1 H2):fZ lay a b H1 (upd H2 a o):=λr o t t1 t2 e=>by refine rG (aD t1) ?_;exact x r o t t1 t2 e
theorem fZ.abS{a b:Ref}(x:fZ lay a b H1 H2):fZ lay a b H1 (upd H2 b o):=λr o t t1 t2 e=>by refine rG (aD t2) ?_;exact x r o t t1 t2 e
theorem ac.sY(a:ac co pr lay st H)(ht:r.t<100):ac co pr lay st (Internal.upd H r o'):=by
 have n: ∀s,r≠lay s:=λs z=>by haveI:=a.tag s;haveI this:=cX z▸this;haveI:=qF s;exact(Ec ht (by assumption) this).elim
 exact a.IA (λU s U=>n s) (λz=>by haveI:=a.gu;haveI this:=cX z▸this;exact(Ee ht this).elim) (λz=>by haveI:=a.gR;haveI this:=cX z▸this;exact(Ed ht this).elim) (n _) (n _) (n _) (n _)
theorem sZ(a:ac co pr lay st H)(ht:r.t<100)(s:Sl):r≠lay s:=λz=>by haveI:=a.tag s;haveI this:=cX z▸this;haveI:=qF s;exact(Ec ht (by assumption) this).elim
theorem I2(E:Env C)(a:ac co pr lay st H)(d:bU N st){kk:Nat}(hc:st.cls[kk]?=some cl)(cg:CG N cl)(tm:rm.t<100)(tr:rr.t<100)(bt:rm≠rr)
  (hm:H rm=some (iL mk)) (hr:H rr=some (iL rt)) (vC:mk.length<1000) (eZ:rt.length<1000) (hs:fY N st.seen mk)
  (k: ∀H' cD new,ac co pr lay (st.dU cD) H'->fZ lay rm rr H H'->fY N cD (mk++new)->new.Nodup->new.length<=3->(∀v,v∈new↔(∃x,x∈cl/\v=x.natAbs)/\v≠sk/\v∉mk)->H' rm=some (iL (mk++new))->H' rr=some (iL (rt++new.filter (e9 st)))->Q .none H'):
  aM C (n+1) (.con (.ref 558)) [.ref co,.int kk,.int sk,.ref rm,.ref rr] Q H:=by
 have hN:=d.big;haveI gN:=(List.getElem?_eq_some_iff.mp hc).1;haveI pJ:=d.cls;haveI gb:=d.lvl;have j9:=cg.len;refine E.Bo rfl ?_;walk_at"ws";refine a.pt (by refine rG lid ?_;exact aX pJ rfl) (aC kk) (oB gN) ?_;refine rG (bO _) ?_;refine oi V.int cl (λi m H'=> ∃cD new,ac co pr lay (st.dU cD) H'/\fZ lay rm rr H H'/\fY N cD (mk++new)/\new.Nodup/\new.length<=i/\(∀v,v∈new↔(∃x,x∈cl.take i/\v=x.natAbs)/\v≠sk/\v∉mk)/\H' rm=some (iL (mk++new))/\H' rr=some (iL (rt++new.filter (e9 st)))/\
   m "self" =some (.ref co)/\m "skipped" =some (.int sk)/\m "marked" =some (.ref rm)/\m "roots" =some (.ref rr)) ?_ ?_ ?_ ?_
 .intro i m H' o1;refine bM o1 λU U h U=>?_;exact h.fU hc
 .intro i y m H' K hy o2 kn U U U;refine Kr o2 λcD new a1 k1 s1 vD l1 m1 e1 e2 h1 h2 h3 h4=>?_;have sU:=bd hy;have BW:=(List.getElem?_eq_some_iff.mp hy).1;have vu:=(cg.lit y sU).2;have lV:=s1.1;have hsv:=s1.2 y.natAbs vu;have vE: ∀x,x∈cl.take i->x.natAbs≠y.natAbs:=by
   intro x hx e;haveI bN:=cg.nd;unfold List.Nodup at bN;rw[eC,List.pairwise_iff_getElem] at bN;refine ag (List.mem_iff_getElem?.mp hx) λj hj=>?_;haveI aS:=(List.getElem?_eq_some_iff.mp hj).1;replace aS:=ku▸aS;haveI hj:=(nq (by exact lu aS))▸hj;refine ag (List.getElem?_eq_some_iff.mp hj) λU ej=>?_;refine ag (List.getElem?_eq_some_iff.mp hy) λU ei=>?_;exact bN j i (by assumption) BW (by exact lu aS) (by refine rG ej (rG ei ?_);exact e)
  have I3:(y.natAbs:Int)∉new:=λz=>by
   refine aE ((m1 _).mp z) λo3 U=>?_;refine ab o3 λx hx e=>?_;exact vE x hx (by exact N6 e)
  refine⟨_,rfl,?_⟩;walk_at"ws";refine gM ?_;walk_at"ws";have skip:((y.natAbs:Int)=sk∨(y.natAbs:Int)∈mk)-> ∀v,v∈new↔(∃x,x∈cl.take (i+1)/\v=x.natAbs)/\v≠sk/\v∉mk:=by
   intro lW v;refine rI (m1 _) ?_;constructor
   .intro o4;refine aE o4 λo5 q=>?_;refine ab o5 λx hx e=>?_;exact⟨⟨x,(ib hy x).mpr (.inl hx),e⟩,q⟩
   .intro o6;refine b9 o6 λo7 q1 q2=>?_;refine ab o7 λx hx e=>?_;rcases (ib hy x).mp hx with z|z
    .exact⟨⟨x,z,e⟩,q1,q2⟩
    .subst z;rcases lW with w|w
     .exact absurd (e.trans w) q1
     .exact absurd (e▸w) q2
  refine aJ (λlW=>?_) (λlW=>?_)
  ·(haveI lW:=(gB _)▸lW;rewrite [ct] at lW)
   walk_at"ws";refine Bg (a1.obj .seen _ rfl) (by refine rG lid ?_;refine(?_:cD.length<_);exact cF lV hN rfl) (aC y.natAbs) (by refine rG (bO _) ?_;exact hsv) ?_;walk_at"ws";refine aJ (λlg=>?_) (λlg=>?_)
   ·(haveI lg:=(gB _)▸lg;rewrite [ct,dG,not_or] at lg)
    walk_at"ws";refine a1.Bh (by refine rG lid ?_;refine(?_:cD.length<_);exact cF lV hN rfl) (aC y.natAbs) (by refine(?_:_<((cD.length:Nat):Int));exact eB lV vu) λH2 a2 k2=>?_;haveI a2:=(bO _)▸a2;haveI m4:=k2 _ _ (sZ a tm) e1;haveI ot:=k2 _ _ (sZ a tr) e2;walk_at"ws";refine dh m4 ?_;walk_at"ws";refine jA m4 (by refine rG (au _) (rG bm (rG lid ?_));exact N5 vC j9 l1 BW) ?_;haveI em:List.map V.int (mk++new)++[V.int y.natAbs]=List.map V.int (mk++(new++[(y.natAbs:Int)])):=by refine rB (iu _ _ _) (rG (cN (l₁:=mk++new)) ?_);rfl
    refine rG em ?_;have a3:ac co pr lay (st.dU (cD.set y.natAbs true)) (upd H2 rm (iL (mk++(new++[(y.natAbs:Int)])))):=a2.sY tm;have k3:fZ lay rm rr H (upd H2 rm (iL (mk++(new++[(y.natAbs:Int)])))):=(k1.trans k2.abQ).abR;haveI BX:upd H2 rm (iL (mk++(new++[(y.natAbs:Int)]))) rm=some (iL (mk++(new++[(y.natAbs:Int)]))):=aI _ _ _;haveI ya:upd H2 rm (iL (mk++(new++[(y.natAbs:Int)]))) rr=some (iL (rt++new.filter (e9 st))):=(aD bt.symm).trans ot;generalize upd H2 rm (iL (mk++(new++[(y.natAbs:Int)])))=H3 at a3 k3 BX ya ⊢;have yb:fY N (cD.set y.natAbs true) (mk++(new++[(y.natAbs:Int)])):=s1.set vu λw hw=>by
     refine rB (iu _ _ _) (rI (dG (s:=mk++new)) (rI cx ?_));by_cases e:w=y.natAbs
     .refine rG (az e) ?_;exact⟨λU=>rfl,λU=>.inr (by exact Eb e)⟩
     .refine rG (ax e) ?_;exact⟨λq=>q.elim id λq=>absurd (gz q) e,.inl⟩
    have yc:(new++[(y.natAbs:Int)]).Nodup:=List.nodup_append.mpr ⟨vD,List.nodup_cons.mpr ⟨dp,eD⟩,λp hp q hq e=>by rw[cx] at hq;exact I3 (hq▸e▸hp)⟩;have m3: ∀v,v∈new++[(y.natAbs:Int)]↔(∃x,x∈cl.take (i+1)/\v=x.natAbs)/\v≠sk/\v∉mk:=by
     intro v;refine rI dG (rI cx (rI (m1 _) ?_));constructor
     .intro o8;rcases o8 with ⟨⟨x,hx,e⟩,q⟩|e
      .exact⟨⟨x,(ib hy x).mpr (.inl hx),e⟩,q⟩
      .exact⟨⟨y,(ib hy y).mpr (.inr rfl),e⟩,by refine rG e ?_;exact lW,by refine rG e ?_;exact lg.1⟩
     .intro o9;refine aE o9 λcY q=>?_;refine ab cY λx hx e=>?_;rcases (ib hy x).mp hx with z|z
      .exact .inl ⟨⟨x,z,e⟩,q⟩
      .exact .inr (by exact rG e (rG z rfl))
    walk_at"ws";refine bC (a3.obj .lvl _ rfl) (by refine rG lid ?_;refine(?_:st.lvl.length<_);exact cF gb hN rfl) (aC y.natAbs) (gS (l:=st.lvl) (aC y.natAbs) (eB gb vu)) ?_;walk_at"ws";refine aJ (λh0=>?_) (λh0=>?_)
    .walk_at"ws";refine dh ya ?_;walk_at"ws";haveI lX:=oG (e9 st) new;refine jA ya (by refine rG (au _) (rG bm (rG lid ?_));exact N4 eZ j9 l1 BW lX) ?_;walk_at"ws";haveI e5:List.map V.int (rt++new.filter (e9 st))++[V.int y.natAbs]=List.map V.int (rt++(new++[(y.natAbs:Int)]).filter (e9 st)):=by
      refine rG (oJ _ _) (rG md (rG (az (h0:e9 st (y.natAbs:Int)=true)) (rG nF (rB (iu _ _ _) (rG (cN (l₁:=rt++_)) ?_)))));rfl
     refine rG e5 ?_;refine kn _ _ ⟨_,_,a3.sY tr,k3.abS,yb,yc,by refine rG bm (rG cV ?_);exact iU l1,m3,(aD bt).trans BX,aI _ _ _,h1,h2,h3,h4⟩
    .walk_at"ws";refine kn _ _ ⟨_,_,a3,k3,yb,yc,by refine rG bm (rG cV ?_);exact iU l1,m3,BX,?_,h1,h2,h3,h4⟩;refine rG (oJ _ _) (rG md (rG (ax (by rw[show e9 st (y.natAbs:Int)=false from h0];simp)) (rG nF (rG (f5 _) ?_))));exact ya
   ·(haveI lg:=(nA _)▸lg;rewrite [bf,dG] at lg)
    walk_at"ws";exact kn _ _ ⟨_,_,a1,k1,s1,vD,(jO l1),skip (.inr (lg.resolve_right I3)),e1,e2,h1,h2,h3,h4⟩
  ·(haveI lW:=(nA _)▸lW;rewrite [bf] at lW)
   refine aJ (Ft) (λU=>?_);walk_at"ws";exact kn _ _ ⟨_,_,a1,k1,s1,vD,(jO l1),skip (.inl lW),e1,e2,h1,h2,h3,h4⟩
 .intro m H' eb;refine yX eb λcD new a1 k1 s1 vD l1 m1 e1 e2 U=>?_;haveI m1:=ko▸m1;walk_at"ws";exact k H' cD new a1 k1 s1 vD (eM l1 j9) m1 e1 e2
 .refine⟨st.seen,[],a,fZ.refl,by refine rG (f5 _) ?_;exact hs,eD,cG _,λv=>⟨λh=>absurd h dp,λabU=>aE abU λabV U=>ab abV λx hx U=>absurd hx (by simp)⟩,by refine rG (f5 _) ?_;exact hm,by refine rG nF (rG (f5 _) ?_);exact hr,rfl,rfl,rfl,rfl⟩
end
theorem abW:mV ah i=0↔ ∀s,s∈ah->i<s:=by
 unfold mV;refine rI List.length_eq_zero_iff (rI List.filter_eq_nil_iff ?_);exact⟨λh s hs=>by haveI:=h s hs;rw[bf] at this;exact Ow this,λh s hs=>by haveI:=h s hs;refine rG bf ?_;exact Ov this⟩
theorem jd{l:List Int}(h:(l.map Int.natAbs).Nodup){i j:Nat}{x y:Int}(hi:l[i]?=some x)(hj:l[j]?=some y)(e:x.natAbs=y.natAbs):i=j/\x=y:=by
 refine ag (List.getElem?_eq_some_iff.mp hi) λce ei=>?_;refine ag (List.getElem?_eq_some_iff.mp hj) λpC ej=>?_;unfold List.Nodup at h;rw[eC,List.pairwise_iff_getElem] at h;haveI:i=j:=by
  rcases Nat.lt_trichotomy i j with q|q|q
  .exact absurd (by refine rG ei (rG ej ?_);exact e) (h i j ce pC q)
  .exact q
  .exact absurd (by refine rG ei (rG ej ?_);exact e.symm) (h j i pC ce q)
 subst this;replace hj:=hi▸hj;cases hj;exact⟨rfl,rfl⟩
section
variable{N b:Nat}{cs:List (List Int)}{st:St}
theorem Tr.e9(t:Tr N st){i:Nat}{l:Int}(h:st.aa[i]?=some l):e9 st (l.natAbs:Int)=true↔ ∀s,s∈st.ah->(i:Int)<s:=by
 unfold Internal.e9;refine rG bf (rG (t.lvl i l h) ?_);rw[<-abW];exact Ou
theorem Tr.ahead(t:Tr N st){i j:Nat}{l:Int}{c:List Int}(h:st.aa[i]?=some l)(hr:at' st.aB l.natAbs=j)(hc:st.cls[j]?=some c):(i:Int)∉st.ah/\l∈c/\ ∀y,y∈c->y≠l-> ∃p:Nat,p<i/\st.aa[p]?=some (-y):=by
 rcases t.aB i l h with ⟨q,_⟩|⟨q1,j',c',q2,q3,q4,q5⟩
 .exact(Ot hr q).elim
 .haveI:j'=j:=by exact zi hr q2
  subst this;replace q3:=hc▸q3;cases q3;refine⟨q1,q4,λy hy ne=>?_⟩;refine ag (List.mem_iff_getElem?.mp (q5 y hy ne)) λp hp=>?_;haveI aS:=(List.getElem?_eq_some_iff.mp hp).1;replace aS:=ku▸aS;haveI hp:=(nq (by exact lu aS))▸hp;exact⟨p,by exact lu aS,hp⟩
structure FI(N:Nat)(cs:List (List Int))(st:St)(t0:Int)(i0:Nat)(p0:cS)(q:Nat)(found roots marked:List Int)(pairs:List (Int×Int)):Prop where
 vF:marked.Nodup
 m0:(t0.natAbs:Int)∈marked
 m1: ∀v,v∈marked-> ∃(p:Nat) (x:Int),st.aa[p]?=some x/\v=x.natAbs/\p<=i0/\dC st t0 x
 m2: ∀(p:Nat) (x:Int) (j:Nat) (c:List Int),st.aa[p]?=some x->q<=p->p<=i0->(x.natAbs:Int)∈marked->at' st.aB x.natAbs=j->st.cls[j]?=some c-> ∀y,y∈c->y≠x->(y.natAbs:Int)∈marked
 vG: ∃ds,found= -t0::ds/\ds.Nodup/\ ∀x,x∈ds↔ ∃p:Nat,st.aa[p]?=some x/\q<=p/\p<=i0/\(x.natAbs:Int)∈marked/\(p:Int)∈st.ah
 gU:roots.Nodup/\ ∀v,v∈roots↔v∈marked/\e9 st v=true
 ch: ∃kh,dB st.af.steps p0.cl pairs kh/\i7 kh/\ ∀y,y∈kh↔y=t0∨ ∃(p:Nat) (x:Int),st.aa[p]?=some x/\y= -x/\(x.natAbs:Int)∈marked/\x≠t0/\(p<q∨(p:Int)∈st.ah)
 pl:pairs.length+q<=i0
theorem FI.I4(f:FI N cs st t0 i0 p0 q found roots marked pairs)(t:Tr N st):marked.length<=N:=by
 haveI:(marked.map λv=>v.toNat-1).length<=N:=by
  refine kW N _ ?_ ?_
  .unfold List.Nodup;refine rI eC ?_;refine ir ?_ f.vF;intro a b' ha hb ne e;refine bE (f.m1 a ha) λp x h1 o1 U=>?_;subst o1;refine bE (f.m1 b' hb) λp' x' fG o2 U=>?_;subst o2;haveI:=(t.bq x (bd h1)).1;haveI:=(t.bq x' (bd fG)).1;exact ne (C0 (by assumption) (by assumption) (by assumption))
  .intro z hz;refine ab (List.mem_map.mp hz) λv hv o3=>?_;subst o3;refine bE (f.m1 v hv) λp x h1 o4 U=>?_;subst o4;have h1:=t.bq x (bd h1);haveI:=h1.1;haveI:=h1.2;exact tH (by assumption) (by assumption)
 rwa [au] at this
theorem FI.abX(f:FI N cs st t0 i0 p0 q found roots marked pairs)(d:bU N st)(t:Tr N st):found.length<=N+1:=by
 refine bX f.vG λds o5 hn hm=>?_;subst o5;haveI hl:(ds.map λv=>v.natAbs-1).length<=N:=by
  refine kW N _ ?_ ?_
  .unfold List.Nodup;refine rI eC ?_;refine ir ?_ hn;intro x y hx hy ne e;refine ab ((hm x).mp hx) λp h1 U=>?_;refine ab ((hm y).mp hy) λp' fG U=>?_;have:=(t.bq x (bd h1)).1;haveI:=(t.bq y (bd fG)).1;exact ne (jd t.nd h1 fG (wl (by assumption) (by assumption) (by assumption))).2
  .intro z hz;refine ab (List.mem_map.mp hz) λx hx o6=>?_;subst o6;refine ab ((hm x).mp hx) λp h1 U=>?_;have h1:=t.bq x (bd h1);haveI:=h1.1;haveI:=h1.2;exact tH (by assumption) (by assumption)
 haveI hl:=(au _)▸hl;simp only[fh];exact iU hl
theorem FI.init(t:Tr N st)(c:Cl N cs st){t0:Int}{i0 j0:Nat}{c0 new:List Int}(h0:st.aa[i0]?=some t0)(dW:s1∈st.ah)(ic:s1<=i0)(hr:at' st.aB t0.natAbs=j0)(hc:st.cls[j0]?=some c0)(hp:c0.Perm p0.cl)(g0:i7 p0.cl)
  (hn:new.Nodup) (hm: ∀v,v∈new↔(∃x,x∈c0/\v=x.natAbs)/\v≠(t0.natAbs:Int)/\v∉[(t0.natAbs:Int)]):
  FI N cs st t0 i0 p0 i0 [-t0] ([]++new.filter (e9 st)) ([(t0.natAbs:Int)]++new) []:=by
 refine b9 (t.ahead h0 hr hc) λhi I5 lh=>?_;haveI cg:=c.cg hc;haveI s5: ∀v,v∈new↔ ∃x,x∈c0/\x≠t0/\v=x.natAbs:=by
  intro v;rw[hm];constructor
  .intro o7;refine b9 o7 λo8 ne U=>?_;clear o7;refine ab o8 λx hx e=>?_;clear o8;exact⟨x,hx,λz=>ne (by rw[e,z]),e⟩
  .intro o9;refine bX o9 λx hx ne e=>?_;clear o9;haveI bt:v≠(t0.natAbs:Int):=λz=>by
    haveI bN:=cg.nd;refine ag (List.mem_iff_getElem?.mp hx) λi hi=>?_;refine ag (List.mem_iff_getElem?.mp I5) λj hj=>?_;exact ne (jd bN hi hj (by exact Oq e z)).2
   exact⟨⟨x,hx,e⟩,bt,by rw[cx];exact bt⟩
 have s7: ∀v,v∈[(t0.natAbs:Int)]++new↔v=t0.natAbs∨ ∃x,x∈c0/\x≠t0/\v=x.natAbs:=λv=>by rw[dG,cx,s5]
 haveI pB:e9 st (t0.natAbs:Int)≠true:=λz=>by haveI:=(t.e9 h0).mp z s1 dW;exact(zl ic this).elim
 refine⟨?_,by rw[s7];exact .inl rfl,λv hv=>?_,λp x j cc hx hq jb U hrx mG y hy ne=>?_,⟨[],rfl,eD,λx=>⟨λh=>absurd h dp,λabZ=>kj abZ λp hx h1 h2 U h3=>?_⟩⟩,⟨?_,λv=>?_⟩,⟨p0.cl,.nil,g0,λy=>?_⟩,by simp⟩
 .refine List.nodup_cons.mpr ⟨λz=>?_,hn⟩;haveI:=((hm _).mp z).2.1;exact this rfl
 .rcases (s7 v).mp hv with e|⟨x,hx,ne,e⟩
  .exact⟨i0,t0,h0,e,cG _,.refl _⟩
  .refine ab (lh x hx ne) λp eX cB=>?_;exact⟨p,-x,cB,by rw[e,fB],(eT eX),(dC.refl t0).snoc h0 dW ic hr hc hx ne⟩
 .haveI:p=i0:=by exact Eg hq jb
  subst this;replace hx:=h0▸hx;cases hx;haveI:j=j0:=by exact zi hr hrx
  subst this;replace mG:=hc▸mG;cases mG;refine rI (s7 _) ?_;exact .inr ⟨y,hy,ne,rfl⟩
 .haveI:p=i0:=by exact Eg h1 h2
  subst this;exact absurd h3 hi
 .refine rG (gD _) ?_;exact rH _ hn
 .refine rG (gD _) (rI jP (rI dG (rI cx ?_)));constructor
  .intro cY;refine aE cY λh1 h2=>?_;clear cY;exact⟨.inr h1,h2⟩
  .intro eb;refine aE eb λf8 h2=>?_;clear eb;rcases f8 with h1|h1
   .haveI h2:=h1▸h2;exact absurd h2 pB
   .exact⟨h1,h2⟩
 .rw[<-hp.mem_iff];constructor
  .intro hy;by_cases e:y=t0
   .exact .inl e
   .refine ab (lh y hy e) λp eX cB=>?_;refine .inr ⟨p,-y,cB,by exact Ef,by refine rI (s7 _) ?_;exact .inr ⟨y,hy,e,by exact rG (fB _) rfl⟩,λz=>?_,.inl eX⟩;haveI:=t.con (bd cB);haveI cB:=z▸cB;haveI:=get_inj (fV t.nd) cB h0;exact(zk eX this).elim
  .intro iC;rcases iC with e|⟨p,x,h1,h2,h3,h4,h5⟩
   .refine rG e ?_;exact I5
   .rcases (s7 _).mp h3 with e|⟨z,hz,ne,e⟩
    .exact absurd (jd t.nd h1 h0 (gz e)).2 h4
    .refine ab (lh z hz ne) λp' eX cB=>?_;haveI:=(jd t.nd h1 cB (by refine rG (fB _) ?_;exact gz e)).2;refine rG h2 (rG this (rG (hH _) ?_));exact hz
theorem FI.skip(f:FI N cs st t0 i0 p0 (q+1) found roots marked pairs)(hx:st.aa[q]?=some x)(t:Tr N st)(hm:(x.natAbs:Int)∉marked):FI N cs st t0 i0 p0 q found roots marked pairs:=by
 have key: ∀{p:Nat} {z:Int},st.aa[p]?=some z->(z.natAbs:Int)∈marked->p≠q:=λh1 h2 e=>by subst e;replace h1:=hx▸h1;cases h1;exact hm h2
 refine⟨f.vF,f.m0,f.m1,λp z j c h1 h2 h3 h4=>f.m2 p z j c h1 (by haveI:=key h1 h4;exact qY h2 this) h3 h4,?_,f.gU,?_,by haveI:=f.pl;exact eT this⟩
 .refine bX f.vG λds h1 h2 h3=>?_;refine⟨ds,h1,h2,λz=>(h3 z).trans ⟨λab0=>bX ab0 λp a1 a2 a3=>⟨p,a1,(eT a2),a3⟩,λab1=>kj ab1 λp a1 a2 a3 a4 a5=>⟨p,a1,by haveI:=key a1 a4;exact qY a2 this,a3,a4,a5⟩⟩⟩
 .refine bX f.ch λkh h1 h2 h3=>?_;refine⟨kh,h1,h2,λy=>(h3 y).trans ⟨λh=>h.imp_right λab2=>gX ab2 λp z a1 a2 a3 a4 a5=>⟨p,z,a1,a2,a3,a4,a5.imp_left λw=>by haveI:=key a1 a3;exact wm w this⟩,λh=>h.imp_right λab3=>gX ab3 λp z a1 a2 a3 a4 a5=>⟨p,z,a1,a2,a3,a4,a5.imp_left λw=>(jO w)⟩⟩⟩
theorem FI.decide(f:FI N cs st t0 i0 p0 (q+1) found roots marked pairs)(hx:st.aa[q]?=some x)(t:Tr N st)(hq:q+1<=i0)(hm:(x.natAbs:Int)∈marked)(hd:(q:Int)∈st.ah)(hr:at' st.aB x.natAbs= -1):FI N cs st t0 i0 p0 q (found++[x]) roots marked pairs:=by
 refine⟨f.vF,f.m0,f.m1,λp z j c h1 h2 h3 h4 h5=>?_,?_,f.gU,?_,by haveI:=f.pl;exact eT this⟩
 .by_cases e:p=q
  .subst e;replace h1:=hx▸h1;cases h1;exact(zj hr h5).elim
  .exact f.m2 p z j c h1 (qY h2 e) h3 h4 h5
 .refine bX f.vG λds h1 h2 h3=>?_;refine⟨ds++[x],by refine rG h1 ?_;rfl,?_,λz=>?_⟩
  .refine List.nodup_append.mpr ⟨h2,List.nodup_cons.mpr ⟨dp,eD⟩,λa ha b' hb e=>?_⟩;rw[cx] at hb;refine bX ((h3 a).mp ha) λp a1 a2 U=>?_;haveI a1:=hb▸e▸a1;haveI:=get_inj (fV t.nd) a1 hx;exact(Op a2 this).elim
  .refine rI dG (rI cx (rI (h3 _) ?_));constructor
   .intro nM;rcases nM with ⟨p,a1,a2,a3⟩|e
    .exact⟨p,a1,(eT a2),a3⟩
    .subst e;exact⟨q,hx,cG _,(eT hq),hm,hd⟩
   .intro ml;refine bX ml λp a1 a2 a3=>?_;clear ml;by_cases e:p=q
    .subst e;replace a1:=hx▸a1;cases a1;exact .inr rfl
    .exact .inl ⟨p,a1,(qY a2 e),a3⟩
 .refine bX f.ch λkh h1 h2 h3=>?_;refine⟨kh,h1,h2,λy=>(h3 y).trans ⟨λh=>h.imp_right λab4=>gX ab4 λp z a1 a2 a3 a4 a5=>⟨p,z,a1,a2,a3,a4,?_⟩,λh=>h.imp_right λab5=>gX ab5 λp z a1 a2 a3 a4 a5=>⟨p,z,a1,a2,a3,a4,a5.imp_left λw=>(jO w)⟩⟩⟩;rcases a5 with w|w
  .by_cases e:p=q
   .subst e;exact .inr hd
   .exact .inl (wm w e)
  .exact .inr w
theorem FI.ab6(f:FI N cs st t0 i0 p0 (q+1) found roots marked pairs){x:Int}(hx:st.aa[q]?=some x)(t:Tr N st)(c:Cl N cs st)(hN:N<=5)(hq:q+1<=i0)(h0:st.aa[i0]?=some t0)(hm:(x.natAbs:Int)∈marked){s1:Int}(dW:s1∈st.ah)(ic:s1<=q){j:Nat}{cl new:List Int}
  (hr:at' st.aB x.natAbs=j) (hc:st.cls[j]?=some cl) (hs:0<=s) (ou:st.af.steps[s.toNat]?=some px) (hp:cl.Perm px.cl)
  (hn:new.Nodup) (s5: ∀v,v∈new↔(∃y,y∈cl/\v=y.natAbs)/\v≠(x.natAbs:Int)/\v∉marked):
  FI N cs st t0 i0 p0 q found (roots++new.filter (e9 st)) (marked++new) (pairs++[((x.natAbs:Int),s)]):=by
 refine b9 (t.ahead hx hr hc) λhi I6 lh=>?_;have cg:=c.cg hc;haveI hxt:x≠t0:=λz=>by haveI hx:=z▸hx;haveI:=get_inj (fV t.nd) hx h0;exact(Oo hq this).elim
 have vE: ∀v,v∈new-> ∃(p:Nat) (y:Int),p<q/\y∈cl/\y≠x/\v=y.natAbs/\st.aa[p]?=some (-y):=by
  intro v hv;refine b9 ((s5 v).mp hv) λmn ne U=>?_;refine ab mn λy hy e=>?_;clear mn;have bt:y≠x:=λz=>ne (by exact rG e (rG z rfl));refine ab (lh y hy bt) λp eX cB=>?_;exact⟨p,y,eX,hy,bt,e,cB⟩
 have kd: ∀y,y∈cl->y≠x->(y.natAbs:Int)∈marked++new:=by
  intro y hy ne;refine rI dG ?_;by_cases e:(y.natAbs:Int)∈marked
  .exact .inl e
  .refine .inr ((s5 _).mpr ⟨⟨y,hy,rfl⟩,λz=>?_,e⟩);refine ag (List.mem_iff_getElem?.mp hy) λi hi=>?_;refine ag (List.mem_iff_getElem?.mp I6) λj hj=>?_;exact ne (jd cg.nd hi hj (gz z)).2
 have old: ∀{p:Nat} {z:Int},st.aa[p]?=some z->q<=p->(z.natAbs:Int)∈marked++new->(z.natAbs:Int)∈marked:=by
  intro p z h1 h2 h3;rcases List.mem_append.mp h3 with e|e
  .exact e
  .refine gX (vE _ e) λp' y a1 U U a4 a5=>?_;haveI:=(jd t.nd h1 a5 (by refine rG (fB _) ?_;exact gz a4)).1;exact(On h2 a1 this).elim
 refine⟨List.nodup_append.mpr ⟨f.vF,hn,λa ha b' hb e=>((s5 b').mp hb).2.2 (e▸ha)⟩,List.mem_append.mpr (.inl f.m0),λv hv=>?_,λp z j' c' h1 h2 h3 h4 h5 h6 y hy ne=>?_,?_,⟨?_,λv=>?_⟩,?_,?_⟩
 .rcases List.mem_append.mp hv with e|e
  .exact f.m1 v e
  .refine gX (vE v e) λp y a1 a2 a3 a4 a5=>?_;refine dN (f.m1 _ hm) λp' x' b1 b2 b3 b4=>?_;haveI hxx:=(jd t.nd hx b1 (gz b2)).2;subst hxx;exact⟨p,-y,a5,by exact rG a4 (rG (fB _) rfl),by exact Om hq a1,b4.snoc hx dW ic hr hc a2 a3⟩
 .by_cases e:p=q
  .subst e;replace h1:=hx▸h1;cases h1;haveI:j'=j:=by exact zi hr h5
   subst this;replace h6:=hc▸h6;cases h6;exact kd y hy ne
  .exact List.mem_append.mpr (.inl (f.m2 p z j' c' h1 (qY h2 e) h3 (old h1 h2 h4) h5 h6 y hy ne))
 .refine bX f.vG λds h1 h2 h3=>?_;refine⟨ds,h1,h2,λz=>(h3 z).trans ⟨λab9=>kj ab9 λp a1 a2 a3 a4 a5=>⟨p,a1,(eT a2),a3,List.mem_append.mpr (.inl a4),a5⟩,λaca=>kj aca λp a1 a2 a3 a4 a5=>⟨p,a1,?_,a3,old a1 a2 a4,a5⟩⟩⟩;by_cases e:p=q
  .subst e;exact absurd a5 hi
  .exact qY a2 e
 .refine List.nodup_append.mpr ⟨f.gU.1,rH _ hn,λa ha b' hb e=>?_⟩;haveI h1:=((f.gU.2 a).mp ha).1;haveI h2:=(List.mem_filter.mp hb).1;exact((s5 b').mp h2).2.2 (e▸h1)
 .refine rI dG (rI dG (rI jP (rI (f.gU.2 _) ?_)));exact⟨λh=>h.elim (λh=>⟨.inl h.1,h.2⟩) λh=>⟨.inr h.1,h.2⟩,λacb=>aE acb λh h'=>h.elim (λh=>.inl ⟨h,h'⟩) λh=>.inr ⟨h,h'⟩⟩
 .refine bX f.ch λkh h1 h2 h3=>?_
  let L:=kh.filter (λy=>Decidable.decide (y≠ -x))++px.cl.filter λy=>Decidable.decide (y≠x)
  have hL: ∀y,y∈L↔(y∈kh/\y≠ -x)∨(y∈px.cl/\y≠x):=λy=>by
   show y∈_++_↔_;rw[dG,jP,jP,bf,bf]
  have shape: ∀y,y∈L↔y=t0∨ ∃(p:Nat) (z:Int),st.aa[p]?=some z/\y= -z/\(z.natAbs:Int)∈marked++new/\z≠t0/\(p<q∨(p:Int)∈st.ah):=by
   intro y;rw[hL,h3];constructor
   .intro lE;rcases lE with ⟨e|⟨p,z,a1,a2,a3,a4,a5⟩,ne⟩|⟨hy,ne⟩
    .exact .inl e
    .refine .inr ⟨p,z,a1,a2,List.mem_append.mpr (.inl a3),a4,a5.imp_left λw=>?_⟩;haveI:p≠q:=λe=>by subst e;replace a1:=hx▸a1;cases a1;exact ne a2
     exact wm w this
    .have gd:=hp.mem_iff.mpr hy;refine ab (lh y gd ne) λp b1 b2=>?_;refine .inr ⟨p,-y,b2,by exact Ef,by refine rG (fB _) ?_;exact kd y gd ne,λz=>?_,.inl b1⟩;haveI b2:=z▸b2;haveI:=get_inj (fV t.nd) b2 h0;exact(Ol hq b1 this).elim
   .intro mq;rcases mq with e|⟨p,z,a1,a2,a3,a4,a5⟩
    .refine .inl ⟨.inl e,λw=>?_⟩;haveI:=t.con (bd hx);haveI this:=e▸cX w▸this;exact this (bd h0)
    .have hzx:z≠x:=λe=>by
      haveI:=get_inj (fV t.nd) (e▸a1) hx;subst this;rcases a5 with w|w
      .exact(y9 w).elim
      .exact hi w
     rcases List.mem_append.mp a3 with e|e
     .exact .inl ⟨.inr ⟨p,z,a1,a2,e,a4,a5.imp_left λw=>(jO w)⟩,λw=>hzx (Kj a2 w)⟩
     .refine gX (vE _ e) λp' y' b1 b2 b3 b4 b5=>?_;have e':=(jd t.nd a1 b5 (by rw[fB];exact gz b4)).2;haveI:y=y':=(Kk a2 e');subst this;exact .inr ⟨hp.mem_iff.mp b2,b3⟩
  have hb: ∀y,y∈L->y.natAbs<=5/\y≠0:=by
   intro y hy;rcases (shape y).mp hy with e|⟨p,z,a1,a2,_⟩
   .haveI:=t.bq t0 (bd h0);rw[e];exact⟨by haveI:=this.2;exact eM this hN,this.1⟩
   .have:=t.bq z (bd a1);haveI h1:=this.1;haveI h2:=this.2;exact Oj hN a2 h1 h2
  have ace: ∀y,y∈L-> -y∉L:=by
   intro y hy gd;haveI BE:=t.bq t0 (bd h0);rcases (shape y).mp hy with e|⟨p,z,a1,a2,_,a4,_⟩
   .rcases (shape _).mp gd with e'|⟨p',z',sO,BY,_,vH,_⟩
    .haveI:=BE.1;exact(Oi e e' this).elim
    .exact vH (by exact Oh e BY)
   .rcases (shape _).mp gd with e'|⟨p',z',sO,BY,_,vH,_⟩
    .exact a4 (by exact Og a2 e')
    .haveI:=t.con (bd a1);rw[(by exact Of a2 BY: -z=z')] at this;exact this (bd sO)
  haveI jF:=abP hb ace;haveI BZ:i7 (canon L):=⟨abO L,λy hy=>hb y ((jF y).mp hy)⟩;refine⟨canon L,h1.append (.cons hs ou (by rw[<-hp.length_eq];haveI:=cg.len;exact iS this rfl) ⟨BZ.1,BZ.2,-x,(by exact Oe),by haveI:=(t.bq x (bd hx)).1;exact ze this,?_,?_,λy=>?_⟩ .nil),BZ,λy=>(jF y).trans (shape y)⟩
  .exact(h3 _).mpr (.inr ⟨q,x,hx,rfl,hm,hxt,.inl (Nat.lt_succ_self _)⟩)
  .refine rG (hH _) ?_;exact hp.mem_iff.mp I6
  .rw[jF,hL,hH]
 .refine rG bm (rG cV ?_);haveI:=f.pl;exact Od this
theorem FI.done(f:FI N cs st t0 i0 p0 q found roots marked pairs)(t:Tr N st)(d:bU N st)(h0:st.aa[i0]?=some t0)(lO:(i0:Int)∉st.ah)(hq:(q:Int)∈st.ah)(yd: ∀s,s∈st.ah->(q:Int)<=s):
  ∃ds,found= -t0::ds/\ds.Nodup/\(∀x,x∈ds↔(∃p:Nat,st.aa[p]?=some x/\(p:Int)∈st.ah)/\dC st t0 x)/\((t0::ds.map (- ·)).map Int.natAbs).Nodup/\
   ∀(steps:List cS) (ps:List (Int×Int)) (out:List Int),(∃e,steps=st.af.steps++e)->(ps.map (·.1)).Perm roots->(∀p,p∈ps-> ∃(l:Int) (qq:cS),l∈st.aa/\p.1=l.natAbs/\0<=p.2/\steps[p.2.toNat]?=some qq/\qq.cl=[l])->ez out->(∀x,x∈out↔x=t0∨ ∃d,d∈ds/\x= -d)->dB steps p0.cl (pairs++ps) out:=by
 refine bX f.vG λds hf hn hm=>?_;have ye: ∀x,x∈ds->x≠t0:=λx hx e=>by
  refine kj ((hm x).mp hx) λp a1 U U U a5=>?_;haveI a1:=e▸a1;haveI:=get_inj (fV t.nd) a1 h0;subst this;exact lO a5
 haveI s8: ∀x,x∈ds->x∈st.aa:=λx hx=>by refine ab ((hm x).mp hx) λp a1 U=>?_;exact bd a1
 refine⟨ds,hf,hn,λx=>⟨λhx=>?_,λacf=>aE acf λacg hx=>ab acg λp a1 a2=>?_⟩,?_,λsteps ps out he hp hu ho hom=>?_⟩
 .refine kj ((hm x).mp hx) λp a1 a2 a3 a4 a5=>?_;refine dN (f.m1 _ a4) λp' x' b1 b2 U b4=>?_;haveI:=(jd t.nd a1 b1 (gz b2)).2;subst this;exact⟨⟨p,a1,a5⟩,b4⟩
 .haveI key:=dC.closed (P:=λx=> ∃p:Nat,st.aa[p]?=some x/\p<=i0/\(x.natAbs:Int)∈marked) (λl y i j c s aci c4 c5 c6 c7 c8 c9 I7=>bX aci λp c1 c2 c3=>by
   haveI:=get_inj (fV t.nd) c1 c4;subst this;refine b9 (t.ahead c1 c7 c8) λU U lh=>?_;refine ab (lh y c9 I7) λp' e1 e2=>?_;refine⟨p',e2,by exact Oc c2 e1,?_⟩;refine rG (fB _) ?_;exact f.m2 p l j c c1 (by haveI:=yd s c5;exact Ob c6 this) c2 c3 c7 c8 y c9 I7) hx ⟨i0,h0,cG _,f.m0⟩
  refine bX key λp' c1 c2 c3=>?_;clear key;haveI:=get_inj (fV t.nd) a1 c1;subst this;exact(hm x).mpr ⟨p,a1,by haveI:=yd _ a2;exact yO this,c2,c3,a2⟩
 .refine rG dq (rI kB ?_);constructor
  .intro z;refine ab (List.mem_map.mp z) λy hy e=>?_;refine ab (List.mem_map.mp hy) λx hx qf=>?_;subst qf;refine ab ((hm x).mp hx) λp a1 U=>?_;exact ye x hx (jd t.nd a1 h0 (by haveI e:=(fB _)▸e;exact e)).2
  .refine rG eN ?_;unfold List.Nodup;refine rI eC ?_;refine ir ?_ hn;intro x y hx hy ne e;refine ab ((hm x).mp hx) λp a1 U=>?_;refine ab ((hm y).mp hy) λp' sO U=>?_;exact ne (jd t.nd a1 sO (by simpa using e)).2
 .refine bX f.ch λkh h1 h2 h3=>?_;refine ag he λe qg=>?_;clear he;subst qg;refine h1.ext.append ?_;have gf: ∀(p:Nat) (l:Int),st.aa[p]?=some l->(l.natAbs:Int)∈roots->p<q:=λp l h h'=>by
   haveI:=(t.e9 h).mp ((f.gU.2 _).mp h').2 q hq;exact CY this
  haveI:=IL (steps:=st.af.steps++e) ps kh h2 (by refine rI hp.nodup_iff ?_;exact f.gU.1) λp jb=>by
   refine gX (hu p jb) λl qq u1 u2 u3 u4 u5=>?_;haveI hr:=hp.mem_iff.mp (mc jb);replace hr:=u2▸hr;refine ag (List.mem_iff_getElem?.mp u1) λpos lG=>?_;haveI aS:=gf pos l lG hr;refine⟨-l,qq,(h3 _).mpr (.inr ⟨pos,l,lG,rfl,((f.gU.2 _).mp hr).1,λz=>?_,.inl aS⟩),by refine rG (fB _) ?_;exact u2,u3,u4,by exact rG u5 (rG (hH _) rfl)⟩;haveI lG:=z▸lG;haveI:=get_inj (fV t.nd) lG h0;haveI:=f.pl;exact(Oa aS (by assumption) this).elim
  haveI eq:(kh.filter λx=>Decidable.decide ((x.natAbs:Int)∉ps.map (·.1)))=out:=by
   refine qJ (xW h2.1 _) ho λy=>?_;refine rI jP (rG bf (rI (hom _) (rI (h3 _) (rI hp.mem_iff ?_))));constructor
   .intro rU;refine aE rU λt9 gT=>?_;clear rU;rcases t9 with e|⟨p,z,a1,a2,a3,a4,a5⟩
    .exact .inl e
    .refine .inr ⟨z,(hm z).mpr ?_,a2⟩;rcases a5 with w|w
     .exfalso;refine gT ((f.gU.2 _).mpr ?_);refine rG a2 (rG (fB _) ?_);exact⟨a3,(t.e9 a1).mpr λs hs=>by haveI:=yd s hs;exact N9 w this⟩
     .refine dN (f.m1 _ a3) λp' x' b1 b2 b3 U=>?_;haveI:=(jd t.nd a1 b1 (gz b2)).1;subst this;exact⟨p,a1,by haveI:=yd _ w;exact yO this,b3,a3,w⟩
   .intro ua;rcases ua with e|⟨z,hz,e⟩
    .refine⟨.inl e,λw=>?_⟩;haveI w:=e▸w;haveI:=gf i0 t0 h0 w;haveI:=f.pl;exact(N8 (by assumption) this).elim
    .refine kj ((hm z).mp hz) λp a1 a2 a3 a4 a5=>?_;refine⟨.inr ⟨p,z,a1,e,a4,ye z hz,.inr a5⟩,λw=>?_⟩;haveI w:=(fB _)▸e▸w;haveI:=gf p z a1 w;exact(N7 a2 this).elim
  haveI this:=eq▸this;exact this
end
section
variable{C:Cfg}{n:Nat}{H:MH}{Q:PV}{co pr:Ref}{lay:Sl->Ref}{st:St}{N b:Nat}{cs:List (List Int)}
theorem Tr.loose(t:Tr N st):Tr N (((st.dU a).f9 f).ga g):=t.perm ⟨rfl,rfl,rfl,rfl,rfl,rfl⟩ λk c hc=>⟨c,hc,.refl _⟩
theorem Cl.loose(t:Cl N cs st):Cl N cs (((st.dU a).f9 f).ga g):=⟨t.rel,t.good⟩
theorem bV.loose(u:bV N cs b st):bV N cs b (((st.dU a).f9 f).ga g):=⟨u.af,u.aW,u.r0,u.us,u.un,u.cnt⟩
theorem bU.loose(d:bU N st)(h:a.length=N+1):bU N (((st.dU a).f9 f).ga g):=⟨d.big,d.asg,d.lvl,d.aB,d.bk,d.bB,h,d.aQ,d.aq,d.aa,d.ah,d.cls,d.aW,d.act,d.bS,d.af,d.hp⟩
structure FF(N:Nat)(cs:List (List Int))(b:Nat)(st:St)(t0:Int)(i0:Nat)(ae:St):Prop where
 eq: ∃aQ r af seen failed dK,ae=((((((st.gr aQ).mQ r).i5 af).dU seen).f9 failed).ga dK)
 seen:fY N ae.seen []
 len:ae.aQ.length=st.aQ.length
 lf:bV N cs (b+1) ae
 root:(∀s,s∈st.ah->(i0:Int)<s)->ae.failed=[-t0]/\ ∃(s:Int) (p:cS),ae.dK=some s/\0<=s/\ae.af.steps[s.toNat]?=some p/\p.cl=[t0]
 dec:(i0:Int)∈st.ah->ae.failed=[t0,-t0]/\ae.dK=st.dK
 imp:(i0:Int)∉st.ah->(∃s,s∈st.ah/\s<=i0)-> ∃(ds:List Int) (s:Int) (p:cS),ae.failed= -t0::ds/\ds.Nodup/\(∀x,x∈ds↔(∃q:Nat,st.aa[q]?=some x/\(q:Int)∈st.ah)/\dC st t0 x)/\ae.dK=some s/\0<=s/\ae.af.steps[s.toNat]?=some p/\ez p.cl/\ ∀x,x∈p.cl↔x=t0∨ ∃d,d∈ds/\x= -d
theorem fZ.keep(L:ac co pr lay st H)(k:fZ lay a b' H1 H2)(k0:bF H0 H1)(ha:H0 a=none)(hb:H0 b'=none):bF H0 H2:=λr o t e=>
 k r o (sZ L t) (λz=>by replace e:=ha▸z▸e;exact Ns e) (λz=>by replace e:=hb▸z▸e;exact Ns e) (k0 r o t e)
inductive FL1(N:Nat)(cs:List (List Int))(st:St)(t0:Int)(i0:Nat)(p0:cS)(co pr:Ref)(lay:Sl->Ref)(rf rr rp rm:Ref)(j0:Nat)(H:MH)(i:Nat)(m:MM)(H':MH):Prop
 |mk (found roots marked:List Int) (pairs:List (Int×Int)) (cD:List Bool) (a:ac co pr lay (st.dU cD) H') (s:fY N cD marked) (q1:H' rf=some (iL found)) (q2:H' rr=some (iL roots)) (q3:H' rp=some (.list (pairs.map pv))) (q4:H' rm=some (iL marked)) (fi:FI N cs st t0 i0 p0 (i0-i) found roots marked pairs) (k:bF H H')
  (h1:m "self" =some (.ref co)) (h2:m "found" =some (.ref rf)) (h3:m "roots" =some (.ref rr)) (h4:m "pairs" =some (.ref rp)) (h5:m "marked" =some (.ref rm)) (h6:m "first" =some (.int j0))
inductive FL2(N:Nat)(st:St)(co pr:Ref)(lay:Sl->Ref)(rf rr rp rm:Ref)(j0:Nat)(H:MH)(found roots marked:List Int)(pairs:List (Int×Int))(i:Nat)(m:MM)(H':MH):Prop
 |mk (cD:List Bool) (a:ac co pr lay (st.dU cD) H') (s:fY N cD (marked.drop i)) (q1:H' rf=some (iL found)) (q2:H' rr=some (iL roots)) (q3:H' rp=some (.list (pairs.map pv))) (q4:H' rm=some (iL marked)) (k:bF H H')
  (h1:m "self" =some (.ref co)) (h2:m "found" =some (.ref rf)) (h3:m "roots" =some (.ref rr)) (h4:m "pairs" =some (.ref rp)) (h6:m "first" =some (.int j0))
theorem acm(E:Env C)(a:ac co pr lay st H)(d:bU N st)(t:Tr N st)(c:Cl N cs st)(u:bV N cs b st)(s9:b+1<=40)(pL:fY N st.seen [])(h0:st.aa[i0]?=some t0)
  (k: ∀H' ae,ac co pr lay ae H'->bF H H'->FF N cs b st t0 i0 ae->Q .none H'):
  aM C (n+10) (.con (.ref 551)) [.ref co,.int (-t0)] Q H:=by
 have hN:=d.big;have hL:=t.bq t0 (bd h0);have hb:=hL.2;haveI hl:=d.lvl;have hr:=d.aB;haveI hs:=d.bk;haveI lg:=d.seen;have fW:=d.aa;haveI lV:=d.ah;haveI pJ:=d.cls;haveI gq:=d.aW;haveI aht:=d.af;have lO:=(List.getElem?_eq_some_iff.mp h0).1;haveI w5:((-t0).natAbs:Int)=t0.natAbs:=by exact rG (fB _) rfl
 refine E.eY rfl ?_;walk_at"ws";refine gM ?_;refine rG w5 ?_;walk_at"ws";refine bC (a.obj .lvl _ rfl) (by refine rG lid ?_;exact cF hl hN rfl) (aC t0.natAbs) (gS (aC t0.natAbs) (eB hl hb)) ?_;walk_at"ws";refine aJ (λkQ=>?_) (λkQ=>?_)
 .
  have ow: ∀s,s∈st.ah->(i0:Int)<s:=(t.e9 h0).mp kQ;walk_at"ws";refine a.xE (x:=[-t0]) λH1 a1 k1=>?_;walk_at"ws";refine aJ (λh=>by cases h) (λU=>?_);walk_at"ws";refine IM E a1 (d.loose (f:=[-t0]) (g:=st.dK) pL.1) (t.loose (a:=st.seen) (f:=[-t0]) (g:=st.dK)) (c.loose (a:=st.seen) (f:=[-t0]) (g:=st.dK)) (u.loose (a:=st.seen) (f:=[-t0]) (g:=st.dK)) (i:=i0) (l:=t0) h0 ow λH2 m8 s a2 k2 x2 u2 ic=>?_;refine l8 ic λp q1 q2 q3 q4=>?_;clear ic;walk_at"ws";refine a2.Bk (x:=some s) λH3 a3 k3=>?_;walk_at"ws";obtain ⟨⟨un,r,pf,rfl⟩,xe,xl⟩:=x2;refine k H3 _ a3 (a.keep (k1.trans (k2.trans k3))) ⟨⟨un,r,pf,st.seen,[-t0],some s,rfl⟩,pL,xl,⟨u2.af,u2.aW,u2.r0,u2.us,u2.un,⟨by haveI h:pf.steps.length<=b+r.toNat:=u2.cnt.1;show pf.steps.length<=b+1+r.toNat;exact OW h,s9⟩⟩,λU=>⟨rfl,s,p,rfl,q2,q3,q4⟩,λhd=>?_,λU acn=>ab acn λs' iO hle=>?_⟩
  .have:=ow _ hd;exact(Ej this).elim
  .have:=ow _ iO;exact(zl hle this).elim
 have vI: ¬ ∀s,s∈st.ah->(i0:Int)<s:=λz=>by have:=(t.e9 h0).mpr z;replace this:=(show e9 st (t0.natAbs:Int)=false from kQ)▸this;cases this
 walk_at"ws";refine bC (a.obj .aB _ rfl) (by refine rG lid ?_;exact cF hr hN rfl) (aC t0.natAbs) (gS (aC t0.natAbs) (eB hr hb)) ?_;walk_at"ws";refine aJ (λjG=>?_) (λjG=>?_)
 .
  rw[bf] at jG;have aco:(i0:Int)∈st.ah:=by
   rcases t.aB i0 t0 h0 with q|⟨_,j,_,q,_⟩
   .exact q.2
   .exact(zj jG q).elim
  walk_at"ws";refine rG (hH _) ?_;refine a.xE (x:=[t0,-t0]) λH1 a1 k1=>?_;walk_at"ws";refine k H1 _ a1 (a.keep k1) ⟨⟨st.aQ,st.cq,st.af,st.seen,[t0,-t0],st.dK,rfl⟩,pL,rfl,⟨u.af,u.aW,u.r0,u.us,u.un,⟨eM u.cnt.1 (by refine(?_:b+st.cq.toNat<=b+1+st.cq.toNat);exact OV),s9⟩⟩,λh=>?_,λU=>⟨rfl,rfl⟩,λh=>absurd aco h⟩;exact absurd h vI
 rw[ct] at jG;refine aE ((t.aB i0 t0 h0).resolve_left λq=>jG q.1) λte cj=>?_;refine dN cj λj0 c0 I8 gV U U=>?_;clear cj;refine gX (u.step c gV) λs0 p0 g1 g2 g3 g4 g5=>?_;have m7:=u.af.good hN g3;haveI cg0:=c.cg gV;haveI oq:=(List.getElem?_eq_some_iff.mp gV).1;obtain ⟨s1,dW,qS,acq,acr,acs⟩: ∃s1,s1∈st.ah/\s1<=i0/\(∀s,s∈st.ah->s1<=s)/\0<=s1/\st.ah[0]?=some s1:=by
  cases i8:st.ah with
  |nil=>exact absurd (λs h=>by replace h:=i8▸h;cases h) vI
  |cons s1 ss=>
   haveI vJ:=t.ah.1;haveI ph:=t.ah.2;rw[i8] at vJ ph vI;have I9: ∀s,s∈s1::ss->s1<=s:=λs h=>by
    rcases List.mem_cons.mp h with e|e
    .exact OU e
    .exact(List.pairwise_cons.mp vJ).1 s e
   refine⟨s1,.head _,?_,I9,(ph s1 (.head _)).1,rfl⟩;apply jL;intro z;exact vI λs hs=>by have:=I9 s hs;exact OT z this
 obtain ⟨sq,rfl⟩: ∃sq:Nat,s1=sq:=⟨s1.toNat,(CW acr)⟩;walk_at"ws";refine alloc 1 λrf ij yf=>?_;walk_at"ws";refine alloc 2 λrr B0 ii=>?_;walk_at"ws";refine alloc 3 λrp pH vK=>?_;walk_at"ws";refine alloc 4 λrm B1 yg=>?_;have a1:=(((a.bx (am.fresh (o:=.list [.int (-t0)]) ij)).bx (am.fresh (o:=.list []) B0)).bx (am.fresh (o:=.list []) pH)).bx (am.fresh (o:=.list [.int (t0.natAbs:Int)]) B1);haveI kA:am H _:=(((am.fresh (o:=.list [.int (-t0)]) ij).trans (am.fresh (o:=.list []) B0)).trans (am.fresh (o:=.list []) pH)).trans (am.fresh (o:=.list [.int (t0.natAbs:Int)]) B1);have nR:rf≠rr:=dz (by refine rG yf (rG ii ?_);exact OS);have vL:rf≠rp:=dz (by refine rG yf (rG vK ?_);exact OR);have vM:rf≠rm:=dz (by refine rG yf (rG yg ?_);exact OQ);have vN:rr≠rp:=dz (by refine rG ii (rG vK ?_);exact OP);have yh:rr≠rm:=dz (by refine rG ii (rG yg ?_);exact OO);have vO:rp≠rm:=dz (by refine rG vK (rG yg ?_);exact ON);haveI f0:H rf=none:=ij;have r0:H rr=none:=by exact rB B0 (rG (aD nR.symm) rfl)
 have Ja:H rp=none:=by exact rB pH (rG (aD vN.symm) (rG (aD vL.symm) rfl))
 have Jb:H rm=none:=by exact rB B1 (rG (aD vO.symm) (rG (aD yh.symm) (rG (aD vM.symm) rfl)))
 haveI o1:upd (upd (upd (upd H rf (.list [.int (-t0)])) rr (.list [])) rp (.list [])) rm (.list [.int (t0.natAbs:Int)]) rf=some (iL [-t0]):=by refine rG (aD vM) (rG (aD vL) (rG (aD nR) (rG (aI _ _ _) ?_)));rfl
 haveI o2:upd (upd (upd (upd H rf (.list [.int (-t0)])) rr (.list [])) rp (.list [])) rm (.list [.int (t0.natAbs:Int)]) rr=some (iL []):=by refine rG (aD yh) (rG (aD vN) (rG (aI _ _ _) ?_));rfl
 haveI o3:upd (upd (upd (upd H rf (.list [.int (-t0)])) rr (.list [])) rp (.list [])) rm (.list [.int (t0.natAbs:Int)]) rp=some (.list (([]:List (Int×Int)).map pv)):=by refine rG (aD vO) (rG (aI _ _ _) ?_);rfl
 haveI o4:upd (upd (upd (upd H rf (.list [.int (-t0)])) rr (.list [])) rp (.list [])) rm (.list [.int (t0.natAbs:Int)]) rm=some (iL [(t0.natAbs:Int)]):=aI _ _ _;generalize upd (upd (upd (upd H rf (.list [.int (-t0)])) rr (.list [])) rp (.list [])) rm (.list [.int (t0.natAbs:Int)])=H1 at a1 kA o1 o2 o3 o4 ⊢;have tf:rf.t<100:=(cr yf rfl);have tr:rr.t<100:=(cr ii rfl);have tp:rp.t<100:=(cr vK rfl);have tm:rm.t<100:=(cr yg rfl);have nl:=λ{r:Ref} (h:r.t<100)=>sZ a h;walk_at"ws";refine bC (a1.obj .aB _ rfl) (by refine rG lid ?_;exact cF hr hN rfl) (aC t0.natAbs) (gS (aC t0.natAbs) (eB hr hb)) ?_;refine rG I8 ?_;walk_at"ws";refine a1.Bh (by refine rG lid ?_;exact cF lg hN rfl) (aC t0.natAbs) (eB lg hb) λH2 a2 k2=>?_;haveI a2:=(bO _)▸a2;haveI o1:=k2 _ _ (nl tf) o1;haveI o2:=k2 _ _ (nl tr) o2;haveI o3:=k2 _ _ (nl tp) o3;haveI o4:=k2 _ _ (nl tm) o4;haveI Jc:fY N (st.seen.set t0.natAbs true) [(t0.natAbs:Int)]:=pL.set hb λw hw=>by
  refine rI cx ?_;by_cases e:w=t0.natAbs
  .refine rG (az e) ?_;exact⟨λU=>rfl,λU=>by exact Eb e⟩
  .refine rG (ax e) ?_;exact⟨λq=>absurd (gz q) e,λq=>absurd q dp⟩
 walk_at"ws";refine I2 E a2 (d.loose (f:=st.failed) (g:=st.dK) Jc.1) gV cg0 tm tr yh.symm o4 o2 (by simp) (by simp) Jc λH3 yb new a3 k3 s3 yc nl3 m3 e4 e2=>?_;haveI e1:=k3 _ _ (nl tf) vM nR o1;haveI e3:=k3 _ _ (nl tp) vO vN.symm o3;haveI B2:=FI.init t c h0 dW qS I8 gV g4 m7 yc m3;haveI kH3:bF H H3:=fZ.keep a k3 (kA.keep.trans (a1.keep k2)) Jb r0;haveI ot:H3 rr=some (iL ([]++new.filter (e9 st))):=e2;clear e2;generalize s7:[(t0.natAbs:Int)]++new=ahv at B2 e4 s3;generalize gf:[]++new.filter (e9 st)=ahw at B2 ot;walk_at"ws";refine bC (a3.obj .bk _ rfl) (by refine rG lid ?_;refine(?_:st.bk.length<_);exact cF hs hN rfl) (aC t0.natAbs) (gS (l:=st.bk) (aC t0.natAbs) (eB hs hb)) ?_;refine rG (t.bk i0 t0 h0) ?_;walk_at"ws";refine bC (x:=((sq:Nat):Int)) (a3.obj .ah _ rfl) (by refine rG lid ?_;refine(?_:st.ah.length<_);exact cT lV hN rfl) (aC 0) acs ?_;walk_at"ws";refine AE (by exact zf) (dO rfl) ?_;refine Bt (by exact OM hN fW lO) (by exact OL hN fW lO qS) (FL1 N cs st t0 i0 p0 co pr lay rf rr rp rm j0 H) ?_ ?_ ?_
 .rintro i m H' K hi ⟨found,roots,marked,pairs,cD,a4,s4,q1,q2,q3,q4,fi,k4,h1,h2,h3,h4,h5,h6⟩ kn _ _ _;obtain ⟨p,hp⟩: ∃p:Nat,i0-i=p+1:=⟨i0-i-1,by exact OK hi⟩;replace fi:=hp▸fi;haveI B3:((i0:Int)-1-i).toNat=p:=by exact OJ hp
  obtain ⟨x,hx⟩: ∃x,st.aa[p]?=some x:=⟨_,eL (by exact OI lO B3)⟩;haveI xX:=t.bq x (bd hx);have jc:=xX.2;haveI vC:=fi.I4 t;haveI lX:=fi.abX d t;have eZ:roots.length<=marked.length:=by
   have:=kW marked.length (roots.map λv=>marked.idxOf v) (by
    unfold List.Nodup;refine rI eC ?_;refine ir ?_ fi.gU.1;intro y z hy hz ne e;have gd:=((fi.gU.2 y).mp hy).1;have om:=((fi.gU.2 z).mp hz).1;haveI e1:=List.getElem_idxOf (rA gd);haveI e2:=List.getElem_idxOf (rA om);apply ne;refine rB e1 (rB e2 ?_);congr 1) (λy hy=>by
    refine ab (List.mem_map.mp hy) λz hz o4=>?_;subst o4;exact rA ((fi.gU.2 z).mp hz).1)
   rwa [au] at this
  have iG:=fi.pl;have eH:st.aa[((i0:Int)-1-i).toNat]?=some x:=by refine rG B3 ?_;exact hx
  have lK:=s4.2 x.natAbs jc;have pM:=s4.1;have yi:i0-(i+1)=p:=by exact OH B3
  refine⟨_,rfl,?_⟩;walk_at"ws";refine bC (a4.obj .aa _ rfl) (by refine rG lid ?_;refine(?_:st.aa.length<_);exact cT fW hN rfl) (by exact Ei hi) eH ?_;refine gM ?_;walk_at"ws";refine Bg (a4.obj .seen _ rfl) (by refine rG lid ?_;refine(?_:cD.length<_);exact cF pM hN rfl) (aC x.natAbs) (by refine rG (bO _) ?_;exact lK) ?_;walk_at"ws";haveI other:((x.natAbs:Int)∈marked-> ¬at' st.aB x.natAbs= -1)->bo C tabs (n+9) [S.ite (.sub (.attr (.var "self") "seen") (.var "late")) [.expr (.ao (.var "pairs") "append" [.tup [.var "late",.sub (.attr (.var "self") "steps") (.sub (.attr (.var "self") "reasons") (.var "late"))]]),.expr (.ao (.var "self") "mark_others" [.sub (.attr (.var "self") "reasons") (.var "late"),.var "late",.var "marked",.var "roots"])] []] K (set (set m "spot" (.int ((i0:Int) - 1 - i))) "late" (.int x.natAbs)) H':=by
   intro gT;walk_at"ws";refine Bg (a4.obj .seen _ rfl) (by refine rG lid ?_;refine(?_:cD.length<_);exact cF pM hN rfl) (aC x.natAbs) (by refine rG (bO _) ?_;exact lK) ?_;walk_at"ws";refine aJ (λhm=>?_) (λhm=>?_)
   .rw[bf] at hm;refine aE ((t.aB p x hx).resolve_left λq=>gT hm q.1) λBF cj=>?_;refine dN cj λj cl w1 w2 w3 w4=>?_;clear cj;refine gX (u.step c w2) λs px v1 v2 v3 v4 v5=>?_;haveI ahx:=(List.getElem?_eq_some_iff.mp w2).1;walk_at"ws";refine dh q3 ?_;walk_at"ws";refine bC (a4.obj .aB _ rfl) (by refine rG lid ?_;refine(?_:st.aB.length<_);exact cF hr hN rfl) (aC x.natAbs) (gS (l:=st.aB) (aC x.natAbs) (eB hr jc)) ?_;refine rG w1 ?_;refine bC (x:=s) (a4.obj .aW _ rfl) (by refine rG lid ?_;refine(?_:st.aW.length<_);exact tE gq pJ rfl) (aC j) (by refine rG (bO _) ?_;exact v1) ?_;walk_at"ws";refine jA q3 (by refine rG (au _) (rG lid ?_);exact OG hN fW lO iG) ?_;haveI ep:List.map pv pairs++[V.tup [V.int x.natAbs,V.int s]]=List.map pv (pairs++[((x.natAbs:Int),s)]):=by refine rG cN ?_;rfl
    refine rG ep ?_;haveI a5:ac co pr lay (st.dU cD) (upd H' rp (.list ((pairs++[((x.natAbs:Int),s)]).map pv))):=a4.sY tp;haveI z1:upd H' rp (.list ((pairs++[((x.natAbs:Int),s)]).map pv)) rf=some (iL found):=(aD vL).trans q1;haveI z2:upd H' rp (.list ((pairs++[((x.natAbs:Int),s)]).map pv)) rr=some (iL roots):=(aD vN).trans q2;haveI z3:upd H' rp (.list ((pairs++[((x.natAbs:Int),s)]).map pv)) rp=some (.list ((pairs++[((x.natAbs:Int),s)]).map pv)):=aI _ _ _;haveI z4:upd H' rp (.list ((pairs++[((x.natAbs:Int),s)]).map pv)) rm=some (iL marked):=(aD vO.symm).trans q4;haveI k5:bF H (upd H' rp (.list ((pairs++[((x.natAbs:Int),s)]).map pv))):=k4.upd Ja;generalize upd H' rp (.list ((pairs++[((x.natAbs:Int),s)]).map pv))=H5 at a5 z1 z2 z3 z4 k5 ⊢;walk_at"ws";refine bC (a5.obj .aB _ rfl) (by refine rG lid ?_;refine(?_:st.aB.length<_);exact cF hr hN rfl) (aC x.natAbs) (gS (l:=st.aB) (aC x.natAbs) (eB hr jc)) ?_;refine rG w1 ?_;walk_at"ws";refine I2 E a5 (d.loose (f:=st.failed) (g:=st.dK) pM) w2 (c.cg w2) tm tr yh.symm z4 z2 (cT vC hN rfl) (by exact OF hN vC eZ) s4 λH6 acv ahy a6 k6 s6 nd6 nl6 m6 y4 y2=>?_;walk_at"ws";refine kn _ _ ⟨found,_,_,_,acv,a6,s6,k6 _ _ (nl tf) vM nR z1,y2,k6 _ _ (nl tp) vO vN.symm z3,y4,?_,fZ.keep a k6 k5 Jb r0,h1,h2,h3,h4,h5,h6⟩;refine rG yi ?_;exact fi.ab6 hx t c hN (by exact Eh iG) h0 hm dW (by exact OE hi yi) w1 w2 v2 v3 v4 nd6 m6
   .rw[ct] at hm;walk_at"ws";refine kn _ _ ⟨found,roots,marked,pairs,cD,a4,s4,q1,q2,q3,q4,?_,k4,h1,h2,h3,h4,h5,h6⟩;refine rG yi ?_;exact fi.skip hx t hm
  refine aJ (λhm=>?_) (λhm=>?_)
  .rw[bf] at hm;walk_at"ws";refine bC (a4.obj .aB _ rfl) (by refine rG lid ?_;refine(?_:st.aB.length<_);exact cF hr hN rfl) (aC x.natAbs) (gS (l:=st.aB) (aC x.natAbs) (eB hr jc)) ?_;walk_at"ws";refine aJ (λhd=>?_) (λhd=>?_)
   .rw[bf] at hd;have hpd:(p:Int)∈st.ah:=by
     rcases t.aB p x hx with q|⟨_,j,_,q,_⟩
     .exact q.2
     .exact(zj hd q).elim
    walk_at"ws";refine dh q1 ?_;walk_at"ws";refine bC (a4.obj .aa _ rfl) (by refine rG lid ?_;refine(?_:st.aa.length<_);exact cT fW hN rfl) (by exact Ei hi) eH ?_;refine jA q1 (by refine rG (au _) (rG lid ?_);exact OD hN lX) ?_;haveI ef:List.map V.int found++[V.int x]=List.map V.int (found++[x]):=by refine rG cN ?_;rfl
    refine rG ef ?_;walk_at"ws";refine kn _ _ ⟨found++[x],roots,marked,pairs,cD,a4.sY tf,s4,aI _ _ _,(aD nR.symm).trans q2,(aD vL.symm).trans q3,(aD vM.symm).trans q4,?_,k4.upd f0,h1,h2,h3,h4,h5,h6⟩;refine rG yi ?_;exact fi.decide hx t (by exact Eh iG) hm hpd hd
   .rw[ct] at hd;exact other λU=>hd
  .rw[ct] at hm;refine aJ (Ft) (λU=>?_);exact other λz=>absurd z hm
 .rintro m H' ⟨found,roots,marked,pairs,cD,a4,s4,q1,q2,q3,q4,fi,k4,h1,h2,h3,h4,h5,h6⟩;haveI eq:i0-((i0:Int)-1-((sq:Int)-1)).toNat=sq:=by exact OC qS
  replace fi:=eq▸fi;refine kj (fi.done t d h0 te dW acq) λds hf lj th Jd acy=>?_;haveI vC:=fi.I4 t;have iG:=fi.pl;walk_at"ws";refine oi V.int marked (FL2 N st co pr lay rf rr rp rm j0 H found roots marked pairs) ?_ ?_ ?_ ⟨cD,a4,s4,q1,q2,q3,q4,k4,h1,h2,h3,h4,h6⟩
  .rintro i m H' ⟨_,_,_,_,_,_,h,_⟩;exact h
  .rintro i v m H' K hv ⟨cD,a4,s4,q1,q2,q3,q4,k4,h1,h2,h3,h4,h6⟩ kn _ _ _;refine bE (fi.m1 v (bd hv)) λp x b1 b2 U=>?_;have jc:=(t.bq x (bd b1)).2;haveI pM:=s4.1;subst b2;refine⟨_,rfl,?_⟩;walk_at"ws";refine a4.Bh (by refine rG lid ?_;refine(?_:cD.length<_);exact cF pM hN rfl) (aC x.natAbs) (by refine(?_:_<((cD.length:Nat):Int));exact eB pM jc) λH2 a5 k5=>?_;haveI a5:=(bO _)▸a5;walk_at"ws";refine kn _ _ ⟨_,a5,s4.set jc λw hw=>?_,k5 _ _ (nl tf) q1,k5 _ _ (nl tr) q2,k5 _ _ (nl tp) q3,k5 _ _ (nl tm) q4,k4.trans (a4.keep k5),h1,h2,h3,h4,h6⟩;haveI bN:=fi.vF
   (haveI bN:=(lQ hv)▸cX (List.take_append_drop i marked)▸bN;rewrite [List.nodup_append] at bN)
   haveI acz:=List.nodup_cons.mp bN.2.1;by_cases e:w=x.natAbs
   .refine rG (az e) ?_;exact⟨λz=>absurd (by haveI z:=e▸z;exact z) acz.1,Ft⟩
   .refine rG (ax e) (rG (lQ hv) (rI gE ?_));exact⟨.inr,λz=>z.elim (λz=>absurd (gz z) e) id⟩
  .rintro m H' ⟨cD,a4,s4,q1,q2,q3,q4,k4,h1,h2,h3,h4,h6⟩;replace s4:=List.drop_length▸s4;have Je:roots.length<=5:=by
    have:(roots.map λv=>v.toNat-1).length<=N:=by
     refine kW N _ ?_ ?_
     .unfold List.Nodup;refine rI eC ?_;refine ir ?_ fi.gU.1;intro y z hy hz ne e;refine bE (fi.m1 y ((fi.gU.2 y).mp hy).1) λp x c1 o9 U=>?_;subst o9;refine bE (fi.m1 z ((fi.gU.2 z).mp hz).1) λp' x' c1' cY U=>?_;subst cY;have:=(t.bq x (bd c1)).1;have:=(t.bq x' (bd c1')).1;exact ne (C0 (by assumption) (by assumption) (by assumption))
     .intro y hy;refine ab (List.mem_map.mp hy) λz hz eb=>?_;subst eb;refine bE (fi.m1 z ((fi.gU.2 z).mp hz).1) λp x c1 f8 U=>?_;subst f8;have hq:=t.bq x (bd c1);have:=hq.1;have:=hq.2;exact tH (by assumption) (by assumption)
    replace this:=(au _)▸this;exact eM this hN
   walk_at"ws";refine xx q3 ?_;walk_at"ws";refine IR E a4 (d.loose (f:=st.failed) (g:=st.dK) s4.1) (t.loose (a:=cD) (f:=st.failed) (g:=st.dK)) (c.loose (a:=cD) (f:=st.failed) (g:=st.dK)) (u.loose (a:=cD) (f:=st.failed) (g:=st.dK)) q2 Je (λv hv=>?_) λH5 Jf ps r5 a5 k5 x5 u5 qT yj Jg up5=>?_
   .refine aE ((fi.gU.2 v).mp hv) λhm ti=>?_;refine bE (fi.m1 v hm) λp x c1 iC U=>?_;subst iC;exact⟨p,x,c1,rfl,(t.e9 c1).mp ti⟩
   haveI d5:=x5.aT (d.loose (f:=st.failed) (g:=st.dK) s4.1) u5;haveI t5:Tr N Jf:=x5.tr (t.loose (a:=cD) (f:=st.failed) (g:=st.dK));haveI c5:Cl N cs Jf:=x5.cl (c.loose (a:=cD) (f:=st.failed) (g:=st.dK));obtain ⟨⟨un,B4,pf,rfl⟩,⟨ex,hex⟩,xl⟩:=x5;haveI w1:=k5 _ _ (nl tf) q1;haveI w3:=k5 _ _ (nl tp) q3;have Jh:ps.length<=5:=by have:=Jg.length_eq;replace this:=(au _)▸this;exact OB Je this
   refine xy w3 (dz (by refine rG vK (rG yj ?_);exact OA)) qT (by refine rG (au _) (rG (au _) (rG lid ?_));exact Oz hN fW lO iG Jh) ?_;refine rB cN ?_;haveI a6:ac co pr lay _ (upd H5 rp (.list ((pairs++ps).map pv))):=a5.sY tp;have y1:upd H5 rp (.list ((pairs++ps).map pv)) rf=some (iL found):=(aD vL).trans w1;haveI y3:upd H5 rp (.list ((pairs++ps).map pv)) rp=some (.list ((pairs++ps).map pv)):=aI _ _ _;haveI k6:bF H (upd H5 rp (.list ((pairs++ps).map pv))):=(k4.trans (a4.keep k5)).upd Ja;generalize upd H5 rp (.list ((pairs++ps).map pv))=H6 at a6 y1 y3 k6 ⊢;have vP:found.length<=5:=by
    have:=sN Jd λx hx=>by
     rcases List.mem_cons.mp hx with e|e
     .refine rG e ?_;exact⟨(eM hb hN),hL.1⟩
     .refine ab (List.mem_map.mp e) λy hy lE=>?_;subst lE;refine ab (((th y).mp hy).1) λq hq U=>?_;have gd:=t.bq y (bd hq);have:=gd.1;have:=gd.2;exact⟨(Kh this hN),by exact ze (by assumption)⟩
    refine rG hf ?_;simpa using this
   walk_at"ws";refine qy y1 (by refine rG (au _) (rG lid ?_);exact aX vP rfl) ?_;walk_at"ws";refine a6.xE (x:=found) λH7 a7 k7=>?_;haveI y1:=k7 _ _ (nl tf) y1;haveI y3:=k7 _ _ (nl tp) y3;walk_at"ws";refine pA V.int found (λx=>some (.int (-x))) y1 (by refine rG lid ?_;exact aX vP rfl) (λy U P hP=>⟨_,rfl,?_⟩) ?_
   .refine(?_:al _ _ _ _ _ _ _);walk_at"ws";exact hP
   haveI BQ:found.filterMap (λx=>some (V.int (-x)))=(t0::ds.map (- ·)).map V.int:=by
    refine rG nu (rG hf (rG dq (rG (hH _) (rG dq (rG eN ?_)))));rfl
   refine rG BQ ?_;refine alloc 6 λr8 B5 U=>?_;haveI a8:=a7.bx (am.fresh (o:=iL (t0::ds.map (- ·))) B5);haveI y3:=am.fresh (o:=iL (t0::ds.map (- ·))) B5 _ _ y3;refine Bq E (.inl ⟨r8,rfl,aI _ _ _⟩) (by haveI vP:=hf▸vP;simpa using vP) Jd λys qU hS H9 k9=>?_;have a9:=a8.bx k9;haveI y3:=k9 _ _ y3;have B6: ∀x,x∈ys↔x=t0∨ ∃d,d∈ds/\x= -d:=λx=>by
    refine rI qU.mem_iff (rI gE (rI List.mem_map ?_));exact or_congr_right ⟨λacC=>ab acC λy h e=>⟨y,h,e.symm⟩,λacD=>ab acD λy h e=>⟨y,h,e.symm⟩⟩
   walk_at"ws";refine bC (x:=s0) (a9.obj .aW _ rfl) (by refine rG lid ?_;refine(?_:st.aW.length<_);exact tE gq pJ rfl) (aC j0) (by refine rG (bO _) ?_;exact g1) ?_;walk_at"ws";have lT:=acy pf.steps ps ys ⟨ex,hex⟩ Jg up5 hS B6;have vx:pf.steps[s0.toNat]?=some p0:=by
    haveI acE:pf.steps=st.af.steps++ex:=hex;refine rG acE (rG (gi (List.getElem?_eq_some_iff.mp g3).1) ?_);exact g3
   haveI fy:=d5.af;haveI B7: ∀x,x∈ys->Lit N x:=λx hx=>by
    rcases (B6 x).mp hx with e|⟨y,hy,e⟩
    .refine rG e ?_;exact hL
    .refine ab (((th y).mp hy).1) λq hq U=>?_;refine rG e ?_;exact(t.bq y (bd hq)).neg
   refine Bx (out:=ys) E a9 (by refine(?_:pf.steps.length<900);exact Nat.lt_trans fy (dO rfl)) g2 vx m7 (by refine rG bm ?_;exact Oy hN fW lO iG Jh) lT y3 λJi vQ B8=>?_;walk_at"ws";refine vQ.Bk (x:=some (eA pf s0 (pairs++ps) ys).1) λJj tj k11=>?_;walk_at"ws";refine nj (abq u5 g2 vx lT B7 hS) λmq lp2 lp3 lp4 vv=>?_;refine ab vv λpn lp5 Jk=>?_;clear vv;refine ag mq λe' BJ=>?_;clear mq;haveI acK:bF H Jj:=k6.trans ((a6.keep k7).trans ((am.fresh B5).keep.trans (k9.keep.trans ((a9.keep B8).trans (vQ.keep k11)))));have old: ∀{q:Nat} {p:cS},pf.steps[q]?=some p->(eA pf s0 (pairs++ps) ys).2.steps[q]?=some p:=λ{q p} hq=>by
    haveI he2:(eA pf s0 (pairs++ps) ys).2.steps=pf.steps++e':=BJ;refine rG he2 (rG (gi (List.getElem?_eq_some_iff.mp hq).1) ?_);exact hq
   refine k Jj _ tj acK ⟨⟨un,B4,(eA pf s0 (pairs++ps) ys).2,cD,found,some _,rfl⟩,s4,xl,⟨lp2,λj cc hj=>?_,u5.r0,λi l hl hi=>?_,u5.un,?_,s9⟩,λh=>absurd h vI,λh=>absurd h te,λU U=>⟨ds,(eA pf s0 (pairs++ps) ys).1,pn,hf,lj,th,rfl,lp4,lp5,by refine rG Jk ?_;exact hS,λx=>by refine rG Jk ?_;exact B6 x⟩⟩
   .refine dN (u5.aW j cc hj) λs p e1 e2 e3 e4=>?_;exact⟨s,p,e1,e2,old e3,e4⟩
   .refine dN (u5.us i l hl hi) λs p e1 e2 e3 e4=>?_;exact⟨s,p,e1,e2,old e3,e4⟩
   .haveI h5:pf.steps.length<=b+B4.toNat:=u5.cnt.1;haveI h6:(eA pf s0 (pairs++ps) ys).2.steps.length<=pf.steps.length+1:=lp3;refine(?_:(eA pf s0 (pairs++ps) ys).2.steps.length<=b+1+B4.toNat);exact Ox h5 h6
 .exact⟨_,_,_,_,yb,a3,s3,e1,ot,e3,e4,by refine rG (Nat.sub_zero _) ?_;exact B2,kH3,rfl,rfl,rfl,rfl,rfl,rfl⟩
end
theorem acM(h:m k=some (.int i))(q:cH (.dict [(i,.bool v)]) Q H):al C T n m (.nH k v) Q H:=⟨i,h,q⟩
theorem acN(k:Q (.bool (decide (a=b))) H):de .Eq (.str a) (.str b) Q H:=.eqs k
section
variable{C:Cfg}{n:Nat}{H:MH}{Q:PV}{co pr:Ref}{lay:Sl->Ref}{st:St}{N b:Nat}{cs:List (List Int)}
theorem yk{es:List (Int×V)}(hn:(es.map (·.1)).Nodup)(h: ∀x,x∈es.map (·.1)->0<=x/\x<m):es.length<=m.toNat:=by
 haveI:((es.map (·.1)).map Int.toNat).length<=m.toNat:=by
  refine kW _ _ ?_ ?_
  .unfold List.Nodup at hn ⊢;refine rI eC ?_;refine ir ?_ hn;intro x y hx hy ne e;haveI a1:=h x hx;haveI a2:=h y hy;exact ne (R6 e a1 a2)
  .intro z hz;refine ab (List.mem_map.mp hz) λx hx o1=>?_;subst o1;haveI:=h x hx;exact Pa this.1 this.2
 simpa using this
theorem Jl(h:(es.map (·.1)).Nodup):((putD es i v).map (·.1)).Nodup:=by
 refine rG xJ ?_;split
 .exact h
 .rename_i z
  refine List.nodup_append.mpr ⟨h,List.nodup_cons.mpr ⟨dp,eD⟩,λa ha b iF e=>?_⟩;rw[cx] at iF;exact z (iF▸e▸ha)
theorem Jm(x:Int):x∈(putD es i v).map (·.1)↔x∈es.map (·.1)∨x=i:=by
 refine rG xJ ?_;split
 .rename_i z;exact⟨.inl,λq=>q.elim id λq=>q▸z⟩
 .rw[dG,cx]
theorem acO(E:Env C)(a:ac co pr lay st H)(hp:j6 N cs st.af.steps)(fy:st.af.steps.length<60){last:Int}(h0:0<=last)(h1:last<st.af.steps.length)
  (k: ∀H' r ns,am H H'->H' r=some (iL ns)->ns.length<64->last∈ns->(∀x,x∈ns->0<=x/\x<=last)->(∀x,x∈ns-> ∀s,st.af.steps[x.toNat]?=some s-> ∀q,q∈s.eI->q∈ns)->Q (.ref r) H'):
  aM C (n+2) (.con (.ref 679)) [.ref pr,.int last] Q H:=by
 refine E.eY rfl ?_;walk_at"ws";refine acM (i:=last) rfl (alloc 7 λdJ tn U=>?_);haveI a1:=a.bx (am.fresh (o:=.dict [(last,.bool true)]) tn);walk_at"ws";refine AE (by exact zf) (dO rfl) ?_;refine Bt (by exact O9 fy h0 h1) (dO rfl) (λi m H'=> ∃es,H' dJ=some (.dict es)/\am H H'/\(es.map (·.1)).Nodup/\last∈es.map (·.1)/\(∀x,x∈es.map (·.1)->0<=x/\x<last+1)/\(∀x,x∈es.map (·.1)->last - i<x-> ∀s,st.af.steps[x.toNat]?=some s-> ∀q,q∈s.eI->q∈es.map (·.1))/\m "self" =some (.ref pr)/\m "wanted" =some (.ref dJ)) ?_ ?_ ?_
 .intro i m H' K hi o2 kn U U U;refine wq o2 λes e1 k1 nd hl hb bj g1 g2=>?_;clear o2;haveI aH:=a.bx k1;refine⟨_,rfl,?_⟩;walk_at"ws";refine Ip e1 ?_;walk_at"ws";refine rG sM ?_;refine aJ (λgJ=>?_) (λgJ=>?_)
  .rw[bf] at gJ;refine ag (⟨_,eL (by exact O8 h1 hi)⟩: ∃s,st.af.steps[(last-i).toNat]?=some s) λs hs=>?_;have B9: ∀q,q∈s.eI->0<=q/\q<last-i:=λq hq=>by
    rcases (hp _ s hs).2 with ⟨_,h,_⟩|⟨_,h,_⟩
    .replace hq:=h▸hq;cases hq
    .haveI:=h q hq;exact O7 this.1 this.2
   walk_at"ws";refine aH.xB (by refine rG lid ?_;exact bI fy rfl) (by exact O6 hi) hs ?_;walk_at"ws";refine jX (v:=.tup (s.eI.map V.int)) (by refine(?_:4<1000000);decide) (by decide) rfl ?_;refine Bu V.int s.eI (λj m H'=> ∃mf,H' dJ=some (.dict mf)/\am H H'/\(mf.map (·.1)).Nodup/\(∀x,x∈mf.map (·.1)↔x∈es.map (·.1)∨x∈s.eI.take j)/\m "self" =some (.ref pr)/\m "wanted" =some (.ref dJ)) ?_ ?_ ⟨es,e1,k1,nd,λx=>by simp,g1,g2⟩
   .intro j y m H' K hy o3 kn U U U;refine tI o3 λmf e1 k1 yl hm g1 g2=>?_;clear o3;refine⟨_,rfl,?_⟩;walk_at"ws";refine set_dict e1 ?_ ?_
    .haveI:=yk (m:=last+1) yl λx hx=>by
      rcases (hm x).mp hx with z|z
      .exact hb x z
      .haveI:=B9 x (km z);exact Eo this.1 this.2
     refine rG lid ?_;exact O5 fy h1 this
    .refine kn _ _ ⟨_,aI _ _ _,k1.upd tn,Jl yl,λx=>?_,g1,g2⟩;rw[Jm,hm,ib hy,or_assoc]
   .intro m H' o4;refine tI o4 λmf e1 k1 yl hm g1 g2=>?_;clear o4;replace hm:=ko▸hm;walk_at"ws";refine kn _ _ ⟨mf,e1,k1,yl,(hm _).mpr (.inl hl),λx hx=>?_,λx hx aS t ht q hq=>?_,g1,g2⟩
    .rcases (hm x).mp hx with z|z
     .exact hb x z
     .haveI:=B9 x z;exact Eo this.1 this.2
    .refine rI (hm _) ?_;rcases (hm x).mp hx with z|z
     .by_cases e:x=last-i
      .subst e;replace ht:=hs▸ht;cases ht;exact .inr hq
      .exact .inl (bj x z (by exact En aS e) t ht q hq)
     .haveI:=B9 x z;exact(O4 aS this.2).elim
  .rw[ct] at gJ;walk_at"ws";refine kn _ _ ⟨es,e1,k1,nd,hl,hb,λx hx aS=>?_,g1,g2⟩;by_cases e:x=last-i
   .subst e;exact absurd hx gJ
   .exact bj x hx (by exact En aS e)
 .intro m H' o5;refine wq o5 λes e1 k1 nd hl hb bj g1 g2=>?_;clear o5;walk_at"ws";haveI hlen:=yk nd hb;refine Hm E.ok e1 (by exact Em fy h1 hlen) λns ln U=>alloc 8 λr hr U=>?_;refine k _ r ns (k1.trans (am.fresh hr)) (aI _ _ _) (by refine rG ln.length_eq (rG (au _) ?_);exact Em fy h1 hlen) (ln.mem_iff.mpr hl) (λx hx=>by haveI:=hb x (ln.mem_iff.mp hx);exact O3 this.1 this.2) λx hx s hs q hq=>ln.mem_iff.mpr (bj x (ln.mem_iff.mp hx) (by haveI:=hb x (ln.mem_iff.mp hx);exact O2 this.1) s hs q hq)
 .refine⟨_,aI _ _ _,am.fresh tn,List.nodup_cons.mpr ⟨dp,eD⟩,.head _,λx hx=>?_,λx hx aS=>?_,rfl,rfl⟩
  .haveI:x=last:=by simpa using hx
   exact O1 h0 this
  .haveI:x=last:=by simpa using hx
   exact(O0 aS this).elim
theorem acP(hp:j6 N cs st.af.steps){last:Int}{ns:List Int}(hl:last∈ns)(hb: ∀x,x∈ns->0<=x/\x<=last)(bj: ∀x,x∈ns-> ∀s,st.af.steps[x.toNat]?=some s-> ∀q,q∈s.eI->q∈ns){σ:Nat->Bool}
  (h: ∀x,x∈ns-> ∀s,st.af.steps[x.toNat]?=some s->s.rule= "input" ->Sat σ s.cl) (hs:st.af.steps[last.toNat]?=some p):Sat σ p.cl:=by
 haveI main: ∀(k:Nat) (x:Int),x.toNat=k->x∈ns-> ∀s,st.af.steps[x.toNat]?=some s->Sat σ s.cl:=by
  intro k
  induction k using Nat.strongRecOn with
  |_ k ih=>
   intro x hk hx s hs;rcases (hp _ s hs).2 with ⟨h1,_⟩|⟨_,h1,h2⟩
   .exact h x hx s hs h1
   .refine h2 σ λq hq t ht=>?_;haveI:=h1 q hq;exact ih q.toNat (by exact OZ hk this.1 this.2) q rfl (bj x hx s hs q hq) t ht
 exact main _ last rfl hl p hs
theorem acQ(E:Env C)(a:ac co pr lay st H)(hp:j6 N cs st.af.steps)(rW:cs.length<60)(fy:st.af.steps.length<60){last:Int}{p:cS}(h0:0<=last)(Jn:st.af.steps[last.toNat]?=some p)
  (k: ∀H' r js,am H H'->H' r=some (iL js)->js.length<64->(∀j,j∈js->0<=j/\j<cs.length)->(∀σ,(∀j,j∈js-> ∀c,cs[j.toNat]?=some c->Sat σ c)->Sat σ p.cl)->Q (.ref r) H'):
  aM C (n+3) (.con (.ref 698)) [.ref pr,.int last] Q H:=by
 have h1:=(List.getElem?_eq_some_iff.mp Jn).1;refine E.eY rfl ?_;walk_at"ws";refine alloc 7 λrf ij U=>?_;haveI a1:=a.bx (am.fresh (o:=.dict []) ij);walk_at"ws";refine acO E a1 hp fy h0 (yT h0 h1) λH2 rn ns k2 e2 hnl hl hb bj=>?_;refine oi V.int ns (λi m H'=> ∃es,H' rf=some (.dict es)/\H' rn=some (iL ns)/\am H H'/\(es.map (·.1)).Nodup/\(∀j,j∈es.map (·.1)↔ ∃x,x∈ns.take i/\ ∃s,st.af.steps[x.toNat]?=some s/\s.rule= "input" /\s.note=.int j)/\m "self" =some (.ref pr)/\m "found" =some (.ref rf)) ?_ ?_ ?_ ?_
 .intro i m H' o6;refine bX o6 λU U h U=>?_;clear o6;exact h
 .intro i x m H' K hx o7 kn U U U;refine wp o7 λes e1 e2 k1 nd hm g1 g2=>?_;clear o7;have aH:=a.bx k1;have jc:=hb x (bd hx);refine ag (⟨_,eL (by exact OY h1 jc.2)⟩: ∃s,st.af.steps[x.toNat]?=some s) λs hs=>?_;have hnr:rn≠rf:=λz=>by replace e2:=e1▸z▸e2;cases e2
  refine⟨_,rfl,?_⟩;walk_at"ws";refine aH.xB (by refine rG lid ?_;exact bI fy rfl) (jc.left) hs ?_;walk_at"ws";refine jX (v:=.str s.rule) (by refine(?_:4<1000000);decide) (by decide) rfl ?_;walk_at"ws";refine acN ?_;walk_at"ws";refine aJ (λhr=>?_) (λhr=>?_)
  .rw[bf] at hr;obtain ⟨j,Ca,hj2⟩: ∃j:Nat,s.note=.int j/\cs[j]?=some s.cl:=by
    rcases (hp _ s hs).2 with ⟨_,_,h⟩|⟨h,_⟩
    .exact h
    .haveI h:=hr▸h;exact absurd h (by decide)
   walk_at"ws";refine aH.xB (by refine rG lid ?_;exact bI fy rfl) (jc.left) hs ?_;walk_at"ws";refine jX (v:=s.note) (by refine(?_:4<1000000);decide) (by decide) rfl ?_;refine rG Ca ?_;refine set_dict e1 ?_ ?_
   .haveI:=yk (m:=cs.length) nd λy hy=>by
     refine ab ((hm y).mp hy) λz U bw=>?_;refine bX bw λt ht ii jH=>?_;clear bw;rcases (hp _ t ht).2 with ⟨_,_,j',h1,h2⟩|⟨h,_⟩
     .replace jH:=h1▸jH;cases jH;haveI:=(List.getElem?_eq_some_iff.mp h2).1;exact El this
     .haveI h:=ii▸h;exact absurd h (by decide)
    refine rG lid ?_;exact OX rW this
   .walk_at"ws";refine kn _ _ ⟨_,aI _ _ _,(aD hnr).trans e2,k1.upd ij,Jl nd,λy=>?_,g1,g2⟩;refine rI (Jm _) (rI (hm _) ?_);constructor
    .intro o8;rcases o8 with ⟨z,hz,q⟩|e
     .exact⟨z,(ib hx z).mpr (.inl hz),q⟩
     .exact⟨x,(ib hx x).mpr (.inr rfl),s,hs,hr,by refine rG e ?_;exact Ca⟩
    .intro o9;refine ab o9 λz hz Jo=>?_;clear o9;refine bX Jo λt ht ii jH=>?_;clear Jo;rcases (ib hx z).mp hz with q|q
     .exact .inl ⟨z,q,t,ht,ii,jH⟩
     .subst q;replace ht:=hs▸ht;cases ht;replace jH:=Ca▸jH;cases jH;exact .inr rfl
  .rw[ct] at hr;walk_at"ws";refine kn _ _ ⟨es,e1,e2,k1,nd,λy=>(hm y).trans ⟨λacS=>ab acS λz hz q=>⟨z,(ib hx z).mpr (.inl hz),q⟩,λ⟨z,hz,t,ht,ii,jH⟩=>?_⟩,g1,g2⟩;rcases (ib hx z).mp hz with q|q
   .exact⟨z,q,t,ht,ii,jH⟩
   .subst q;replace ht:=hs▸ht;cases ht;exact absurd ii hr
 .intro m H' cY;refine wp cY λes e1 e2 k1 nd hm g1 g2=>?_;clear cY;replace hm:=ko▸hm;walk_at"ws";have Jp: ∀j:Int,j∈es.map (·.1)->0<=j/\j<cs.length:=λy hy=>by
   refine ab ((hm y).mp hy) λz U bw=>?_;refine bX bw λt ht ii jH=>?_;clear bw;rcases (hp _ t ht).2 with ⟨_,_,j',h1,h2⟩|⟨h,_⟩
   .replace jH:=h1▸jH;cases jH;haveI:=(List.getElem?_eq_some_iff.mp h2).1;exact El this
   .haveI h:=ii▸h;exact absurd h (by decide)
  haveI hlen:=yk (m:=cs.length) nd Jp;refine Hm E.ok e1 (by exact Ek rW hlen) λjs ln U=>alloc 8 λr hr U=>?_;refine k _ r js (k1.trans (am.fresh hr)) (aI _ _ _) (by refine rG ln.length_eq (rG (au _) ?_);exact Ek rW hlen) (λj hj=>Jp j (ln.mem_iff.mp hj)) λσ qC=>?_;refine acP hp hl hb bj (λx hx s hs Jq=>?_) Jn;rcases (hp _ s hs).2 with ⟨_,_,j',fG,h2⟩|⟨h,_⟩
  .refine qC j' (ln.mem_iff.mpr ((hm _).mpr ⟨x,hx,s,hs,Jq,fG⟩)) s.cl ?_;refine rG (bO _) ?_;exact h2
  .haveI h:=Jq▸h;exact absurd h (by decide)
 .exact⟨[],k2 _ _ (aI _ _ _),e2,(am.fresh ij).trans k2,eD,λj=>⟨λh=>absurd h dp,λacT=>ab acT λx hx U=>absurd hx (by simp)⟩,rfl,rfl⟩
end
structure fK(rv rc:Ref)(cells:List Int)(k:Int)(H:MH):Prop where
 v:H rv=some (.list [.ref rc,.int k])
 c:H rc=some (iL cells)
 len:cells.length<=63
 k0:0<=k/\k<=500
 ne:rv≠rc
noncomputable def iR(rv:Ref)(H H':MH):Prop:= ∀r o,r≠rv->H r=some o->H' r=some o
theorem iR.trans(x:iR rv a b)(y:iR rv b c):iR rv a c:=λr o h e=>y r o h (x r o h e)
theorem am.m9(x:am a b):iR rv a b:=λr o U e=>x r o e
theorem iR.Bw(x:iR rv a b)(h:a r=none):iR rv a (upd b r o):=λr' o' h' e=>by
 refine rG (aD (λz=>by rw[z,h] at e;exact Ns e)) ?_;exact x r' o' h' e
section
variable{C:Cfg}{n:Nat}{H:MH}{Q:PV}
theorem fK.bx(v:fK rv rc cells k H)(h:am H H'):fK rv rc cells k H':=⟨h _ _ v.v,h _ _ v.c,v.len,v.k0,v.ne⟩
theorem ym{a m:Int}(h:0<m):0<=a.fmod m/\a.fmod m<m:=⟨Int.fmod_nonneg_of_pos a h,Int.fmod_lt_of_pos a h⟩
theorem Jr(E:Env C)(v:fK rv rc cells kk H)(hk:kk<400)(hm:0<many)
  (k: ∀H' x,0<=x->x<many->fK rv rc cells (kk+1) H'->(∀r,r≠rv->H' r=H r)->Q (.int x) H'):aM C (n+1) (.con (.ref 722)) [.ref rv,.int many] Q H:=by
 have hl:=v.len;haveI fz:=v.k0;refine E.eY rfl ?_;walk_at"ws";refine mN (v:=.int kk) v.v (by refine(?_:2<1000000);exact dO rfl) (by decide) rfl ?_;walk_at"ws";refine set_list v.v (by refine(?_:2<1000000);exact dO rfl) (by decide) (by refine(?_:(1:Int)<2);exact aC 0) ?_;have v1:fK rv rc cells (kk+1) (upd H rv (.list [.ref rc,.int (kk+1)])):=⟨aI _ _ _,(aD v.ne.symm).trans v.c,v.len,by exact PG hk fz.1,v.ne⟩;haveI k1: ∀r,r≠rv->upd H rv (.list [.ref rc,.int (kk+1)]) r=H r:=λr h=>aD h;refine(?_:bo _ _ _ _ _ _ (upd H rv (.list [.ref rc,.int (kk+1)])));generalize upd H rv (.list [.ref rc,.int (kk+1)])=H1 at v1 k1 ⊢;have rd: ∀{Q:PV},Q (.int (kk+1)) H1->f7 (.ref rv) (.int 1) Q H1:=λq=>mN (v:=.int (kk+1)) v1.v (by refine(?_:2<1000000);exact dO rfl) (by decide) rfl q;have Cb: ∀{Q:PV},Q (.ref rc) H1->f7 (.ref rv) (.int 0) Q H1:=λq=>mN (v:=.ref rc) v1.v (by refine(?_:2<1000000);exact dO rfl) (by decide) rfl q;walk_at"ws";refine rd ?_;walk_at"ws";refine Cb ?_;refine fF v1.c (by refine rG (au _) (rG lid ?_);exact aX hl rfl) ?_;refine rG (au _) ?_;walk_at"ws";refine aJ (λh=>?_) (λh=>?_)
 .rw[bf] at h;walk_at"ws";refine Cb ?_;walk_at"ws";refine rd ?_;walk_at"ws";refine bC v1.c (by refine rG lid ?_;exact aX hl rfl) (by exact Et fz.1) (gS (by exact Et fz.1) (by exact PF h)) ?_;walk_at"ws";refine uY (Int.ne_of_gt hm) ?_;exact k H1 _ (ym hm).1 (ym hm).2 v1 k1
 .walk_at"ws";refine rd ?_;refine mM (by exact PE fz.1 fz.2) ?_;walk_at"ws";refine rd ?_;refine mM ⟨by exact rG (Int.natAbs_mul _ _) (aX (Nat.mul_le_mul (by decide) (by exact PD fz.1 fz.2):(7:Int).natAbs*(kk+1).natAbs<=7*501) rfl),by exact PB fz.1 fz.2⟩ ?_;walk_at"ws";refine rd ?_;refine mM (by exact PA fz.1 fz.2) ?_;walk_at"ws";refine Cb ?_;refine fF v1.c (by refine rG (au _) (rG lid ?_);exact aX hl rfl) ?_;refine rG (au _) ?_;refine mM (by exact Pz hl) ?_;walk_at"ws";refine A8 (by decide) ?_;walk_at"ws";refine uY (Int.ne_of_gt hm) ?_;exact k H1 _ (ym hm).1 (ym hm).2 v1 k1
theorem qV(E:Env C)(v:fK rv rc cells kk H)(hk:kk<400)(hm:0<many)
  (k: ∀H' x,0<=x->x<many->fK rv rc cells (kk+1) H'->iR rv H H'->Q (.int x) H'):aM C (n+1) (.con (.ref 722)) [.ref rv,.int many] Q H:=
 Jr E v hk hm λH' x a b v' e=>k H' x a b v' λr o h q=>(e r h).trans q
theorem acU(E:Env C)(hN:N=4∨N=5)(v:fK rv rc cells kk H)(hk:kk<390)
  (k: ∀H' c ox,GoodC N c->ox<=kk+5->fK rv rc cells ox H'->iR rv H H'->Q (.tup (c.map V.int)) H'):aM C (n+3) (.con (.ref 729)) [.ref rv,.int N] Q H:=by
 refine E.eY rfl ?_;walk_at"ws";walk_at"ws";refine qV (many:=6) E v (by exact Py hk) (aC 5) λH1 x ik hx6 v1 k1=>?_;obtain ⟨sz,fT,hz⟩: ∃sz:Int,[V.int 2,V.int 3,V.int 2,V.int 3,V.int 2,V.int 1][x.toNat]?=some (.int sz)/\(1<=sz/\sz<=3):=by
  rcases (by exact Px ik hx6:x=0∨x=1∨x=2∨x=3∨x=4∨x=5) with rfl|rfl|rfl|rfl|rfl|rfl<;>exact⟨_,rfl,by decide⟩
 refine jX (by decide) ik fT ?_;walk_at"ws";refine qV (many:=N) E v1 (by exact Pw hk) (by exact Pu hN) λH2 start fJ Cc v2 k2=>?_;walk_at"ws";refine alloc 12 λrf ij U=>?_;haveI v3:=v2.bx (am.fresh (o:=.list []) ij);haveI k3:iR rv H (upd H2 rf (.list [])):=(k1.trans k2).trans (am.fresh ij).m9;have Cd:rf≠rv:=λz=>by replace ij:=v2.v▸z▸ij;exact Sn ij
 haveI nrc:rf≠rc:=λz=>by replace ij:=v2.c▸z▸ij;exact Sn ij
 haveI f0:H rf=none:=by
  cases q:H rf with
  |none=>rfl
  |some o=>haveI:=(k1.trans k2) rf o Cd q;replace this:=ij▸this;exact Ns this
 walk_at"ws";refine qx ?_;refine pz (dO rfl) (by exact Pt hz.1 hz.2) (λi m H'=> ∃l ox,H' rf=some (iL l)/\fK rv rc cells ox H'/\ox=kk+2+i/\iR rv H H'/\l.map Int.natAbs=(List.range i).map (λ(q:Nat)=>(1+(start+q)%N).toNat)/\
   m "vat" =some (.ref rv)/\m "n" =some (.int N)/\m "start" =some (.int start)/\m "found" =some (.ref rf)) ?_ ?_ ?_
 .intro i m H' K hi o1 kn U U U;refine yX o1 λl ox e1 v4 o2 k4 hl g1 g2 g3 g4=>?_;clear o1;subst o2;haveI gb:l.length=i:=by haveI:=bP List.length hl;haveI this:=dZ▸(au _)▸(au _)▸this;exact this
  refine⟨_,rfl,?_⟩;walk_at"ws";refine dh e1 ?_;walk_at"ws";refine uY (by exact Er fJ Cc) ?_;walk_at"ws";refine qV (many:=2) E v4 (by exact Ps hk hz.2 hi) (aC 1) λH5 d cU hd2 v5 k5=>?_;refine mM (by exact Es cU hd2) ?_;walk_at"ws";haveI hfm:(start+(0+(i:Int))).fmod N=(start+i)%N:=by
   exact rG (Int.fmod_eq_emod_of_nonneg _ (aC N)) (rG (EA _) rfl)
  refine rG hfm ?_;have yn:0<=(start+(i:Int))%N/\(start+(i:Int))%N<N:=⟨Sa _ (by exact Er fJ Cc),Int.emod_lt_of_pos _ (by exact Pr fJ Cc)⟩;refine mM (by exact Pq hN cU hd2 yn.1 yn.2) ?_;haveI e5:=k5 _ _ Cd e1;refine jA e5 (by refine rG (au _) (rG lid ?_);exact Pp hz.2 hi gb) ?_;walk_at"ws";have v6:fK rv rc cells (kk+2+i+1) (upd H5 rf (iL (l++[(1+(start+(i:Int))%N)*(1-2*d)]))):=⟨(aD Cd.symm).trans v5.v,(aD nrc.symm).trans v5.c,v5.len,v5.k0,v5.ne⟩;refine kn _ _ ⟨l++[(1+(start+(i:Int))%N)*(1-2*d)],kk+2+i+1,?_,?_,by exact Po,?_,?_,g1,g2,g3,g4⟩
  .refine rG (aI _ _ _) ?_;refine(?_:some (dr.list (_++[_]))=some (dr.list (List.map _ (_++_))));refine rG cN ?_;rfl
  .refine rG (by rw[cN];rfl:List.map V.int l++[V.int ((1+(start+(i:Int))%N)*(1-2*d))]=List.map V.int (l++[(1+(start+(i:Int))%N)*(1-2*d)])) ?_;exact v6
  .exact(k4.trans k5).Bw f0
  .refine rG cN (rG hl (rG List.range_succ (rG cN ?_)))
   congr 1
   rw[dq,dq,List.map_nil,List.map_nil]
   congr 1
   rcases (by exact Ep cU hd2:d=0∨d=1) with rfl|rfl<;>(first|exact Pm yn.1|exact Pn yn.1)
 .intro m H' o3;refine yX o3 λl ox e1 v4 o4 k4 hl g1 g2 g3 g4=>?_;clear o3;subst o4;have hi:((sz-0).toNat:Nat)<=3/\1<=(sz-0).toNat:=by exact Pl hz.1 hz.2
  generalize (sz-0).toNat=i at hl hi v4;have gb:l.length=i:=by haveI:=bP List.length hl;haveI this:=dZ▸(au _)▸(au _)▸this;exact this
  have bN:(l.map Int.natAbs).Nodup:=by
   refine rG hl ?_;unfold List.Nodup;refine rI eC ?_;refine ir ?_ List.pairwise_lt_range;intro a b' ha hb lL;haveI:=List.mem_range.mp ha;haveI:=List.mem_range.mp hb;rcases hN with rfl|rfl<;>(first|exact Pj hi.1 lL this|exact Pk hi.1 lL this)
  haveI B7: ∀x,x∈l->Lit N x:=by
   intro x hx;haveI:=mc (f:=Int.natAbs) hx;replace this:=hl▸this;refine ab (List.mem_map.mp this) λq U e=>?_;rcases hN with rfl|rfl<;>(first|exact Pg e|exact Ph e)
  walk_at"ws";refine Iu (.inl ⟨rf,rfl,e1⟩) (by exact D4 hi.1 gb) 13 λys hp hs r hr U=>?_;refine qy (aI _ _ _) (by refine rG (au _) (rG hp.length_eq (rG lid ?_));exact Pf hi.1 gb) ?_;refine k _ ys _ ⟨xH hp bN hs,λz=>?_,by refine rG hp.length_eq ?_;exact Pe hi.1 gb,λx hx=>B7 x (hp.mem_iff.mp hx)⟩ (by exact Pd hi.1) (v4.bx (am.fresh hr)) (k4.trans (am.fresh hr).m9);haveI:=hp.length_eq;haveI this:=z▸this;simp at this;exact(Pc hi.2 gb this).elim
 .exact⟨[],_,aI _ _ _,v3,by exact Pb,k3,rfl,rfl,rfl,rfl,rfl⟩
end
noncomputable def Cons(M:List Int):Prop:= ∀x,x∈M-> -x∉M
noncomputable def Rest(cs:List (List Int))(M:List Int):Prop:= ∀c,c∈cs->(∃x,x∈c/\x∈M)∨ ∃x y,x∈c/\y∈c/\x≠y/\ -x∉M/\ -y∉M
structure KI(N:Nat)(cs:List (List Int))(bg K:List Int):Prop where
 sub: ∀x,x∈bg->x∈K
 lit: ∀x,x∈K->Lit N x
 nd:(K.map Int.natAbs).Nodup
 Js: ∀M,Rest cs M->Cons M->(∀x,x∈bg->x∈M)-> ∀x,x∈K->x∈M
noncomputable def yo(K:List Int)(br:Bool)(c:List Int):Prop:=(∃x,x∈c/\x∈K)∨(∃x y,x∈c/\y∈c/\x≠y/\ -x∉K/\ -y∉K)∨(br=true/\ ∀x,x∈c-> -x∈K)
noncomputable def qW(cs:List (List Int))(K:List Int)(br:Bool):Prop:=br=true-> ∃c,c∈cs/\ ∀x,x∈c-> -x∈K
structure to(N:Nat)(cs:List (List Int))(bg K:List Int)(br:Bool):Prop where
 ki:KI N cs bg K
 brk:qW cs K br
 rest:br=false->Rest cs K
section
variable{N:Nat}{cs:List (List Int)}{bg K:List Int}
theorem KI.con(k:KI N cs bg K):Cons K:=λx hx=>IB k.nd (k.lit x hx).1 hx
theorem KI.len(k:KI N cs bg K):K.length<=N:=by
 haveI:((K.map Int.natAbs).map (· - 1)).length<=N:=by
  refine kW N _ ?_ ?_
  .unfold List.Nodup;refine rI eC ?_;refine ir ?_ k.nd;intro a b ha hb ne e;refine ab (List.mem_map.mp ha) λx hx o1=>?_;subst o1;refine ab (List.mem_map.mp hb) λy hy o2=>?_;subst o2;haveI:=(k.lit x hx).1;haveI:=(k.lit y hy).1;exact ne (wl (by assumption) (by assumption) (by assumption))
  .intro z hz;refine ab (List.mem_map.mp hz) λy hy o3=>?_;subst o3;refine ab (List.mem_map.mp hy) λx hx o4=>?_;subst o4;have h:=k.lit x hx;haveI:=h.1;haveI:=h.2;exact tH (by assumption) (by assumption)
 simpa using this
theorem KI.push(k:KI N cs bg K)(hc:c∈cs)(hl: ∀x,x∈c->Lit N x)(ha: ∀x,(x∈c/\ -x∉K)↔x=a)(hn: ∀x,x∈c->x∉K):KI N cs bg (K++[a]):=by
 have gO:=(ha a).mpr rfl;refine⟨λx hx=>List.mem_append.mpr (.inl (k.sub x hx)),λx hx=>?_,?_,λM hR hM hb x hx=>?_⟩
 .rcases List.mem_append.mp hx with q|q
  .exact k.lit x q
  .refine rG (List.mem_singleton.mp q) ?_;exact hl a gO.1
 .refine rG cN ?_;refine List.nodup_append.mpr ⟨k.nd,List.nodup_cons.mpr ⟨dp,eD⟩,λy hy z hz e=>?_⟩;haveI hz:z=a.natAbs:=by simpa using hz
  haveI e:=hz▸e;haveI hy:=e▸hy;rcases BA.mp hy with q|q
  .exact hn a gO.1 q
  .exact gO.2 q
 .have hK:=k.Js M hR hM hb;rcases List.mem_append.mp hx with q|q
  .exact hK x q
  .refine rG (List.mem_singleton.mp q) ?_;rcases hR c hc with ⟨y,hy,fM⟩|⟨y,z,hy,hz,ne,fM,vR⟩
   .haveI:y=a:=(ha y).mp ⟨hy,λw=>hM y fM (hK _ w)⟩;refine rB this ?_;exact fM
   .haveI e1:=(ha y).mp ⟨hy,λw=>fM (hK _ w)⟩;haveI e2:=(ha z).mp ⟨hz,λw=>vR (hK _ w)⟩;exact absurd (e1.trans e2.symm) ne
theorem qW.mono(h:qW cs K br):qW cs (K++[a]) br:=λhb=>let ⟨c,h1,h2⟩:=h hb;⟨c,h1,λx hx=>List.mem_append.mpr (.inl (h2 x hx))⟩
theorem to.Ce(k:to N cs bg K br)(hR:Rest cs M)(hM:Cons M)(hb: ∀x,x∈bg->x∈M):br=false/\ ∀x,x∈K->x∈M:=by
 have hK:=k.ki.Js M hR hM hb;refine⟨?_,hK⟩
 cases fe:br with
 |false=>rfl
 |true=>
  exfalso;refine ab (k.brk fe) λc hc hf=>?_;rcases hR c hc with ⟨y,hy,fM⟩|⟨y,z,hy,_,_,fM,_⟩
  .exact hM y fM (hK _ (hf y hy))
  .exact fM (hK _ (hf y hy))
end
theorem Tr.sub{st:St}(t:Tr N st)(c:Cl N cs st)(hR:Rest cs M)(hM:Cons M)(hd: ∀(i:Nat) l,st.aa[i]?=some l->(i:Int)∈st.ah->l∈M): ∀x,x∈st.aa->x∈M:=by
 haveI main: ∀(i:Nat) (l:Int),st.aa[i]?=some l->l∈M:=by
  intro i
  induction i using Nat.strongRecOn with
  |_ i ih=>
   intro l hl;rcases t.aB i l hl with ⟨_,q⟩|⟨_,j,cl,_,h1,h2,h3⟩
   .exact hd i l hl q
   .refine ab (c.rel j cl h1) λc0 gV hp=>?_;have lR: ∀x,x∈c0->x≠l-> -x∈M:=λx hx ne=>by
     haveI:=h3 x (hp.mem_iff.mpr hx) ne;refine ag (List.mem_iff_getElem?.mp this) λq hq=>?_;haveI aS:=(List.getElem?_eq_some_iff.mp hq).1;replace aS:=ku▸aS;haveI hq:=(nq (by exact lu aS))▸hq;exact ih q (by exact lu aS) _ hq
    rcases hR c0 (bd gV) with ⟨y,hy,fM⟩|⟨y,z,hy,hz,ne,fM,vR⟩
    .by_cases e:y=l
     .refine rB e ?_;exact fM
     .exact absurd (lR y hy e) (hM y fM)
    .by_cases e:y=l
     .exact absurd (lR z hz (λw=>ne (e.trans w.symm))) vR
     .exact absurd (lR y hy e) fM
 intro x hx;refine ag (List.mem_iff_getElem?.mp hx) λi hi=>?_;exact main i x hi
theorem Tr.acY{st:St}(t:Tr N st)(c:Cl N cs st)(h:sQ st k)(hR:Rest cs M)(hM:Cons M)(hd: ∀(i:Nat) l,st.aa[i]?=some l->(i:Int)∈st.ah->l∈M):False:=by
 refine bE h λj cl U h1 h2=>?_;have hs:=t.sub c hR hM hd;refine ab (c.rel j cl h1) λc0 gV hp=>?_;rcases hR c0 (bd gV) with ⟨y,hy,fM⟩|⟨y,z,hy,_,_,fM,_⟩
 .exact hM y fM (hs _ (h2 y (hp.mem_iff.mpr hy)))
 .exact fM (hs _ (h2 y (hp.mem_iff.mpr hy)))
theorem Quiet.rest{st:St}(q:Quiet N cs st)(hh:st.head=st.aa.length)(kd:st.cls.length=cs.length):Rest cs st.aa:=by
 intro c0 gV;refine ag (List.mem_iff_getElem?.mp gV) λk hk=>?_;haveI aS:=(List.getElem?_eq_some_iff.mp hk).1;refine ag (⟨_,eL (tG kd aS)⟩: ∃cl,st.cls[k]?=some cl) λcl bj=>?_;refine ab (q.cl.rel k cl bj) λc1 h1 hp=>?_;replace h1:=hk▸h1;cases h1;haveI cg:=q.cl.cg bj;haveI hq:=q.qh;haveI hq:=ko▸(bO _)▸hh▸hq;by_cases hx: ∃x,x∈cl/\x∈st.aa
 .refine ab hx λx h1 h2=>?_;exact .inl ⟨x,hp.mem_iff.mp h1,h2⟩
 .right
  match cl,bj,hp,cg,hx with
  |[],_,_,cg,_=>exact absurd rfl cg.ne
  |[a],bj,_,_,hx=>exact absurd ⟨a,.head _,q.qu k a bj⟩ hx
  |a::b::r,bj,hp,cg,hx=>
   haveI bN:=cg.nd;simp only[dq,kB,gE,not_or] at bN;refine⟨a,b,hp.mem_iff.mp (.head _),hp.mem_iff.mp (.tail _ (.head _)),λe=>bN.1.1 (by exact rG e rfl),λz=>?_,λz=>?_⟩
   .exact hx ⟨b,.tail _ (.head _),(hq k a b r bj).1 z⟩
   .exact hx ⟨a,.head _,(hq k a b r bj).2 z⟩
noncomputable def cE(c:List Int):V:=.tup (c.map V.int)
section
variable{C:Cfg}{n:Nat}{H:MH}{Q:PV}{N:Nat}{cs:List (List Int)}
theorem Cf{K:List V->MH->Prop}(p:Int->Bool)(l:List Int)(hz:l.length<=5)(x:String)
  (hc: ∀(y:Int) (B:Bool->MH->Prop),y∈l->B (p y) H->bH C tabs n (set m x (.int y)) e B H) (k:K ((l.filter p).map V.int) H):
  ∃xs,xs.length<aO/\jl (fS (.tup (l.map V.int)) xs) (λv P aA=> ∃m',kG m [x] v=some m'/\rR C tabs n m' (some e) (λb bh=>if b then al C tabs n m' (.var x) (λv cm=>P (some v) cm) bh else P Option.none bh) aA) xs [] K H:=by
 refine xM V.int l (oj p) (by refine rG lid ?_;exact aX hz rfl) (λy hy P hP=>⟨_,rfl,?_⟩) (by refine rG (Bv _ _) ?_;exact k);refine(?_:bH _ _ _ _ _ _ _);refine hc y _ hy ?_;unfold oj at hP;refine aJ (λh=>?_) (λh=>?_)
 .refine HR (v:=.int y) (by simp[set]) ?_;haveI hP:=(az h)▸hP;exact hP
 .haveI hP:=h▸hP;simpa using hP
theorem yp(E:Env C)(hN:N<=5)(hbv:(∃r,bv=.ref r/\H r=some (iL bg))∨bv=.tup (bg.map V.int))(bj:H dY=some (.list (cs.map cE)))(lY:cs.length<100)(hg: ∀c,c∈cs->GoodC N c)
  (hb: ∀x,x∈bg->Lit N x) (hbn:(bg.map Int.natAbs).Nodup)
  (k: ∀H' r K br,am H H'->H r=none->H' r=some (iL K)->r.t=14->to N cs bg K br->Q (.tup [.ref r,.bool br]) H'):aM C (n+1) (.con (.ref 734)) [.ref dY,bv] Q H:=by
 refine E.eY rfl ?_;walk_at"ws";have Jt:KI N cs bg bg:=⟨λx hx=>hx,hb,hbn,λM U U h=>h⟩;have Ju:=Jt.len;have go: ∀rk:Ref,H rk=none->rk.t=14->bo C tabs n (HB.drop 1) (cR Q) (set (set (set (set (set em "clauses" (.ref dY)) "begun" bv) "known" (.ref rk)) "is_new" (.bool true)) "is_broken" (.bool false)) (upd H rk (iL bg)):=by
  intro rk i9 kZ;refine rG oH (rG ly ?_);walk_at"ws";refine uZ (Q:=kT C tabs n [S.ret (.tup [.var "known",.var "is_broken"])] (cR Q)) (λj m H'=> ∃K br nw,H' rk=some (iL K)/\am H H'/\KI N cs bg K/\qW cs K br/\(nw=false-> ∀c,c∈cs->yo K br c)/\j=(if nw=true then N+1 - K.length else 0)/\
   m "known" =some (.ref rk)/\m "clauses" =some (.ref dY)/\m "is_new" =some (.bool nw)/\m "is_broken" =some (.bool br)) ?_ (k:=N+1 - bg.length) _ _ ⟨bg,false,true,aI _ _ _,am.fresh i9,Jt,(λh=>by cases h),(λh=>by cases h),rfl,rfl,rfl,rfl,rfl⟩
  intro j m H1 P o1 ht hf;refine yY o1 λK br nw e1 k1 ki fe lj o2 g1 g2 g3 g4=>?_;clear o1;subst o2;refine HW g3 ?_;have hlen:=ki.len
  cases nw with
  |false=>
   refine hf _ ?_;refine(?_:bo _ _ _ _ _ _ _);walk_at"ws";exact k H1 rk K br k1 i9 e1 kZ ⟨ki,fe,λhb c hc=>by
    rcases lj rfl c hc with h|h|h
    .exact .inl h
    .exact .inr h
    .replace h:=hb▸h;cases h.1⟩
  |true=>
   refine ht _ (by refine rG (az rfl) ?_;exact Eu hlen) λKK kn kc kb kr=>?_;haveI kn:=(az rfl)▸kn;walk_at"ws";refine oi cE cs (λi m H'=> ∃K' br nw,H' rk=some (iL K')/\am H H'/\KI N cs bg K'/\qW cs K' br/\K.length<=K'.length/\(nw=true->K.length<K'.length)/\(nw=false-> ∀c,c∈cs.take i->yo K' br c)/\
    m "known" =some (.ref rk)/\m "clauses" =some (.ref dY)/\m "is_new" =some (.bool nw)/\m "is_broken" =some (.bool br)) ?_ ?_ ?_ ⟨K,br,false,e1,k1,ki,fe,cG _,(λh=>by cases h),(λU c hc=>absurd hc (by simp)),g1,g2,rfl,g4⟩
   .intro i m H' o3;refine bJ o3 λU U U U h U=>?_;clear o3;exact h _ _ bj
   .intro i c m H' K2 hc o4 Cg U U U;refine Dd o4 λK' br nw e1 k1 ki fe hle aS lj g1 g2 g3 g4=>?_;clear o4;have jF:=bd hc;have Ch:=hg c jF;have j9:=Ch.2.2.1;haveI Ci:=ki.len;have dn: ∀{lq:Bool} {Cj:List Int},Cj=K'->(br=true->lq=true)->(nw=false->yo K' lq c)->nw=false-> ∀d,d∈cs.take (i+1)->yo Cj lq d:=by
     intro lq Cj o5 Ck lP Jv d hd;subst o5
     (haveI hd:=(take_snoc hc)▸hd;rewrite [dG,cx] at hd)
     rcases hd with hd|rfl
     .exact(lj Jv d hd).imp_right λh=>h.imp_right λh=>⟨Ck h.1,h.2⟩
     .exact lP Jv
    refine⟨_,rfl,?_⟩;walk_at"ws";refine Cf (λy=>!decide (-y∈K')) c (iS j9 rfl) "one" (λy B U hB=>?_) ?_
    .walk_at"ws";refine xF (as:=K') e1 ?_;exact hB
    refine alloc 15 λrl eZ U=>?_;haveI e2:=am.fresh (o:=iL (c.filter λy=>!decide (-y∈K'))) eZ _ _ e1;haveI k2:=k1.trans (am.fresh (o:=iL (c.filter λy=>!decide (-y∈K'))) eZ);haveI Jw:upd H' rl (iL (c.filter λy=>!decide (-y∈K'))) rl=some (iL (c.filter λy=>!decide (-y∈K'))):=aI _ _ _;haveI rlf: ∀{o},H rl=some o->False:=λ{o} z=>by have:=k1 _ _ z;rw[eZ] at this;cases this
    refine(?_:bo _ _ _ _ _ _ (upd H' rl (iL (c.filter λy=>!decide (-y∈K')))));generalize upd H' rl (iL (c.filter λy=>!decide (-y∈K')))=H2 at e2 k2 Jw ⊢;haveI ahD:rk≠rl:=some_ne_none e1 eZ;walk_at"ws";refine Cf (λy=>decide (y∈K')) c (iS j9 rfl) "one" (λy B U hB=>?_) ?_
    .walk_at"ws";refine sJ (as:=K') e2 ?_;exact hB
    refine alloc 16 λrt gf U=>?_;haveI e3:=am.fresh (o:=iL (c.filter λy=>decide (y∈K'))) gf _ _ e2;haveI lc:=am.fresh (o:=iL (c.filter λy=>decide (y∈K'))) gf _ _ Jw;haveI k3:=k2.trans (am.fresh (o:=iL (c.filter λy=>decide (y∈K'))) gf);haveI sL:upd H2 rt (iL (c.filter λy=>decide (y∈K'))) rt=some (iL (c.filter λy=>decide (y∈K'))):=aI _ _ _;walk_at"ws";refine(?_:cH _ _ (upd H2 rt (iL (c.filter λy=>decide (y∈K')))));generalize upd H2 rt (iL (c.filter λy=>decide (y∈K')))=H3 at e3 k3 lc sL ⊢;refine alloc 17 λrz vS U=>?_;refine sI (some_ne_none sL vS) (am.fresh vS _ _ sL) (aI _ _ _) ?_;walk_at"ws";haveI e4:=am.fresh (o:=.list []) vS _ _ e3;haveI vT:=am.fresh (o:=.list []) vS _ _ lc;haveI k4:=k3.trans (am.fresh (o:=.list []) vS);generalize upd H3 rz (.list [])=H4 at e4 k4 vT ⊢;have vU: ∀y,y∈c.filter (λy=>!decide (-y∈K'))↔y∈c/\ -y∉K':=λy=>by rw[jP,gB,ct]
    haveI hlf:=oG (λy=>!decide (-y∈K')) c;refine aJ (λlU=>?_) (λlU=>?_)
    .haveI gT: ∀x,x∈c->x∉K':=λx hx z=>by
      haveI:x∈c.filter (λy=>decide (y∈K')):=List.mem_filter.mpr ⟨hx,by simpa using z⟩;haveI h2:c.filter (λy=>decide (y∈K'))=[]:=by simpa using lU
      replace this:=h2▸this;cases this
     walk_at"ws";have fin: ∀(H5:MH) (lq:Bool),H5 rk=some (iL K')->H5 rl=some (iL (c.filter λy=>!decide (-y∈K')))->am H H5->(lq=(br||(c.filter λy=>!decide (-y∈K')).isEmpty))->
       bo C tabs n [S.ite (.cmp .Eq (.call (.glob "len") [.var "left"]) (.int 1)) [.expr (.ao (.var "known") "append" [.sub (.var "left") (.int 0)]),.asg (.name "is_new") (.bool true)] []] (kT C tabs n [] K2) (set (set (set m "clause" (cE c)) "left" (.ref rl)) "is_broken" (.bool lq)) H5:=by
      intro H5 lq q1 q2 q3 Cm;haveI Ck:br=true->lq=true:=λh=>by refine rG Cm (rG h ?_);rfl
      have Jx:qW cs K' lq:=λh=>by
       by_cases Jy:br=true
       .exact fe Jy
       .haveI ac2:(c.filter λy=>!decide (-y∈K')).isEmpty=true:=by
         haveI h:=(Bool.false_or _)▸(Bool.eq_false_iff.mpr Jy)▸Cm▸h;exact h
        refine⟨c,jF,λx hx=>?_⟩;apply jL;intro z;haveI:=(vU x).mpr ⟨hx,z⟩;replace this:=(List.isEmpty_iff.mp ac2)▸this;cases this
      walk_at"ws";refine fF q2 (by refine rG (au _) (rG lid ?_);exact cT hlf j9 rfl) ?_;refine rG (au _) ?_;walk_at"ws";refine aJ (λh1=>?_) (λh1=>?_)
      .rw[bf] at h1;obtain ⟨x,hx⟩: ∃x,c.filter (λy=>!decide (-y∈K'))=[x]:=by
        match c.filter (λy=>!decide (-y∈K')),h1 with
        |[x],_=>exact⟨x,rfl⟩
        |[],h=>simp at h
        |_::_::_,h=>simp at h;exact(PI h).elim
       haveI q2:=hx▸q2;walk_at"ws";refine dh q1 ?_;walk_at"ws";refine bC (x:=x) q2 (by refine(?_:1<1000000);exact dO rfl) (by decide) rfl ?_;refine jA q1 (by refine rG (au _) (rG lid ?_);exact cT Ci hN rfl) ?_;walk_at"ws";haveI eq:List.map V.int K'++[V.int x]=List.map V.int (K'++[x]):=by refine rG cN ?_;rfl
       refine rG eq ?_;refine Cg _ _ ⟨K'++[x],lq,true,aI _ _ _,q3.upd i9,ki.push jF Ch.2.2.2 (λy=>?_) gT,Jx.mono,by refine rG bm ?_;exact jO hle,λU=>by refine rG bm (rG cV ?_);exact iU hle,(λh=>by cases h),g1,g2,rfl,rfl⟩;rw[<-vU y,hx,cx]
      .rw[ct] at h1;walk_at"ws";refine Cg _ _ ⟨K',lq,nw,q1,q3,ki,Jx,hle,aS,dn rfl Ck λU=>?_,g1,g2,g3,rfl⟩
       match vV:c.filter (λy=>!decide (-y∈K')),h1 with
       |[],_=>
        refine .inr (.inr ⟨by refine rG Cm (rG vV ?_);simp,λx hx=>?_⟩);apply jL;intro z;haveI:=(vU x).mpr ⟨hx,z⟩;replace this:=vV▸this;cases this
       |[x],h=>exact absurd rfl h
       |x::y::r,_=>
        haveI hx:=(vU x).mp (by refine rG vV ?_;exact .head _);haveI hy:=(vU y).mp (by refine rG vV ?_;exact .tail _ (.head _));refine .inr (.inl ⟨x,y,hx.1,hy.1,λe=>?_,hx.2,hy.2⟩);haveI bN:(c.filter λy=>!decide (-y∈K')).Nodup:=rH _ (fV (sK Ch.1))
        (haveI bN:=vV▸bN;rewrite [kB] at bN)
        exact bN.1 (by refine rG e ?_;exact .head _)
     refine aJ (λvA=>?_) (λvA=>?_)
     .subst vA;refine A3 ?_;exact fin H4 true e4 vT k4 rfl
     .subst vA;walk_at"ws";refine alloc 18 λry vW U=>?_;refine sI (some_ne_none vT vW) (am.fresh vW _ _ vT) (aI _ _ _) ?_;refine A3 ?_;refine fin _ _ (am.fresh vW _ _ e4) (am.fresh vW _ _ vT) (k4.trans (am.fresh vW)) ?_;refine rG (Bool.false_or _) ?_;cases c.filter (λy=>!decide (-y∈K'))<;>rfl
    .walk_at"ws";refine Cg _ _ ⟨K',br,nw,e4,k4,ki,fe,hle,aS,dn rfl id λU=>.inl ?_,g1,g2,g3,g4⟩;haveI h2:c.filter (λy=>decide (y∈K'))≠[]:=λz=>by replace lU:=z▸lU;cases lU
     refine ag (List.exists_mem_of_ne_nil _ h2) λx hx=>?_;haveI:=List.mem_filter.mp hx;exact⟨x,this.1,by simpa using this.2⟩
   .intro m H' o6;refine Dd o6 λK' br nw e1 k1 ki fe hle aS lj g1 g2 g3 g4=>?_;clear o6;haveI lj:=ko▸lj;haveI Ci:=ki.len;refine kn m H' (if nw=true then N+1-K'.length else 0) ?_ ⟨K',br,nw,e1,k1,ki,fe,lj,rfl,g1,g2,g3,g4⟩;split
    .rename_i h;haveI:=aS h;exact PH Ci this
    .exact Eu hlen
 rcases hbv with ⟨rb,rfl,fe⟩|rfl
 .refine AF fe (by refine rG (au _) (rG lid ?_);exact cT Ju hN rfl) (alloc 14 λrk i9 kZ=>?_);walk_at"ws";exact go rk i9 kZ
 .refine GL (by refine rG (au _) (rG lid ?_);exact cT Ju hN rfl) (alloc 14 λrk i9 kZ=>?_);walk_at"ws";exact go rk i9 kZ
end
theorem Jz(e:H r=some (.list xs))(e':H r'=some (.list ys))(hl:xs.length+ys.length<aO)(k:cH (.list (xs++ys)) Q H):kF .Add (.ref r) (.ref r') Q H:=.EO e e' hl k
theorem vX:x∈kX a b↔a<=x/\x<b:=by
 unfold kX;refine rI List.mem_map ?_;constructor
 .intro o1;refine ab o1 λk hk o2=>?_;clear o1;subst o2;haveI:=List.mem_range.mp hk;exact PZ this
 .intro h;exact⟨(x-a).toNat,List.mem_range.mpr (by exact PY h.1 h.2),by exact PX h.1⟩
noncomputable def nc(code v:Int):Bool:=decide ((code.fdiv (2^(v-1).toNat)).fmod 2=1)
noncomputable def ones(N:Nat)(code:Int):List Int:=(kX 1 (N+1)).map λv=>if nc code v=true then v else -v
theorem ac3{code x:Int}(h:Lit N x):x∈ones N code↔mJ (λv=>nc code v) x:=by
 unfold ones mJ;haveI h0:=h.1;haveI h1:=h.2;refine rI List.mem_map ?_;by_cases p:0<x
 .refine rG (az p) ?_;haveI e:(x.natAbs:Int)=x:=(yS p);refine(?_:_↔nc code (x.natAbs:Int)=true);refine rG e ?_;constructor
  .intro o3;refine ab o3 λv hv q=>?_;clear o3;haveI:=vX.mp hv;split at q
   .rename_i hb;refine rB q ?_;exact hb
   .exact(PW p this.1 q).elim
  .intro hb;exact⟨x,vX.mpr (by exact PU h1 p),by exact rG (az hb) rfl⟩
 .refine rG (ax p) ?_;haveI e:(x.natAbs:Int)= -x:=by exact D8 p
  refine(?_:_↔nc code (x.natAbs:Int)=false);refine rG e ?_;constructor
  .intro o4;refine ab o4 λv hv q=>?_;clear o4;haveI:=vX.mp hv;split at q
   .exact(PT p this.1 q).elim
   .rename_i hb
    haveI:v= -x:=by exact zh q
    refine rB this ?_;simpa using hb
  .intro hb;exact⟨-x,vX.mpr (by exact PR h0 h1 e),by refine rG hb ?_;simp⟩
section
variable{C:Cfg}{n:Nat}{H:MH}{Q:PV}{N:Nat}
theorem ac4(E:Env C)(hN:N<=5){ccs:List (List Int)}{lits:List Int}(bj:H dY=some (.list (ccs.map cE)))(lY:ccs.length<100)(cL:lits.length<100)(hc: ∀c,c∈ccs->c.length<=5/\ ∀x,x∈c->Lit N x)(hl: ∀x,x∈lits->Lit N x)
  (ac5: ∀σ,(∀c,c∈ccs->Sat σ c)->(∀x,x∈lits->mJ σ x)->False)
  (k: ∀H',am H H'->Q (.bool false) H'):aM C (n+1) (.con (.ref 739)) [.ref dY,.tup (lits.map V.int),.int N] Q H:=by
 haveI JA:(2:Int)^((N:Int)).toNat<=32/\0<=(2:Int)^((N:Int)).toNat:=by
  refine rG (bO _) ?_;rcases (by exact PQ hN:N=0∨N=1∨N=2∨N=3∨N=4∨N=5) with rfl|rfl|rfl|rfl|rfl|rfl<;>decide
 refine E.og rfl ?_;walk_at"ws";refine HY (by exact PO hN) ?_;refine qx ?_;refine pz (dO rfl) (by exact PN JA.1 JA.2) (λi m H'=>am H H'/\m "clauses" =some (.ref dY)/\m "literals" =some (.tup (lits.map V.int))/\m "n" =some (.int N)) ?_ ?_ ⟨am.refl _,rfl,rfl,rfl⟩
 .intro i m H' K hi o5 kn U U U;refine gW o5 λk1 g1 g2 g3=>?_;clear o5;rw[EA] at hi ⊢;refine⟨_,rfl,?_⟩;walk_at"ws";refine AD ?_;refine aaG (λv=>some (.int (if nc (i:Int) v=true then v else -v))) (dO rfl) (yU hN (fP (id (Eq.refl true)))) (λv hv P hP=>⟨_,rfl,?_⟩) ?_
  .have yq:=vX.mp hv;haveI vJ:(2:Int)^(v-1).toNat<=16/\1<=(2:Int)^(v-1).toNat:=by
    rcases (by exact PM hN yq.1 yq.2:v=1∨v=2∨v=3∨v=4∨v=5) with rfl|rfl|rfl|rfl|rfl<;>decide
   refine(?_:al _ _ _ _ _ _ _);walk_at"ws";refine HY (by exact PK hN yq.1 yq.2) ?_;refine A8 (by exact PJ vJ.1 vJ.2) ?_;walk_at"ws";refine uY (by decide) ?_;walk_at"ws";refine aJ (λhb=>?_) (λhb=>?_)
   .haveI hP:=(az (hb:nc (i:Int) v=true))▸hP;walk_at"ws";exact hP
   .haveI hP:=(show nc (i:Int) v=false from hb)▸hP;walk_at"ws";exact hP
  haveI eo:(kX 1 ((N:Int)+1)).filterMap (λv=>some (V.int (if nc (i:Int) v=true then v else -v)))=(ones N i).map V.int:=by
   unfold ones;rw[nu,eN];rfl
  refine rG eo ?_;refine alloc 15 λro hro U=>?_;have k2:=k1.trans (am.fresh (o:=iL (ones N i)) hro);haveI JB:upd H' ro (iL (ones N i)) ro=some (iL (ones N i)):=aI _ _ _;walk_at"ws";generalize upd H' ro (iL (ones N i))=H2 at k2 JB ⊢;refine AF (k2 _ _ bj) (by refine rG (au _) (rG lid ?_);exact bI lY rfl) (alloc 16 λr1 dX U=>?_);haveI k3:=k2.trans (am.fresh (o:=.list (ccs.map cE)) dX);haveI JC:=am.fresh (o:=.list (ccs.map cE)) dX _ _ JB;haveI e1:upd H2 r1 (.list (ccs.map cE)) r1=some (.list (ccs.map cE)):=aI _ _ _;walk_at"ws";generalize upd H2 r1 (.list (ccs.map cE))=H3 at k3 JC e1 ⊢;refine xM V.int lits (λx=>some (.tup [.int x])) (by refine rG lid ?_;exact bI cL rfl) (λx U P hP=>⟨_,rfl,?_⟩) ?_
  .refine(?_:al _ _ _ _ _ _ _);walk_at"ws";exact hP
  refine alloc 17 λr2 bZ U=>?_;refine rG nu ?_;haveI k4:=k3.trans (am.fresh (o:=.list (lits.map λx=>V.tup [V.int x])) bZ);haveI JD:=am.fresh (o:=.list (lits.map λx=>V.tup [V.int x])) bZ _ _ JC;haveI e2:=am.fresh (o:=.list (lits.map λx=>V.tup [V.int x])) bZ _ _ e1;haveI e3:upd H3 r2 (.list (lits.map λx=>V.tup [V.int x])) r2=some (.list (lits.map λx=>V.tup [V.int x])):=aI _ _ _;generalize upd H3 r2 (.list (lits.map λx=>V.tup [V.int x]))=H4 at k4 JD e2 e3 ⊢;refine Jz e2 e3 (by refine rG (au _) (rG (au _) (rG lid ?_));exact C7 lY cL (fP (id (Eq.refl true)))) (alloc 18 λdJ tn U=>?_);haveI er:ccs.map cE++(lits.map λx=>V.tup [V.int x])=(ccs++lits.map λx=>[x]).map cE:=by
   refine rG cN (rG eN ?_);rfl
  refine rG er ?_;haveI k5:=k4.trans (am.fresh (o:=.list ((ccs++lits.map λx=>[x]).map cE)) tn);haveI JE:=am.fresh (o:=.list ((ccs++lits.map λx=>[x]).map cE)) tn _ _ JD;haveI e4:upd H4 dJ (.list ((ccs++lits.map λx=>[x]).map cE)) dJ=some (.list ((ccs++lits.map λx=>[x]).map cE)):=aI _ _ _;have eZ: ∀c,c∈(ccs++lits.map λx=>[x])->c.length<=5/\ ∀x,x∈c->Lit N x:=by
   intro c jF;rcases List.mem_append.mp jF with q|q
   .exact hc c q
   .refine ab (List.mem_map.mp q) λx hx o6=>?_;subst o6;exact⟨by simp,λy hy=>by refine rG (List.mem_singleton.mp hy) ?_;exact hl x hx⟩
  haveI JF:(ccs++lits.map λx=>[x]).length<200:=by refine rG bm (rG (au _) ?_);exact C7 lY cL (fP (id (Eq.refl true)))
  have JG:((ccs++lits.map λx=>[x]).filter λc=>(c.filter λy=>decide (y∈ones N i)).isEmpty)≠[]:=by
   intro z;rw[List.filter_eq_nil_iff] at z;have sat: ∀c,c∈(ccs++lits.map λx=>[x])->Sat (λv=>nc i v) c:=by
    intro c jF;haveI:=z c jF;haveI bt:(c.filter λy=>decide (y∈ones N i))≠[]:=λw=>this (by refine rG w ?_;rfl);refine ag (List.exists_mem_of_ne_nil _ bt) λx hx=>?_;haveI eH:=List.mem_filter.mp hx;exact⟨x,eH.1,(ac3 ((eZ c jF).2 x eH.1)).mp (by simpa using eH.2)⟩
   refine ac5 (λv=>nc i v) (λc jF=>sat c (List.mem_append.mpr (.inl jF))) λx hx=>?_;refine ab (sat [x] (List.mem_append.mpr (.inr (mc hx)))) λy hy q=>?_;haveI q:=(List.mem_singleton.mp hy)▸q;exact q
  walk_at"ws";generalize upd H4 dJ (.list ((ccs++lits.map λx=>[x]).map cE))=H5 at k5 JE e4 ⊢;generalize (ccs++lits.map λx=>[x])=rows at e4 eZ JF JG ⊢;refine⟨rows.map cE,by refine rG (au _) (rG lid ?_);exact bI JF rfl,Ba (λi' acc H'=>acc=((rows.take i').filter λc=>(c.filter λy=>decide (y∈ones N i)).isEmpty).map cE/\am H5 H') ?_ ?_ ?_ _ ⟨rfl,am.refl _⟩⟩
  .intro i' acc H' o7;refine aE o7 λU h=>?_;clear o7;exact h _ _ e4
  .intro i' v acc H' P hv o8 kp kz;refine aE o8 λo9 k6=>?_;clear o8;subst o9;refine ab (map_some hv) λc mG cY=>?_;subst cY;haveI hcr:=eZ c (bd mG);refine⟨_,rfl,?_⟩;refine(?_:bH _ _ _ _ _ _ _);walk_at"ws";refine Cf (λy=>decide (y∈ones N i)) c hcr.1 "one" (λy B U hB=>?_) ?_
   .walk_at"ws";refine sJ (as:=ones N i) (k6 _ _ JE) ?_;exact hB
   refine alloc 19 λr3 dA U=>?_;walk_at"ws";refine alloc 20 λr4 fX U=>?_;refine sI (some_ne_none (aI _ _ _) fX) (am.fresh fX _ _ (aI _ _ _)) (aI _ _ _) ?_;walk_at"ws";haveI k7:=k6.trans ((am.fresh (o:=iL (c.filter λy=>decide (y∈ones N i))) dA).trans (am.fresh (o:=.list []) fX));have he:(List.map V.int (c.filter λy=>decide (y∈ones N i))).isEmpty=(c.filter λy=>decide (y∈ones N i)).isEmpty:=by cases c.filter (λy=>decide (y∈ones N i))<;>rfl
   refine aJ (λhb=>?_) (λhb=>?_)
   .walk_at"ws";refine kp _ _ ⟨?_,k7⟩;refine rG (take_snoc mG) (rG (oJ _ _) (rG md (rG (az (he▸hb)) (rG nF (rG cN ?_)))));rfl
   .refine kz _ ⟨?_,k7⟩;exact rG (take_snoc mG) (rG (oJ _ _) (rG md (rG (ax (by rw[<-he,hb];simp)) (rG nF (rG (f5 _) rfl)))))
  .intro acc H' eb;refine aE eb λf8 k6=>?_;clear eb;subst f8;refine rG (au _) (rG ko ?_);refine alloc 19 λr3 dA U=>?_;walk_at"ws";refine alloc 20 λr4 fX U=>?_;refine sI (some_ne_none (aI _ _ _) fX) (am.fresh fX _ _ (aI _ _ _)) (aI _ _ _) ?_;walk_at"ws";refine aJ (λhb=>?_) (λU=>?_)
   .exfalso;rw[List.isEmpty_iff,List.map_eq_nil_iff] at hb;exact JG hb
   walk_at"ws";exact kn _ _ ⟨k5.trans (k6.trans ((am.fresh dA).trans (am.fresh fX))),g1,g2,g3⟩
 .intro m H' iC;refine aE iC λk1 U=>?_;clear iC;walk_at"ws";exact k H' k1
end
theorem yt:(putD es i v).find? (λp=>decide (p.1=k))=if k=i then some (i,v) else es.find? λp=>decide (p.1=k):=by
 by_cases gJ:i∈es.map (·.1)
 .unfold putD;refine rG sM (rG (az (by simpa using gJ)) ?_)
  induction es with
  |nil=>cases gJ
  |cons p es ih=>
   obtain ⟨a,w⟩:=p;refine rG dq (rG (List.find?_cons) (rG (List.find?_cons) ?_));by_cases e:a=i
   .subst e;by_cases q:k=a
    .subst q;simp
    .have q': ¬a=k:=λz=>q z.symm;simp only[if_true,q,q',ix,decide_false];by_cases yu:a∈es.map (·.1)
     .exact rG (ih yu) (rG (ax q) rfl)
     .congr 1
      refine(p9 (g:=id) λx hx=>?_).trans (List.map_id _);refine(?_:(if x.1=a then (x.1,v) else x)=x);rw[ax];intro z;exact yu (List.mem_map.mpr ⟨x,hx,z⟩)
   .haveI yu:i∈es.map (·.1):=by
     rcases List.mem_cons.mp gJ with q|q
     .exact absurd q.symm e
     .exact q
    simp only[e,ix];by_cases q:a=k
    .subst q;simp[e]
    .simp only[q,decide_false,ih yu]
 .have ha: ¬(es.any (λp=>decide (p.1=i))=true):=by refine rG sM ?_;simpa using gJ
  unfold putD;refine rG (ax ha) (rG (List.find?_append) ?_);by_cases q:k=i
  .subst q;haveI:es.find? (λp=>decide (p.1=k))=none:=by
    refine rI (List.find?_eq_none) ?_;intro x hx z;exact gJ (List.mem_map.mpr ⟨x,hx,by simpa using z⟩)
   refine rG this (rG (az rfl) ?_);simp
  .refine rG (ax q) ?_;haveI:([(i,v)].find? λp=>decide (p.1=k))=none:=by
    refine rI (List.find?_eq_none) ?_;intro x hx z;rw[cx] at hx;subst hx;exact q (by simpa using z:i=k).symm
   exact rG this (rG Option.or_none rfl)
theorem ac8:(putD es i v).length<=es.length+1:=by
 unfold putD;split
 .refine rG (au _) ?_;exact pW
 .refine rG bm ?_;simp
section
variable{C:Cfg}{n:Nat}{H:MH}{Q:PV}{co pr:Ref}{lay:Sl->Ref}{st:St}{N b:Nat}{cs:List (List Int)}
theorem ac9{K:List V->MH->Prop}(p:Int->Bool)(l:List Int)(hr:H r=some (iL l))(hz:l.length<1000)(x:String)
  (hc: ∀(y:Int) (B:Bool->MH->Prop),y∈l->B (p y) H->bH C tabs n (set m x (.int y)) e B H) (k:K ((l.filter p).map V.int) H):
  ∃xs,xs.length<aO/\jl (fS (.ref r) xs) (λv P aA=> ∃m',kG m [x] v=some m'/\rR C tabs n m' (some e) (λb bh=>if b then al C tabs n m' (.var x) (λv cm=>P (some v) cm) bh else P Option.none bh) aA) xs [] K H:=by
 refine pA V.int l (oj p) hr (by refine rG lid ?_;exact bI hz rfl) (λy hy P hP=>⟨_,rfl,?_⟩) (by refine rG (Bv _ _) ?_;exact k);refine(?_:bH _ _ _ _ _ _ _);refine hc y _ hy ?_;unfold oj at hP;refine aJ (λh=>?_) (λh=>?_)
 .refine HR (v:=.int y) (by simp[set]) ?_;haveI hP:=(az h)▸hP;exact hP
 .haveI hP:=h▸hP;simpa using hP
noncomputable def lZ(st:St)(D:List Int)(H:MH)(es:List (Int×V))(l:Int):Prop:= ∃(rl:Ref) (g:List Int),(es.find? λp=>decide (p.1=l))=some (l,.ref rl)/\H rl=some (iL g)/\rl.t=24/\g.Nodup/\g.length<=60/\ ∀x,x∈g↔x∈D/\dC st l x
theorem lZ.keep(h:lZ st D H es l)(k:bF H H'):lZ st D H' es l:=by
 refine dN h λrl g h1 h2 h3 h4=>?_;clear h;exact⟨rl,g,h1,k _ _ (cr h3 rfl) h2,h3,h4⟩
theorem dC.inv{N:Nat}{st:St}{t0 x:Int}(h:dC st t0 x){i:Nat}(t:Tr N st)(hl:st.aa[i]?=some t0):x=t0∨ ∃(s1:Int) (j:Nat) (c:List Int) (y:Int),s1∈st.ah/\s1<=i/\at' st.aB t0.natAbs=j/\st.cls[j]?=some c/\y∈c/\y≠t0/\dC st (-y) x:=by
 cases h with
 |refl=>exact .inl rfl
 |step b1 b2 b3 b4 b5 b6 b7 b8=>
  haveI:=get_inj (fV t.nd) b1 hl;subst this;exact .inr ⟨_,_,_,_,b2,b3,b4,b5,b6,b7,b8⟩
theorem ada{a:Int}{cls:List (List Int)}{j j':Nat}(h1:a=j)(h2:a=j')(e1:cls[j]?=some c)(e2:cls[j']?=some c'):c'=c:=by
 replace e2:=e1▸(Int.ofNat.inj (h2.symm.trans h1):j'=j)▸e2;cases e2;rfl
theorem adb(E:Env C)(a:ac co pr lay st H)(d:bU N st)(t:Tr N st)(c:Cl N cs st){rd rs:Ref}{D Su:List Int}(nh:H rd=some (iL D))(jG:H rs=some (iL Su))(hDn:D.Nodup)(Co:D.length<=5)
  (hD: ∀(i:Nat) l,st.aa[i]?=some l->(l∈D↔(i:Int)∈st.ah)) (hS: ∀(i:Nat) l,st.aa[i]?=some l->(l∈Su↔ ∀s,s∈st.ah->(i:Int)<s))
  (k: ∀H' rg es,am H H'->H rg=none->rg.t=23->H' rg=some (.dict es)->(∀l,l∈st.aa->lZ st D H' es l)->Q (.ref rg) H'):
  aM C (n+1) (.con (.ref 744)) [.ref co,.ref rd,.ref rs] Q H:=by
 have hN:=d.big;have fW:=d.aa;haveI eZ:=d.aB;have pJ:=d.cls;refine E.og rfl ?_;walk_at"ws";refine alloc 23 λrg oy vY=>?_;haveI a1:=a.bx (am.fresh (o:=.dict []) oy);walk_at"ws";have short: ∀g:List Int,g.Nodup->(∀x,x∈g->x∈D)->g.length<=5:=λg hn hm=>by
  haveI:=kW D.length (g.map λv=>D.idxOf v) (by
   unfold List.Nodup;refine rI eC ?_;refine ir ?_ hn;intro y z hy hz ne e;haveI e1:=List.getElem_idxOf (rA (hm y hy));haveI e2:=List.getElem_idxOf (rA (hm z hz));apply ne;refine rB e1 (rB e2 ?_);congr 1) (λy hy=>by
   refine ab (List.mem_map.mp hy) λz hz o1=>?_;subst o1;exact rA (hm z hz))
  haveI this:=(au _)▸this;exact eM this Co
 refine oi V.int st.aa (λi m H'=> ∃es,H' rg=some (.dict es)/\es.length<=i/\am H H'/\(∀(j:Nat) l,j<i->st.aa[j]?=some l->lZ st D H' es l)/\m "core" =some (.ref co)/\m "decided" =some (.ref rd)/\m "sure" =some (.ref rs)/\m "found" =some (.ref rg)) ?_ ?_ ?_ ?_
 .intro i m H' o2;refine l8 o2 λU U U h U=>?_;clear o2;exact(a.bx h).obj .aa _ rfl
 .intro i l m H' K hl o3 kn U U U;refine wq o3 λes e1 el k1 Cp g1 g2 g3 g4=>?_;clear o3;haveI aH:=a.bx k1;have dH:=(List.getElem?_eq_some_iff.mp hl).1;haveI hL:=t.bq l (bd hl);haveI hb:=hL.2;haveI ade:=k1 _ _ nh;haveI ahF:=k1 _ _ jG;haveI yv:=hD i l hl;haveI lV:=hS i l hl;have adf: ∀{H2:MH} {n7:List (Int×V)} {v:V},(∀r o,r≠rg->H' r=some o->H2 r=some o)->(∀l',l'≠l->(n7.find? λp=>decide (p.1=l'))=es.find? λp=>decide (p.1=l'))-> ∀(j:Nat) l',j<i->st.aa[j]?=some l'->lZ st D H2 n7 l':=by
   intro H2 n7 v hk hf j l' hj cZ;refine dN (Cp j l' hj cZ) λrl g h1 h2 h3 h4=>?_;refine⟨rl,g,?_,hk rl _ (λz=>by rw[z,vY] at h3;exact P5 h3) h2,h3,h4⟩;rw[hf l' λz=>?_]
   .exact h1
   .rw[z] at cZ;haveI:=get_inj (fV t.nd) cZ hl;exact(zk hj this).elim
  refine⟨_,rfl,?_⟩;walk_at"ws";refine sJ (as:=D) ade ?_;walk_at"ws";haveI body: ∀(rl:Ref) (g0:List Int),H' rl=none->rl.t=24->(l∈D->g0=[l])->(l∉D->g0=[])->
    bo C tabs n [S.ite (.eE (.cmp .NotIn (.var "lit") (.var "decided")) (.cmp .NotIn (.var "lit") (.var "sure"))) [.dF ["other"] (.sub (.attr (.var "core") "clauses") (.sub (.attr (.var "core") "reasons") (.call (.glob "abs") [.var "lit"]))) [.ite (.cmp .NotEq (.var "other") (.var "lit")) [.asg (.sub (.var "found") (.var "lit")) (.bin .Add (.sub (.var "found") (.var "lit")) (.comp (.var "one") ["one"] (.sub (.var "found") (.neg (.var "other"))) (some (.cmp .NotIn (.var "one") (.sub (.var "found") (.var "lit"))))))] []]] []] K (set m "lit" (.int l)) (upd (upd H' rl (iL g0)) rg (.dict (putD es l (.ref rl)))):=by
   intro rl g0 JH yw hg1 hg2;haveI ngl:rl≠rg:=dz (by refine rG yw (rG vY ?_);exact zn);have k2:am H (upd (upd H' rl (iL g0)) rg (.dict (putD es l (.ref rl)))):=(k1.trans (am.fresh JH)).upd oy;haveI eg:upd (upd H' rl (iL g0)) rg (.dict (putD es l (.ref rl))) rg=some (.dict (putD es l (.ref rl))):=aI _ _ _;have yx:upd (upd H' rl (iL g0)) rg (.dict (putD es l (.ref rl))) rl=some (iL g0):=by exact rG (aD ngl) (rG (aI _ _ _) rfl)
   haveI kp: ∀r o,r≠rg->H' r=some o->upd (upd H' rl (iL g0)) rg (.dict (putD es l (.ref rl))) r=some o:=λr o h e=>by
    refine rG (aD h) ?_;exact am.fresh JH _ _ e
   haveI JI: ∀l',l'≠l->((putD es l (.ref rl)).find? λp=>decide (p.1=l'))=es.find? λp=>decide (p.1=l'):=λl' h=>by exact rG yt (rG (ax h) rfl)
   have lX:((putD es l (.ref rl)).find? λp=>decide (p.1=l))=some (l,.ref rl):=by exact rG yt (rG (az rfl) rfl)
   have hle:(putD es l (.ref rl)).length<=i+1:=eM ac8 (iU el);have fin: ∀(H3:MH) (il:List (Int×V)) (m':MM),H3 rg=some (.dict il)->il.length<=i+1->am H H3->(∀(j:Nat) l',j<i->st.aa[j]?=some l'->lZ st D H3 il l')->lZ st D H3 il l->m' "core" =some (.ref co)->m' "decided" =some (.ref rd)->m' "sure" =some (.ref rs)->m' "found" =some (.ref rg)->K .next m' H3:=by
    intro H3 il m' q1 q2 q3 q4 q5 c1 c2 c3 c4;refine kn _ _ ⟨il,q1,q2,q3,λj l' hj cZ=>?_,c1,c2,c3,c4⟩;rcases Nat.lt_succ_iff_lt_or_eq.mp hj with h|h
    .exact q4 j l' h cZ
    .subst h;replace cZ:=hl▸cZ;cases cZ;exact q5
   haveI kg:=adf (v:=.ref rl) kp JI;clear kp;generalize upd (upd H' rl (iL g0)) rg (.dict (putD es l (.ref rl)))=H2 at k2 eg yx kg ⊢;generalize putD es l (.ref rl)=n7 at eg JI lX hle kg ⊢;haveI a2:=a.bx k2;walk_at"ws";refine xF (as:=D) (k2 _ _ nh) ?_;walk_at"ws";refine aJ (λbN=>?_) (λbN=>?_)
   ·(replace bN:=(gB _)▸bN;rewrite [ct] at bN)
    haveI Cq:=hg2 bN;subst Cq;haveI te:(i:Int)∉st.ah:=λz=>bN (yv.mpr z);walk_at"ws";refine xF (as:=Su) (k2 _ _ jG) ?_;walk_at"ws";refine aJ (λiE=>?_) (λiE=>?_)
    ·(haveI iE:=(gB _)▸iE;rewrite [ct] at iE)
     refine aE ((t.aB i l hl).resolve_left λq=>te q.2) λU cj=>?_;refine dN cj λj cl w1 w2 w3 w4=>?_;clear cj;haveI oq:=(List.getElem?_eq_some_iff.mp w2).1;haveI cg:=c.cg w2;obtain ⟨s1,dW,qS⟩: ∃s,s∈st.ah/\s<=i:=by
      apply jL;intro z;refine iE (lV.mpr λs hs=>?_);apply jL;intro w;exact z ⟨s,hs,by exact zo w⟩
     walk_at"ws";refine gM ?_;refine bC (a2.obj .aB _ rfl) (by refine rG lid ?_;exact cF eZ hN rfl) (aC l.natAbs) (gS (aC l.natAbs) (eB eZ hb)) ?_;refine rG w1 ?_;refine a2.pt (by refine rG lid ?_;exact aX pJ rfl) (aC j) (oB oq) ?_;refine rG (bO _) ?_;refine oi V.int cl (λq m' H3=> ∃il qX g,H3 rg=some (.dict il)/\il.length<=i+1/\am H H3/\(∀(j:Nat) l',j<i->st.aa[j]?=some l'->lZ st D H3 il l')/\(il.find? λp=>decide (p.1=l))=some (l,.ref qX)/\H3 qX=some (iL g)/\qX.t=24/\g.Nodup/\(∀x,x∈g↔ ∃y,y∈cl.take q/\y≠l/\x∈D/\dC st (-y) x)/\
      m' "core" =some (.ref co)/\m' "decided" =some (.ref rd)/\m' "sure" =some (.ref rs)/\m' "found" =some (.ref rg)/\m' "lit" =some (.int l)) ?_ ?_ ?_ ?_
     .intro q m' H3 o4;refine jI o4 λU U U U U h U=>?_;clear o4;exact(a.bx h).fU w2
     .intro q y m' H3 K3 hy o5 JJ U U U;refine wr o5 λil qX g q1 q2 q3 q4 q5 q6 q7 q8 q9 c1 c2 c3 c4 c5=>?_;clear o5;have sU:=bd hy;haveI Cr:=short g q8 λx hx=>by refine l8 ((q9 x).mp hx) λU U U h U=>?_;exact h
      refine⟨_,rfl,?_⟩;walk_at"ws";refine aJ (λbt=>?_) (λbt=>?_)
      ·(replace bt:=(gB _)▸bt;rewrite [ct] at bt)
       haveI:=w4 y sU bt;refine ag (List.mem_iff_getElem?.mp this) λp hp=>?_;haveI yy:=(List.getElem?_eq_some_iff.mp hp).1;replace yy:=ku▸yy;replace hp:=(nq (by exact lu yy))▸hp;refine tJ (q4 p (-y) (by exact lu yy) hp) λr' g' p1 p2 p3 p4 p5 p6=>?_;walk_at"ws";refine xw q1 q5 ?_;walk_at"ws";refine xw q1 p1 ?_;refine ac9 (λx=>!decide (x∈g)) g' p2 (aX p5 rfl) "one" (λx B U hB=>?_) ?_
       .walk_at"ws";refine xw q1 q5 ?_;refine xF (as:=g) q6 ?_;exact hB
       refine alloc 25 λr4 fX U=>?_;haveI adj:=oG (λx=>!decide (x∈g)) g';refine Jz (am.fresh fX _ _ q6) (aI _ _ _) (by refine rG (au _) (rG (au _) (rG lid ?_));exact P4 Cr p5 adj) (alloc 24 λr5 qT yj=>?_);refine rB cN ?_;haveI yz:am H3 (upd (upd H3 r4 (iL (g'.filter λx=>!decide (x∈g)))) r5 (iL (g++g'.filter λx=>!decide (x∈g)))):=(am.fresh fX).trans (am.fresh qT);haveI e5:upd (upd H3 r4 (iL (g'.filter λx=>!decide (x∈g)))) r5 (iL (g++g'.filter λx=>!decide (x∈g))) r5=some (iL (g++g'.filter λx=>!decide (x∈g))):=aI _ _ _;haveI JK:=yz _ _ q1;refine(?_:jm C tabs n _ _ _ _ (upd (upd H3 r4 (iL (g'.filter λx=>!decide (x∈g)))) r5 (iL (g++g'.filter λx=>!decide (x∈g)))));generalize upd (upd H3 r4 (iL (g'.filter λx=>!decide (x∈g)))) r5 (iL (g++g'.filter λx=>!decide (x∈g)))=H5 at yz e5 JK ⊢;walk_at"ws";refine set_dict JK (by refine rG lid ?_;exact P0 hN fW dH q2) ?_;haveI n5:r5≠rg:=dz (by refine rG yj (rG vY ?_);exact zn);refine JJ _ _ ⟨putD il l (.ref r5),r5,g++g'.filter λx=>!decide (x∈g),aI _ _ _,?_,(q3.trans yz).upd oy,λj' l' pC cZ=>?_,by exact rG yt (rG (az rfl) rfl),(aD n5).trans e5,yj,?_,λx=>?_,c1,c2,c3,c4,c5⟩
       .haveI gJ:l∈il.map (·.1):=by
         haveI:=List.mem_of_find?_eq_some q5;exact List.mem_map.mpr ⟨_,this,rfl⟩
        unfold putD;refine rG sM (rG (az (by simpa using gJ)) (rG (au _) ?_));exact q2
       .refine dN (q4 j' l' pC cZ) λr6 g6 b1 b2 b3 b4=>?_;refine⟨r6,g6,?_,?_,b3,b4⟩
        ·(refine rG yt ?_;rewrite [ax])
         .exact b1
         .intro z;haveI cZ:=z▸cZ;haveI:=get_inj (fV t.nd) cZ hl;exact(zk pC this).elim
        .refine rG (aD (dz (by rw[b3,vY];exact zn))) ?_;exact yz _ _ b2
       .refine List.nodup_append.mpr ⟨q8,rH _ p4,λx hx z hz e=>?_⟩;haveI:=(List.mem_filter.mp hz).2;haveI this:=cX e▸this;simp[hx] at this
       .refine rI dG (rI jP (rG (gB _) (rI ct (rI (q9 _) (rI (p6 _) ?_)))));constructor
        .intro o6;rcases o6 with ⟨y',h1,h2⟩|⟨⟨h1,h2⟩,_⟩
         .exact⟨y',(ib hy y').mpr (.inl h1),h2⟩
         .exact⟨y,(ib hy y).mpr (.inr rfl),bt,h1,h2⟩
        .intro o7;refine ab o7 λy' h1 h2=>?_;clear o7;rcases (ib hy y').mp h1 with z|z
         .exact .inl ⟨y',z,h2⟩
         .subst z;by_cases w: ∃y',y'∈cl.take q/\y'≠l/\x∈D/\dC st (-y') x
          .exact .inl w
          .exact .inr ⟨⟨h2.2.1,h2.2.2⟩,w⟩
      .rw[nA,bf] at bt;walk_at"ws";refine JJ _ _ ⟨il,qX,g,q1,q2,q3,q4,q5,q6,q7,q8,λx=>(q9 x).trans ⟨λadk=>ab adk λy' h1 h2=>⟨y',(ib hy y').mpr (.inl h1),h2⟩,λadl=>ab adl λy' h1 h2=>?_⟩,c1,c2,c3,c4,c5⟩;rcases (ib hy y').mp h1 with z|z
       .exact⟨y',z,h2⟩
       .exact absurd (z.trans bt) h2.1
     .intro m' H3 o8;refine wr o8 λil qX g q1 q2 q3 q4 q5 q6 q7 q8 q9 c1 c2 c3 c4 c5=>?_;clear o8;haveI q9:=ko▸q9;haveI Cr:=short g q8 λx hx=>by refine l8 ((q9 x).mp hx) λU U U h U=>?_;exact h
      walk_at"ws";refine fin H3 il _ q1 q2 q3 q4 ⟨qX,g,q5,q6,q7,q8,(iS Cr rfl),λx=>(q9 x).trans ⟨λadm=>l8 adm λy h1 h2 h3 h4=>⟨h3,.step hl dW qS w1 w2 h1 h2 h4⟩,λadn=>aE adn λh1 h2=>?_⟩⟩ c1 c2 c3 c4;rcases h2.inv t hl with e|⟨s1,j',c',y,_,_,b4,b5,b6,b7,b8⟩
      .exact absurd (e▸h1) bN
      .exact⟨y,ada w1 b4 w2 b5▸b6,b7,h1,b8⟩
     .exact⟨n7,rl,[],eg,hle,k2,kg,lX,yx,yw,eD,λx=>⟨λh=>absurd h dp,λado=>ab ado λy h U=>absurd h (by simp)⟩,g1,g2,g3,g4,rfl⟩
    .rw[nA,bf] at iE;haveI ow:=lV.mp iE;walk_at"ws";refine fin H2 n7 _ eg hle k2 kg ⟨rl,[],lX,yx,yw,eD,by simp,λx=>⟨λh=>absurd h dp,λadp=>aE adp λh1 h2=>?_⟩⟩ g1 g2 g3 g4;rcases h2.inv t hl with e|⟨s1,_,_,_,b2,b3,_⟩
     .exact absurd (e▸h1) bN
     .exact(zl b3 (ow _ b2)).elim
   .rw[nA,bf] at bN;haveI Cq:=hg1 bN;subst Cq;haveI i8:=yv.mp bN;refine aJ (Ft) (λU=>?_);walk_at"ws";refine fin H2 n7 _ eg hle k2 kg ⟨rl,[l],lX,yx,yw,List.nodup_cons.mpr ⟨dp,eD⟩,by simp,λx=>?_⟩ g1 g2 g3 g4;refine rI cx ?_;refine⟨λh=>by refine rG h ?_;exact⟨bN,.refl _⟩,λadq=>aE adq λU h2=>?_⟩;rcases h2.inv t hl with e|⟨_,_,_,_,_,_,b4,b5,_⟩
    .exact e
    .exact absurd i8 (t.ahead hl b4 b5).1
  refine aJ (λhd=>?_) (λhd=>?_)
  .rw[bf] at hd;walk_at"ws";refine alloc 24 λrl eZ ht=>?_;walk_at"ws";refine set_dict (am.fresh eZ _ _ e1) (by refine rG lid ?_;exact Ev hN fW el dH) ?_;exact body rl [l] eZ ht (λU=>rfl) λh=>absurd hd h
  .rw[ct] at hd;walk_at"ws";refine alloc 24 λrl eZ ht=>?_;walk_at"ws";refine set_dict (am.fresh eZ _ _ e1) (by refine rG lid ?_;exact Ev hN fW el dH) ?_;exact body rl [] eZ ht (λh=>absurd h hd) λU=>rfl
 .intro m H' o9;refine wq o9 λes e1 el k1 Cp g1 g2 g3 g4=>?_;clear o9;walk_at"ws";refine k H' rg es k1 oy vY e1 λl hl=>?_;refine ag (List.mem_iff_getElem?.mp hl) λi hi=>?_;exact Cp i l (List.getElem?_eq_some_iff.mp hi).1 hi
 .exact⟨[],aI _ _ _,cG _,am.fresh oy,λj l hj=>absurd hj (Nat.not_lt_zero _),rfl,rfl,rfl,rfl⟩
end
theorem ads(hz:xs.length<aO)(h1:1<=i)(h2:i<=xs.length)(k:Q (.tup (xs.take i.toNat)) H):tX (.tup xs) (.int i) Q H:=.tu hz h1 h2 k
theorem JL(hz:xs.length<aO)(h1:1<=i)(h2:i<=xs.length)(k:Q (.tup (xs.drop i.toNat)) H):tW (.tup xs) (.int i) Q H:=.tu hz h1 h2 k
theorem adt: ∀(x:Option Int),rQ (mS x)=true
 |none=>rfl
 |some _=>rfl
theorem yA: ∀{a b:List Int},a.Pairwise (· <= ·)->b.Pairwise (· <= ·)->a.Nodup->b.Nodup->(∀x,x∈a↔x∈b)->a=b
 |[],[],_,_,_,_,_=>rfl
 |[],b::_,_,_,_,_,h=>by have:=(h b).mpr (.head _);cases this
 |a::_,[],_,_,_,_,h=>by have:=(h a).mp (.head _);cases this
 |a::as,b::bs,ha,hb,na,nb,h=>by
  have gO:=List.pairwise_cons.mp ha;have iF:=List.pairwise_cons.mp hb;have JM:=List.nodup_cons.mp na;have JN:=List.nodup_cons.mp nb;have e:a=b:=by
   rcases List.mem_cons.mp ((h a).mp (.head _)) with e|e
   .exact e
   .rcases List.mem_cons.mp ((h b).mpr (.head _)) with e'|e'
    .exact e'.symm
    .have:=gO.1 b e';have:=iF.1 a e;exact Qf (by assumption) this
  subst e
  congr 1
  refine yA gO.2 iF.2 JM.2 JN.2 λx=>⟨λhx=>?_,λhx=>?_⟩
  .rcases List.mem_cons.mp ((h x).mp (.tail _ hx)) with e|e
   .subst e;exact absurd hx JM.1
   .exact e
  .rcases List.mem_cons.mp ((h x).mpr (.tail _ hx)) with e|e
   .subst e;exact absurd hx JN.1
   .exact e
section
variable{C:Cfg}{n:Nat}{H:MH}{Q:PV}{co pr:Ref}{lay:Sl->Ref}{st:St}{N b:Nat}{cs:List (List Int)}
theorem JO(E:Env C)(a:ac co pr lay st H)(hN:N<=5)(hp:j6 N cs st.af.steps)(fy:st.af.steps.length<60)(hg: ∀c,c∈cs->GoodC N c)(lY:cs.length<60)(bj:H dY=some (.list (cs.map cE)))
  {f:List Int} (yB:f.length<=5) (lX: ∀x,x∈f->Lit N x) (hfn:(f.map Int.natAbs).Nodup) (h0:0<=s) (hs:st.af.steps[s.toNat]?=some p) (hS:ez p.cl) (hm: ∀x,x∈p.cl↔ -x∈f)
  (k: ∀H',am H H'->Q (.bool true) H'):aM C (n+4) (.con (.ref 749)) [.ref pr,.int s,.tup (f.map V.int),.ref dY,.int N] Q H:=by
 refine E.Bo rfl ?_;walk_at"ws";refine aJ (Ft) (λU=>?_);walk_at"ws";refine xO E a (bI fy rfl) h0 hs ?_;walk_at"ws";refine xM V.int f (λx=>some (.int (-x))) (by refine rG lid ?_;exact aX yB rfl) (λx U P hP=>⟨_,rfl,?_⟩) ?_
 .show al _ _ _ _ _ _ _;walk_at"ws";exact hP
 haveI ef:f.filterMap (λx=>some (V.int (-x)))=(f.map (- ·)).map V.int:=by refine rG nu (rG eN ?_);rfl
 refine rG ef ?_;refine alloc 26 λr1 dX U=>?_;walk_at"ws";refine Iu (.inl ⟨r1,rfl,aI _ _ _⟩) (by refine rG (au _) ?_;exact yB) 27 λys qU hsy r2 bZ U=>?_;haveI adw:((f.map (- ·)).map Int.natAbs).Nodup:=by
  refine rG eN ?_;haveI:f.map (Int.natAbs∘(- ·))=f.map Int.natAbs:=p9 λx U=>by show (-x).natAbs=_;exact rG (fB _) rfl
  refine rG this ?_;exact hfn
 haveI hSy:=xH qU adw hsy;haveI eys:ys=p.cl:=qJ hSy hS λx=>by
  refine rI qU.mem_iff (rI List.mem_map (rI (hm _) ?_));exact⟨λadz=>ab adz λy hy e=>by refine rB e (rG (hH _) ?_);exact hy,λh=>⟨-x,h,hH x⟩⟩
 have k1:am H (upd (upd H r1 (iL (f.map (- ·)))) r2 (iL ys)):=(am.fresh dX).trans (am.fresh bZ);refine qy (aI _ _ _) (by refine rG (au _) (rG qU.length_eq (rG (au _) (rG lid ?_)));exact aX yB rfl) ?_;refine A9 ?_;walk_at"ws";refine aJ (λh=>by haveI h:=eys▸h;simp at h) (λU=>?_);haveI a1:=a.bx k1;generalize upd (upd H r1 (iL (f.map (- ·)))) r2 (iL ys)=H1 at k1 a1 ⊢;walk_at"ws";refine acQ E a1 hp lY fy h0 hs λH2 r js k2 e2 oq JP hjs=>?_;have vZ:=k1.trans k2;refine pA V.int js (λj=>some (cE (cs[j.toNat]?.getD []))) e2 (by refine rG lid ?_;exact bI oq rfl) (λj hj P hP=>⟨_,rfl,?_⟩) ?_
 .haveI:=JP j hj;show al _ _ _ _ _ _ _
  walk_at"ws";refine mN (v:=cE (cs[j.toNat]?.getD [])) (vZ _ _ bj) (by refine rG (au _) (rG lid ?_);exact bI lY rfl) (this.left) ?_ hP;refine rG (fA) (rG (eL (wj this)) ?_);rfl
 haveI ej:js.filterMap (λj=>some (cE (cs[j.toNat]?.getD [])))=(js.map λj=>cs[j.toNat]?.getD []).map cE:=by refine rG nu (rG eN ?_);rfl
 refine rG ej ?_;refine alloc 28 λr3 dA U=>?_;walk_at"ws";refine ac4 (ccs:=js.map λj=>cs[j.toNat]?.getD []) E hN (aI _ _ _) (by refine rG (au _) ?_;exact bI oq rfl) (aX yB rfl) (λc hc=>?_) lX (λσ h1 h2=>?_) λH4 k4=>?_
 .refine ab (List.mem_map.mp hc) λj hj o1=>?_;subst o1;haveI:=JP j hj;refine rG (eL (wj this)) ?_;haveI:=hg _ (List.getElem_mem (h:=((wj this):j.toNat<cs.length)));exact⟨by haveI:=this.2.2.1;show (cs[j.toNat]).length<=5;exact iS this rfl,this.2.2.2⟩
 .obtain ⟨x,hx,tx⟩:=hjs σ λj hj c hc=>by
   haveI:=h1 _ (mc hj);haveI this:=hc▸this;exact this
  have JQ:=(hm x).mp hx;haveI ik:x≠0:=by haveI:=(lX _ JQ).1;exact Qe this
  exact((IK ik).mp (h2 _ JQ)) tx
 .walk_at"ws";exact k H4 (vZ.trans ((am.fresh dA).trans k4))
theorem dC.congr(e:ae.aa=st.aa/\ae.ah=st.ah/\ae.aB=st.aB/\ae.cls=st.cls)(h:dC st l x):dC ae l x:=by
 induction h with
 |refl l=>exact .refl l
 |step h1 h2 h3 h4 h5 h6 h7 _ ih=>exact .step (by refine rG e.1 ?_;exact h1) (by refine rG e.2.1 ?_;exact h2) h3 (by refine rG e.2.2.1 ?_;exact h4) (by refine rG e.2.2.2 ?_;exact h5) h6 h7 ih
theorem Tr.f7(t:Tr N st)(c:Cl N cs st)(hR:Rest cs M)(hM:Cons M){P:Int->Prop}(hP: ∀(i j:Nat) l cl y,P l->st.aa[i]?=some l->at' st.aB l.natAbs=j->st.cls[j]?=some cl->y∈cl->y≠l->P (-y))(hd: ∀(i:Nat) l,st.aa[i]?=some l->(i:Int)∈st.ah->P l->l∈M): ∀x,x∈st.aa->P x->x∈M:=by
 haveI main: ∀(i:Nat) (l:Int),st.aa[i]?=some l->P l->l∈M:=by
  intro i
  induction i using Nat.strongRecOn with
  |_ i ih=>
   intro l hl JR;rcases t.aB i l hl with ⟨_,q⟩|⟨_,j,cl,h0,h1,h2,h3⟩
   .exact hd i l hl q JR
   .refine ab (c.rel j cl h1) λc0 gV hp=>?_;have lR: ∀x,x∈c0->x≠l-> -x∈M:=λx hx ne=>by
     have eH:=hp.mem_iff.mpr hx;haveI:=h3 x eH ne;refine ag (List.mem_iff_getElem?.mp this) λq hq=>?_;haveI aS:=(List.getElem?_eq_some_iff.mp hq).1;replace aS:=ku▸aS;haveI hq:=(nq (by exact lu aS))▸hq;exact ih q (by exact lu aS) _ hq (hP i j l cl x JR hl h0 h1 eH ne)
    rcases hR c0 (bd gV) with ⟨y,hy,fM⟩|⟨y,z,hy,hz,ne,fM,vR⟩
    .by_cases e:y=l
     .refine rB e ?_;exact fM
     .exact absurd (lR y hy e) (hM y fM)
    .by_cases e:y=l
     .exact absurd (lR z hz (λw=>ne (e.trans w.symm))) vR
     .exact absurd (lR y hy e) fM
 intro x hx oz;refine ag (List.mem_iff_getElem?.mp hx) λi hi=>?_;exact main i x hi oz
theorem adB(E:Env C)(a:ac co pr lay st H)(k:Q (.tup (st.failed.map V.int)) H):aM C (n+1) (.con (.ref 438)) [.ref co] Q H:=by
 refine E.iN rfl ?_;walk_at"ws";exact k
theorem adC(E:Env C)(a:ac co pr lay st H)(k:Q (mS st.dK) H):aM C (n+1) (.con (.ref 445)) [.ref co] Q H:=by
 refine E.iN rfl ?_;walk_at"ws";refine a.attr rfl rfl (adt _) ?_;exact k
theorem adD(E:Env C)(a:ac co pr lay st H)(q:Quiet N cs st)(hh:st.head=st.aa.length)(kd:st.cls.length=cs.length)(u:bV N cs b st)(s9:b+1<=40)(pL:fY N st.seen [])
  {dY rd rs rg:Ref} (bj:H dY=some (.list (cs.map cE))) (nh:H rd=some (iL D)) (jG:H rs=some (iL Su)) (oy:H rg=some (.dict es)) (gv:dY.t<100) (td:rd.t<100) (ts:rs.t<100) (tg:rg.t<100)
  (hD: ∀(i:Nat) l,st.aa[i]?=some l->(l∈D↔(i:Int)∈st.ah)) (hS: ∀(i:Nat) l,st.aa[i]?=some l->(l∈Su↔ ∀s,s∈st.ah->(i:Int)<s))
  (hG: ∀l,l∈st.aa->lZ st D H es l) (hl:l∈st.aa)
  (k: ∀H' ae,ac co pr lay ae H'->bF H H'->(∃aQ r af seen failed dK,ae=((((((st.gr aQ).mQ r).i5 af).dU seen).f9 failed).ga dK))->ae.aQ.length=st.aQ.length->fY N ae.seen []->bV N cs (b+1) ae->Q (.bool true) H'):
  aM C (n+11) (.con (.ref 756)) [.ref co,.ref pr,.ref dY,.int N,.int l,.ref rg,.ref rs,.ref rd] Q H:=by
 have d:=q.aT;have t:=q.tr;have c:=q.cl;have hN:=d.big;refine ag (List.mem_iff_getElem?.mp hl) λi0 h0=>?_;have hL:=t.bq l hl;haveI hlb:=hL.2;have lY:cs.length<60:=by haveI:=d.cls;exact Qd kd this
 have pN: ∀c0,c0∈cs->GoodC N c0:=λc0 h=>by
  refine ag (List.mem_iff_getElem?.mp h) λkk hk=>?_;exact c.good kk c0 hk
 refine E.aar rfl ?_;walk_at"ws";refine a.xE (x:=[]) λH1 a1 k1=>?_;walk_at"ws";refine a1.Bk (x:=none) λH2 a2 k2=>?_;walk_at"ws";haveI u2:bV N cs b ((st.f9 []).ga none):=⟨u.af,u.aW,u.r0,u.us,u.un,u.cnt⟩;haveI t2:Tr N ((st.f9 []).ga none):=t.perm ⟨rfl,rfl,rfl,rfl,rfl,rfl⟩ λk c hc=>⟨c,hc,.refl _⟩;haveI d2:bU N ((st.f9 []).ga none):=⟨d.big,d.asg,d.lvl,d.aB,d.bk,d.bB,d.seen,d.aQ,d.aq,d.aa,d.ah,d.cls,d.aW,d.act,d.bS,d.af,d.hp⟩;haveI c2:Cl N cs ((st.f9 []).ga none):=⟨c.rel,c.good⟩;refine acm E a2 d2 t2 c2 u2 s9 pL h0 λH3 ig a3 k3 ff=>?_;have pK:bF H H3:=(a.keep (k1.trans k2)).trans k3;walk_at"ws";refine adB E a3 ?_;walk_at"ws";refine adC E a3 ?_;walk_at"ws";haveI adE:=pK _ _ td nh;haveI Cs:=pK _ _ ts jG;haveI adF:=pK _ _ tg oy;haveI j7:=pK _ _ gv bj;have Ct: ∀H4,am H3 H4->Q (.bool true) H4:=λH4 k4=>by
  refine oC ff.eq λun r pf se fa ft e=>?_;refine k H4 ig (a3.bx k4) (pK.trans k4.keep) ⟨un,r,pf,se,fa,ft,by exact rG e rfl⟩ ?_ ff.seen ff.lf;haveI:=ff.len;exact this
 have JS:=ff.lf.af;have fy:ig.af.steps.length<60:=by
  haveI h1:=ff.lf.cnt.1;haveI h2:=ff.lf.r0.2.1;refine oC ff.eq λun r pf se fa ft e=>?_;haveI h3:ig.aa=st.aa:=by exact rG e rfl
  haveI h2:=h3▸h2;haveI:=d.aa;exact Qb s9 hN h1 h2 this
 walk_at"ws";refine sJ (as:=D) adE ?_;walk_at"ws";refine aJ (λhd=>?_) (λhd=>?_)
 .
  rw[bf] at hd;haveI i8:=(hD i0 l h0).mp hd;refine aE (ff.dec i8) λhf ht=>?_;rw[hf,show ig.dK=none from ht];walk_at"ws";haveI bN:[l,-l].Nodup:=by
   rw[kB,cx];exact⟨by haveI:=hL.1;exact Qa this,List.nodup_cons.mpr ⟨dp,eD⟩⟩
  refine Hn (ns:=[l,-l]) (by simp) λje eX dW=>alloc 30 λr1 dX U=>?_;walk_at"ws";refine alloc 31 λr2 bZ U=>?_;refine w6 (ns:=[l,-l]) (aI _ _ _) (by simp) λni cB ic=>alloc 32 λr3 dA U=>?_;haveI e1:=am.fresh (o:=iL ni) dA _ _ (am.fresh (o:=.list [.int l,.int (-l)]) bZ _ _ (aI H3 r1 (iL je)));haveI ne:r1≠r3:=some_ne_none (am.fresh (o:=.list [.int l,.int (-l)]) bZ _ _ (aI H3 r1 (iL je))) dA;refine aap ne e1 (aI _ _ _) ?_;haveI:je=ni:=yA dW ic (eX.nodup_iff.mpr bN) (cB.nodup_iff.mpr bN) λx=>by rw[eX.mem_iff,cB.mem_iff]
  walk_at"ws";refine aJ (λU=>?_) (λh=>by rw[ct] at h;exact absurd this h);walk_at"ws";exact Ct _ ((am.fresh dX).trans ((am.fresh bZ).trans (am.fresh dA)))
 rw[ct] at hd;haveI te:(i0:Int)∉st.ah:=λz=>hd ((hD i0 l h0).mpr z);walk_at"ws";refine sJ (as:=Su) Cs ?_;walk_at"ws";refine aJ (λv8=>?_) (λv8=>?_)
 .
  rw[bf] at v8;refine aE (ff.root ((hS i0 l h0).mp v8)) λhf cj=>?_;refine dN cj λs p ht fJ ou pI=>?_;refine rG hf (rG ht ?_);walk_at"ws";refine ZA (as:=[-l]) (bs:=[-l]) ?_;walk_at"ws";refine aJ (λU=>?_) (λh=>by simp at h);walk_at"ws";refine JO (n:=n+6) (f:=[-l]) E a3 hN JS fy pN lY j7 (by simp) (λx hx=>by refine rG (List.mem_singleton.mp hx) ?_;exact hL.neg) (List.nodup_cons.mpr ⟨dp,eD⟩) fJ ou (by refine rG pI ?_;exact pZ _ _) (λx=>by refine rG pI (rI cx (rI cx ?_));exact P9) λH4 k4=>?_;walk_at"ws";exact Ct H4 k4
 rw[ct] at v8;obtain ⟨s1,dW,qS⟩: ∃s,s∈st.ah/\s<=i0:=by
  apply jL;intro z;refine v8 ((hS i0 l h0).mpr λs hs=>?_);apply jL;intro w;exact z ⟨s,hs,by exact zo w⟩
 refine Ks (ff.imp te ⟨s1,dW,qS⟩) λds s p hf lj th ht fJ ou hpS ln=>?_;refine rG hf (rG ht ?_);haveI adH: ∀x,dC ((st.f9 []).ga none) l x↔dC st l x:=λx=>⟨dC.congr (st:=((st.f9 []).ga none)) (ae:=st) ⟨rfl,rfl,rfl,rfl⟩,dC.congr (st:=st) (ae:=((st.f9 []).ga none)) ⟨rfl,rfl,rfl,rfl⟩⟩;have Cu: ∀x,x∈ds↔x∈D/\dC st l x:=λx=>by
  refine rI (th _) (rI (adH _) ?_);constructor
  .intro o2;refine aE o2 λo3 h3=>?_;refine ab o3 λi h1 h2=>?_;exact⟨(hD i x h1).mpr h2,h3⟩
  .intro o4;refine aE o4 λh1 h3=>?_;haveI hx:x∈st.aa:=by
    refine dC.closed (P:=λx=>x∈st.aa) (λl y i j c s U c1 c2 c3 c4 c5 c6 c7=>?_) h3 hl;refine b9 (t.ahead c1 c4 c5) λU U lh=>?_;refine ab (lh y c6 c7) λp U hp=>?_;exact bd hp
   refine ag (List.mem_iff_getElem?.mp hx) λi hi=>?_;exact⟨⟨i,hi,(hD i x hi).mp h1⟩,h3⟩
 have s8: ∀x,x∈ds->x∈st.aa:=λx hx=>by refine aE ((th x).mp hx) λo5 U=>?_;refine ab o5 λi h1 U=>?_;exact bd h1
 haveI ye: ∀x,x∈ds->x≠l:=λx hx e=>hd (e▸((Cu x).mp hx).1);have Cv:((-l::ds).map Int.natAbs).Nodup:=by
  refine rG dq (rI kB ?_);refine⟨λz=>?_,?_⟩
  .refine ab (List.mem_map.mp z) λx hx e=>?_;refine ag (List.mem_iff_getElem?.mp (s8 x hx)) λi hi=>?_;exact ye x hx (jd t.nd hi h0 (by haveI e:=(fB _)▸e;exact e)).2
  .unfold List.Nodup;refine rI eC ?_;refine ir ?_ lj;intro x y hx hy ne e;refine ag (List.mem_iff_getElem?.mp (s8 x hx)) λi hi=>?_;refine ag (List.mem_iff_getElem?.mp (s8 y hy)) λj hj=>?_;exact ne (jd t.nd hi hj e).2
 have Cw: ∀x,x∈ -l::ds->Lit N x:=λx hx=>by
  rcases List.mem_cons.mp hx with e|e
  .refine rG e ?_;exact hL.neg
  .exact t.bq x (s8 x e)
 have Cy:(-l::ds).length<=5:=sN Cv λx hx=>by haveI h1:=Cw x hx;haveI:=h1.2;exact⟨(eM this hN),h1.1⟩
 haveI yv:ds.length<=4:=by simpa using Cy
 refine tJ ((hG l hl).keep pK) λrl g ge1 ge2 ge3 ge4 ge5 ge6=>?_;have cL:((-l::ds).map V.int).length<aO:=by refine rG (au _) (rG lid ?_);exact aX Cy rfl
 walk_at"ws";refine ads cL (by decide) (by rw[au,fh];exact zp) ?_;walk_at"ws";refine A9 (as:=[-l]) (bs:=[-l]) ?_;walk_at"ws";refine aJ (λh=>by simp at h) (λU=>?_);walk_at"ws";refine JL cL (by decide) (by rw[au,fh];exact zp) ?_;refine Hn (ns:=ds) (aX yv rfl) λje eX adM=>alloc 30 λr1 dX U=>?_;haveI e1:upd H3 r1 (iL je) r1=some (iL je):=aI _ _ _;haveI k4:am H3 (upd H3 r1 (iL je)):=am.fresh dX;walk_at"ws";generalize upd H3 r1 (iL je)=H4 at e1 k4 ⊢;walk_at"ws";refine xw (k4 _ _ adF) ge1 ?_;refine w6 (ns:=g) (k4 _ _ ge2) (aX ge5 rfl) λni cB ic=>alloc 31 λr2 bZ U=>?_;refine Bm (some_ne_none e1 bZ) (am.fresh bZ _ _ e1) (aI _ _ _) ?_;haveI nS:je=ni:=yA adM ic (eX.nodup_iff.mpr lj) (cB.nodup_iff.mpr ge4) λx=>by rw[eX.mem_iff,cB.mem_iff,Cu,ge6]
 walk_at"ws";refine aJ (λh=>by (haveI h:=(gB _)▸h;rewrite [ct] at h);exact absurd nS h) (λU=>?_);have k5:=k4.trans (am.fresh (o:=iL ni) bZ);generalize upd H4 r2 (iL ni)=H5 at k5 ⊢;walk_at"ws";refine JL cL (by decide) (by refine rG (au _) (rG fh ?_);exact zp) ?_;refine yp (n:=n+9) (cs:=cs) (bg:=ds) E hN (.inr rfl) (k5 _ _ j7) (bI lY rfl) pN (λx hx=>Cw x (.tail _ hx)) (by haveI:=Cv;(haveI this:=dq▸this;rewrite [kB] at this);exact this.2) λH6 rk K br k6 U ek U hk=>?_;walk_at"ws";refine jX (v:=.ref rk) (by show 2<1000000;exact dO rfl) (by decide) rfl ?_;refine sJ (as:=K) ek ?_;haveI adN:=q.rest hh kd;refine aE (hk.Ce adN (λx hx=>t.con hx) s8) λfe ahI=>?_;haveI hKR:=hk.rest fe;haveI hlK:l∈K:=by
  refine t.f7 c hKR hk.ki.con (P:=λx=>dC st l x∨ ∃i:Nat,st.aa[i]?=some x/\ ∀s,s∈st.ah->(i:Int)<s) (λi j x cl y oz hx hr hc hy ne=>?_) (λi x hx hi oz=>?_) l hl (.inl (.refl l))
  .refine b9 (t.ahead hx hr hc) λU U lh=>?_;refine ab (lh y hy ne) λp hp qU=>?_;by_cases ow: ∀s,s∈st.ah->(i:Int)<s
   .exact .inr ⟨p,qU,λs hs=>by haveI:=ow s hs;exact P8 hp this⟩
   .obtain ⟨s,hs,hsi⟩: ∃s,s∈st.ah/\s<=i:=by
     apply jL;intro z;exact ow λs hs=>by
      apply jL;intro w;exact z ⟨s,hs,by exact zo w⟩
    rcases oz with oz|⟨i',ce,Cz⟩
    .exact .inl (oz.snoc hx hs hsi hr hc hy ne)
    .haveI:=get_inj (fV t.nd) ce hx;subst this;exact absurd Cz ow
  .rcases oz with oz|⟨i',ce,Cz⟩
   .exact hk.ki.sub x ((Cu x).mpr ⟨(hD i x hx).mpr hi,oz⟩)
   .haveI:=get_inj (fV t.nd) ce hx;subst this;haveI:=Cz _ hi;exact(Ej this).elim
 walk_at"ws";refine aJ (λU=>?_) (λh=>by rw[ct] at h;exact absurd hlK h);walk_at"ws";refine JO (n:=n+6) (f:= -l::ds) E (a3.bx (k5.trans k6)) hN JS fy pN lY ((k5.trans k6) _ _ j7) Cy Cw Cv fJ ou hpS (λx=>?_) λH7 k7=>?_
 .refine rI (ln _) (rI gE ?_);constructor
  .intro o6;rcases o6 with e|⟨y,hy,e⟩
   .exact .inl (by exact P7 e)
   .exact .inr (by refine rG e (rG (hH _) ?_);exact hy)
  .intro o7;rcases o7 with e|e
   .exact .inl (by exact P6 e)
   .exact .inr ⟨-x,e,by exact rG (hH _) rfl⟩
 .walk_at"ws";exact Ct H7 (k5.trans (k6.trans k7))
end
structure Lv(st:St):Prop where
 pw:st.ah.Pairwise (· < ·)
 lt: ∀s,s∈st.ah->0<=s/\s<st.aa.length
theorem Lv.len{st:St}(h:Lv st):st.ah.length<=st.aa.length:=by
 haveI:(st.ah.map Int.toNat).length<=st.aa.length:=by
  refine kW _ _ ?_ ?_
  .unfold List.Nodup;refine rI eC ?_;refine ir ?_ h.pw;intro a b ha hb lL e;exact R7 lL e (h.lt a ha) (h.lt b hb)
  .intro x hx;refine ab (List.mem_map.mp hx) λy hy o1=>?_;subst o1;haveI:=h.lt y hy;exact wj this
 rwa [au] at this
noncomputable def l4(st:St):St:=(st.pq (st.ah++[(st.aa.length:Int)]))
section
variable{N b:Nat}{cs:List (List Int)}{st:St}{l:Int}
theorem JT(d:bU N st)(t:Tr N st)(lv:Lv st)(hl:Lit N l)(hn:l∉st.aa/\ -l∉st.aa):bU N (l4 st):=by
 haveI h1:=(d.cK t (c:=0) hl hn).aa;haveI h2:(st.aa++[l]).length<=N:=h1;haveI h2:=cV▸bm▸h2;haveI h3:=lv.len;exact⟨d.big,d.asg,d.lvl,d.aB,d.bk,d.bB,d.seen,d.aQ,d.aq,d.aa,by refine(?_:(st.ah++[_]).length<=N);refine rG bm (rG cV ?_);exact l9 h3 h2,d.cls,d.aW,d.act,d.bS,d.af,d.hp⟩
theorem pO:x∈(l4 st).ah↔x∈st.ah∨x=st.aa.length:=by refine(?_:x∈st.ah++[_]↔_);rw[dG,cx]
theorem adR(t:Tr N st):Tr N (l4 st):=by
 refine⟨t.bq,t.nd,t.asg,t.bk,λi x hx=>?_,⟨?_,λs hs=>?_⟩,λi x hx=>?_⟩
 .haveI hi:i<st.aa.length:=(List.getElem?_eq_some_iff.mp hx).1;refine(?_:at' st.lvl x.natAbs=((mV (st.ah++[(st.aa.length:Int)]) i:Nat):Int));unfold mV;refine rG (oJ _ _) (rG md (rG (ax (by rw[bf];exact QA hi)) (rG nF (rG (f5 _) ?_))));exact t.lvl i x hx
 .refine(?_:(st.ah++[_]).Pairwise _);refine rI rF ?_;exact⟨t.ah.1,pZ _ _,λa ha b hb=>by refine rG (List.mem_singleton.mp hb) ?_;exact(t.ah.2 a ha).2⟩
 .rcases pO.mp hs with h|h
  .exact t.ah.2 s h
  .refine rG h ?_;exact⟨aC _,Int.le_refl _⟩
 .haveI hi:i<st.aa.length:=(List.getElem?_eq_some_iff.mp hx).1;rcases t.aB i x hx with ⟨q1,q2⟩|⟨q1,q2⟩
  .exact .inl ⟨q1,pO.mpr (.inl q2)⟩
  .refine .inr ⟨λh=>?_,q2⟩;rcases pO.mp h with h|h
   .exact q1 h
   .exact Ew hi h
theorem adS(q:Quiet N cs st)(hh:st.head=st.aa.length)(lv:Lv st)(hl:Lit N l)(hn:l∉st.aa/\ -l∉st.aa):Quiet N cs (cK (l4 st) l (-1))/\Lv (cK (l4 st) l (-1)):=by
 haveI d1:=JT q.aT q.tr lv hl hn;haveI t1:=adR q.tr;haveI qh:=q.qh;rw[hh,bO,ko] at qh;haveI mem: ∀x,x∈(cK (l4 st) l (-1)).aa↔x∈st.aa∨x=l:=λx=>by refine(?_:x∈st.aa++[l]↔_);rw[dG,cx]
 refine⟨⟨⟨d1.cK t1 hl hn,t1.cK d1 hl hn (.inl ⟨rfl,pO.mpr (.inr rfl)⟩),⟨q.cl.rel,q.cl.good⟩,q.w,λs hs=>?_,λk a h=>(mem a).mpr (.inl (q.qu k a h))⟩,⟨?_,?_⟩,λs hs=>?_,?_⟩,⟨?_,λs hs=>?_⟩⟩
 .refine(?_:iP _ ((st.aa++[l]).take s.toNat) ((st.aa++[l]).take s.toNat)/\kY _ ((st.aa++[l]).take s.toNat));rcases pO.mp hs with h|h
  .haveI:=lv.lt s h;refine rG (wC (by exact Qz this.2)) ?_;exact q.qs s h
  .rw[h,bO,List.take_left']
   .exact⟨qh,q.qu⟩
   .rfl
 .refine(?_:0<=st.head);refine rG hh ?_;exact aC _
 .refine(?_:st.head<=((st.aa++[l]).length:Nat));refine rG hh (rG bm ?_);exact Qy
 .refine(?_:s<=st.head);rcases pO.mp hs with h|h
  .haveI:=lv.lt s h;exact Qx hh this.2
  .exact Qw hh h
 .refine(?_:iP _ ((st.aa++[l]).take st.head.toNat) (st.aa++[l]));refine rG hh (rG (bO _) (rG (List.take_left' rfl) ?_));intro k a b r hc;haveI:=qh k a b r hc;exact⟨λz=>List.mem_append.mpr (.inl (this.1 z)),λz=>List.mem_append.mpr (.inl (this.2 z))⟩
 .refine(?_:(st.ah++[_]).Pairwise _);refine rI rF ?_;exact⟨lv.pw,pZ _ _,λa ha b hb=>by refine rG (List.mem_singleton.mp hb) ?_;exact(lv.lt a ha).2⟩
 .refine(?_:0<=s/\s<((st.aa++[l]).length:Nat));refine rG bm (rG cV ?_);rcases pO.mp hs with h|h
  .haveI:=lv.lt s h;exact Qu this.1 this.2
  .exact Qt h
theorem JU(u:bV N cs b st):bV N cs b (cK (l4 st) l (-1)):=by
 haveI hr:=u.r0;refine u.move ⟨rfl,rfl,rfl,rfl⟩ rfl (λi hi=>?_) ⟨?_,λs hs=>?_⟩
 .refine(?_:(st.aa++[l])[i]?=_);exact rG (gi (by exact D6 hr.2.1 hi)) rfl
 .refine(?_:st.cq<=((st.aa++[l]).length:Nat));refine rG bm ?_;exact D5 hr.2.1
 .rcases pO.mp hs with h|h
  .exact hr.2.2 s h
  .refine rG h ?_;exact hr.2.1
theorem adT(q:Base N cs st)(hd:st.head=st.aa.length)(hs:st.ah=ss++[s0])(lv:Lv st)(p:BC N st ss s0 ae):Quiet N cs ae/\ae.head=ae.aa.length/\Lv ae/\ae.aa=st.aa.take s0.toNat/\ae.ah=ss/\(∀b,bV N cs b st->bV N cs b ae)/\ae.cls=st.cls/\ae.seen=st.seen:=by
 refine yZ p.eq λasg aB bB told o2=>?_;subst o2;have h0:=lv.lt s0 (by refine rG hs ?_;simp);have pE: ∀s,s∈ss->s∈st.ah:=λs h=>by refine rG hs ?_;simp[h]
 have aS: ∀s,s∈ss->s<s0:=λs h=>by
  haveI:=lv.pw;(haveI this:=hs▸this;rewrite [rF] at this);exact this.2.2 s h s0 (.head _)
 have hlen:(st.aa.take s0.toNat).length=s0.toNat:=by refine rG ku ?_;exact Qs h0.2
 have v9: ∀{i:Nat} {x:Int},(st.aa.take s0.toNat)[i]?=some x->i<s0.toNat/\st.aa[i]?=some x:=λ{i x} h=>by
  haveI hi:=(List.getElem?_eq_some_iff.mp h).1;replace hi:=hlen▸hi;haveI h:=(nq hi)▸h;exact⟨hi,h⟩
 haveI d:=q.aT;have t:=q.tr;have CA: ∀{i:Nat} {x:Int},i<s0.toNat->st.aa[i]?=some x->x.natAbs∉(st.aa.drop s0.toNat).map Int.natAbs:=λ{i x} hi hx z=>by
  refine ab (List.mem_map.mp z) λy hy e=>?_;refine ag (List.mem_iff_getElem?.mp hy) λj hj=>?_;haveI hj:=(List.getElem?_drop)▸hj;haveI:=(jd t.nd hx hj e.symm).1;exact(Qr hi this).elim
 haveI pa:=p.asg;haveI bN:((st.aa.take s0.toNat).map Int.natAbs).Nodup:=by
  refine rG List.map_take ?_;exact t.nd.sublist (List.take_sublist _ _)
 haveI d':bU N (((((((st.i4 asg).jY aB).mP bB).qE (st.aa.take s0.toNat)).pq ss).w_head ((if s0<st.head then s0 else st.head))).va told):=
  ⟨d.big,p.la,d.lvl,p.lr,d.bk,p.lp,d.seen,d.aQ,d.aq,by refine(?_:(st.aa.take _).length<=N);refine rG hlen ?_;haveI:=d.aa;exact Qq h0.2 this,by refine(?_:ss.length<=N);haveI h6:=d.ah;haveI h6:=bm▸hs▸h6;exact eT h6,d.cls,d.aW,d.act,d.bS,d.af,d.hp⟩
 haveI t':Tr N (((((((st.i4 asg).jY aB).mP bB).qE (st.aa.take s0.toNat)).pq ss).w_head ((if s0<st.head then s0 else st.head))).va told):=by
  refine⟨λx hx=>t.bq x (km hx),bN,λv ti h1=>?_,λi x hx=>t.bk i x (v9 hx).2,λi x hx=>?_,⟨?_,λs h=>?_⟩,λi x hx=>?_⟩
  .refine(?_:at' asg v=if v∈st.aa.take s0.toNat then 1 else if -v∈st.aa.take s0.toNat then -1 else 0);haveI hv:=pa v ti h1;haveI hv:at' asg v=if v.natAbs∈(st.aa.drop s0.toNat).map Int.natAbs then 0 else at' st.asg v:=hv
   refine rG hv (rG (t.asg v ti h1) ?_);by_cases z:v.natAbs∈(st.aa.drop s0.toNat).map Int.natAbs
   ·(refine rG (az z) ?_;rw[ax,ax])
    .intro w;refine ag (List.mem_iff_getElem?.mp w) λi hi=>?_;haveI:=v9 hi;haveI:=CA this.1 this.2;haveI this:=(fB _)▸this;exact this z
    .intro w;refine ag (List.mem_iff_getElem?.mp w) λi hi=>?_;haveI:=v9 hi;exact CA this.1 this.2 z
   .refine rG (ax z) ?_;have key: ∀x:Int,x.natAbs=v.natAbs->(x∈st.aa↔x∈st.aa.take s0.toNat):=λx hx=>by
     constructor
     .intro w;haveI w:=cX (List.take_append_drop s0.toNat st.aa)▸w;rcases List.mem_append.mp w with w|w
      .exact w
      .exact absurd (hx▸mc w) z
     .exact km
    simp only[key v rfl,key (-v) (fB v)]
  .haveI hi:=(v9 hx);haveI:=t.lvl i x hi.2;refine(?_:at' st.lvl x.natAbs=((mV ss i:Nat):Int));refine rG this (rG hs ?_);unfold mV;exact rG (oJ _ _) (rG md (rG (ax (by rw[bf];exact Qp hi.1)) (rG nF (rG (f5 _) rfl))))
  .haveI:=t.ah.1;(haveI this:=hs▸this;rewrite [rF] at this);exact this.1
  .refine(?_:0<=s/\s<=((st.aa.take s0.toNat).length:Nat));refine rG hlen ?_;exact R5 h0 (lv.lt s (pE s h)) (aS s h)
  .haveI hi:=v9 hx;haveI hr:at' aB x.natAbs=at' st.aB x.natAbs:=p.aB x.natAbs (by haveI:=(t.bq x (bd hi.2)).1;exact DV this) (by haveI:=(t.bq x (bd hi.2)).2;exact CX this) (by simpa using CA hi.1 hi.2);refine(?_:(at' aB x.natAbs= -1/\(i:Int)∈ss)∨((i:Int)∉ss/\ ∃(j:Nat) (c:List Int),at' aB x.natAbs=j/\st.cls[j]?=some c/\x∈c/\ ∀y,y∈c->y≠x-> -y∈(st.aa.take s0.toNat).take i));refine rG hr (rG List.take_take (rG (Nat.min_eq_left (by exact Qn hi.1)) ?_));rcases t.aB i x hi.2 with ⟨q1,q2⟩|⟨q1,q2⟩
   ·(haveI q2:=hs▸q2;rewrite [dG,cx] at q2)
    exact .inl ⟨q1,q2.resolve_right (by exact Qm hi.1)⟩
   .exact .inr ⟨λz=>q1 (pE _ z),q2⟩
 haveI hc:=q.qs s0 (by refine rG hs ?_;simp);have wa:(if s0<st.head then s0 else st.head)=s0:=by split<;>(first|exact Qk|exact(Ql hd h0.2 (by assumption)).elim)
 refine⟨⟨⟨d',t',⟨q.cl.rel,q.cl.good⟩,q.w,λs h=>?_,hc.2⟩,⟨?_,?_⟩,λs h=>?_,?_⟩,?_,⟨?_,λs h=>?_⟩,rfl,rfl,λb u=>?_,rfl,rfl⟩
 .refine(?_:iP _ ((st.aa.take s0.toNat).take s.toNat) ((st.aa.take s0.toNat).take s.toNat)/\kY _ ((st.aa.take s0.toNat).take s.toNat));haveI:=aS s h;haveI:=lv.lt s (pE s h);refine rG List.take_take (rG (Nat.min_eq_left (by exact Qj (by assumption))) ?_);exact q.qs s (pE s h)
 .refine(?_:0<=(if s0<st.head then s0 else st.head));refine rG wa ?_;exact h0.1
 .refine(?_:(if s0<st.head then s0 else st.head)<=((st.aa.take s0.toNat).length:Nat));refine rG wa (rG hlen ?_);exact Qi
 .refine(?_:s<=(if s0<st.head then s0 else st.head));refine rG wa ?_;haveI:=aS s h;exact oK this
 .refine(?_:iP _ ((st.aa.take s0.toNat).take (if s0<st.head then s0 else st.head).toNat) (st.aa.take s0.toNat));refine rG wa (rG List.take_take (rG (Nat.min_self _) ?_));exact hc.1
 .refine(?_:(if s0<st.head then s0 else st.head)=((st.aa.take s0.toNat).length:Nat));refine rG wa (rG hlen ?_);exact D3 h0.1
 .haveI:=lv.pw;(haveI this:=hs▸this;rewrite [rF] at this);exact this.1
 .refine(?_:0<=s/\s<((st.aa.take s0.toNat).length:Nat));refine rG hlen ?_;exact R4 h0 (lv.lt s (pE s h)) (aS s h)
 .haveI hr:=u.r0;refine u.move ⟨rfl,rfl,rfl,rfl⟩ rfl (λi hi=>?_) ⟨?_,λs h=>hr.2.2 s (pE s h)⟩
  .haveI:=hr.2.2 s0 (by refine rG hs ?_;simp);refine(?_:(st.aa.take s0.toNat)[i]?=_);exact rG (nq (by exact Qh hi this)) rfl
  .haveI:=hr.2.2 s0 (by refine rG hs ?_;simp);refine(?_:st.cq<=((st.aa.take s0.toNat).length:Nat));refine rG hlen ?_;exact Qg this
end
structure FAt(H:MH)(x:Ref)(Cl:Addr)(d:Ref)(L:List (String×V)):Prop where
 inst:H x=some (.inst Cl d)
 fj: ∃k fs,H d=some (.fj k fs)/\k<=L.length/\ ∀y,fs y=L.lookup y
structure l5(H0 H:MH)(x:Ref)(Cl:Addr)(d:Ref)(L:List (String×V))(O:List (Ref×dr)):Prop where
 ne:x≠d
 f:FAt H x Cl d L
 o: ∀p,p∈O->H p.1=some p.2/\p.1≠d/\p.1≠x
 fr: ∀r,r≠x->r≠d->(∀p,p∈O->r≠p.1)->H r=H0 r
section
variable{H0 H:MH}{x d:Ref}{Cl:Addr}{L:List (String×V)}{O:List (Ref×dr)}{K:MH->Prop}
theorem l5.new(n9:x≠d):l5 H (qA H Cl x d) x Cl d [] []:=by
 refine⟨n9,⟨aI _ _ _,0,λU=>none,?_,cG _,λU=>rfl⟩,λp hp=>absurd hp dp,λr h1 h2 U=>?_⟩
 .unfold qA;exact rG (aD n9.symm) (rG (aI _ _ _) rfl)
 .unfold qA;exact rG (aD h1) (rG (aD h2) rfl)
theorem l5.alloc(b:l5 H0 H x Cl d L O){o:dr}(hr:H r=none):l5 H0 (upd H r o) x Cl d L ((r,o)::O):=by
 refine bE b.f.fj λk fs e hk hf=>?_;have nx:r≠x:=λz=>by replace hr:=b.f.inst▸z▸hr;exact Sn hr
 have nd:r≠d:=λz=>by replace hr:=e▸z▸hr;exact Sn hr
 refine⟨b.ne,⟨(aD nx.symm).trans b.f.inst,k,fs,(aD nd.symm).trans e,hk,hf⟩,λp hp=>?_,λr' h1 h2 h3=>?_⟩
 .rcases List.mem_cons.mp hp with rfl|hp
  .exact⟨aI _ _ _,nd,nx⟩
  .refine aE (b.o p hp) λq1 q2=>?_;exact⟨(aD (λz=>by replace q1:=hr▸z▸q1;exact Ns q1)).trans q1,q2⟩
 .refine rG (aD (h3 _ (.head _))) ?_;exact b.fr r' h1 h2 λp hp=>h3 p (.tail _ hp)
theorem l5.set(b:l5 H0 H x Cl d L O){nm:String}{v:V}(hT:tabs.attr Cl nm=true)(hl:L.length<500)(k: ∀H',l5 H0 H' x Cl d ((nm,v)::L) O->K H'):fC tabs (.ref x) nm v K H:=by
 refine bE b.f.fj λn fs e hk hf=>?_;refine⟨x,Cl,d,n,fs,rfl,b.f.inst,e,hT,by exact QB hl hk,k _ ⟨b.ne,⟨(aD b.ne).trans b.f.inst,_,_,aI _ _ _,?_,λy=>?_⟩,λp hp=>?_,λr h1 h2 h3=>?_⟩⟩
 .simp only[fh];split<;>(first|exact jO hk|exact iU hk)
 .refine(?_:(if y=nm then some v else fs y)=_);refine rG gC ?_;by_cases q:y=nm
  .subst q;simp
  .refine rG (ax q) (rG (by simpa using q:(y==nm)=false) ?_);exact hf y
 .refine b9 (b.o p hp) λq1 q2 q3=>?_;exact⟨(aD q2).trans q1,q2,q3⟩
 .refine rG (aD h2) ?_;exact b.fr r h1 h2 h3
end
noncomputable def ov(L:List (Ref×dr))(H:MH):MH:=λr=>(L.lookup r).or (H r)
noncomputable def fl(l:List (String×V)):dr:=.fj l.length λy=>l.lookup y
theorem yC:upd (ov L H) r o=ov ((r,o)::L) H:=by
 funext x
 unfold upd ov;refine rG gC ?_;by_cases e:x=r
 .refine rG (az e) (rG e (rG (nD _) ?_));rfl
 .exact rG (ax e) (rG (by rw[beq_eq_false_iff_ne];exact e:(x==r)=false) rfl)
theorem gw(r:Ref)(hL:L.lookup r=none)(h:H r=none)(k:Q (.ref r) (ov ((r,o)::L) H)):cH o Q (ov L H):=
 .inl ⟨r,by unfold ov;refine rG hL (rG h ?_);rfl,by refine rG yC ?_;exact k⟩
theorem l6(h:L.lookup r=some o):ov L H r=some o:=by unfold ov;refine rG h ?_;rfl
theorem dc{Cl:Addr}{K:MH->Prop}(h1:L.lookup x=some (.inst Cl d))(h2:L.lookup d=some (fl l))(hn:l.lookup nm=none)(hT:tabs.attr Cl nm=true)(hl:Nat.blt l.length 900=true)(k:K (ov ((d,fl ((nm,v)::l))::L) H)):fC tabs (.ref x) nm v K (ov L H):=by
 refine⟨x,Cl,d,_,_,rfl,l6 h1,l6 h2,hT,Nat.blt_eq.mp hl,?_⟩;rw[hn,yC,show (λy=>if y=nm then some v else l.lookup y)=λy=>((nm,v)::l).lookup y by
  funext y;rw[gC]
  by_cases e:y=nm
  .rw[az e,e,nD]
  .rw[ax e,show (y==nm)=false by rw[beq_eq_false_iff_ne];exact e]]
 exact k
theorem JV(ok:C.Ok){Cl fI:Addr}(x d:Ref)(hm:n8 C.K Cl fI=true)(hL:L.lookup x=none/\L.lookup d=none)(hx:H x=none)(hd:H d=none)(n9:x≠d)
  (h:jw C n (.con (.ref fI)) (.ref x::args) (λv H'=>v=.none/\Q (.ref x) H') (ov ((x,.inst Cl d)::(d,fl [])::L) H)):aM C (n+1) (.con (.ref Cl)) args Q (ov L H):=by
 refine Ho ok x d hm (by unfold ov;refine rG hL.1 (rG hx ?_);rfl) (by unfold ov;refine rG hL.2 (rG hd ?_);rfl) n9 ?_;unfold qA;refine rG yC (rG yC ?_);exact h
theorem wb(P:Nat->Bool)(hr:P r.t=true)(q:L.all (λp=>!P p.1.t)=true):ov L H r=H r:=by
 haveI:L.lookup r=none:=by
  induction L with
  |nil=>rfl
  |cons p L ih=>
   haveI q:(!P p.1.t)=true/\L.all (λp=>!P p.1.t)=true:=fN q;exact rG gC (rG (by rw[beq_eq_false_iff_ne];intro e;rw[<-e,hr] at q;exact lw q.1:(r==p.1)=false) (rG (ih q.2) rfl))
 unfold ov;refine rG this ?_;rfl
theorem JW{y:String}: ∀{L:List (String×V)},y∉L.map (·.1)->L.lookup y=none
 |[],_=>rfl
 |(a,v)::L,h=>by
  (replace h:=dq▸h;rewrite [gE,not_or] at h)
  refine rG gC (rG (by simpa using h.1:(y==a)=false) ?_);exact JW h.2
theorem JX: ∀{A B:List (String×V)},(A++B).lookup y=(A.lookup y).or (B.lookup y)
 |[],B=>by simp
 |(a,v)::A,B=>by
  refine rG List.cons_append (rG gC (rG gC ?_));cases y==a
  .exact JX
  .rfl
theorem adV{y a:String}{v:V}:List.lookup y [(a,v)]=if y=a then some v else none:=by
 by_cases e:y=a
 .subst e;simp
 .refine rG gC (rG (by simpa using e:(y==a)=false) (rG (ax e) ?_));rfl
theorem yD{y:String}: ∀{L:List (String×V)},(L.map (·.1)).Nodup->L.reverse.lookup y=L.lookup y
 |[],_=>rfl
 |(a,v)::L,h=>by
  (replace h:=dq▸h;rewrite [kB] at h)
  refine rG nC (rG JX (rG (yD h.2) (rG adV (rG gC ?_))));by_cases e:y=a
  .subst e;refine rG (JW h.1) (rG (az rfl) ?_);simp
  .exact rG (ax e) (rG (by simpa using e:(y==a)=false) (rG Option.or_none rfl))
structure yE(C:Cfg):Prop extends Env C where
 mkProof:n8 C.K 713 604=true
 adW:n8 C.K 201 93=true
 adX:n8 C.K 561 410=true
 adY:pc C.K 93 ["self", "limit"] AY=true
 dy:xn C.K 93 "self" "limit" 1000000000000=true
 adZ:pe C.K 410 ["self", "proof", "hook"]=true
 sup: ∃fd,jV C.K 410=some fd/\xi C 410 ["self", "proof", "hook"] [.var "hook"] (HA.drop 1) 561 561 247 "__init__" fd
section
variable{C:Cfg}{n:Nat}{H:MH}{Q:PV}
theorem ad0(E:yE C){x d:Ref}(hx:H x=none)(hd:H d=none)(n9:x≠d)
  (k: ∀H' r1 r2,r1.t=123->r2.t=124->l5 H H' x 713 d [("empty",.int (-1)),("named",.ref r2),("steps",.ref r1)] [(r2,.list [.int 0]),(r1,.list [])]->Q (.ref x) H'):aM C (n+2) (.con (.ref 713)) [] Q H:=by
 refine Ho E.ok x d E.mkProof hx hd n9 ?_;refine E.aaq rfl ?_;haveI b0:l5 H (qA H 713 x d) x 713 d [] []:=l5.new n9;walk_at"ws";refine alloc 123 λr1 dX CB=>?_;haveI b1:=b0.alloc (o:=.list []) dX;walk_at"ws";refine b1.set rfl (by decide) λH2 b2=>?_;walk_at"ws";refine alloc 124 λr2 bZ qK=>?_;haveI b3:=b2.alloc (o:=.list [.int 0]) bZ;walk_at"ws";refine b3.set rfl (by refine(?_:1<500);exact dO rfl) λH4 b4=>?_;walk_at"ws";refine b4.set rfl (by refine(?_:2<500);exact dO rfl) λH5 b5=>?_;exact⟨rfl,k H5 r1 r2 CB qK b5⟩
end
noncomputable def gh(k:Nat):St:={asg:=List.replicate (k+1) 0,lvl:=List.replicate (k+1) 0,aB:=List.replicate (k+1) (-1),bk:=List.replicate (k+1) 0,bB:=List.replicate (k+1) (-1),aq:=List.replicate (2*k+2) [],bY:=List.replicate (k+1) 0,bW:=(List.range k).map λ(q:Nat)=>(q:Int)+1,bR:= -1::(List.range k).map λ(q:Nat)=>(q:Int),aa:=[],ah:=[],head:=0,told:=0,cls:=[],aW:=[],bS:=[],act:=[],seen:=List.replicate (k+1) false,aQ:=List.replicate (k+1) none,cq:=0,gP:=true,emp:=none,failed:=[],dK:=none,af:=⟨[],-1⟩}
noncomputable def ad1:List String:=["hook", "assigns", "levels", "reasons", "spots", "phases", "watches", "heap", "trail", "starts", "head", "told", "clauses", "steps", "droppable", "activities", "learnt_count", "proof", "seen", "unit_steps", "rooted", "is_ok", "empty_step", "failed", "failed_at", "conflict_limit", "conflicts", "decisions"]
theorem ad2:ad1.Nodup:=by decide
noncomputable def heapNames:List String:=["limit", "step", "activity", "heap", "place"]
theorem ad3:heapNames.Nodup:=by decide
@[reducible] noncomputable def JY(t:Nat):Prop:=t=100∨t=102∨(104<=t/\t<=122)∨t=200∨t=202
noncomputable def tq(l7 im io:Ref):Sl->Ref
 | .gQ=>l7
 | .jZ=>im
 | .named=>io
 |s=>⟨cJ s,0⟩
section
variable{C:Cfg}{n:Nat}{H:MH}{Q:PV}{pr:Ref}
theorem ad4(E:yE C)(JZ:pr.t=101)(eX:l7.t=103)(cB:im.t=123)(vB:io.t=124)(hpi:H pr=some (.inst 713 l7))(hpf:dj H l7 [("steps",.ref im),("named",.ref io),("empty",.int (-1))])(hps:H im=some (.list []))(BS:H io=some (.list [.int 0]))
  (eF: ∀r,JY r.t->H r=none)
  (k: ∀H' co lay,co.t=100->ac co pr lay (gh 0) H'->bF H H'->Q (.ref co) H'):aM C (n+8) (.con (.ref 561)) [.ref pr,.none] Q H:=by
 change aM C (n+8) (.con (.ref 561)) [.ref pr,.none] Q (ov [] H)
 refine JV E.ok ⟨100,0⟩ ⟨102,0⟩ E.adX ⟨rfl,rfl⟩ (eF _ (by decide)) (eF _ (by decide)) (by decide) ?_;refine ab E.sup λfd e X=>?_;refine Xk (n:=n+6) (T:=tabs) (hX:=[.ref ⟨100,0⟩,.ref pr,.none]) (xr:=⟨100,0⟩) (d:=⟨102,0⟩) E.ok E.tok X rfl (AA E.adZ e rfl) rfl (by decide) rfl (l6 rfl) (l6 rfl) ?_;refine(?_:eV C tabs (n+6) (set (set (set em "self" (.ref ⟨100,0⟩)) "proof" (.ref pr)) "hook" .none) [.var "hook"] [] _ _);walk_at"ws";refine E.Bn rfl ?_;walk_at"ws";refine dc rfl rfl rfl rfl rfl ?_;walk_at"ws";refine gw ⟨109,0⟩ rfl (eF _ (by decide)) ?_;walk_at"ws";refine dc rfl rfl rfl rfl rfl ?_;walk_at"ws";refine gw ⟨110,0⟩ rfl (eF _ (by decide)) ?_;walk_at"ws";refine dc rfl rfl rfl rfl rfl ?_;walk_at"ws";refine gw ⟨111,0⟩ rfl (eF _ (by decide)) ?_;walk_at"ws";refine dc rfl rfl rfl rfl rfl ?_;walk_at"ws";refine gw ⟨112,0⟩ rfl (eF _ (by decide)) ?_;walk_at"ws";refine dc rfl rfl rfl rfl rfl ?_;walk_at"ws";refine gw ⟨113,0⟩ rfl (eF _ (by decide)) ?_;walk_at"ws";refine dc rfl rfl rfl rfl rfl ?_;walk_at"ws";refine gw ⟨200,0⟩ rfl (eF _ (by decide)) ?_;walk_at"ws";refine gw ⟨202,0⟩ rfl (eF _ (by decide)) ?_;walk_at"ws";refine gw ⟨114,0⟩ rfl (eF _ (by decide)) ?_;walk_at"ws";refine dc rfl rfl rfl rfl rfl ?_;walk_at"ws";refine JV E.ok ⟨104,0⟩ ⟨105,0⟩ E.adW ⟨rfl,rfl⟩ (eF _ (by decide)) (eF _ (by decide)) (by decide) ?_;refine ab (Az E.adY) λV0 e' X'=>?_;refine GC (hX:=[.ref ⟨104,0⟩,.int 1000000000000]) E.ok E.tok X' rfl (XB E.dy e') ?_;refine(?_:bo C tabs _ AY _ (set (set em "self" (.ref ⟨104,0⟩)) "limit" (.int 1000000000000)) _);walk_at"ws";refine dc rfl rfl rfl rfl rfl ?_;walk_at"ws";refine dc rfl rfl rfl rfl rfl ?_;walk_at"ws";refine gw ⟨106,0⟩ rfl (eF _ (by decide)) ?_;walk_at"ws";refine dc rfl rfl rfl rfl rfl ?_;walk_at"ws";refine gw ⟨107,0⟩ rfl (eF _ (by decide)) ?_;walk_at"ws";refine dc rfl rfl rfl rfl rfl ?_;walk_at"ws";refine gw ⟨108,0⟩ rfl (eF _ (by decide)) ?_;walk_at"ws";refine dc rfl rfl rfl rfl rfl ?_;walk_at"ws";refine⟨rfl,?_⟩;walk_at"ws";refine dc rfl rfl rfl rfl rfl ?_;walk_at"ws";refine gw ⟨115,0⟩ rfl (eF _ (by decide)) ?_;walk_at"ws";refine dc rfl rfl rfl rfl rfl ?_;walk_at"ws";refine gw ⟨116,0⟩ rfl (eF _ (by decide)) ?_;walk_at"ws";refine dc rfl rfl rfl rfl rfl ?_;walk_at"ws";refine dc rfl rfl rfl rfl rfl ?_;walk_at"ws";refine dc rfl rfl rfl rfl rfl ?_;walk_at"ws";refine gw ⟨117,0⟩ rfl (eF _ (by decide)) ?_;walk_at"ws";refine dc rfl rfl rfl rfl rfl ?_;walk_at"ws";refine gw ⟨118,0⟩ rfl (eF _ (by decide)) ?_;walk_at"ws";refine dc rfl rfl rfl rfl rfl ?_;walk_at"ws";refine gw ⟨119,0⟩ rfl (eF _ (by decide)) ?_;walk_at"ws";refine dc rfl rfl rfl rfl rfl ?_;walk_at"ws";refine gw ⟨120,0⟩ rfl (eF _ (by decide)) ?_;walk_at"ws";refine dc rfl rfl rfl rfl rfl ?_;walk_at"ws";refine dc rfl rfl rfl rfl rfl ?_;walk_at"ws";refine(?_:bo C tabs (n+6) _ _ _ _);refine rG oH (rG ly ?_);walk_at"ws";refine dc rfl rfl rfl rfl rfl ?_;walk_at"ws";refine gw ⟨121,0⟩ rfl (eF _ (by decide)) ?_;walk_at"ws";refine dc rfl rfl rfl rfl rfl ?_;walk_at"ws";refine gw ⟨122,0⟩ rfl (eF _ (by decide)) ?_;walk_at"ws";refine dc rfl rfl rfl rfl rfl ?_;walk_at"ws";refine dc rfl rfl rfl rfl rfl ?_;walk_at"ws";refine dc rfl rfl rfl rfl rfl ?_;walk_at"ws";refine dc rfl rfl rfl rfl rfl ?_;walk_at"ws";refine dc rfl rfl rfl rfl rfl ?_;walk_at"ws";refine dc rfl rfl rfl rfl rfl ?_;walk_at"ws";refine dc rfl rfl rfl rfl rfl ?_;walk_at"ws";refine dc rfl rfl rfl rfl rfl ?_;walk_at"ws";refine dc rfl rfl rfl rfl rfl ?_;walk_at"ws";refine⟨rfl,?_⟩;haveI ahJ:=eF;refine k _ ⟨100,0⟩ (tq l7 im io) rfl ⟨rfl,JZ,λs=>?_,l6 rfl,⟨_,_,l6 rfl,Nat.blt_eq.mp rfl,λy=>?_⟩,?_,?_,l6 rfl,⟨_,_,l6 rfl,Nat.blt_eq.mp rfl,λy=>?_⟩,λs o he=>?_⟩ λr o ht h=>?_
 .cases s with
  |gQ=>exact eX
  |jZ=>exact cB
  |named=>exact vB
  |_=>rfl
 .exact yD (L:=iK pr (tq l7 im io) (gh 0)) ad2
 .exact(wb (Nat.beq 101) (by refine rG JZ ?_;rfl) rfl).trans hpi
 .refine bE hpf λkp fp ep CC CD=>?_;exact⟨kp,fp,(wb (Nat.beq 103) (by refine rG (eX:(tq l7 im io .gQ).t=103) ?_;rfl) rfl).trans ep,CC,CD⟩
 .exact yD (L:=sG (tq l7 im io)) ad3
 .cases s with
  |jZ=>cases he;exact(wb (Nat.beq 123) (by refine rG (cB:(tq l7 im io .jZ).t=123) ?_;rfl) rfl).trans hps
  |named=>cases he;exact(wb (Nat.beq 124) (by refine rG (vB:(tq l7 im io .named).t=124) ?_;rfl) rfl).trans BS
  |c i=>exact Ns he
  |w i=>match i,he with
   |0,he=>exact l6 he
   |1,he=>exact l6 he
   |i+2,he=>exact Ns he
  |_=>first|exact l6 he|exact Ns he
 .exact(wb (λt=>Nat.blt t 100) (Nat.blt_eq.mpr ht) rfl).trans h
end
noncomputable def CE(ns:dR)(b:FuncBody)(xs:List X)(ss:List S)(name:String):Bool:=match b with
 | .stmts (st::rest)=>ju 24 st&&(is 16 (aU st).v&&(is 20 (sh (aU st).v).a&&((sh (sh (aU st).v).a).s==Str.ofString name&&(is 16 (sh (sh (aU st).v).a).a&&((is 23 (sh (sh (sh (aU st).v).a).a).a&&((sh (sh (sh (sh (aU st).v).a).a).a).s==("super" :Str)&&((sh (sh (sh (aU st).v).a).a).l.isEmpty&&(sh (sh (sh (aU st).v).a).a).kw.isEmpty)))&&((sh (aU st).v).kw.isEmpty&&(gp ns xs (sh (aU st).v).l&&(jT ns ss rest&&((sh (sh (aU st).v).a).p.endLine==(sh (aU st).v).p.line&&(decide ((sh (aU st).v).l.length<28)))))))))))
 |_=>false
set_option tactic.hygienic true in
theorem ad8(h:CE ns b xs ss name=true): ∃p0 p1 ap es pos p2 rest,b=.stmts (.Expr (.Call (.Attribute (.Call (.Name ("super" :Str) p0) [] [] p1) (Str.ofString name) ap) es [] pos) p2::rest)/\gp ns xs es=true/\jT ns ss rest=true/\(ap.endLine==pos.line)=true/\es.length<28:=by
 unfold CE at h;split at h
 .rename_i st rest
  refine eK (fg h) λh1 h2 h3 h4 h5 h6=>?_;refine eK (fg h6) λh6 h7 h8 h9 kK tw=>?_;refine gW (np h6) λg1 g2 g3 g4=>?_;haveI e:=(kJ h1).trans (bP (λv=>Stmt.Expr v (aU st).p) (qk h2 ((qm h3 h4).trans (bP (λa=>Expr.Attribute a (Str.ofString name) (sh (sh (aU st).v).a).p) (qk h5 (isName g1 g2) (List.isEmpty_iff.mp g3) (rX g4)))) rfl (rX h7)));exact⟨_,_,_,_,_,_,rest,bP (λs=>FuncBody.stmts (s::rest)) e,h8,h9,kK,zK tw⟩
 .exact Ft h
noncomputable def J0:Data->Option Addr
 | .cell o=>o.bind jg
 |_=>none
theorem ad9(h:J0 d=some a):d=.cell (some (.ref a)):=by
 cases d<;>first|(exact Ns h;done)|skip
 refine ab (Option.bind_eq_some_iff.mp h) λv e h=>?_;exact rG e (rG (tR h) rfl)
noncomputable def CF:Data->Option (Array Value)
 | .fields vs=>some vs
 |_=>none
theorem aea(h:CF d=some a):d=.fields a:=by cases d<;>first|(exact Ns h;done)|(cases h;rfl)
noncomputable def J1(K:Frag)(D:Addr):List (Str×Addr)->Bool
 |[]=>false
 |p::r=>r.isEmpty&&(p.1==("__class__" :Str)&&((K.lookup p.2).bind λo=>J0 o.data)==some D)
noncomputable def aeb(K:Frag)(file:Str)(fd:FuncData)(params:List String)(xs:List X)(ss:List S)(Cl D f2:Addr)(name:String):Bool:=
 fd.globals==mainGlobals&&(fd.builtins==builtinsNs&&(J1 K D fd.closure&&(CE fd.scope.names fd.body xs ss name&&(!fd.scope.isCoroutine&&(!fd.scope.isGenerator&&(fd.scope.kind==.function&&(codeIn K fd.code fd.qualname&&
  (((jg fd.code).bind λa=>(K.lookup a).bind λo=>(CF o.data).bind λvs=>(vs[2]?).bind xp)==some file&&(params.all (λp=>fd.scope.names.lookup (Str.ofString p)==some .local)&&(fd.scope.names.all (λp=>p.2 !=.cell)&&(fd.scope.names.all (λp=>p.2 !=.free||p.1==("__class__" :Str))&&
  (fd.scope.names.lookup ("super" :Str)==some .globalImplicit&&(fd.scope.names.lookup ("__class__" :Str)==some .free&&(((fd.params.posonlyargs++fd.params.args).head?.map (·.arg))==some (Str.ofString "self")&&((clsIn K D).isSome&&(mroIn K Cl (.ref D)==some true&&(nsIn K cStatics "thirdparty.any" ==some none&&(ks_superIn K Cl D (Str.ofString name)==some (some (.ref f2))&&(typeIn K (.ref f2)==some (.type "function")&&(fnIn K f2&&!(Str.ofString name==("__class__" :Str))))))))))))))))))))))
noncomputable def CH(K:Frag)(file:Str)(a:Addr)(params:List String)(xs:List X)(ss:List S)(Cl D f2:Addr)(name:String):Bool:=match jV K a with
 |some fd=>aeb K file fd params xs ss Cl D f2 name
 |none=>false
theorem aec{K:Frag}(h:J1 K D l=true): ∃cc co,l=[(("__class__" :Str),cc)]/\K.lookup cc=some co/\co.data=.cell (some (.ref D)):=by
 cases l with
 |nil=>exact Ft h
 |cons p r=>
  refine ab (Option.bind_eq_some_iff.mp (eq_of_beq (aY (aY h)))) λco h1 h2=>?_;refine⟨p.2,co,?_,h1,ad9 h2⟩;exact rG (List.isEmpty_iff.mp (aV h)) (rB (eq_of_beq (aV (aY h))) rfl)
theorem aed{K:Frag}(h:((jg v).bind λa=>(K.lookup a).bind λo=>(CF o.data).bind λvs=>(vs[2]?).bind xp)=some file): ∃sw sx vs f t,v=.ref sw/\K.lookup sw=some sx/\sx.data=.fields vs/\vs[2]?=some (.str f t)/\(file==f)=true:=by
 refine ab (Option.bind_eq_some_iff.mp h) λa h1 h=>?_;refine ab (Option.bind_eq_some_iff.mp h) λo h2 h=>?_;refine ab (Option.bind_eq_some_iff.mp h) λvs h3 h=>?_;refine ab (Option.bind_eq_some_iff.mp h) λw h4 h=>?_;refine ag (HE h) λt o1=>?_;subst o1;exact⟨a,o,vs,file,t,tR h1,h2,aea h3,h4,nD _⟩
theorem aee{Cl D f2:Addr}(h:CH C.K C.prog.main.file a params xs ss Cl D f2 name=true)(top:(C.prog.main.scope.names.lookup ("super" :Str)).isSome=false)(sup:C.mg ("super" :Str)=none/\C.mb ("super" :Str)=some (.type "super")):
  ∃fd,jV C.K a=some fd/\xi C a params xs ss Cl D f2 name fd:=by
 unfold CH at h
 cases e:jV C.K a with
 |none=>replace h:=e▸h;exact Ft h
 |some fd=>
  haveI h:=e▸h;refine⟨fd,rfl,?_⟩;refine eK (fg h) λh1 h2 h3 h4 h5 h=>?_;refine eK (fg h) λh6 h7 h8 h9 kK h=>?_;refine eK (fg h) λtw h12 h13 h14 CI h=>?_;refine eK (fg h) λh16 h17 h18 h19 h20 h=>?_;refine ab (Option.map_eq_some_iff.mp (eq_of_beq CI)) λar CI aen=>?_;exact⟨GG e,eq_of_beq h1,eq_of_beq h2,aec h3,ad8 h4,gB _|>.mp h5,gB _|>.mp h6,eq_of_beq h7,h8,aed (eq_of_beq h9),top,λp hp=>eq_of_beq (List.all_eq_true.mp kK p hp),λp hp=>bne_iff_ne.mp (List.all_eq_true.mp tw p hp),
   λp hp hf=>(Bool.or_eq_true_iff.mp (List.all_eq_true.mp h12 p hp)).elim (λq=>absurd hf (bne_iff_ne.mp q)) eq_of_beq,eq_of_beq h13,eq_of_beq h14,⟨ar,CI,aen⟩,sup,Option.isSome_iff_exists.mp h16,eq_of_beq h17,eq_of_beq h18,eq_of_beq h19,eq_of_beq h20,aV h,gB _|>.mp (aY h)⟩
theorem aeo{l:List Int}{x y:Int}{k:Nat}(h:l.length=k):(l++[x]).set k y=l++[y]:=by
 subst h;refine rG (List.set_append_right _ _ (cG _)) (rG (Nat.sub_self _) ?_);rfl
theorem aep{l:List Int}{x:Int}{k:Nat}(h:l.length=k):(l++[x])[k]?=some x:=by subst h;exact g9
section
variable{C:Cfg}{n:Nat}{H:MH}{Q:PV}{co pr:Ref}{lay:Sl->Ref}{st:St}
theorem aeq(E:Env C)(a:ac co pr lay st H){s v:Int}(h1:st.bW.length<100)(h2:st.bR.length<100)(h0:0<=s)(ti:s<st.bW.length)(h3:0<=v)(h3':v<st.bR.length)
  (k: ∀H',ac co pr lay ((st.sE (st.bW.set s.toNat v)).sF (st.bR.set v.toNat s)) H'->aR lay H H'->Q .none H'):aM C (n+1) (.con (.ref 128)) [.ref (lay .heap),.int s,.int v] Q H:=by
 refine E.og rfl ?_;walk_at"ws";refine a.ZG (by refine rG lid ?_;exact bI h1 rfl) h0 ti λH1 a1 k1=>?_;walk_at"ws";refine a1.Ij (by refine rG lid ?_;refine(?_:st.bR.length<_);exact bI h2 rfl) h3 h3' λH2 a2 k2=>?_;walk_at"ws";exact k H2 a2 (k1.trans k2)
theorem aes(E:Env C)(a:ac co pr lay st H){m:Nat}(bY:st.bY=List.replicate m 0)(hm:m<100){x y:Int}(hx:0<=x/\x<m)(hy:0<=y/\y<m)(k:Q (.bool (decide (x<y))) H):aM C (n+1) (.con (.ref 114)) [.ref (lay .heap),.int x,.int y] Q H:=by
 haveI hl:st.bY.length=m:=by exact rG bY (rG jM rfl)
 haveI J2: ∀z:Int,0<=z->z<m->st.bY[z.toNat]?=some 0:=λz h h'=>by exact rG bY (rG (tQ) (rG (az (oA h h')) rfl))
 refine E.og rfl ?_;walk_at"ws";refine bC (a.obj .bY _ rfl) (by refine rG lid ?_;exact tF hl hm rfl) hx.1 (J2 x hx.1 hx.2) ?_;walk_at"ws";refine bC (a.obj .bY _ rfl) (by refine rG lid ?_;exact tF hl hm rfl) hy.1 (J2 y hy.1 hy.2) ?_;walk_at"ws";refine aJ (λh=>by simp at h) (λU=>?_);walk_at"ws";exact k
theorem aet(E:Env C)(a:ac co pr lay st H)(hl:st.bR.length<100)(h0:0<=v)(hx:st.bR[v.toNat]?=some x)(k:Q (.bool (decide (0<=x))) H):aM C (n+1) (.con (.ref 107)) [.ref (lay .heap),.int v] Q H:=by
 refine E.eY rfl ?_;walk_at"ws";refine bC (a.obj .bR _ rfl) (by refine rG lid ?_;exact bI hl rfl) h0 hx ?_;walk_at"ws";exact k
theorem aeu(E:Env C)(a:ac co pr lay st H){kk:Nat}(hk:kk<50)(bY:st.bY=List.replicate (kk+2) 0)(wc:st.bW.length=kk+1)(iG:st.bR.length=kk+2)(hh: ∀q:Nat,q<=kk->st.bW[q]?=some ((q:Int)+1))(hp:st.bR[kk+1]?=some (kk:Int))
  (k: ∀H',ac co pr lay st H'->aR lay H H'->Q .none H'):aM C (n+2) (.con (.ref 135)) [.ref (lay .heap),.int kk] Q H:=by
 refine E.eY rfl ?_;walk_at"ws";refine bC (x:=(kk:Int)+1) (a.obj .bW _ rfl) (by refine rG lid ?_;exact gy wc hk rfl) (aC kk) (by refine rG (bO _) ?_;exact hh kk (cG _)) ?_;walk_at"ws";haveI tail: ∀m:MM,m "self" =some (.ref (lay .heap))->m "spot" =some (.int kk)->m "var" =some (.int ((kk:Int)+1))->bo C tabs (n+1) [S.expr (.ao (.var "self") "put" [.var "spot",.var "var"])] (cR Q) m H:=by
  intro m h1 h2 h3;walk_at"ws";refine aeq E a (gy wc hk rfl) (gy iG hk rfl) (aC kk) (by exact wB wc) (aC (kk+1)) (by exact QP iG) λH1 a1 k1=>?_;walk_at"ws";refine k H1 ?_ k1;haveI e1:st.bW.set ((kk:Int)).toNat ((kk:Int)+1)=st.bW:=by
   refine List.ext_getElem? λi=>?_;refine rG (List.getElem?_set) (rG (bO _) ?_);by_cases e:kk=i
   .subst e;exact rG (az rfl) (rG (az (by exact QO wc)) (rG (hh kk (cG _)) rfl))
   .exact rG (ax e) rfl
  haveI e2:st.bR.set ((kk:Int)+1).toNat (kk:Int)=st.bR:=by
   refine rG (by exact wA:((kk:Int)+1).toNat=kk+1) ?_;refine List.ext_getElem? λi=>?_;refine rG (List.getElem?_set) ?_;by_cases e:kk+1=i
   .subst e;exact rG (az rfl) (rG (az (by exact QN iG)) (rG hp rfl))
   .exact rG (ax e) rfl
  haveI a1:=e2▸e1▸a1;exact a1
 refine uZ (Q:=kT C tabs (n+1) [S.expr (.ao (.var "self") "put" [.var "spot",.var "var"])] (cR Q)) (λj m H'=>H'=H/\j=1/\m "self" =some (.ref (lay .heap))/\m "spot" =some (.int kk)/\m "var" =some (.int ((kk:Int)+1))) ?_ (k:=1) _ _ ⟨rfl,rfl,rfl,rfl,rfl⟩;intro j m H' P o1 ht hf;refine nj o1 λo2 o3 h1 h2 h3=>?_;clear o1;subst o2;subst o3;walk_at"ws";by_cases hz:0<(kk:Int)
 .refine rG (decide_eq_true hz) ?_;refine ht _ (by decide) λK kn kc kb kr=>?_;walk_at"ws";refine A8 (by decide) ?_;walk_at"ws";haveI hdiv: ∃q:Nat,((kk:Int)-1).fdiv 2=q/\q<=kk:=⟨(kk-1) / 2,by refine rG (Int.fdiv_eq_ediv_of_nonneg _ (by decide)) ?_;exact QM hz,by exact QL⟩;refine ab hdiv λq hq CJ=>?_;clear hdiv;refine rG hq ?_;refine bC (x:=(q:Int)+1) (a.obj .bW _ rfl) (by refine rG lid ?_;exact gy wc hk rfl) (aC q) (by refine rG (bO _) ?_;exact hh q CJ) ?_;walk_at"ws";refine aes E a bY (yU hk (fP (id (Eq.refl true)))) (by exact QK) (by exact QJ CJ) ?_;walk_at"ws";refine aJ (λU=>?_) (λh=>by (haveI h:=(nA _)▸h;rewrite [bf] at h);exact(QI CJ h).elim);walk_at"ws";refine kb _ _ ?_;exact tail _ h1 h2 h3
 .refine rG (nE hz) ?_;exact hf _ (tail _ h1 h2 h3)
theorem aev(E:Env C)(a:ac co pr lay st H)(hk:kk<50)(bY:st.bY=List.replicate (kk+1) 0)(bW:st.bW=(List.range kk).map λ(q:Nat)=>(q:Int)+1)(bR:st.bR= -1::(List.range kk).map λ(q:Nat)=>(q:Int))
  (k: ∀H',ac co pr lay (((st.xz (List.replicate (kk+2) 0)).sE ((List.range (kk+1)).map λ(q:Nat)=>(q:Int)+1)).sF (-1::(List.range (kk+1)).map λ(q:Nat)=>(q:Int))) H'->aR lay H H'->Q .none H'):aM C (n+4) (.con (.ref 121)) [.ref (lay .heap),.int ((kk:Int)+1)] Q H:=by
 have l1:st.bY.length=kk+1:=by exact rG bY (rG jM rfl)
 have l2:st.bW.length=kk:=by exact rG bW (rG (au _) (rG dZ rfl))
 have l3:st.bR.length=kk+1:=by exact rG bR (rG fh (rG (au _) (rG dZ rfl)))
 refine E.eY rfl ?_;walk_at"ws"
 let m8:St:=(((st.xz (List.replicate (kk+2) 0)).sE ((List.range (kk+1)).map λ(q:Nat)=>(q:Int)+1)).sF (-1::(List.range (kk+1)).map λ(q:Nat)=>(q:Int)))
 have many: ∀{ae:St} {H':MH} {Q':PV},ac co pr lay ae H'->ae.bY.length<100->Q' (.int ((ae.bY.length:Int)-1)) H'->aM C (n+3) (.con (.ref 100)) [.ref (lay .heap)] Q' H':=by
  intro ae H' Q' a' hl q;refine E.iN rfl ?_;walk_at"ws";refine fF (a'.obj .bY _ rfl) (by refine rG (au _) (rG lid ?_);exact bI hl rfl) ?_;refine rG (au _) ?_;walk_at"ws";exact q
 refine uZ (Q:=kT C tabs (n+3) [] (cR Q)) (λj m H'=>((j=1/\H'=H)∨(j=0/\ac co pr lay m8 H'/\aR lay H H'))/\m "self" =some (.ref (lay .heap))/\m "n" =some (.int ((kk:Int)+1))) ?_ (k:=1) _ _ ⟨.inl ⟨rfl,rfl⟩,rfl,rfl⟩;intro j m H' P o4 ht hf;refine b9 o4 λgq h1 h2=>?_;clear o4;rcases gq with ⟨rfl,rfl⟩|⟨rfl,a2,k2⟩
 .walk_at"ws";refine many a (gy l1 hk rfl) ?_;walk_at"ws";refine rG (decide_eq_true (by exact QH l1)) ?_;refine ht _ (by decide) λK kn kc kb kr=>?_;walk_at"ws";refine dh (a.obj .bY _ rfl) ?_;walk_at"ws";refine a.ZN (by refine rG lid ?_;exact gy l1 hk rfl) λH1 a1 k1=>?_;walk_at"ws";refine dh (a1.obj .bR _ rfl) ?_;walk_at"ws";refine a1.ZP (by refine rG lid ?_;refine(?_:st.bR.length<_);exact gy l3 hk rfl) λH2 a2 k2=>?_;walk_at"ws";refine many a2 (by refine(?_:(st.bY++[0]).length<100);refine rG bm (rG cV ?_);exact Ey hk l1) ?_;haveI em:(((st.bY++[0]).length:Nat):Int)-1=(kk:Int)+1:=by refine rG bm (rG cV ?_);exact QG l1
  refine(?_:aM C (n+3) _ [.ref (lay .heap),.int ((((st.bY++[0]).length:Nat):Int)-1)] _ _);refine rG em ?_;refine E.eY rfl ?_;walk_at"ws";haveI uN:(st.bR++[-1])[((kk:Int)+1).toNat]?=some (-1):=by refine rG (by exact wA:((kk:Int)+1).toNat=kk+1) ?_;exact aep l3
  refine aet E a2 (x:= -1) (by refine(?_:(st.bR++[-1]).length<_);refine rG bm (rG cV ?_);exact Ey hk l3) (aC (kk+1)) uN ?_;walk_at"ws";refine aJ (λh=>by simp at h) (λU=>?_);walk_at"ws";refine dh (a2.obj .bW _ rfl) ?_;walk_at"ws";refine a2.ZO (by refine rG lid ?_;refine(?_:st.bW.length<_);exact tF l2 hk rfl) λH3 a3 k3=>?_;walk_at"ws";refine fF (a3.obj .bW _ rfl) (by refine rG (au _) (rG lid ?_);refine(?_:(st.bW++[_]).length<_);refine rG bm (rG cV ?_);exact Ex hk l2) ?_;refine rG (au _) ?_;have e4:(((st.bW++[(kk:Int)+1]).length:Nat):Int)-1=kk:=by refine rG bm (rG cV ?_);exact QF l2
  walk_at"ws";refine(?_:d9 _ _ (.int ((((st.bW++[(kk:Int)+1]).length:Nat):Int)-1)) _ _);refine rG e4 ?_;refine a3.Ij (by refine rG lid ?_;refine(?_:(st.bR++[-1]).length<_);refine rG bm (rG cV ?_);exact QE hk l3) (aC (kk+1)) (by refine(?_:_<(((st.bR++[-1]).length:Nat):Int));refine rG bm (rG cV ?_);exact QD l3) λH4 a4 k4=>?_;walk_at"ws";refine fF (a4.obj .bW _ rfl) (by refine rG (au _) (rG lid ?_);refine(?_:(st.bW++[_]).length<_);refine rG bm (rG cV ?_);exact Ex hk l2) ?_;refine rG (au _) ?_;walk_at"ws";refine(?_:aM C (n+2) _ [.ref (lay .heap),.int ((((st.bW++[(kk:Int)+1]).length:Nat):Int)-1)] _ _);refine rG e4 ?_;haveI q1:st.bY++[0]=List.replicate (kk+2) 0:=by exact rG bY (rB List.replicate_succ' rfl)
  haveI q2:st.bW++[(kk:Int)+1]=(List.range (kk+1)).map λ(q:Nat)=>(q:Int)+1:=by refine rG bW (rG List.range_succ (rG cN ?_));rfl
  haveI q3:(st.bR++[-1]).set ((kk:Int)+1).toNat (kk:Int)= -1::(List.range (kk+1)).map λ(q:Nat)=>(q:Int):=by
   refine rG (by exact wA:((kk:Int)+1).toNat=kk+1) (rG (aeo l3) (rG bR (rG List.range_succ (rG cN ?_))));rfl
  haveI a5:ac co pr lay m8 H4:=by
   haveI vH:=a4;simp only[q1,q2,q3] at vH;exact vH
  refine aeu E a5 hk rfl (by refine(?_:((List.range (kk+1)).map _).length=_);exact rG (au _) (rG dZ rfl)) (by refine(?_:(-1::(List.range (kk+1)).map _).length=_);exact rG fh (rG (au _) (rG dZ rfl))) (λq hq=>?_) ?_ λH6 a6 k6=>?_
  .refine(?_:((List.range (kk+1)).map _)[q]?=_);refine rG (fA) (rG (qc (iU hq)) ?_);rfl
  .refine(?_:(-1::(List.range (kk+1)).map _)[kk+1]?=_);refine rG (rD) (rG (fA) (rG (qc (cG kk.succ)) ?_));rfl
  walk_at"ws";exact kn _ _ 0 (by decide) ⟨.inr ⟨rfl,a6,k1.trans (k2.trans (k3.trans (k4.trans k6)))⟩,h1,h2⟩
 .walk_at"ws";refine many a2 (by refine(?_:(List.replicate (kk+2) (0:Int)).length<100);refine rG jM ?_;exact yU hk (fP (id (Eq.refl true)))) ?_;walk_at"ws";refine rG (nE (by refine(?_: ¬((((List.replicate (kk+2) (0:Int)).length:Nat):Int)-1<(kk:Int)+1));rw[jM];exact QC)) ?_;refine hf _ ?_;exact k H' a2 k2
end
section
variable{C:Cfg}{n:Nat}{H:MH}{Q:PV}{co pr:Ref}{lay:Sl->Ref}{st:St}
noncomputable def grown(st:St)(k:Nat):St:=(((((((((((st.i4 (st.asg++[0])).mO (st.lvl++[0])).jY (st.aB++[-1])).pk (st.bk++[0])).mP (st.bB++[-1])).jB (st.aq++[[]]++[[]])).xz (List.replicate (k+2) 0)).sE ((List.range (k+1)).map λ(q:Nat)=>(q:Int)+1)).sF (-1::(List.range (k+1)).map λ(q:Nat)=>(q:Int))).dU (st.seen++[false])).gr (st.aQ++[none]))
theorem aew(E:Env C)(a:ac co pr lay st H)(hk:k<20)(z1:st.asg.length=k+1)(z2:st.lvl.length=k+1)(z3:st.aB.length=k+1)(z4:st.bk.length=k+1)(z5:st.bB.length=k+1)(z6:st.seen.length=k+1)(z7:st.aQ.length=k+1)(z8:st.aq.length=2*k+2)
  (bY:st.bY=List.replicate (k+1) 0) (bW:st.bW=(List.range k).map λ(q:Nat)=>(q:Int)+1) (bR:st.bR= -1::(List.range k).map λ(q:Nat)=>(q:Int))
  (kk: ∀H',At co pr (grown st k) H'->bF H H'->Q (.int ((k:Int)+1)) H'):aM C (n+6) (.con (.ref 417)) [.ref co] Q H:=by
 refine E.iN rfl ?_;walk_at"ws";refine dh (a.obj .seen _ rfl) ?_;walk_at"ws";refine a.ZV (by refine rG lid ?_;exact gy z6 hk rfl) λH1 a1 k1=>?_;walk_at"ws";refine dh (a1.obj .aQ _ rfl) ?_;walk_at"ws";refine a1.ZW (by refine rG lid ?_;refine(?_:st.aQ.length<_);exact gy z7 hk rfl) λH2 a2 k2=>?_;haveI a2:ac co pr lay ((st.dU (st.seen++[false])).gr (st.aQ++[none])) H2:=a2;walk_at"ws";refine E.iN rfl ?_;walk_at"ws";refine fF (a2.obj .asg _ rfl) (by refine rG (au _) (rG lid ?_);refine(?_:st.asg.length<_);exact gy z1 hk rfl) ?_;refine rG (au _) ?_;haveI ek:((st.asg.length:Nat):Int)=(k:Int)+1:=by exact QT z1
 refine(?_:jm C tabs _ _ _ (.int ((st.asg.length:Nat):Int)) _ _);refine rG ek ?_;walk_at"ws";refine dh (a2.obj .asg _ rfl) ?_;walk_at"ws";refine a2.ZI (by refine rG lid ?_;refine(?_:st.asg.length<_);exact gy z1 hk rfl) λH3 a3 k3=>?_;haveI a3:ac co pr lay (((st.dU (st.seen++[false])).gr (st.aQ++[none])).i4 (st.asg++[0])) H3:=a3;walk_at"ws";refine dh (a3.obj .lvl _ rfl) ?_;walk_at"ws";refine a3.ZJ (by refine rG lid ?_;refine(?_:st.lvl.length<_);exact gy z2 hk rfl) λH4 a4 k4=>?_;haveI a4:ac co pr lay ((((st.dU (st.seen++[false])).gr (st.aQ++[none])).i4 (st.asg++[0])).mO (st.lvl++[0])) H4:=a4;walk_at"ws";refine dh (a4.obj .aB _ rfl) ?_;walk_at"ws";refine a4.ZK (by refine rG lid ?_;refine(?_:st.aB.length<_);exact gy z3 hk rfl) λH5 a5 k5=>?_;haveI a5:ac co pr lay (((((st.dU (st.seen++[false])).gr (st.aQ++[none])).i4 (st.asg++[0])).mO (st.lvl++[0])).jY (st.aB++[-1])) H5:=a5;walk_at"ws";refine dh (a5.obj .bk _ rfl) ?_;walk_at"ws";refine a5.ZL (by refine rG lid ?_;refine(?_:st.bk.length<_);exact gy z4 hk rfl) λH6 a6 k6=>?_;haveI a6:ac co pr lay ((((((st.dU (st.seen++[false])).gr (st.aQ++[none])).i4 (st.asg++[0])).mO (st.lvl++[0])).jY (st.aB++[-1])).pk (st.bk++[0])) H6:=a6;walk_at"ws";refine dh (a6.obj .bB _ rfl) ?_;walk_at"ws";refine a6.ZM (by refine rG lid ?_;refine(?_:st.bB.length<_);exact gy z5 hk rfl) λH7 a7 k7=>?_;haveI a7:ac co pr lay (((((((st.dU (st.seen++[false])).gr (st.aQ++[none])).i4 (st.asg++[0])).mO (st.lvl++[0])).jY (st.aB++[-1])).pk (st.bk++[0])).mP (st.bB++[-1])) H7:=a7;walk_at"ws";refine dh (a7.obj .aq _ rfl) ?_;walk_at"ws";refine alloc (cJ (.w st.aq.length)) λr1 dX CB=>?_;haveI a8:=a7.bx (am.fresh (o:=.list []) dX);refine a8.Ik (l:=[]) (by refine rG lid ?_;refine(?_:st.aq.length<_);exact QS hk z8) CB (aI _ _ _) λH8 a9 k8=>?_;haveI k8':=a8.keep k8;haveI a9:ac co pr _ ((((((((st.dU (st.seen++[false])).gr (st.aQ++[none])).i4 (st.asg++[0])).mO (st.lvl++[0])).jY (st.aB++[-1])).pk (st.bk++[0])).mP (st.bB++[-1])).jB (st.aq++[[]])) H8:=a9;walk_at"ws";refine dh (a9.obj .aq _ rfl) ?_;walk_at"ws";refine alloc (cJ (.w (st.aq++[[]]).length)) λr2 bZ qK=>?_;haveI vQ:=a9.bx (am.fresh (o:=.list []) bZ);refine vQ.Ik (l:=[]) (by refine rG lid ?_;refine(?_:(st.aq++[[]]).length<_);refine rG bm (rG cV ?_);exact QR hk z8) qK (aI _ _ _) λH9 tj k9=>?_;haveI k9':=vQ.keep k9;haveI tj:ac co pr _ ((((((((st.dU (st.seen++[false])).gr (st.aQ++[none])).i4 (st.asg++[0])).mO (st.lvl++[0])).jY (st.aB++[-1])).pk (st.bk++[0])).mP (st.bB++[-1])).jB (st.aq++[[]]++[[]])) H9:=tj;walk_at"ws";refine aev (kk:=k) E tj (bI hk rfl) bY bW bR λJi a12 B8=>?_;walk_at"ws";haveI aeA:=tj.keep B8;exact kk Ji ⟨_,a12⟩ ((a.keep (k1.trans (k2.trans (k3.trans (k4.trans (k5.trans (k6.trans k7))))))).trans ((am.fresh dX).keep.trans (k8'.trans ((am.fresh bZ).keep.trans (k9'.trans aeA)))))
theorem aeB(k:Nat):grown (gh k) k=gh (k+1):=by
 haveI s1: ∀{α:Type} (x:α),List.replicate (k+1) x++[x]=List.replicate (k+1+1) x:=λx=>by exact rB List.replicate_succ' rfl
 haveI s2:List.replicate (2*k+2) ([]:List Int)++[[]]++[[]]=List.replicate (2*(k+1)+2) []:=by
  refine rB List.replicate_succ' (rB List.replicate_succ' ?_);exact bP (λm=>List.replicate m ([]:List Int)) (by exact QQ)
 unfold grown gh;simp only[s1,s2]
theorem aeC(E:Env C)(a:At co pr (gh k) H)(hk:k<20)
  (kk: ∀H',At co pr (gh (k+1)) H'->bF H H'->Q (.int ((k:Int)+1)) H'):aM C (n+6) (.con (.ref 417)) [.ref co] Q H:=by
 refine ag a λlay a=>?_;refine aew (k:=k) E a hk (by simp[gh]) (by simp[gh]) (by simp[gh]) (by simp[gh]) (by simp[gh]) (by simp[gh]) (by simp[gh]) (by simp[gh]) rfl rfl rfl λH' a' k'=>?_;exact kk H' (aeB k▸a') k'
end
theorem aeD(hi:i.toNat<m):at' (List.replicate m x) i=x:=by
 unfold at';refine rG (iT) (rG (tQ) (rG (az hi) ?_));rfl
theorem aeE(hN:N<=5)(hg: ∀(k:Nat) c0,cs[k]?=some c0->GoodC N c0):j8 N cs 0 (gh N):=by
 refine⟨⟨⟨?_,?_,⟨λk c h=>(by cases h),hg⟩,λl hl=>?_,(λs h=>(by cases h)),λk a h=>(by cases h)⟩,⟨Int.le_refl _,aC _⟩,(λs h=>by cases h),λk a b r h=>by cases h⟩,rfl,rfl,?_,rfl,rfl,rfl⟩
 .refine⟨hN,?_,?_,?_,?_,?_,?_,?_,?_,gm _,gm _,gm _,rfl,gm _,gm _,l9 (gm _) (by decide:0<60),?_,λv h0 h1=>?_⟩
  .exact jM
  .exact jM
  .exact jM
  .exact jM
  .exact jM
  .exact jM
  .exact jM
  .exact jM
  .refine(?_:(-1::(List.range N).map _).length=_);exact rG fh (rG (au _) (rG dZ rfl))
  .refine(?_:0<=at' (-1::(List.range N).map λ(q:Nat)=>(q:Int)) v);unfold at';refine ag (⟨v.toNat-1,by exact Q6 h0⟩: ∃q,v.toNat=q+1) λq hq=>?_;refine rG (iT) (rG hq (rG (rD) (rG (fA) (rG (qc (by exact Q5 h1 hq)) ?_))));exact aC _
 .refine⟨(λl h=>by cases h),eD,λv h0 h1=>?_,(λi l h=>by cases h),(λi l h=>by cases h),⟨.nil,(λs h=>by cases h)⟩,λi l h=>by cases h⟩;refine(?_:at' (List.replicate (N+1) 0) v=if v∈([]:List Int) then 1 else if -v∈([]:List Int) then -1 else 0);refine rG (aeD (by exact Q4 h1)) ?_;simp
 .refine⟨[],?_,eD,λj=>⟨λh=>(by cases h),λaeF=>f4 aeF λk a b r U h U=>(by cases h)⟩⟩;refine(?_:(List.replicate (2*N+2) ([]:List Int))[bz l]?=some []);exact rG (tQ) (rG (az (vo hl)) rfl)
 .refine⟨(λk s h=>by cases h),(λj c h=>by cases h),⟨Int.le_refl _,aC _,λs h=>by cases h⟩,(λi l h=>by cases h),λl hl U=>?_,gm _,gm _⟩;refine(?_:(List.replicate (N+1) (none:Option Int))[l.natAbs]?=some none);exact rG (tQ) (rG (az (by haveI:=hl.2;exact iU this)) rfl)
theorem aeG{N b j:Nat}{st:St}(R:j8 N cs b st)(hb:b+1<=40)(ec:cs[j]?=some c0)(g0:GoodC N c0):j8 N cs (b+1) (st.i5 (j5 st.af ⟨"input",c0,[],.int j⟩)):=by
 have d:=R.q.aT;have u:=R.lf;haveI hl:(st.af.steps++[(⟨"input",c0,[],.int j⟩:cS)]).length=st.af.steps.length+1:=by refine rG bm ?_;rfl
 haveI h1:=u.cnt.1;haveI h2:=u.r0.2.1;haveI h3:=d.aa;haveI h4:=d.big;have old: ∀{q:Nat} {p:cS},st.af.steps[q]?=some p->(st.af.steps++[(⟨"input",c0,[],.int j⟩:cS)])[q]?=some p:=λh=>sV h;refine⟨⟨⟨⟨d.big,d.asg,d.lvl,d.aB,d.bk,d.bB,d.seen,d.aQ,d.aq,d.aa,d.ah,d.cls,d.aW,d.act,d.bS,?_,d.hp⟩,R.q.tr.perm ⟨rfl,rfl,rfl,rfl,rfl,rfl⟩ λk c hc=>⟨c,hc,.refl _⟩,⟨R.q.cl.rel,R.q.cl.good⟩,R.q.w,R.q.qs,R.q.qu⟩,R.q.cU,R.q.mu,R.q.qh⟩,R.ah,R.head,⟨?_,λj' c hj=>?_,u.r0,λi l h hi=>?_,u.un,?_,hb⟩,R.gP,R.act,R.bS⟩
 .refine(?_:(st.af.steps++[_]).length<60);refine rG hl ?_;exact Q3 hb h1 h2 h3 h4
 .exact u.af.snoc ⟨⟨g0.1,g0.2.2.2⟩,.inl ⟨rfl,rfl,j,rfl,ec⟩⟩
 .refine dN (u.aW j' c hj) λs p q1 q2 q3 q4=>?_;exact⟨s,p,q1,q2,old q3,q4⟩
 .refine dN (u.us i l h hi) λs p q1 q2 q3 q4=>?_;exact⟨s,p,q1,q2,old q3,q4⟩
 .refine(?_:(st.af.steps++[_]).length<=b+1+st.cq.toNat);refine rG hl ?_;exact Q2 h1
structure LI(N:Nat)(cs:List (List Int))(b:Nat)(Su:List Int)(st:St)(D:List Int):Prop where
 q:Quiet N cs st
 hd:st.head=st.aa.length
 all:st.cls.length=cs.length
 lv:Lv st
 lf:bV N cs b st
 seen:fY N st.seen []
 hD: ∀(i:Nat) l,st.aa[i]?=some l->(l∈D↔(i:Int)∈st.ah)
 Dn:D.Nodup
 Dt: ∀x,x∈D->x∈st.aa
 hS: ∀(i:Nat) l,st.aa[i]?=some l->(l∈Su↔ ∀s,s∈st.ah->(i:Int)<s)
 Ss: ∀x,x∈Su->x∈st.aa
section
variable{N b:Nat}{cs:List (List Int)}{Su D:List Int}{st ae:St}{l:Int}
theorem LI.ok(h:LI N cs b Su st D)(hn:l∉st.aa/\ -l∉st.aa)(p:vp N cs (cK (l4 st) l (-1)) ae (-1))(q':Quiet N cs ae):LI N cs b Su ae (D++[l]):=by
 have x:=p.ext;refine ag x.aa λe he=>?_;haveI he:ae.aa=st.aa++[l]++e:=he;haveI hs:ae.ah=st.ah++[(st.aa.length:Int)]:=x.ah;haveI u:bV N cs b ae:=(JU h.lf).ext x;have rV:st.aa.length+1<=ae.aa.length:=by refine rG he (rG bm (rG bm ?_));simp
 have pos: ∀{i:Nat} {y:Int},ae.aa[i]?=some y->(i<st.aa.length/\st.aa[i]?=some y)∨(i=st.aa.length/\y=l)∨(st.aa.length<i):=by
  intro i y hy;rcases Nat.lt_trichotomy i st.aa.length with z|z|z
  .haveI hy:=(gi z)▸(iu _ _ _)▸he▸hy;exact .inl ⟨z,hy⟩
  .subst z
   (haveI hy:=he▸hy;rewrite [gi (by rw[bm];simp)] at hy;haveI hy:=(g9)▸hy)
   exact .inr (.inl ⟨rfl,(lx hy).symm⟩)
  .exact .inr (.inr z)
 have hl:ae.aa[st.aa.length]?=some l:=by
  exact rG he (rG (gi (by rw[bm];simp)) (rG (g9) rfl))
 have yF: ∀{y:Int},y∈st.aa-> ∃i:Nat,i<st.aa.length/\ae.aa[i]?=some y:=by
  intro y hy;refine ag (List.mem_iff_getElem?.mp hy) λi hi=>?_;haveI dH:=(List.getElem?_eq_some_iff.mp hi).1;exact⟨i,dH,by refine rG he (rG (iu _ _ _) (rG (gi dH) ?_));exact hi⟩
 have nd:=fV q'.tr.nd;refine⟨q',p.hd,x.cls.trans h.all,⟨?_,λs iO=>?_⟩,u,by refine rG x.seen ?_;exact h.seen,λi y hy=>?_,?_,λy hy=>?_,λi y hy=>?_,λy hy=>?_⟩
 .refine rG hs (rI rF ?_);exact⟨h.lv.pw,pZ _ _,λa ha c hc=>by refine rG (List.mem_singleton.mp hc) ?_;exact(h.lv.lt a ha).2⟩
 ·(haveI iO:=hs▸iO;rewrite [dG,cx] at iO)
  rcases iO with z|z
  .haveI:=h.lv.lt s z;exact Q1 rV this.1 this.2
  .exact Q0 rV z
 .refine rG hs (rI dG (rI dG (rI cx (rI cx ?_))));rcases pos hy with ⟨z,w⟩|⟨z,w⟩|z
  .refine rI (h.hD i y w) ?_;refine or_congr_right ⟨λq=>?_,λq=>by exact(Ew z q).elim⟩;subst q;exact absurd (bd w) hn.1
  .exact⟨λU=>.inr (by exact QZ z),λU=>.inr w⟩
  .constructor
   .intro o1;rcases o1 with q|q
    .refine ab (yF (h.Dt y q)) λi' ce gd=>?_;haveI:=get_inj nd hy gd;exact(Ez z ce this).elim
    .subst q;exact absurd (get_inj nd hy hl).symm (Nat.ne_of_lt (by assumption))
   .intro o2;rcases o2 with q|q
    .haveI:=h.lv.lt _ q;exact(QY z this.2).elim
    .exact(QX z q).elim
 .refine List.nodup_append.mpr ⟨h.Dn,List.nodup_cons.mpr ⟨dp,eD⟩,λa ha c hc e'=>?_⟩;rw[cx] at hc;exact hn.1 (hc▸e'▸h.Dt a ha)
 .rcases List.mem_append.mp hy with z|z
  .refine ab (yF (h.Dt y z)) λi U hi=>?_;exact bd hi
  .refine rG (List.mem_singleton.mp z) ?_;exact bd hl
 .haveI key:(∀s,s∈ae.ah->(i:Int)<s)↔(∀s,s∈st.ah->(i:Int)<s)/\i<st.aa.length:=by
   refine rG hs ?_;constructor
   .intro w;exact⟨λs z=>w s (List.mem_append.mpr (.inl z)),by haveI:=w st.aa.length (by simp);exact CY this⟩
   .intro o3 s z;refine aE o3 λw1 w2=>?_;rcases List.mem_append.mp z with z|z
    .exact w1 s z
    .refine rG (List.mem_singleton.mp z) ?_;exact oB w2
  refine rI key ?_;rcases pos hy with ⟨z,w⟩|⟨z,w⟩|z
  .refine rI (h.hS i y w) ?_;exact⟨λq=>⟨q,z⟩,λq=>q.1⟩
  .constructor
   .intro q;subst w;exact absurd (h.Ss _ q) hn.1
   .intro q;exact(QW z q.2).elim
  .constructor
   .intro q;refine ab (yF (h.Ss y q)) λi' ce gd=>?_;haveI:=get_inj nd hy gd;exact(Ez z ce this).elim
   .intro q;exact(QV z q.2).elim
 .refine ab (yF (h.Ss y hy)) λi U hi=>?_;exact bd hi
theorem LI.bad(h:LI N cs b Su st D)(p:vp N cs (cK (l4 st) l (-1)) ae c)(kQ:Lv (cK (l4 st) l (-1)))(pp:BC N ae st.ah st.aa.length m8):LI N cs b Su m8 D:=by
 have x:=p.ext;refine ag x.aa λe he=>?_;haveI he:ae.aa=st.aa++[l]++e:=he;haveI hs:ae.ah=st.ah++[(st.aa.length:Int)]:=x.ah;haveI hlen:=x.len;haveI u:bV N cs b ae:=(JU h.lf).ext x;haveI lv':Lv ae:=⟨by refine rG hs ?_;exact kQ.pw,λs iO=>by haveI:=kQ.lt s (by haveI iO:=hs▸iO;exact iO);exact QU hlen this.1 this.2⟩;refine yV (adT p.base p.hd hs lv' pp) λq1 q2 q3 q4 q5 q6 q7 q8=>?_;haveI et:m8.aa=st.aa:=by
  exact rG q4 (rG he (rG (iu _ _ _) (rG (bO _) (rG (List.take_left' rfl) rfl))))
 refine⟨q1,q2,by refine rG q7 ?_;exact x.cls.trans h.all,q3,q6 b u,by refine rG q8 (rG x.seen ?_);exact h.seen,by refine rG et (rG q5 ?_);exact h.hD,h.Dn,by refine rG et ?_;exact h.Dt,by refine rG et (rG q5 ?_);exact h.hS,by refine rG et ?_;exact h.Ss⟩
theorem LI.start(R:j8 N cs b st)(kd:st.cls.length=cs.length)(pL:fY N st.seen [])(p:vp N cs st ae (-1))(q':Quiet N cs ae){K:List Int}(k:to N cs [] K br):br=false/\LI N cs b K ae []:=by
 have x:=p.ext;have hs:ae.ah=[]:=x.ah.trans R.ah;have J3:ae.cls.length=cs.length:=x.cls.trans kd;haveI hR:=q'.rest p.hd J3;refine aE (k.Ce hR (λy hy=>q'.tr.con hy) (λy hy=>by cases hy)) λfe hK=>?_;haveI CK:=q'.tr.sub q'.cl (k.rest fe) k.ki.con λi y U hi=>by replace hi:=hs▸hi;cases hi
 refine⟨fe,q',p.hd,J3,⟨by refine rG hs ?_;exact .nil,λs h=>by replace h:=hs▸h;cases h⟩,R.lf.ext x,by refine rG x.seen ?_;exact pL,λi y hy=>?_,eD,(λy hy=>by cases hy),λi y hy=>?_,hK⟩
 .refine rG hs ?_;exact⟨λh=>(by cases h),λh=>(by cases h)⟩
 .refine rG hs ?_;exact⟨λU s h=>(by cases h),λU=>CK y (bd hy)⟩
theorem LI.J4(h:LI N cs b Su st D):D.length<=5:=by
 haveI hN:=h.q.aT.big;refine sN (l:=D) (xK h.Dn λy hy gd=>h.q.tr.con (h.Dt y hy) (h.Dt _ gd)) λy hy=>?_;have hl:=h.q.tr.bq y (h.Dt y hy);haveI:=hl.1;haveI:=hl.2;exact⟨(eM this hN),hl.1⟩
theorem LI.aeI(h:LI N cs b Su st D):(D.map Int.natAbs).Nodup:=xK h.Dn λy hy gd=>h.q.tr.con (h.Dt y hy) (h.Dt _ gd)
theorem LI.closed(h:LI N cs b Su st D){K:List Int}(k:to N cs D K br): ∀y,y∈st.aa↔y∈K:=by
 haveI hR:=h.q.rest h.hd h.all;refine aE (k.Ce hR (λy hy=>h.q.tr.con hy) h.Dt) λfe hK=>?_;haveI CK:=h.q.tr.sub h.q.cl (k.rest fe) k.ki.con λi y hy hi=>k.ki.sub y ((h.hD i y hy).mpr hi);exact λy=>⟨CK y,hK y⟩
end
section
variable{C:Cfg}{n:Nat}{H:MH}{Q:PV}{co pr:Ref}{lay:Sl->Ref}{st:St}{N b:Nat}{cs:List (List Int)}
theorem aeJ(k:al C T n m it (λiv aj=> ∃r xs,iv=.ref r/\xs.length<aO/\iA (fS iv xs) (λv P m₂ aA=> ∃i w,v=.tup [.int i,w]/\bo C T n body P (set (set m₂ x (.int i)) y w) aA)
   (xs.zipIdx.map λp=>V.tup [.int p.2,p.1]) P m aj) H):wpS C T n (.rP x y it body) P m H:=k
theorem ac.m9(a:ac co pr lay st H)(ht:rv.t<100)(k:iR rv H H'):ac co pr lay st H':=by
 have n: ∀s,lay s≠rv:=λs=>(sZ a ht s).symm;refine bM a.cI λk1 f1 e1 q1=>?_;refine bM a.i6 λk2 f2 e2 q2=>?_;refine bM a.dy λk3 f3 e3 q3=>?_;exact⟨a.gu,a.gR,a.tag,k _ _ (λz=>by haveI:=a.gu;haveI this:=z▸this;exact(Ee ht this).elim) a.core,⟨k1,f1,k _ _ (n _) e1,q1⟩,k _ _ (λz=>by haveI:=a.gR;haveI this:=z▸this;exact(Ed ht this).elim) a.af,⟨k2,f2,k _ _ (n _) e2,q2⟩,k _ _ (n _) a.heap,⟨k3,f3,k _ _ (n _) e3,q3⟩,λs o e=>k _ _ (n s) (a.obj s o e)⟩
theorem At.m9(a:At co pr st H)(ht:rv.t<100)(k:iR rv H H'):At co pr st H':=let ⟨l,a⟩:=a;⟨l,a.m9 ht k⟩
theorem fK.tz(v:fK rv rc cells k H)(t1:rv.t<100)(t2:rc.t<100)(h:bF H H'):fK rv rc cells k H':=⟨h _ _ t1 v.v,h _ _ t2 v.c,v.len,v.k0,v.ne⟩
theorem Quiet.six(q:Quiet N cs st){seen:List Bool}(h1:aQ.length=N+1)(h2:seen.length=N+1)(h3:af.steps.length<60):Quiet N cs ((((((st.gr aQ).mQ r).i5 af).dU seen).f9 f).ga g):=by
 haveI d:=q.aT;exact⟨⟨⟨d.big,d.asg,d.lvl,d.aB,d.bk,d.bB,h2,h1,d.aq,d.aa,d.ah,d.cls,d.aW,d.act,d.bS,h3,d.hp⟩,q.tr.perm ⟨rfl,rfl,rfl,rfl,rfl,rfl⟩ λk c hc=>⟨c,hc,.refl _⟩,⟨q.cl.rel,q.cl.good⟩,q.w,q.qs,q.qu⟩,q.cU,q.mu,q.qh⟩
theorem aeK(E:Env C)(h:LI N cs b Su st D)(hb:b+6<=40)(a:ac co pr lay st H)(bj:H dY=some (.list (cs.map cE)))(nh:H rd=some (iL D))(jG:H rs=some (iL Su))(oy:H rg=some (.dict es))(gf:H rt=some (iL st.aa))(gv:dY.t<100)(td:rd.t<100)(ts:rs.t<100)(tg:rg.t<100)(tt:rt.t<100)
  (hG: ∀l,l∈st.aa->lZ st D H es l) (g1:m "core" =some (.ref co)) (g2:m "proof" =some (.ref pr)) (g3:m "clauses" =some (.ref dY)) (g4:m "n" =some (.int N)) (g5:m "grounds" =some (.ref rg)) (g6:m "sure" =some (.ref rs)) (g7:m "decided" =some (.ref rd)) (g8:m "trail" =some (.ref rt)) (k: ∀H',Q (.bool true) H'):
  bo C tabs (n+11) (sA.drop 12) (cR Q) m H:=by
 have hN:=h.q.aT.big;haveI fW:=h.q.aT.aa;simp only[oH,ly];walk_at"ws";refine oi V.int st.aa (λi m H'=> ∃ay,ac co pr lay ay H'/\bF H H'/\(∃aQ r af seen failed dK,ay=((((((st.gr aQ).mQ r).i5 af).dU seen).f9 failed).ga dK))/\ay.aQ.length=st.aQ.length/\fY N ay.seen []/\bV N cs (b+i) ay/\
   m "core" =some (.ref co)/\m "proof" =some (.ref pr)/\m "clauses" =some (.ref dY)/\m "n" =some (.int N)/\m "grounds" =some (.ref rg)/\m "sure" =some (.ref rs)/\m "decided" =some (.ref rd)/\m "trail" =some (.ref rt)) ?_ ?_ ?_ ?_
 .intro i m H' o1;refine bX o1 λU U h U=>?_;clear o1;exact h _ _ tt gf
 .intro i l m H' K hl o2 kn U U U;refine Kq o2 λay a1 k1 o3 mZ lK u1 g1 g2 g3 g4 g5 g6 g7 g8=>?_;clear o2;refine oC o3 λun r pf se fa ft o4=>?_;clear o3;subst o4;haveI hi:=(List.getElem?_eq_some_iff.mp hl).1;haveI fy:pf.steps.length<60:=by
   haveI z1:pf.steps.length<=b+i+r.toNat:=u1.cnt.1;haveI z2:r<=(st.aa.length:Int):=u1.r0.2.1;exact Q9 hb hN fW hi z1 z2
  haveI q1:Quiet N cs ((((((st.gr un).mQ r).i5 pf).dU se).f9 fa).ga ft):=h.q.six (mZ.trans h.q.aT.aQ) lK.1 fy;refine⟨_,rfl,?_⟩;walk_at"ws"
  iterate 8 (refine HV ?_;walk_at"w")
  refine Zq ?_;refine adD (n:=n) E a1 q1 h.hd h.all u1 (by exact Q8 hb hN fW hi) lK (k1 _ _ gv bj) (k1 _ _ td nh) (k1 _ _ ts jG) (k1 _ _ tg oy) gv td ts tg h.hD h.hS (λy hy=>?_) (bd hl) λH2 m8 a2 k2 e2 aeL CL u2=>?_
  .refine tJ ((hG y hy).keep k1) λrl g z1 z2 z3 z4 z5 z6=>?_;exact⟨rl,g,z1,z2,z3,z4,z5,λx=>(z6 x).trans (and_congr_right λU=>⟨dC.congr (st:=st) (ae:=((((((st.gr un).mQ r).i5 pf).dU se).f9 fa).ga ft)) ⟨rfl,rfl,rfl,rfl⟩,dC.congr (st:=((((((st.gr un).mQ r).i5 pf).dU se).f9 fa).ga ft)) (ae:=st) ⟨rfl,rfl,rfl,rfl⟩⟩)⟩
  refine oC e2 λun2 r2 pf2 tA fa2 ft2 o5=>?_;clear e2;subst o5;walk_at"ws";refine aJ (Ft) (λU=>?_);walk_at"ws";haveI vZ:=k1.trans k2;haveI nt:lay .aa≠rt:=(sZ a2 tt .aa).symm;refine Bm (as:=st.aa) (bs:=st.aa) nt (a2.obj .aa _ rfl) (vZ _ _ tt gf) ?_;walk_at"ws";refine aJ (λh=>by simp at h) (λU=>?_);walk_at"ws";have lV:=CL.1;refine pA V.bool tA (λy=>if y=true then some (.int 1) else none) (a2.obj .seen _ rfl) (by refine rG lid ?_;haveI:tA.length=N+1:=lV;exact cF this hN rfl) (λy hy P hP=>⟨_,rfl,?_⟩) ?_
  .refine(?_:bH _ _ _ _ _ _ _);refine HW (b:=y) rfl ?_;refine aJ (λhy=>?_) (λhy=>?_)
   .walk_at"ws";haveI hP:=(az hy)▸hP;exact hP
   .haveI hP:=hy▸hP;exact hP
  haveI lU:tA.filterMap (λy=>if y=true then some (V.int 1) else none)=[]:=by
   refine rI List.filterMap_eq_nil_iff ?_;intro y hy;refine ag (List.mem_iff_getElem?.mp hy) λj hj=>?_;haveI oq:=(List.getElem?_eq_some_iff.mp hj).1;haveI pM:tA.length=N+1:=lV;haveI:=CL.2 j (by exact Q7 oq pM);haveI this:tA[j]?=some (decide ((j:Int)∈([]:List Int))):=this;haveI this:=hj▸this;haveI:y=false:=by simpa using this
   refine rG this ?_;rfl
  refine rG lU ?_;refine alloc 40 λr4 fX U=>?_;walk_at"ws";refine alloc 41 λr5 qT U=>?_;refine aao (some_ne_none (aI _ _ _) qT) (am.fresh qT _ _ (aI _ _ _)) (aI _ _ _) ?_;walk_at"ws";refine aJ (Ft) (λU=>?_);walk_at"ws";haveI kk:=(am.fresh (o:=.list []) fX).trans (am.fresh (o:=.list []) qT);exact kn _ _ ⟨_,a2.bx kk,vZ.trans kk.keep,⟨un2,r2,pf2,tA,fa2,ft2,rfl⟩,aeL.trans mZ,CL,u2,g1,g2,g3,g4,g5,g6,g7,g8⟩
 .intro m H' U;walk_at"ws";exact k H'
 .exact⟨st,a,bF.refl _,⟨_,_,_,_,_,_,rfl⟩,rfl,h.seen,h.lf,g1,g2,g3,g4,g5,g6,g7,g8⟩
end
section
variable{C:Cfg}{n:Nat}{H:MH}{Q:PV}{co pr:Ref}{lay:Sl->Ref}{st:St}{N b:Nat}{cs:List (List Int)}
theorem aeQ(E:Env C)(h:LI N cs b Su st [])(sR:4<=N)(hb:b+6<=40)(a:At co pr st H)(hv:fK rv rc cells k0 H)(fz:k0<300)(tv:rv.t=10)(tc:rc.t=11)(gv:dY.t=20)(ts:rs.t=14)(bj:H dY=some (.list (cs.map cE)))(jG:H rs=some (iL Su))
  (g1:m "core" =some (.ref co)) (g2:m "proof" =some (.ref pr)) (g3:m "clauses" =some (.ref dY)) (g4:m "n" =some (.int N)) (g5:m "vat" =some (.ref rv)) (g6:m "sure" =some (.ref rs)) (k: ∀H',Q (.bool true) H'):
  bo C tabs (n+11) (sA.drop 8) (cR Q) m H:=by
 have hN:=h.q.aT.big;simp only[oH,ly];walk_at"ws";refine alloc 21 λrd nh td=>?_;haveI ka:=am.fresh (o:=.list []) nh;walk_at"ws";have nv: ∀{r:Ref},r.t≠10->r≠rv:=λh z=>h (by exact rG z (rG tv rfl));refine qV (many:=3) E (hv.bx ka) (by exact Rn fz) (by decide) λH1 x ik CM v1 k1=>?_;walk_at"ws";refine qx ?_;refine pz (dO rfl) (by exact Rm ik CM) (λi m H'=> ∃ay D kk,At co pr ay H'/\LI N cs b Su ay D/\H' rd=some (iL D)/\fK rv rc cells kk H'/\kk<=k0+1+2*i/\H' dY=some (.list (cs.map cE))/\H' rs=some (iL Su)/\
   m "core" =some (.ref co)/\m "proof" =some (.ref pr)/\m "clauses" =some (.ref dY)/\m "n" =some (.int N)/\m "vat" =some (.ref rv)/\m "sure" =some (.ref rs)/\m "decided" =some (.ref rd)) ?_ ?_ ?_
 .intro i m H2 K hi o1 kn U U U;refine wr o1 λay D kk a2 h2 e1 v2 fw e2 e3 g1 g2 g3 g4 g5 g6 g7=>?_;refine⟨_,rfl,?_⟩;walk_at"ws";refine qV (many:=N) E v2 (by exact Rl fz CM hi fw) (by exact Rk sR) λH3 x ik CN v3 k3=>?_;walk_at"ws";refine qV (many:=2) E v3 (by exact Rj fz CM hi fw) (by decide) λH4 d cU hd2 v4 k4=>?_;refine mM (by exact Es cU hd2) ?_;walk_at"ws";refine mM (by exact Rh hN ik CN cU hd2) ?_;have yG:=k3.trans k4;haveI a4:=a2.m9 ((cr tv rfl):rv.t<100) yG;have e1:=yG _ _ (nv (by refine rG td ?_;decide)) e1;have e2:=yG _ _ (nv (by refine rG gv ?_;decide)) e2;have e3:=yG _ _ (nv (by refine rG ts ?_;decide)) e3;have hL:Lit N ((1+x)*(1-2*d)):=by
   rcases (by exact Ep cU hd2:d=0∨d=1) with rfl|rfl
   .exact⟨by exact Rg ik,by exact Rf ik CN⟩
   .exact⟨by exact Re ik,by exact Rd ik CN⟩
  generalize (1+x)*(1-2*d)=l at hL ⊢;refine ag a4 λJ5 a4=>?_;have J6:rv.t<100:=(cr tv rfl);have J7:rc.t<100:=(cr tc rfl);walk_at"ws";refine on E a4 h2.q.aT hL ?_;walk_at"ws";refine aJ (λhz=>?_) (λhz=>?_)
  .rw[bf,h2.q.tr.val_zero hL] at hz;haveI aeR:=JT h2.q.aT h2.q.tr h2.lv hL hz;haveI gq:=h2.q.aT.ah;haveI fW:=h2.q.aT.aa;refine aE (adS h2.q h2.hd h2.lv hL hz) λhq kQ=>?_;walk_at"ws";refine aaN E a4 (cT gq hN rfl) (cT fW hN rfl) λH5 a5 k5=>?_;haveI a5:ac co pr J5 (l4 ay) H5:=a5;walk_at"ws";refine xQ E a5 aeR hL λH6 a6 k6=>?_;walk_at"ws";refine IJ E a6.at hq λH7 yH c7 a7 k7 p7=>?_;have tB:bF H4 H7:=(a4.keep (k5.trans k6)).trans k7;refine ag a7 λaeS a7=>?_;walk_at"ws";refine aJ (λhc=>?_) (λhc=>?_)
   .rw[bf] at hc;subst hc;haveI q7:Quiet N cs yH:=by
     rcases p7.out with ⟨_,z⟩|⟨z,_⟩
     .exact z
     .exact absurd rfl z
    haveI hD:=h2.J4;walk_at"ws";refine dh (tB _ _ (cr td rfl) e1) ?_;walk_at"ws";refine jA (tB _ _ (cr td rfl) e1) (by refine rG (au _) (rG lid ?_);exact aX hD rfl) ?_;haveI ed:List.map V.int D++[V.int l]=List.map V.int (D++[l]):=by refine rG cN ?_;rfl
    refine rG ed ?_;walk_at"ws";haveI nd: ∀{r:Ref},r.t≠21->r≠rd:=λh z=>h (by exact rG z (rG td rfl));haveI v7:=v4.tz J6 J7 tB;refine kn _ _ ⟨yH,D++[l],_,⟨aeS,a7.sY (cr td rfl)⟩,h2.ok hz p7 q7,aI _ _ _,⟨(aD (nd (by refine rG tv ?_;decide))).trans v7.v,(aD (nd (by refine rG tc ?_;decide))).trans v7.c,v7.len,v7.k0,v7.ne⟩,by exact zq fw,(aD (nd (by refine rG gv ?_;decide))).trans (tB _ _ (cr gv rfl) e2),(aD (nd (by refine rG ts ?_;decide))).trans (tB _ _ (cr ts rfl) e3),g1,g2,g3,g4,g5,g6,g7⟩
   .haveI i8:yH.ah=ay.ah++[(ay.aa.length:Int)]:=p7.ext.ah;haveI hs7:=p7.base.aT.ah;walk_at"ws";refine vn E a7 (cT hs7 hN rfl) ?_;walk_at"ws";haveI el:((yH.ah.length:Nat):Int)-1=ay.ah.length:=by refine rG i8 (rG bm (rG cV ?_));exact Rc
    rw[el];refine aaU E a7 p7.base.aT p7.base.tr i8 λH8 st8 a8 pp k8=>?_;walk_at"ws";haveI yI:=tB.trans k8;exact kn _ _ ⟨st8,D,_,a8,h2.bad p7 kQ pp,yI _ _ (cr td rfl) e1,v4.tz J6 J7 yI,by exact zq fw,yI _ _ (cr gv rfl) e2,yI _ _ (cr ts rfl) e3,g1,g2,g3,g4,g5,g6,g7⟩
  .walk_at"ws";exact kn _ _ ⟨ay,D,_,⟨J5,a4⟩,h2,e1,v4,by exact zq fw,e2,e3,g1,g2,g3,g4,g5,g6,g7⟩
 .intro m H2 o2;refine wr o2 λay D kk o3 h2 e1 v2 fw e2 e3 g1 g2 g3 g4 g5 g6 g7=>?_;refine ag o3 λI1 a2=>?_;have fW:=h2.q.aT.aa;haveI Co:=h2.J4;haveI sT:=h2.q.aT.cls;haveI kd:=h2.all;haveI pN: ∀c0,c0∈cs->GoodC N c0:=λc0 h=>by
   refine ag (List.mem_iff_getElem?.mp h) λkk hk=>?_;exact h2.q.cl.good kk c0 hk
  walk_at"ws";refine AF (a2.obj .aa _ rfl) (by rw[au,lid];exact cT fW hN rfl) (alloc 22 λrt gf tt=>?_);have k3:=am.fresh (o:=iL ay.aa) gf;haveI a3:=a2.bx k3;haveI e4:upd H2 rt (iL ay.aa) rt=some (iL ay.aa):=aI _ _ _;haveI e1:=k3 _ _ e1;haveI e2:=k3 _ _ e2;haveI e3:=k3 _ _ e3;generalize upd H2 rt (iL ay.aa)=H3 at k3 a3 e4 e1 e2 e3 ⊢;walk_at"ws";refine adb E a3 h2.q.aT h2.q.tr h2.q.cl e1 e3 h2.Dn Co h2.hD h2.hS λH4 rg es k4 U tg e5 hG=>?_;haveI a4:=a3.bx k4;haveI e1:=k4 _ _ e1;haveI e2:=k4 _ _ e2;haveI e3:=k4 _ _ e3;haveI e4:=k4 _ _ e4;walk_at"ws";refine w6 (ns:=ay.aa) e4 (cT fW hN rfl) λje eX dW=>alloc 33 λr1 dX U=>?_;haveI k5:=am.fresh (o:=iL je) dX;haveI o1:upd H4 r1 (iL je) r1=some (iL je):=aI _ _ _;generalize upd H4 r1 (iL je)=H5 at k5 o1 ⊢;walk_at"ws";refine yp (n:=n+10) (cs:=cs) (bg:=D) E hN (.inl ⟨rd,rfl,k5 _ _ e1⟩) (k5 _ _ e2) (by exact Rb sT kd) pN (λy hy=>h2.q.tr.bq y (h2.Dt y hy)) h2.aeI λH6 rk K br k6 U ek U hk=>?_;walk_at"ws";refine jX (v:=.ref rk) (by refine(?_:2<1000000);exact dO rfl) (by decide) rfl ?_;haveI hKl:=hk.ki.len;refine w6 (ns:=K) ek (cT hKl hN rfl) λni cB ic=>alloc 34 λr2 bZ U=>?_;haveI J8:=k6 _ _ o1;refine Bm (some_ne_none J8 bZ) (am.fresh bZ _ _ J8) (aI _ _ _) ?_;haveI bj:=h2.closed hk;haveI nS:je=ni:=yA dW ic (eX.nodup_iff.mpr (fV h2.q.tr.nd)) (cB.nodup_iff.mpr (fV hk.ki.nd)) λy=>by rw[eX.mem_iff,cB.mem_iff,bj]
  walk_at"ws";refine aJ (λh=>by (haveI h:=(gB _)▸h;rewrite [ct] at h);exact absurd nS h) (λU=>?_);have k7:=k5.trans (k6.trans (am.fresh (o:=iL ni) bZ));generalize upd H6 r2 (iL ni)=H7 at k7 ⊢;refine pj (ob ?_);exact aeK (n:=n) E h2 hb (a4.bx k7) (k7 _ _ e2) (k7 _ _ e1) (k7 _ _ e3) (k7 _ _ e5) (k7 _ _ e4) (cr gv rfl) (cr td rfl) (cr ts rfl) (cr tg rfl) (cr tt rfl) (λl hl=>(hG l hl).keep k7.keep) g1 g2 g3 g4 rfl g6 g7 rfl k
 .haveI CO:=ka.m9.trans k1;refine⟨st,[],k0+1,a.m9 ((cr tv rfl):rv.t<100) CO,h,k1 _ _ (nv (by refine rG td ?_;decide)) (aI _ _ _),v1,by exact Ra,CO _ _ (nv (by refine rG gv ?_;decide)) bj,CO _ _ (nv (by refine rG ts ?_;decide)) jG,g1,g2,g3,g4,g5,g6,rfl⟩
end
noncomputable def aeW:List String:=["steps", "named", "empty"]
theorem aeX:aeW.Nodup:=by decide
section
variable{C:Cfg}{n:Nat}{H:MH}{Q:PV}{co pr:Ref}{lay:Sl->Ref}{st:St}{N b:Nat}{cs:List (List Int)}
theorem J9{K:List Int}(hk:to N cs [] K br)(t:Tr N st)(c:Cl N cs st)(hs:st.ah=[])(h:sQ st x):br=true:=by
 cases hb:br with
 |true=>rfl
 |false=>exact(t.acY c h (hk.rest hb) hk.ki.con λi l U hi=>by replace hi:=hs▸hi;cases hi).elim
theorem aeY(E:Env C)(yJ:4<=N)(pP:N<=5)(hm:cs.length<=8)(hg: ∀(k:Nat) c0,cs[k]?=some c0->GoodC N c0)(a:At co pr (gh N) H)(hv:fK rv rc cells k0 H)(fz:k0<300)(tv:rv.t=10)(tc:rc.t=11)(gv:dY.t=20)(bj:H dY=some (.list (cs.map cE)))
  (g1:m "core" =some (.ref co)) (g2:m "proof" =some (.ref pr)) (g3:m "clauses" =some (.ref dY)) (g4:m "n" =some (.int N)) (g5:m "vat" =some (.ref rv)) (k: ∀H',Q (.bool true) H'):
  bo C tabs (n+11) (sA.drop 4) (cR Q) m H:=by
 have pN: ∀c0,c0∈cs->GoodC N c0:=λc0 h=>by
  refine ag (List.mem_iff_getElem?.mp h) λkk hk=>?_;exact hg kk c0 hk
 simp only[oH,ly];refine A2 (aeJ ?_);walk_at"ws";refine⟨dY,cs.map cE,rfl,by refine rG (au _) (rG lid ?_);exact aX hm rfl,sD (λi m H'=> ∃ay,At co pr ay H'/\j8 N cs i ay/\ay.cls.length=i/\fY N ay.seen []/\bF H H'/\
   m "core" =some (.ref co)/\m "proof" =some (.ref pr)/\m "clauses" =some (.ref dY)/\m "n" =some (.int N)/\m "vat" =some (.ref rv)) ?_ ?_ ?_ _ _ ?_⟩
 .intro i m H' o1;refine tI o1 λU U U U U h U=>?_;clear o1;exact h _ _ (cr gv rfl) bj
 .intro i v m H' K hO o2 kn U U kr;refine C9 o2 λay o3 R hlen lK k1 g1 g2 g3 g4 g5=>?_;clear o2;refine ag o3 λaeZ a1=>?_;clear o3;replace hO:=(fA)▸hO;obtain ⟨p,hp,rfl⟩: ∃p,((cs.map cE).zipIdx)[i]?=some p/\v=V.tup [.int p.2,p.1]:=by
   cases e:((cs.map cE).zipIdx)[i]? with
   |none=>replace hO:=e▸hO;cases hO
   |some p=>haveI hO:=e▸hO;exact⟨p,rfl,(lx hO).symm⟩
  replace hp:=(fA)▸(List.getElem?_zipIdx)▸hp;obtain ⟨c0,gV,rfl⟩: ∃c0,cs[i]?=some c0/\p=(cE c0,i):=by
   cases e:cs[i]? with
   |none=>replace hp:=e▸hp;cases hp
   |some c0=>haveI hp:=e▸hp;refine⟨c0,rfl,?_⟩;haveI:=lx hp;exact rB this (rG (Nat.zero_add _) rfl)
  have hi:=(List.getElem?_eq_some_iff.mp gV).1;have g0:=hg i c0 gV;haveI j9:=g0.2.2.1;haveI fy:=R.q.aT.af;haveI Ri:=aeG R (by exact RO hm hi) gV g0;refine⟨i,cE c0,rfl,?_⟩;walk_at"ws";refine Iz (rule:= "input") (cl:=c0) (eI:=[]) (note:=.int i) E a1 (bI fy rfl) (by decide) (iS j9 rfl) g0.1 (λx hx=>(g0.2.2.2 x hx).1) (λx hx=>absurd hx dp) λH2 a2 k2=>?_;haveI nT:(j5 ay.af ⟨"input",c0,[],.int i⟩).steps[((ay.af.steps.length:Nat):Int).toNat]?=some ⟨"input",c0,[],.int i⟩:=by
   show (ay.af.steps++[_])[_]?=_;exact rG (bO _) (rG (g9) rfl)
  refine abM (n:=n) E a2.at Ri (by refine(?_:ay.cls.length<8);exact RN hm hlen hi) (by refine(?_:cs[ay.cls.length]?=_);refine rG hlen ?_;exact gV) g0 (aC _) nT rfl (λH3 ig a3 k3 R3 lc vB sX=>?_) λH3 k3 hf=>?_
  .walk_at"ws";refine aJ (λh=>by cases h) (λU=>?_);walk_at"ws";refine kn _ _ ⟨ig,a3,R3,by refine rG lc ?_;refine(?_:ay.cls.length+1=_);exact RM hlen,by refine rG sX ?_;exact lK,k1.trans ((a1.keep k2).trans k3),g1,g2,g3,g4,g5⟩
  .walk_at"ws";refine aJ (λU=>?_) (λh=>by cases h);walk_at"ws";refine alloc 15 λrb CP U=>?_;haveI k13:=k1.trans ((a1.keep k2).trans k3);refine yp (n:=n+10) (cs:=cs) (bg:=[]) E pP (.inl ⟨rb,rfl,aI _ _ _⟩) ((k13.trans (am.fresh CP).keep) _ _ (cr gv rfl) bj) (aX hm rfl) pN (λx hx=>absurd hx dp) eD λH4 rk KK br k4 U ek U hk=>?_;refine dN hf.ex λstf cf tf clf sf cof=>?_;haveI fe:=J9 hk tf clf sf cof;subst fe;walk_at"ws";refine jX (v:=.bool true) (by refine(?_:2<1000000);exact dO rfl) (by decide) rfl ?_;walk_at"ws";exact kr _ _ _ (k _)
 .intro m H' o4;refine C9 o4 λay a1 R hlen lK k1 g1 g2 g3 g4 g5=>?_;clear o4;have ae3:(List.map (λp=>V.tup [V.int p.snd,p.fst]) (List.map cE cs).zipIdx).length=cs.length:=by exact rG (au _) (rG List.length_zipIdx (rG (au _) rfl))
  rw[ae3] at hlen R;have Ka:=k1 _ _ (cr gv rfl) bj;haveI wd:=hv.tz (cr tv rfl) (cr tc rfl) k1;walk_at"ws";refine alloc 15 λrb CP U=>?_;have k2:=am.fresh (o:=.list []) CP;refine yp (n:=n+10) (cs:=cs) (bg:=[]) E pP (.inl ⟨rb,rfl,aI _ _ _⟩) (k2 _ _ Ka) (aX hm rfl) pN (λx hx=>absurd hx dp) eD λH2 rs Su br k3 U ers ts hk=>?_;haveI a2:=(a1.bx k2).bx k3;have Kb:=k2.trans k3;haveI ae5:=Kb _ _ Ka;haveI hv2:=wd.bx Kb;refine ag a2 λI1 a2=>?_;walk_at"ws";refine IJ (n:=n+6) E a2.at R.q λH3 ig c a3 k4 p=>?_;haveI j7:=k4 _ _ (cr gv rfl) ae5;haveI CQ:=hv2.tz (cr tv rfl) (cr tc rfl) k4;haveI Cs:=k4 _ _ (cr ts rfl) ers;walk_at"ws";rcases p.out with ⟨rfl,q3⟩|⟨hc,ae7⟩
  .refine aE (LI.start R hlen lK p q3 hk) λfe h=>?_;subst fe;refine aJ (λh=>by cases h) (λU=>?_);walk_at"ws";refine aJ (λh=>by simp at h) (λU=>?_);refine pj (ob ?_);refine aeQ (n:=n) (b:=cs.length) E h yJ (by exact RL hm) a3 CQ fz tv tc gv ts j7 Cs g1 g2 g3 g4 g5 rfl k
  .haveI fe:=J9 hk p.base.tr p.base.cl (p.ext.ah.trans R.ah) ae7;subst fe;refine aJ (λU=>?_) (λh=>by cases h);walk_at"ws";refine aJ (λU=>?_) (λh=>by cases h);walk_at"ws";refine rG (nE hc) ?_;refine aJ (λU=>?_) (λh=>by cases h);walk_at"ws";exact k _
 .refine⟨gh N,a,aeE pP hg,rfl,⟨jM,λv hv=>?_⟩,bF.refl _,g1,g2,g3,g4,g5⟩;refine(?_:(List.replicate (N+1) false)[v]?=_);refine rG (tQ) (rG (az (iU hv)) ?_);simp
theorem ae8(E:Env C)(yJ:4<=N)(pP:N<=5)(a:At co pr (gh 0) H)(hv:fK rv rc cells k0 H)(fz:k0<200)(tv:rv.t=10)(tc:rc.t=11)
  (g1:m "core" =some (.ref co)) (g2:m "proof" =some (.ref pr)) (g4:m "n" =some (.int N)) (g5:m "vat" =some (.ref rv)) (k: ∀H',Q (.bool true) H'):
  bo C tabs (n+11) (sA.drop 2) (cR Q) m H:=by
 simp only[oH,ly];walk_at"ws";refine qx ?_;refine pz (dO rfl) (aX pP rfl) (λi m H'=>At co pr (gh i) H'/\bF H H'/\m "core" =some (.ref co)/\m "proof" =some (.ref pr)/\m "n" =some (.int N)/\m "vat" =some (.ref rv)) ?_ ?_ ⟨a,bF.refl _,g1,g2,g4,g5⟩
 .intro i m H' K hi o5 kn U U U;refine eK o5 λo6 k1 g1 g2 g4 g5=>?_;clear o5;refine ag o6 λaeZ a1=>?_;clear o6;refine⟨_,rfl,?_⟩;walk_at"ws";refine aeC (n:=n+5) E a1.at (by exact RK pP hi) λH2 a2 k2=>?_;walk_at"ws";exact kn _ _ ⟨a2,k1.trans k2,g1,g2,g4,g5⟩
 .intro m H' o7;refine eK o7 λa1 k1 g1 g2 g4 g5=>?_;clear o7;haveI a1:=(by exact DZ:((N:Int)-0).toNat=N)▸a1;haveI wd:=hv.tz (cr tv rfl) (cr tc rfl) k1;walk_at"ws";refine qV (many:=5) E wd (by exact RJ fz) (by decide) λH2 x ik we v2 k2=>?_;haveI a2:=a1.m9 ((cr tv rfl):rv.t<100) k2;walk_at"ws";refine qx ?_;refine⟨(kX 0 (4+x)).map V.int,by refine rG (au _) (rG (xN _ _) (rG lid ?_));exact RI we,Ba (λi acc H3=> ∃cs kk,acc=cs.map cE/\cs.length=i/\(∀c0,c0∈cs->GoodC N c0)/\fK rv rc cells kk H3/\kk<=k0+1+5*i/\iR rv H2 H3) ?_ ?_ ?_ _ ⟨[],_,rfl,rfl,λc0 h=>absurd h dp,v2,by exact RH,λr o U e=>e⟩⟩
  .intro i acc H3 U;exact⟨xI (.inl rfl) (dO rfl) (by exact RG ik we),(Iy 0 (4+x)).symm⟩
  .intro i y acc H3 P hy o8 kp U;refine tJ o8 λcs kk o9 hlen CR v3 fw k3=>?_;clear o8;subst o9;haveI jD:=(List.getElem?_eq_some_iff.mp hy).1;haveI jD:=(xN _ _)▸(au _)▸jD;refine⟨_,rfl,?_⟩;refine(?_:al _ _ _ _ _ _ _);walk_at"ws";refine acU (n:=n+8) E (N:=N) (by exact RF yJ pP) v3 (by exact RE fz we fw jD) λH4 c ox hc ae9 v4 k4=>?_;refine kp _ _ ⟨cs++[c],ox,by refine rG cN ?_;rfl,by refine rG bm (rG hlen ?_);rfl,λc0 h=>?_,v4,by exact RD fw ae9,k3.trans k4⟩;rcases List.mem_append.mp h with z|z
   .exact CR c0 z
   .refine rG (List.mem_singleton.mp z) ?_;exact hc
  .intro acc H3 cY;refine tJ cY λcs kk eb hlen CR v3 fw k3=>?_;clear cY;subst eb;rw[au,xN] at hlen fw;refine alloc 20 λdY afa gv=>?_;haveI k4:=am.fresh (o:=.list (cs.map cE)) afa;refine A3 ?_;haveI a4:=(a2.m9 ((cr tv rfl):rv.t<100) k3).bx k4;exact aeY (n:=n) (cs:=cs) E yJ pP (by exact RC we hlen) (λkq c0 hq=>CR c0 (bd hq)) a4 (v3.bx k4) (by exact RB fz we fw) tv tc gv (aI _ _ _) g1 g2 rfl g4 g5 k
theorem afb(E:yE C)(iE:ns.length<=63):bo C tabs (n+11) sA (cR λv U=>v=.bool true) (set em "script" (.oM ns)) (λU=>none):=by
 walk_at"ws";refine .sc (by refine rG lid ?_;exact aX iE rfl) (by decide) ?_;refine(?_:cH (iL (ns.take 60)) _ _);refine alloc 12 λr0 BK t0=>?_;refine pA V.int (ns.take 60) (λx=>some (.int (x.fmod 5040))) (aI _ _ _) (by refine rG ku (rG lid ?_);exact RA) (λx U P hP=>⟨_,rfl,?_⟩) ?_
 .refine(?_:al _ _ _ _ _ _ _);walk_at"ws";refine V4 ?_;walk_at"ws";refine uY (by decide) ?_;exact hP
 haveI ec:(ns.take 60).filterMap (λx=>some (V.int (x.fmod 5040)))=((ns.take 60).map λx=>x.fmod 5040).map V.int:=by refine rG nu (rG eN ?_);rfl
 refine rG ec ?_;refine alloc 11 λrc hrc tc=>?_;walk_at"ws";refine alloc 10 λrv hrv tv=>?_;walk_at"ws";haveI Kc:rv≠rc:=dz (Ki tv tc rfl);have free: ∀r:Ref,100<=r.t->upd (upd (upd (λU=>none) r0 (iL (ns.take 60))) rc (iL ((ns.take 60).map λx=>x.fmod 5040))) rv (.list [.ref rc,.int 0]) r=none:=λr hr=>by
  exact rG (aD (dz (yR tv hr rfl))) (rG (aD (dz (yR tc hr rfl))) (rG (aD (dz (yR t0 hr rfl))) rfl))
 haveI hv:fK rv rc ((ns.take 60).map λx=>x.fmod 5040) 0 (upd (upd (upd (λU=>none) r0 (iL (ns.take 60))) rc (iL ((ns.take 60).map λx=>x.fmod 5040))) rv (.list [.ref rc,.int 0])):=
  ⟨aI _ _ _,by exact rG (aD Kc.symm) (rG (aI _ _ _) rfl),by refine rG (au _) (rG ku ?_);exact Rz,by decide,Kc⟩
 generalize (upd (upd (upd (λU=>none) r0 (iL (ns.take 60))) rc (iL ((ns.take 60).map λx=>x.fmod 5040))) rv (.list [.ref rc,.int 0]):MH)=H0 at free hv ⊢;generalize ((ns.take 60).map λx=>x.fmod 5040)=cells at hv;refine ad0 (n:=n+9) E (x:=⟨101,0⟩) (d:=⟨103,0⟩) (free _ (by decide)) (free _ (by decide)) (by decide) λH1 im io t1 t2 bp=>?_;haveI wd:fK rv rc cells 0 H1:=by
  haveI fr: ∀r:Ref,r.t<100->H1 r=H0 r:=λr hr=>bp.fr r (dz (by refine(?_:r.t≠101);exact Ry hr)) (dz (by refine(?_:r.t≠103);exact Rx hr)) λp hp=>by
   simp only[gE,dp,or_false] at hp;rcases hp with rfl|rfl
   .exact dz (by refine(?_:r.t≠io.t);exact C2 t2 hr rfl)
   .exact dz (by refine(?_:r.t≠im.t);exact C2 t1 hr rfl)
  exact⟨(fr rv (cr tv rfl)).trans hv.v,(fr rc (cr tc rfl)).trans hv.c,hv.len,hv.k0,hv.ne⟩
 walk_at"ws";refine Jr (many:=2) E.toEnv wd (by decide) (by decide) λH2 x ik hx2 v2 Kd=>?_;haveI k2:iR rv H1 H2:=λr o h q=>(Kd r h).trans q;walk_at"ws";refine bE bp.f.fj λkp fp ep CC CD=>?_;have nv: ∀{r:Ref},r.t≠10->r≠rv:=λh z=>h (by exact rG z (rG tv rfl));refine ad4 (n:=n+3) E (pr:=⟨101,0⟩) (l7:=⟨103,0⟩) (im:=im) (io:=io) rfl rfl t1 t2 (k2 _ _ (nv (by decide)) bp.f.inst) ⟨kp,fp,k2 _ _ (nv (by decide)) ep,l9 CC (by refine(?_:3<800);exact dO rfl),λy=>?_⟩ (k2 _ _ (nv (by refine rG t1 ?_;decide)) (bp.o (im,.list []) (by simp)).1) (k2 _ _ (nv (by refine rG t2 ?_;decide)) (bp.o (io,.list [.int 0]) (by simp)).1) (λr hr=>?_) λH3 co lay gu a3 k3=>?_
 .rw[CD];exact yD (L:=[("steps",.ref im),("named",.ref io),("empty",.int (-1))]) aeX
 .haveI gf:100<=r.t/\r.t≠101/\r.t≠103/\r.t≠123/\r.t≠124:=by unfold JY at hr;exact Rw hr
  rw[Kd r (nv (by exact Rv gf.1)),bp.fr r (dz (by refine(?_:r.t≠101);exact Ru gf.2.1)) (dz (by refine(?_:r.t≠103);exact Rt gf.2.2.1)) λp hp=>?_]
  .exact free r gf.1
  .simp only[gE,dp,or_false] at hp;rcases hp with rfl|rfl
   .exact dz (by refine(?_:r.t≠io.t);exact Rs t2 gf.2.2.2.2)
   .exact dz (by refine(?_:r.t≠im.t);exact Rr t1 gf.2.2.2.1)
 .refine aas rfl (Zj rfl ?_);haveI CQ:=v2.tz (cr tv rfl) (cr tc rfl) k3;refine ag (⟨(4+x).toNat,by exact Rq ik⟩: ∃N:Nat,4+x=N) λN hN=>?_;refine rG hN ?_;exact ae8 (n:=n) (N:=N) (Q:=λv U=>v=V.bool true) E.toEnv (by exact Rp ik hN) (by exact Ro hx2 hN) a3.at CQ (by decide) tv tc rfl rfl rfl rfl λU=>rfl
end
section
variable{C:Cfg}{T:bG}{n:Nat}{H:MH}{a:Addr}
end
theorem afd{K:Frag}: ∀p,p∈pi K->K.lookup p.1=some p.2:=by
 intro p hp;unfold pi at hp
 cases hr:uV K with
 |none=>replace hp:=hr▸hp;cases hp
 |some q=>
  replace hp:=hr▸hp;obtain ⟨a,vs,n⟩:=q;cases List.mem_singleton.mp hp;exact(HG hr).2
noncomputable def CS(K:Frag):Bool:=Bl K&&HH K&&n8 K 713 604&&n8 K 201 93&&n8 K 561 410&&pc K 93 ["self", "limit"] AY&&xn K 93 "self" "limit" 1000000000000&&pe K 410 ["self", "proof", "hook"]&&
 CH K "/claim/cut.py" 410 ["self", "proof", "hook"] [.var "hook"] (HA.drop 1) 561 561 247 "__init__" &&nsIn K mainGlobals "super" ==some none&&bootBuiltins ("super" :Str)==some (.type "super")&&nsIn K mainGlobals (Str.ofString "law")==some (some (.ref 761))
theorem afe(p:Params):CS (hd.heap_1 p)=true:=by kernel_rfl
theorem aff:(PySem.Challenge.pw_qz0040_01.main.scope.names.lookup ("super" :Str)).isSome=false:=by kernel_rfl
theorem afg:PySem.Challenge.pw_qz0040_01.main.file=("/claim/cut.py" :Str):=by kernel_rfl
theorem afh{C:Cfg}(ok:C.Ok)(hp:C.prog=PySem.Challenge.pw_qz0040_01)(hT:C.wD=pi C.K)(h:CS C.K=true):yE C/\nsIn C.K mainGlobals (Str.ofString "law")=some (some (.ref 761)):=by
 unfold CS at h;have fN: ∀{a b:Bool},(a&&b)=true->a=true/\b=true:=λ{a b} h=>by rwa [Bool.and_eq_true] at h
 have ⟨h,tw⟩:=fN h;have ⟨h,kK⟩:=fN h;have ⟨h,h9⟩:=fN h;have ⟨h,h8⟩:=fN h;have ⟨h,h7⟩:=fN h;have ⟨h,h6⟩:=fN h;have ⟨h,h5⟩:=fN h;have ⟨h,h4⟩:=fN h;have ⟨h,h3⟩:=fN h;have ⟨h,h2⟩:=fN h;have ⟨h,h1⟩:=fN h;rw[beq_iff_eq] at h9 kK tw;have he:Env C:=⟨ok,tabs_ok ok h1 hT,h⟩;refine⟨⟨he,h2,h3,h4,h5,h6,h7,aee ?_ ?_ ⟨mg_none_of ok.du ok.g h9,(ok.bi _ (by decide)).trans kK⟩⟩,tw⟩
 .rw[hp,afg];exact h8
 .rw[hp];exact aff
set_option tactic.hygienic true
theorem afi{w:World}{ak:Shared}{mg mb:Str->Option Value}(KX:(hd.heap_1 w.params).In ak.heap)(hg:ak.heap.Ns mainGlobals mg)(hb:ak.heap.Ns builtinsNs mb)(bi: ∀x:Str,x≠ "__name__" ->mb x=bootBuiltins x)(lim:ak.heap.NoLimit)
  {fa l:Addr} {vs:List Value} {ns:List Int} (hfa:mg (Str.ofString "law")=some (.ref fa)) (hL:ak.heap.IsList l vs.toArray) (hI:IntsAre vs ns) (hn:ns.length<=63) {Q E:Value->Shared->Prop}
  (k: ∀s',(∀b o,ak.heap.get? b=some o->s'.heap.get? b=some o)->s'.os=ak.os->s'.gens=ak.gens->Q (.bool true) s'):wpAny (model PySem.Challenge.pw_qz0040_01 w) callerA (call (.ref fa) [.ref l]) Q E ak:=by
 let C:Cfg:=⟨PySem.Challenge.pw_qz0040_01,w,hd.heap_1 w.params,ak.heap,mg,mb,pi (hd.heap_1 w.params)⟩
 have big:sysModules<ak.heap.objs.size:=by
  obtain ⟨o,es,ep,ho,_⟩:=hg;have:=Heap.lt_size ho;exact Nat.lt_of_le_of_lt (by decide) this
 have ok:C.Ok:=⟨KX,hg,hb,bi,lim,big⟩;obtain ⟨E2,afk⟩:=afh (C:=C) ok rfl rfl (afe _);have yK:mg (Str.ofString "law")=some (.ref 761):=mg_of ok.du ok.g afk;rw[hfa] at yK;have yK:fa=761:=by cases yK;rfl
 subst yK;have R:Rel C ⟨λU=>none,pi (hd.heap_1 w.params)⟩ (λU=>none) ak.heap:=
  ⟨λU U e=>e,Nat.le_refl _,(λr o e=>by cases e),(λr a e=>by cases e),(λr r' a e=>by cases e),λp hp=>⟨KX _ _ (afd p hp),λr e=>by cases e⟩,⟨0,λr h=>absurd rfl h⟩,λp hp=>hp⟩
 have h:=vd E2.fns (a:=761) rfl;rw[Bool.and_eq_true] at h;obtain ⟨fd,e,X⟩:=Az h.1;have main:=GA (n:=11) (hX:=[.oM ns]) (Q:=λv U=>v=.bool true) ok E2.tok X rfl (AA h.2 e rfl) (afb (n:=0) E2 hn) callerA ⟨λU=>none,pi (hd.heap_1 w.params)⟩ ak (.ref 761) [.ref l]
  ⟨rfl,by decide,by decide⟩ R (.con _) (.cons (.oM hL hI) .nil)
 refine wpAny_mono (wpAny_call main) (λv s' h=>?_) λU U f=>f.elim;obtain ⟨W',H',b,x,r,q⟩:=h;subst q;cases r;obtain ⟨h',tk,rfl⟩:=x.eq;exact k _ x.rel.keep rfl rfl
theorem fin:PySem.Challenge.rw_qz0040_01.Holds:=by
 refine hd ?_
 k_fill
 intro w s₀ ak mg mb G Y fa o pm cd doc dV kV ho hd xj hD hmg hg args vals as afm afn nh lS hlo;have KX:=kIn_of Y;refine Ground.open G ?_;intro T B D TE TW
 wrow_args afm afn nh lS hlo
 rename_i hI _ hlen _
 refine afi KX T.g T.b T.builtins T.nolimit hmg (by assumption) hI (by omega) λs' hk ho hgn=>?_;refine⟨.inl ⟨_,.bool true,[],rfl,λcls=>rfl,.bool true,postW_of rfl rfl (by first|kernel_rfl|decide|simp[same]),λU=>⟨List.nodup_nil,λa ha=>absurd ha List.not_mem_nil⟩⟩,OldK.of_keep hk,ho,?_⟩;rw[hgn,hg];exact AllBare.empty
end Mine.Internal
theorem PySem.Challenge.cw_qz0040_01_holds : PySem.Challenge.rw_qz0040_01.Holds := by
 exact Mine.Internal.fin
