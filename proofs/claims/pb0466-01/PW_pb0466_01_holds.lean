import PyProof.Rows.All
import PySem.Syntax
import Open.Pieces
import OpenK.KLine
import PySem.Eval
import KE.KIsNot
import KE.KIntText
import OpenK.KEqL
import KE.KItem
import PyProof.RangeFor
import PyProof.WalksPairs
import PyProof.WalksMore
import PyProof.ExcInit
import PyProof.ExcClass3
import PyProof.ExcBaseAll.Exception
import PyProof.InstStoreFacts
import PyProof.InstStore
import OpenK.AllK
import Wide.FinOn
import KE.KTops
import Open.FastLooks
import Open.Line
import Lean
import PySem.Challenge.RW_pb0466_01
set_option Elab.async false
set_option linter.all false
set_option maxRecDepth 100000
set_option genInjectivity false
set_option genSizeOf false
set_option genSizeOfSpec false
set_option bootstrap.genMatcherCode false
set_option tactic.hygienic false
set_option backward.match.sparseCases false
set_option compiler.extract_closed false
namespace Mine
@[elab_as_elim] theorem ac{α:Sort _}{a b:α}{C:α->Prop}(h:a=b)(k:C b):C a:=by rw[h];exact k
theorem aG{n c d:Nat}(h:c<=n)(k:Nat.ble d c=true):n=n-d+d:=(Nat.sub_add_cancel (Nat.le_trans (Nat.le_of_ble_eq_true k) h)).symm
theorem QR{a n c d:Nat}(h:a+c<=n)(k:Nat.ble d c=true):n=n-d+d:=aG (Nat.le_trans (Nat.le_add_left c a) h) k
theorem mG{a x b c d:Nat}(h:a+x+c<=b)(k:Nat.ble d c=true):a+d<=b:=Nat.le_trans (Nat.add_le_add (Nat.le_add_right a x) (Nat.le_of_ble_eq_true k)) h
theorem KJ{i:Nat}(h:i<2):i=0\/i=1:=(Nat.lt_or_eq_of_le (Nat.le_of_lt_succ h)).imp (λh=>Nat.le_zero.mp (Nat.le_of_lt_succ h)) id
theorem Mq{i:Nat}(h:i<3):i=0\/i=1\/i=2:=(Nat.lt_or_eq_of_le (Nat.le_of_lt_succ h)).elim (λh=>(KJ h).imp id .inl) λh=>.inr (.inr h)
theorem lA{α:Type _}{as bs:List α} : (as++bs).length=as.length+bs.length:=List.length_append
theorem lC{α:Type _}{a:α}{as:List α} : (a::as).length=as.length+1:=rfl
theorem lN{α:Type _} : ([]:List α).length=0:=rfl
theorem a7{P:Prop}(h:∀ G:Prop,(P->G)->G):P:=h P id
section
variable {α β γ:Type _} {A B C D E F:Prop}
theorem fI{a:α}(h:none=some a):C:=by cases h
theorem vm{a:α}{P:α->Prop}(h:P a):∀ x,some a=some x->P x:=λx e=>Option.some.inj e▸h
theorem DC{a:α}{b:β}{c:γ}{P:α->β->γ->Prop}(h:P a b c)(x:α)(y:β)(z:γ)(e:some (a,b,c)=some (x,y,z)):P x y z:=Eq.mp (congrArg (λq:α×β×γ=>P q.1 q.2.1 q.2.2) (Option.some.inj e)) h
theorem uU{a:α}(h:some a=none):C:=by cases h
theorem C7(h:A/\B/\D)(k:A->B->D->C):C:=k h.1 h.2.1 h.2.2
theorem zb(h:A/\B/\D/\E)(k:A->B->D->E->C):C:=k h.1 h.2.1 h.2.2.1 h.2.2.2
theorem kS(h:A/\B/\D/\E/\F)(k:A->B->D->E->F->C):C:=k h.1 h.2.1 h.2.2.1 h.2.2.2.1 h.2.2.2.2
section
variable {P Q R S T:α->Prop}
theorem cG(h:∃ a,P a/\Q a)(k:∀ a,P a->Q a->C):C:=h.elim λa h=>k a h.1 h.2
theorem fW(h:∃ a,P a/\Q a/\R a)(k:∀ a,P a->Q a->R a->C):C:=h.elim λa h=>k a h.1 h.2.1 h.2.2
theorem sy(h:∃ a,P a/\Q a/\R a/\S a)(k:∀ a,P a->Q a->R a->S a->C):C:=h.elim λa h=>k a h.1 h.2.1 h.2.2.1 h.2.2.2
theorem PC(h:∃ a,P a/\Q a/\R a/\S a/\T a)(k:∀ a,P a->Q a->R a->S a->T a->C):C:=h.elim λa h=>k a h.1 h.2.1 h.2.2.1 h.2.2.2.1 h.2.2.2.2
end
section
variable {P Q R S:α->β->Prop}
theorem pG(h:∃ a b,P a b)(k:∀ a b,P a b->C):C:=h.elim λa h=>h.elim (k a)
theorem pf(h:∃ a b,P a b/\Q a b)(k:∀ a b,P a b->Q a b->C):C:=h.elim λa h=>h.elim λb h=>k a b h.1 h.2
theorem gf(h:∃ a b,P a b/\Q a b/\R a b)(k:∀ a b,P a b->Q a b->R a b->C):C:=h.elim λa h=>h.elim λb h=>k a b h.1 h.2.1 h.2.2
theorem PA(h:∃ a b,P a b/\Q a b/\R a b/\S a b)(k:∀ a b,P a b->Q a b->R a b->S a b->C):C:=h.elim λa h=>h.elim λb h=>k a b h.1 h.2.1 h.2.2.1 h.2.2.2
end
theorem Oi{P:α->β->γ->Prop}(h:∃ a b c,P a b c)(k:∀ a b c,P a b c->C):C:=h.elim λa h=>h.elim λb h=>h.elim (k a b)
theorem GZ{P Q:α->β->γ->Prop}(h:∃ a b c,P a b c/\Q a b c)(k:∀ a b c,P a b c->Q a b c->C):C:=h.elim λa h=>h.elim λb h=>h.elim λc h=>k a b c h.1 h.2
theorem na{P Q R:α->β->γ->Prop}(h:∃ a b c,P a b c/\Q a b c/\R a b c)(k:∀ a b c,P a b c->Q a b c->R a b c->C):C:=h.elim λa h=>h.elim λb h=>h.elim λc h=>k a b c h.1 h.2.1 h.2.2
end
theorem rX{α:Type _} : ∀ {l:List α},l.length<=1->l=[]\/∃ a,l=[a]
 | [],_=>.inl rfl
 | [a],_=>.inr ⟨a,rfl⟩
 | _::_::_,h=>absurd h (Nat.not_succ_le_self _∘λh=>Nat.le_of_succ_le_succ (Nat.le_trans (Nat.succ_le_succ (Nat.succ_le_succ (Nat.zero_le _))) h))
theorem rW{α:Type}{l:List α}(h:l.length=2):∃ a b,l=[a,b]:=by
 cases l with
 | nil=>exact nomatch h
 | cons a l=>
  cases l with
  | nil=>exact nomatch h
  | cons b l=>
   cases l with
   | nil=>exact⟨a,b,rfl⟩
   | cons c l=>exact nomatch Nat.succ.inj (Nat.succ.inj h)
end Mine
namespace Mine
open PySem PySem.Sem
structure SX where
 objs:List (Addr×Obj)
 n:Nat
 toks:Nat
noncomputable def lk(a:Addr)(l:List (Addr×Obj)):Option Obj:=
 @List.rec (Addr×Obj) (λ_=>Option Obj) none (λp _ ih=>@Bool.rec (λ_=>Option Obj) ih (some p.2) (Nat.beq p.1 a)) l
noncomputable def up(a:Addr)(f:Obj->Obj)(l:List (Addr×Obj)):List (Addr×Obj):=
 @List.rec (Addr×Obj) (λ_=>List (Addr×Obj)) [] (λp r ih=>@Bool.rec (λ_=>List (Addr×Obj)) (p::ih) ((p.1,f p.2)::r) (Nat.beq p.1 a)) l
noncomputable def qA(o:Obj):Bool:=match o.data with|.freed=>false|_=>true
theorem f9{o:Obj}(h:qA o=true):o.isFreed=false:=by
 obtain⟨c,d,dt,sl⟩:=o
 induction dt<;>first|rfl|exfalso;cases h
structure dB(x:SX)(s:Shared):Prop where
 objs:∀ a o,lk a x.objs=some o->s.heap.get? a=some o
 n:s.heap.objs.size=x.n
 toks:s.toks=x.toks
 below:∀ a o,lk a x.objs=some o->a<x.n
structure fG(x x':SX)(s s':Shared):Prop where
 rest:∀ a o,lk a x.objs=none->s.heap.get? a=some o->s'.heap.get? a=some o
 life:s'.heap.life=s.heap.life
 gens:s'.gens=s.gens
 drawn:s'.drawn=s.drawn
 os:s'.os=s.os
 old:∀ a o,lk a x.objs=some o->∃ o',lk a x'.objs=some o'
 grows:x.n<=x'.n
 new:∀ a o,lk a x'.objs=some o->lk a x.objs=none->x.n<=a
theorem eE(p:Addr×Obj)(l:List (Addr×Obj))(a:Addr):lk a (p::l)=if p.1=a then some p.2 else lk a l:=by
 show @Bool.rec (λ_=>Option Obj) (lk a l) (some p.2) (Nat.beq p.1 a)=_
 induction h:Nat.beq p.1 a with
 | true=>exact ac (if_pos (Nat.eq_of_beq_eq_true h)) rfl
 | false=>exact ac (if_neg (Nat.ne_of_beq_eq_false h)) rfl
theorem Iy(a:Addr):lk a []=none:=rfl
theorem Be(p:Addr×Obj)(l:List (Addr×Obj))(a:Addr)(f:Obj->Obj):up a f (p::l)=if p.1=a then(p.1,f p.2)::l else p::up a f l:=by
 show @Bool.rec (λ_=>List (Addr×Obj)) (p::up a f l) ((p.1,f p.2)::l) (Nat.beq p.1 a)=_
 induction h:Nat.beq p.1 a with
 | true=>exact ac (if_pos (Nat.eq_of_beq_eq_true h)) rfl
 | false=>exact ac (if_neg (Nat.ne_of_beq_eq_false h)) rfl
theorem rR(a:Addr)(f:Obj->Obj)(b:Addr):∀ l,lk b (up a f l)=if b=a then(lk b l).map f else lk b l:=by
 intro z_
 induction z_ with
 | nil=>
  have e:up a f []=[]:=rfl
  refine ac (e ..) (ac (Iy ..) ?_);split<;>rfl
 | cons p l ihz=>
  refine ac (Be ..) ?_
  by_cases h:p.1=a
  ·refine ac (if_pos h) (ac (eE ..) (ac (eE ..) ?_))
   by_cases q:b=a
   ·simp[h,q]
   ·have:¬ a=b:=λe=>q e.symm
    simp[h,q,this]
  ·refine ac (if_neg h) (ac (eE ..) (ac (eE ..) (ac (ihz) ?_)))
   by_cases q:b=a
   ·subst q;simp[h]
   ·simp[q]
noncomputable def oK(run:Ctx->Sem Fin->Pos->SX->Option (Fin×Pos×SX))(den:Code->Sem Fin):Nat->Ctx->Pos->SX->Option (Result×SX)
 | 0,_,_,_=>none
 | n+1,Γ,p,s=>match run Γ (den Γ.code) p s with
  | some (.done f,_,s')=>some (.ok f,s')
  | some (.again c,p',s')=>match c.quiet with
   | true=>oK run den n (Γ.goto c) p' s'
   | false=>none
  | none=>none
noncomputable def lg(den:Code->Sem Fin)(S:Setting):Nat->{α:Type}->Ctx->Sem α->Pos->SX->Option (α×Pos×SX)
 | 0,_,_,_,_,_=>none
 | n+1,_,Γ,t,p,s=>match t with
  | .pure a=>some (a,p,s)
  | .rule _ k=>lg den S n Γ (k ()) p s
  | .at p' k=>lg den S n Γ (k ()) p' s
  | .point _ k=>lg den S n Γ (k ()) p s
  | .load a _ k=>(lk a s.objs).bind λo=>lg den S n Γ (k o) p s
  | .update a _ f k=>(lk a s.objs).bind λo=>match qA (f o) with
   | true=>lg den S n Γ (k ()) p { s with objs:=up a f s.objs }
   | false=>none
  | .alloc o k=>match qA o with
   | true=>lg den S n Γ (k s.n) p { s with objs:=(s.n,o)::s.objs,n:=s.n+1 }
   | false=>none
  | .fresh k=>lg den S n Γ (k s.toks) p { s with toks:=s.toks+1 }
  | .ask k=>lg den S n Γ (k S) p s
  | .handled own k=>lg den S n Γ (k (if own then Γ.own else Γ.handled)) p s
  | .stack k=>lg den S n Γ (k ((Γ.code,p)::Γ.below)) p s
  | .call c h _ _ k=>(oK (λΓ t p s=>lg den S n Γ t p s) den n (Γ.enter c h p) p s).bind λq=>lg den S n Γ (k q.1) p q.2
  | _=>none
theorem fG.refl(x:SX)(s:Shared):fG x x s s:=⟨λ_ _ _ e=>e,rfl,rfl,rfl,rfl,λ_ o e=>⟨o,e⟩,Nat.le_refl _,λa o e q=>by rw[e] at q;exact uU q⟩
theorem fG.trans{x y z:SX}{s t u:Shared}(hb:∀ a o,s.heap.get? a=some o->a<x.n)(a:fG x y s t)(b:fG y z t u):fG x z s u:=by
 refine⟨λc o e h=>?_,b.life.trans a.life,b.gens.trans a.gens,b.drawn.trans a.drawn,b.os.trans a.os,λc o e=>?_,Nat.le_trans a.grows b.grows,λc o e q=>?_⟩
 ·refine b.rest c o ?_ (a.rest c o e h)
  match q:lk c y.objs with
  | none=>rfl
  | some o'=>exact absurd (hb c o h) (Nat.not_lt.mpr (a.new c o' q e))
 ·refine(a.old c o e).elim λo' h=>?_
  exact b.old c o' h
 ·match h:lk c y.objs with
  | none=>exact Nat.le_trans a.grows (b.new c o e h)
  | some o'=>exact a.new c o' h q
section
variable {M:Model}
theorem dB.lt{x:SX}{s:Shared}(B:dB x s)(a:Addr)(o:Obj)(h:s.heap.get? a=some o):a<x.n:=B.n▸Heap.lt_size h
noncomputable def OF(M:Model)(n:Nat):Prop:=∀ {α:Type} (Γ:Ctx) (t:Sem α) (p:Pos) (x:SX) (a:α) (p':Pos) (x':SX) (s:Shared) (Q:α->Pos->Shared->Prop) (E:Value->Pos->Shared->Prop),
 lg M.den ⟨M.prog,M.w.params⟩ n Γ t p x=some (a,p',x')->dB x s->(∀ s',dB x' s'->fG x x' s s'->Q a p' s')->wp M Γ t Q E p s
set_option tactic.hygienic true in
theorem oJ{n:Nat}(ih:OF M n):∀ (m:Nat) (Γ:Ctx) (p:Pos) (x:SX) (r:Result) (x':SX) (s:Shared) (R:Result->Shared->Prop),
 oK (λΓ t p s=>lg M.den ⟨M.prog,M.w.params⟩ n Γ t p s) M.den m Γ p x=some (r,x')->dB x s->(∀ s',dB x' s'->fG x x' s s'->R r s')->wpCode M Γ R p s:=by
 intro z_
 induction z_ with
 | zero=>
  intro _ _ _ _ _ _ _ h _ _
  exfalso;cases h
 | succ m ihz=>
  intro Γ p x r x' s R h B k
  simp only[oK] at h
  rw[wpCode_iff_wp]
  split at h
  ·rename_i f p1 x1 hs
   cases h
   refine ih Γ _ p x _ _ _ s _ _ hs B λs' B' K'=>?_
   exact k s' B' K'
  ·rename_i c p1 x1 hs
   refine ih Γ _ p x _ _ _ s _ _ hs B λs' B' K'=>?_
   split at h
   ·rename_i hq
    exact⟨hq,ihz (Γ.goto c) p1 x1 r x' s' R h B' λs2 B2 K2=>k s2 B2 (fG.trans (λa o e=>B.lt a o e) K' K2)⟩
   ·exfalso;cases h
  ·exact fI h
theorem dB.upd{x:SX}{s:Shared}{b:Addr}{f:Obj->Obj}{o:Obj}(B:dB x s)(ho:lk b x.objs=some o)(hl:qA (f o)=true):dB { x with objs:=up b f x.objs } { s with heap:=s.heap.update b f }:=by
 have hs:Heap.SameBut b s.heap (s.heap.update b f):=Heap.SameBut.update ..
 refine⟨λc o' e=>?_,hs.1.trans B.n,B.toks,λc o' e=>?_⟩
 ·rw[show lk c (up b f x.objs)=_ from rR ..] at e
  by_cases q:c=b
  ·rw[if_pos q,q,ho] at e
   refine ac q (ac (Option.some.inj e).symm ?_)
   exact Heap.get?_update_self f (B.objs _ _ ho) (f9 hl)
  ·rw[if_neg q] at e
   exact(hs.2 c q).trans (B.objs _ _ e)
 ·rw[show lk c (up b f x.objs)=_ from rR ..] at e
  by_cases q:c=b
  ·exact q.symm▸(B.below _ _ ho)
  ·rw[if_neg q] at e;exact B.below _ _ e
theorem fG.upd{x:SX}{s:Shared}{b:Addr}{f:Obj->Obj}{o:Obj}(ho:lk b x.objs=some o):fG x { x with objs:=up b f x.objs } s { s with heap:=s.heap.update b f }:=by
 have hs:Heap.SameBut b s.heap (s.heap.update b f):=Heap.SameBut.update ..
 refine⟨λc o' e hc=>(hs.2 c λq=>by rw[q,ho] at e;exact nomatch e).trans hc,rfl,rfl,rfl,rfl,λc o' e=>?_,Nat.le_refl _,λc o' e q=>?_⟩
 ·refine ac (show lk c (up b f x.objs)=_ from rR ..) ?_
  by_cases q:c=b
  ·refine ac (if_pos q) (ac e ?_);exact⟨_,rfl⟩
  ·refine ac (if_neg q) ?_;exact⟨_,e⟩
 ·rw[show lk c (up b f x.objs)=_ from rR ..] at e
  by_cases z:c=b
  ·rw[z,ho] at q;exact nomatch q
  ·rw[if_neg z,q] at e;exact nomatch e
theorem dB.all{x:SX}{s:Shared}{o:Obj}(B:dB x s)(hl:qA o=true):dB { x with objs:=(x.n,o)::x.objs,n:=x.n+1 } { s with heap:=s.heap.push o }:=by
 refine⟨λc o' e=>?_,by exact ac (Heap.size_push ..) (ac (B.n ..) rfl),B.toks,λc o' e=>?_⟩
 ·rw[show lk c ((x.n,o)::x.objs)=_ from eE ..] at e
  by_cases q:x.n=c
  ·rw[if_pos q] at e
   have:=Heap.get?_push_size s.heap (f9 hl)
   rw[B.n,q] at this
   exact this.trans e
  ·rw[if_neg q] at e
   exact Heap.get?_push_of_some o (B.objs _ _ e)
 ·rw[show lk c ((x.n,o)::x.objs)=_ from eE ..] at e
  by_cases q:x.n=c
  ·exact q▸(Nat.lt_succ_self _)
  ·rw[if_neg q] at e;exact Nat.lt_succ_of_lt (B.below _ _ e)
theorem fG.all{x:SX}{s:Shared}{o:Obj} : fG x { x with objs:=(x.n,o)::x.objs,n:=x.n+1 } s { s with heap:=s.heap.push o }:=by
 refine⟨λc o' e hc=>Heap.get?_push_of_some o hc,rfl,rfl,rfl,rfl,λc o' e=>?_,Nat.le_succ _,λc o' e q=>?_⟩
 ·refine ac (show lk c ((x.n,o)::x.objs)=_ from eE ..) ?_
  by_cases q:x.n=c
  ·refine ac (if_pos q) ?_;exact⟨_,rfl⟩
  ·refine ac (if_neg q) ?_;exact⟨_,e⟩
 ·rw[show lk c ((x.n,o)::x.objs)=_ from eE ..] at e
  by_cases z:x.n=c
  ·exact Nat.le_of_eq z
  ·rw[if_neg z,q] at e;exact nomatch e
theorem nq{α β:Type}{o:Option α}{f:α->Option β}{b:β}(h:o.bind f=some b):∃ a,o=some a/\f a=some b:=Option.bind_eq_some_iff.mp h
theorem rS{β:Type}{c:Bool}{f:Option β}{b:β}(h:(match c with|true=>f|false=>none)=some b):c=true/\f=some b:=by
 induction c with
 | false=>exact nomatch h
 | true=>exact⟨rfl,h⟩
theorem tm:∀ n,OF M n:=λn=>by
 induction n with
 | zero=>intro _ Γ t p x a p' x' s Q E h;exact nomatch h
 | succ n ih=>
  intro _ Γ t p x a p' x' s Q E h B k
  induction t with
  | pure b=>cases h;refine ac (wp_pure ..) ?_;exact k s B (.refl ..)
  | rule _ kk=>refine ac (wp_rule ..) ?_;exact ih _ _ _ _ _ _ _ _ _ _ h B k
  | «at» _ kk=>refine ac (wp_at ..) ?_;exact ih _ _ _ _ _ _ _ _ _ _ h B k
  | point _ kk=>refine ac (wp_point ..) ?_;exact ih _ _ _ _ _ _ _ _ _ _ h B k
  | load b _ kk=>
   refine cG (nq (o:=lk b x.objs) (f:=λo=>lg M.den ⟨M.prog,M.w.params⟩ n Γ (kk o) p x) h) λo ho h=>?_
   refine ac (wp_load ..) ?_
   exact⟨o,B.objs _ _ ho,ih _ _ _ _ _ _ _ _ _ _ h B k⟩
  | update b _ f kk=>
   refine cG (nq (o:=lk b x.objs) (f:=λo=>match qA (f o) with|true=>lg M.den ⟨M.prog,M.w.params⟩ n Γ (kk ()) p { x with objs:=up b f x.objs } | false=>none) h) λo ho h=>?_
   refine(rS (c:=qA (f o)) (f:=lg M.den ⟨M.prog,M.w.params⟩ n Γ (kk ()) p { x with objs:=up b f x.objs }) h).elim λhl h=>?_
   refine ac (wp_update ..) ?_
   exact⟨by refine(B.objs _ _ ho).symm ▸ ?_;rfl,ih _ _ _ _ _ _ _ _ _ _ h (B.upd ho hl) λs' Bs Ks=>k s' Bs (fG.trans (λa o e=>B.lt a o e) (fG.upd ho) Ks)⟩
  | alloc o kk=>
   refine(rS h).elim λhl h=>?_
   refine ac (wp_alloc ..) (ac (B.n ..) ?_)
   exact ih _ _ _ _ _ _ _ _ _ _ h (B.all hl) λs' Bs Ks=>k s' Bs (fG.trans (λa o e=>B.lt a o e) fG.all Ks)
  | fresh kk=>
   refine ac (wp_fresh ..) (ac (B.toks ..) ?_)
   exact ih _ _ _ _ _ _ _ _ _ _ h (show dB { x with toks:=x.toks+1 } { s with toks:=x.toks+1 } from⟨B.objs,B.n,rfl,B.below⟩) λs' Bs Ks=>k s' Bs ⟨Ks.rest,Ks.life,Ks.gens,Ks.drawn,Ks.os,Ks.old,Ks.grows,Ks.new⟩
  | ask kk=>refine ac (wp_ask ..) ?_;exact ih _ _ _ _ _ _ _ _ _ _ h B k
  | handled own kk=>refine ac (wp_handled ..) ?_;exact ih _ _ _ _ _ _ _ _ _ _ h B k
  | stack kk=>refine ac (wp_stack ..) ?_;exact ih _ _ _ _ _ _ _ _ _ _ h B k
  | call c hd g l kk=>
   refine cG (nq (o:=oK (λΓ t p s=>lg M.den ⟨M.prog,M.w.params⟩ n Γ t p s) M.den n (Γ.enter c hd p) p x) (f:=λq=>lg M.den ⟨M.prog,M.w.params⟩ n Γ (kk q.1) p q.2) h) λq hs h=>?_
   refine ac (wp_call ..) ?_
   exact oJ ih n _ p x q.1 q.2 s _ hs B λs1 B1 K1=>ih _ _ _ _ _ _ _ _ _ _ h B1 λs2 B2 K2=>k s2 B2 (fG.trans (λa o e=>B.lt a o e) K1 K2)
  | _=>exact nomatch (show none=some (a,p',x') from h)
end
end Mine
namespace Mine
theorem rL{a b c1 c2 d1 d2:Nat}(h:a+c1<=b+c2)(k:Nat.ble (d1+c2) (c1+d2)=true):a+d1<=b+d2:=by have:=Nat.le_of_ble_eq_true k;lia
theorem KI{a b c1 c2 d1:Nat}(h:a+c1<=b+c2)(k:Nat.ble (d1+c2) c1=true):a+d1<=b:=by have:=Nat.le_of_ble_eq_true k;lia
theorem uV{a b c1 d1:Nat}(h:a+c1<=b)(k:Nat.ble d1 c1=true):a+d1<=b:=by have:=Nat.le_of_ble_eq_true k;lia
theorem jQ{b c1 c2 d1:Nat}(h:c1<=b+c2)(k:Nat.ble (d1+c2) c1=true):d1<=b:=by have:=Nat.le_of_ble_eq_true k;lia
theorem lU{b c1 d1:Nat}(h:c1<=b)(k:Nat.ble d1 c1=true):d1<=b:=by have:=Nat.le_of_ble_eq_true k;lia
theorem Iu{b c1 c2 d1 d2:Nat}(h:c1<=b+c2)(k:Nat.ble (d1+c2) (c1+d2)=true):d1<=b+d2:=by have:=Nat.le_of_ble_eq_true k;lia
theorem Qj{a b c1 c2:Nat}(h:a+c1<=b+c2)(k:Nat.ble c2 c1=true):a<=b:=by have:=Nat.le_of_ble_eq_true k;lia
theorem A2{b c1 d1 d2:Nat}(h:c1<=b)(k:Nat.ble d1 (c1+d2)=true):d1<=b+d2:=by have:=Nat.le_of_ble_eq_true k;lia
theorem iX{a c d:Nat}(h:a<=c)(k:Nat.ble c d=true):a<=d:=by have:=Nat.le_of_ble_eq_true k;lia
theorem QS{a c d:Nat}(h:a<c)(k:Nat.ble c d=true):a<d:=by have:=Nat.le_of_ble_eq_true k;lia
inductive AV where
 | none|bool (b:Bool)|int (i:Int)|str (s:List Nat)|ref (a:Nat)|oth
 deriving DecidableEq,Inhabited
set_option genInjectivity true in
inductive AO where
 | inst (C:Nat) (fs:List (Nat×AV))
 | list (vs:List AV)
 | tup (vs:List AV)
noncomputable abbrev AH:=Nat->Option AO
noncomputable def AH.put(H:AH)(a:Nat)(o:AO):AH:=λb=>if b=a then some o else H b
inductive uS where
 | tStrs (l:List (List Nat))
 | tDict (l:List (List Nat×AV))
 | tInts (l:List Int)
structure aT where
 meth:Nat->Nat->Option Nat
 init:Nat->Option Nat
 stat:Nat->Option uS
 data:Nat->Nat->Bool
 isi:Nat->Nat->Bool
 calm:Prop
inductive A0 where|add|sub|mul|fdiv|mod|pow
inductive KB where|eq|ne|lt|le|gt|ge|isNone|isNotNone|inn|nin
inductive BI where|ord|len|max|min|tuple|str|int2|isInt|isStr|isCls (C:Nat)
inductive IE where
 | loc (i:Nat)
 | val (v:AV)
 | attr (e:IE) (k:Nat)
 | idx (e i:IE)
 | slice (e lo hi:IE)
 | bin (op:A0) (a b:IE)
 | cmp (op:KB) (a b:IE)
 | and (es:List IE)
 | or (es:List IE)
 | not (e:IE)
 | ite (t a b:IE)
 | tup (es:List IE)
 | lst (es:List IE)
 | call (f:Nat) (es:List IE)
 | new (C:Nat) (es:List IE)
 | meth (o:IE) (k:Nat) (es:List IE)
 | bi (b:BI) (es:List IE)
 | bad
 | comp (range:Bool) (src:IE) (tgt:List Nat) (one:Bool) (cond:Option IE) (elt:IE)
inductive IS where
 | ex (e:IE)
 | set (i:Nat) (e:IE)
 | setA (o:IE) (k:Nat) (e:IE)
 | setI (o i e:IE)
 | unp (is:List Nat) (e:IE)
 | ite (t:IE) (a b:List IS)
 | whl (t:IE) (b:List IS)
 | forR (i:Nat) (e:IE) (b:List IS)
 | ret (e:IE)
 | bad
noncomputable def ah:Nat:=1000000
noncomputable abbrev bd:=List (Option AV)
noncomputable def getL(m:bd)(i:Nat):Option AV:=match m[i]? with|some (some v)=>some v|_=>none
noncomputable def bT(m:bd)(i:Nat)(v:AV):bd:=m.set i (some v)
noncomputable abbrev au:=AV->AH->Prop
noncomputable abbrev CS:=Nat->List AV->AH->au->Prop
noncomputable def pF:Nat->List (Nat×AV)->Option AV
 | _,[]=>none
 | k,p::r=>match Nat.beq p.1 k with|true=>some p.2|false=>pF k r
noncomputable def xq:Nat->AV->List (Nat×AV)->List (Nat×AV)
 | k,v,[]=>[(k,v)]
 | k,v,p::r=>match Nat.beq p.1 k with|true=>(p.1,v)::r|false=>p::xq k v r
noncomputable def jR:List Nat->List (List Nat×AV)->Option AV
 | _,[]=>none
 | k,p::r=>if p.1=k then some p.2 else jR k r
noncomputable def g9(c:Nat):List Nat->Nat->Option Nat
 | [],_=>none
 | d::r,n=>match Nat.beq d c with|true=>some n|false=>g9 c r (n+1)
noncomputable abbrev tN(k:Int):Prop:=0<=k/\k<2^63
noncomputable def gx(c:Nat):Nat:=if 65<=c/\c<=90 then c+32 else c
noncomputable def eK(c:Nat):Nat:=if 97<=c/\c<=122 then c-32 else c
noncomputable def bf(s:List Nat):Prop:=∀ c∈s,c<128
noncomputable def aD:Nat->Nat->List Nat
 | 0,_=>[]
 | f+1,n=>if n<10 then[48+n] else aD f (n / 10)++[48+n % 10]
@[irreducible] noncomputable def dm(H:AH)(o:AO)(Q:Nat->AH->Prop):Prop:=∀ a,H a=none->Q a (H.put a o)
inductive sV(T:aT)(H:AH)(v:AV)(k:Nat)(Q:AV->Prop):Prop
 | mk (a C:Nat) (fs:List (Nat×AV)) (x:AV) (hv:v=.ref a) (hH:H a=some (.inst C fs)) (hd:T.data C k=true) (hx:pF k fs=some x) (q:Q x):sV T H v k Q
inductive sR(T:aT)(H:AH)(v:AV)(k:Nat)(x:AV)(Q:AH->Prop):Prop
 | mk (a C:Nat) (fs:List (Nat×AV)) (hv:v=.ref a) (hH:H a=some (.inst C fs)) (hd:T.data C k=true) (hl:fs.length<=20) (hx:x≠.oth) (q:Q (H.put a (.inst C (xq k x fs)))):sR T H v k x Q
noncomputable def i8(v:AV)(k:Int->Prop):Prop:=match v with
 | .int i=>k i
 | _=>False
noncomputable def jY(v:AV)(k:List Nat->Prop):Prop:=match v with
 | .str s=>k s
 | _=>False
noncomputable def Bd(vs:List AV)(k:Prop):Prop:=match vs with
 | []=>k
 | _::_=>False
noncomputable def nK(vs:List AV)(k:AV->Prop):Prop:=match vs with
 | v::r=>Bd r (k v)
 | []=>False
noncomputable def A1(vs:List AV)(k:AV->AV->Prop):Prop:=match vs with
 | v::r=>nK r (k v)
 | []=>False
noncomputable def pp(s:List Nat)(k:Nat->Prop):Prop:=match s with
 | c::r=>(match r with|[]=>k c|_::_=>False)
 | []=>False
theorem fg{v:AV}{k:Int->Prop}(h:i8 v k):∃ i,v=.int i/\k i:=by induction v<;>first|exact⟨_,rfl,h⟩|exact False.elim h
theorem se{v:AV}{k:List Nat->Prop}(h:jY v k):∃ i,v=.str i/\k i:=by induction v<;>first|exact⟨_,rfl,h⟩|exact False.elim h
theorem Hr{vs:List AV}{k:Prop}(h:Bd vs k):vs=[]/\k:=by induction vs<;>first|exact⟨rfl,h⟩|exact False.elim h
theorem Hq{vs:List AV}{k:AV->Prop}(h:nK vs k):∃ v,vs=[v]/\k v:=by
 induction vs with
 | nil=>exact False.elim h
 | cons v r=>obtain⟨e,h⟩:=Hr h;exact⟨v,by exact ac (e ..) rfl,h⟩
theorem OS{vs:List AV}{k:AV->AV->Prop}(h:A1 vs k):∃ v w,vs=[v,w]/\k v w:=by
 induction vs with
 | nil=>exact False.elim h
 | cons v r=>obtain⟨w,e,h⟩:=Hq h;exact⟨v,w,by exact ac (e ..) rfl,h⟩
theorem Db{s:List Nat}{k:Nat->Prop}(h:pp s k):∃ c,s=[c]/\k c:=by
 cases s with
 | nil=>exact False.elim h
 | cons c r=>induction r<;>first|exact⟨c,rfl,h⟩|exact False.elim h
theorem Kn{k n:Nat}{P R:Prop}(h:bif Nat.beq k n then P else R):(k=n/\P)\/R:=by
 cases e:Nat.beq k n with
 | true=>rw[e] at h;exact .inl ⟨Nat.eq_of_beq_eq_true e,h⟩
 | false=>rw[e] at h;exact .inr h
noncomputable def KW(op:A0)(a b:AV)(Q:AV->Prop):Prop:=match op with
 | .add=>(match a with
  | .int i=>i8 b λj=>Q (.int (i+j))
  | .str s=>jY b λt=>(s++t).length<=ah/\Q (.str (s++t))
  | _=>False)
 | .sub=>i8 a λi=>i8 b λj=>Q (.int (i-j))
 | .mul=>i8 a λi=>i8 b λj=>(i.natAbs<2^64/\j.natAbs<2^64)/\Q (.int (i*j))
 | .fdiv=>i8 a λi=>i8 b λj=>(0<j/\j<2^64)/\Q (.int (i / j))
 | .mod=>i8 a λi=>i8 b λj=>0<j/\Q (.int (i % j))
 | .pow=>i8 a λi=>i8 b λj=>(i=10/\j=18)/\Q (.int 1000000000000000000)
inductive j0(T:aT)(H:AH)(v i:AV)(Q:AV->Prop):Prop
 | i1 (a:Nat) (k:Int) (vs:List AV) (x:AV) (hv:v=.ref a) (hi:i=.int k) (hH:H a=some (.list vs)\/H a=some (.tup vs)) (hx:(tN k/\vs[k.toNat]?=some x)\/(k = -1/\vs.getLast?=some x)) (q:Q x):j0 T H v i Q
 | i2 (s:List Nat) (k:Int) (c:Nat) (hv:v=.str s) (hi:i=.int k) (hk:tN k) (hx:s[k.toNat]?=some c) (q:Q (.str [c])):j0 T H v i Q
 | i3 (a:Nat) (t:List Nat) (l:List (List Nat×AV)) (x:AV) (hv:v=.ref a) (hi:i=.str t) (hs:T.stat a=some (.tDict l)) (hx:jR t l=some x) (q:Q x):j0 T H v i Q
 | i4 (a:Nat) (k:Int) (l:List Int) (x:Int) (hv:v=.ref a) (hi:i=.int k) (hs:T.stat a=some (.tInts l)) (hk:tN k) (hx:l[k.toNat]?=some x) (q:Q (.int x)):j0 T H v i Q
@[irreducible] noncomputable def OR(s:List Nat)(a b:Int)(Q:AV->Prop):Prop:=(0<=a/\0<=b/\s.length<=ah)/\Q (.str ((s.take b.toNat).drop a.toNat))
noncomputable def u1(v lo hi:AV)(Q:AV->Prop):Prop:=match v,lo,hi with
 | .str s,.int a,.int b=>OR s a b Q
 | _,_,_=>False
inductive AN(T:aT)(H:AH)(x c:AV)(Q:Bool->Prop):Prop
 | i1 (d:Nat) (t:List Nat) (hx:x=.str [d]) (hc:c=.str t) (q:Q (decide (d∈t))):AN T H x c Q
 | i2 (s:List Nat) (a:Nat) (l:List (List Nat)) (hx:x=.str s) (hc:c=.ref a) (hH:H a=some (.tup (l.map AV.str))) (q:Q (decide (s∈l))):AN T H x c Q
 | i3 (s:List Nat) (a:Nat) (l:List (List Nat)) (hx:x=.str s) (hc:c=.ref a) (hs:T.stat a=some (.tStrs l)) (q:Q (decide (s∈l))):AN T H x c Q
 | i4 (s:List Nat) (a:Nat) (l:List (List Nat×AV)) (hx:x=.str s) (hc:c=.ref a) (hs:T.stat a=some (.tDict l)) (q:Q (jR s l).isSome):AN T H x c Q
inductive DT where
 | none|bool (b:Bool)|int (i:Int)|str (s:List Nat)|tup (l:List DT)
 deriving Inhabited
mutual
noncomputable def DT.dep:DT->Nat
 | .tup l=>DT.depL l+1
 | _=>0
noncomputable def DT.depL:List DT->Nat
 | []=>0
 | d::r=>max d.dep (DT.depL r)
end
mutual
noncomputable def DT.good:DT->Bool
 | .tup l=>DT.goodL l
 | .str s=>s.all λc=>Nat.blt c 1114112
 | _=>true
noncomputable def DT.goodL:List DT->Bool
 | []=>true
 | d::r=>d.good&&DT.goodL r
end
mutual
inductive bS(H:AH):AV->DT->Prop
 | none:bS H .none .none
 | bool {b} : bS H (.bool b) (.bool b)
 | int {i} : bS H (.int i) (.int i)
 | str {s} : bS H (.str s) (.str s)
 | tup {a vs ds} : H a=some (.tup vs)->Dats H vs ds->bS H (.ref a) (.tup ds)
inductive Dats(H:AH):List AV->List DT->Prop
 | nil:Dats H [] []
 | cons {v vs d ds} : bS H v d->Dats H vs ds->Dats H (v::vs) (d::ds)
end
inductive uO(H:AH)(a b:AV)(Q:Bool->Prop):Prop
 | i1 (x y:Nat) (vs:List AV) (ha:a=.ref x) (hb:b=.ref y) (hx:H x=some (.list vs)) (hy:H y=some (.list [])) (q:Q vs.isEmpty):uO H a b Q
 | i2 (d:DT) (ha:bS H a d) (hb:bS H b d) (hg:d.good=true) (hd:d.dep<=64) (q:Q true):uO H a b Q
noncomputable def OI(H:AH)(a b:AV)(Q:Bool->Prop):Prop:=match a,b with
 | .int i,.int j=>Q (decide (i=j))
 | .str s,.str t=>Q (decide (s=t))
 | .ref _,.ref _=>uO H a b Q
 | _,_=>False
noncomputable def gV(T:aT)(op:KB)(H:AH)(a b:AV)(Q:Bool->Prop):Prop:=match op with
 | .eq=>OI H a b Q
 | .ne=>OI H a b λr=>Q (!r)
 | .lt=>match a,b with|.int i,.int j=>Q (decide (i<j))|_,_=>False
 | .le=>match a,b with|.int i,.int j=>Q (decide (i<=j))|_,_=>False
 | .gt=>match a,b with|.int i,.int j=>Q (decide (i>j))|_,_=>False
 | .ge=>match a,b with|.int i,.int j=>Q (decide (i ≥ j))|_,_=>False
 | .isNone=>match a with|.oth=>False|.none=>Q true|_=>Q false
 | .isNotNone=>match a with|.oth=>False|.none=>Q false|_=>Q true
 | .inn=>AN T H a b Q
 | .nin=>AN T H a b λr=>Q (!r)
noncomputable def Bc(v:AV)(Q:Bool->Prop):Prop:=match v with
 | .bool b=>Q b
 | _=>False
inductive lv(T:aT)(H:AH)(v:AV)(Q:Nat->Prop):Prop
 | i1 (s:List Nat) (hv:v=.str s) (hl:s.length<=ah) (q:Q s.length):lv T H v Q
 | i2 (a:Nat) (vs:List AV) (hv:v=.ref a) (hl:vs.length<=ah) (hH:H a=some (.list vs)\/H a=some (.tup vs)) (q:Q vs.length):lv T H v Q
 | i3 (a:Nat) (l:List Int) (hv:v=.ref a) (hs:T.stat a=some (.tInts l)) (q:Q l.length):lv T H v Q
inductive jG(H:AH)(v:AV)(Q:AV->AH->Prop):Prop
 | mk (a:Nat) (vs:List AV) (hv:v=.ref a) (hH:H a=some (.list vs)) (hl:vs.length<=ah) (q:dm H (.tup vs) λb H'=>Q (.ref b) H'):jG H v Q
inductive Dr(T:aT)(H:AH)(v:AV)(C:Nat)(Q:Bool->Prop):Prop
 | mk (a D:Nat) (fs:List (Nat×AV)) (hv:v=.ref a) (hH:H a=some (.inst D fs)) (hi:T.isi D C=true) (q:Q (Nat.beq D C)):Dr T H v C Q
inductive sT(H:AH)(sep:List Nat)(v:AV)(Q:AV->Prop):Prop
 | mk (a:Nat) (l:List (List Nat)) (hv:v=.ref a) (hH:H a=some (.list (l.map AV.str))) (hl:sep.length<=ah/\(List.intercalate sep l).length<=ah) (q:Q (.str (List.intercalate sep l))):sT H sep v Q
inductive kc(H:AH)(v x:AV)(Q:AH->Prop):Prop
 | mk (a:Nat) (vs:List AV) (hv:v=.ref a) (hH:H a=some (.list vs)) (hl:vs.length<=ah) (hx:x≠.oth) (q:Q (H.put a (.list (vs++[x])))):kc H v x Q
inductive sQ(H:AH)(v i x:AV)(Q:AH->Prop):Prop
 | mk (a:Nat) (k:Int) (vs:List AV) (hv:v=.ref a) (hi:i=.int k) (hk:tN k) (hl:k.toNat<vs.length) (hx:x≠.oth) (hH:H a=some (.list vs)) (q:Q (H.put a (.list (vs.set k.toNat x)))):sQ H v i x Q
inductive Du(T:aT)(v k d:AV)(Q:AV->Prop):Prop
 | mk (a:Nat) (s:List Nat) (l:List (List Nat×AV)) (hv:v=.ref a) (hk:k=.str s) (hd:d≠.oth) (hs:T.stat a=some (.tDict l)) (q:Q ((jR s l).getD d)):Du T v k d Q
inductive jg(H:AH)(v:AV)(n:Nat)(Q:List AV->Prop):Prop
 | mk (a:Nat) (vs:List AV) (hv:v=.ref a) (hH:H a=some (.tup vs)) (hl:vs.length=n) (q:Q vs):jg H v n Q
noncomputable abbrev CJ:Nat:=0
noncomputable abbrev Pk:Nat:=1
noncomputable abbrev Qm:Nat:=2
noncomputable abbrev Pi:Nat:=3
noncomputable abbrev O8:Nat:=4
noncomputable abbrev MI:Nat:=5
noncomputable abbrev Qn:Nat:=6
noncomputable abbrev OO:Nat:=7
@[irreducible] noncomputable def pA(s:List Nat)(c:Nat)(i:Int)(Q:AV->Prop):Prop:=0<=i/\Q (match g9 c (s.drop i.toNat) i.toNat with|some j=>.int j|none=>.int (-1))
noncomputable def u0(H:AH)(s:List Nat)(k:Nat)(vs:List AV)(Q:AV->Prop):Prop:=
 bif Nat.beq k 2 then nK vs λv=>sT H s v Q
 else bif Nat.beq k 3 then Bd vs ((bf s/\s.length<=ah)/\Q (.str (s.map gx)))
 else bif Nat.beq k 4 then Bd vs ((bf s/\s.length<=ah)/\Q (.str (s.map eK)))
 else bif Nat.beq k 5 then Bd vs (bf s/\Q (.bool true))
 else bif Nat.beq k 6 then A1 vs λv w=>jY v λs'=>pp s' λc=>i8 w λi=>pA s c i Q
 else bif Nat.beq k 7 then nK vs λv=>jY v λs'=>pp s' λc=>s.length<=ah/\Q (.str (s.dropWhile (· == c)))
 else False
noncomputable def OJ(T:aT)(b:BI)(H:AH)(vs:List AV)(Q:AV->AH->Prop):Prop:=match b with
 | .ord=>nK vs λv=>jY v λs=>pp s λc=>c<128/\Q (.int c) H
 | .len=>nK vs λv=>lv T H v λn=>Q (.int n) H
 | .max=>A1 vs λv w=>i8 v λi=>i8 w λj=>Q (.int (max i j)) H
 | .min=>A1 vs λv w=>i8 v λi=>i8 w λj=>Q (.int (min i j)) H
 | .tuple=>nK vs λv=>jG H v Q
 | .str=>nK vs λv=>i8 v λi=>(0<=i/\i<1000)/\Q (.str (aD 4 i.toNat)) H
 | .int2=>A1 vs λv w=>jY v λs=>i8 w λj=>j=10/\∃ n:Nat,n<1000/\s=aD 4 n/\Q (.int n) H
 | .isInt=>nK vs λv=>match v with|.int _=>Q (.bool true) H|.str _=>Q (.bool false) H|_=>False
 | .isStr=>nK vs λv=>match v with|.str _=>Q (.bool true) H|.int _=>Q (.bool false) H|_=>False
 | .isCls C=>nK vs λv=>Dr T H v C λr=>Q (.bool r) H
noncomputable abbrev MA(W:AH->List AV->(List AV->AH->Prop)->Prop)(acc:List AV)(Q:List AV->AH->Prop):Option AV->AH->Prop:=λo H'=>match o with
 | some x=>x≠.oth/\W H' (acc++[x]) Q
 | none=>W H' acc Q
noncomputable def eJ(ok:AH->Prop)(turn:AV->AH->(Option AV->AH->Prop)->Prop):List AV->AH->List AV->(List AV->AH->Prop)->Prop
 | [],H,acc,Q=>ok H/\acc.length<=ah/\Q acc H
 | v::r,H,acc,Q=>ok H/\acc.length<=ah/\turn v H (MA (eJ ok turn r) acc Q)
noncomputable def cnt(n:Nat):List AV:=(List.range n).map λ(k:Nat)=>AV.int (Int.ofNat k)
inductive rk(H:AH)(v:AV)(Q:Nat->List AV->Prop):Prop
 | mk (a:Nat) (vs:List AV) (hv:v=.ref a) (hH:H a=some (.list vs)) (hl:vs.length<=ah) (q:Q a vs):rk H v Q
noncomputable def Hp(H:AH)(m:bd)(tgt:List Nat)(one:Bool)(v:AV)(Q:bd->Prop):Prop:=match one,tgt with
 | true,[i]=>Q (bT m i v)
 | false,[i,j]=>jg H v 2 λvs=>match vs with|[x,y]=>Q (bT (bT m i x) j y)|_=>False
 | _,_=>False
noncomputable abbrev IM(C:CS)(f a:Nat)(Q:au):List AV->AH->Prop:=λvs H=>C f (.ref a::vs) H Q
inductive KD(H:AH)(o:AV)(Q:au)(vs:List AV):Prop
 | mk (x:AV) (hv:vs=[x]) (q:kc H o x λH₃=>Q .none H₃):KD H o Q vs
inductive KC(T:aT)(H:AH)(o:AV)(Q:au)(vs:List AV):Prop
 | mk (x d:AV) (hv:vs=[x,d]) (q:Du T o x d λv=>Q v H):KC T H o Q vs
inductive eT(T:aT)(C:CS)(H₁:AH)(o:AV)(k:Nat)(args:(List AV->AH->Prop)->Prop)(Q:au):Prop
 | i1 (a D:Nat) (fs:List (Nat×AV)) (f:Nat) (ho:o=.ref a) (hH:H₁ a=some (.inst D fs)) (hk:pF k fs=none) (hm:T.meth D k=some f) (q:args (IM C f a Q)):eT T C H₁ o k args Q
 | i2 (a:Nat) (vs₁:List AV) (ho:o=.ref a) (hk:k=CJ) (hH:H₁ a=some (.list vs₁)) (q:args λvs H₂=>KD H₂ o Q vs):eT T C H₁ o k args Q
 | i3 (a:Nat) (l:List (List Nat×AV)) (ho:o=.ref a) (hk:k=Pk) (hs:T.stat a=some (.tDict l)) (q:args λvs H₂=>KC T H₂ o Q vs):eT T C H₁ o k args Q
 | i4 (s:List Nat) (ho:o=.str s) (h2:2<=k) (h7:k<=7) (q:args λvs H₂=>u0 H₂ s k vs λv=>Q v H₂):eT T C H₁ o k args Q
noncomputable abbrev IK(x:Nat)(Q:au):au:=λr H=>r=.none/\Q (.ref x) H
noncomputable abbrev MJ(C:CS)(f:Nat)(vs:List AV)(Q:au):Nat->AH->Prop:=λx H=>C f (.ref x::vs) H (IK x Q)
inductive el(T:aT)(C:CS)(D:Nat)(vs:List AV)(H:AH)(Q:au):Prop
 | mk (f:Nat) (hi:T.init D=some f) (q:dm H (.inst D []) (MJ C f vs Q)):el T C D vs H Q
noncomputable abbrev WE:=AH->au->Prop
noncomputable abbrev BP:=Bool->AH->Prop
noncomputable abbrev ym(T:aT)(k:Nat)(Q:au):au:=λv H=>sV T H v k λx=>Q x H
noncomputable abbrev MK(T:aT)(v:AV)(Q:au):au:=λj H=>j0 T H v j λx=>Q x H
noncomputable abbrev ML(T:aT)(W:WE)(Q:au):au:=λv H=>W H (MK T v Q)
noncomputable abbrev MC(v a:AV)(Q:au):au:=λb H=>u1 v a b λx=>Q x H
noncomputable abbrev Pb(W:WE)(v:AV)(Q:au):au:=λa H=>W H (MC v a Q)
noncomputable abbrev QW(W V:WE)(Q:au):au:=λv H=>W H (Pb V v Q)
noncomputable abbrev MP(op:A0)(x:AV)(Q:au):au:=λy H=>KW op x y λv=>Q v H
noncomputable abbrev Pl(op:A0)(W:WE)(Q:au):au:=λx H=>W H (MP op x Q)
noncomputable abbrev MO(T:aT)(op:KB)(x:AV)(Q:BP):au:=λy H=>gV T op H x y λr=>Q r H
noncomputable abbrev oP(T:aT)(op:KB)(W:WE)(Q:BP):au:=λx H=>W H (MO T op x Q)
noncomputable abbrev l5(Q:au):BP:=λr H=>Q (.bool r) H
noncomputable abbrev qD(Q:BP):au:=λv H=>Bc v λb=>Q b H
noncomputable abbrev Pj(A B:WE)(Q:au):BP:=λr H=>match r with|true=>A H Q|false=>B H Q
noncomputable abbrev IJ(Q:au):Nat->AH->Prop:=λa H=>Q (.ref a) H
noncomputable abbrev Pa(Q:au):List AV->AH->Prop:=λvs H=>dm H (.tup vs) (IJ Q)
noncomputable abbrev yj(Q:au):List AV->AH->Prop:=λvs H=>dm H (.list vs) (IJ Q)
noncomputable abbrev Fo(C:CS)(f:Nat)(Q:au):List AV->AH->Prop:=λvs H=>C f vs H Q
noncomputable abbrev MG(T:aT)(C:CS)(D:Nat)(Q:au):List AV->AH->Prop:=λvs H=>el T C D vs H Q
noncomputable abbrev oO(T:aT)(C:CS)(k:Nat)(W:AH->(List AV->AH->Prop)->Prop)(Q:au):au:=λv H=>eT T C H v k (W H) Q
noncomputable abbrev Pm(T:aT)(b:BI)(Q:au):List AV->AH->Prop:=λvs H=>OJ T b H vs Q
noncomputable abbrev Pf(v:AV)(Q:List AV->AH->Prop):List AV->AH->Prop:=λvs H=>Q (v::vs) H
noncomputable abbrev MN(W:AH->(List AV->AH->Prop)->Prop)(Q:List AV->AH->Prop):au:=λv H=>W H (Pf v Q)
noncomputable abbrev MR(W:WE)(Q:au):au:=λv H=>match v with|.bool true=>W H Q|.bool false=>Q (.bool false) H|_=>False
noncomputable abbrev Qk(W:WE)(Q:au):au:=λv H=>match v with|.bool false=>W H Q|.bool true=>Q (.bool true) H|_=>False
noncomputable abbrev Ph(Q:BP):BP:=λb H=>Q (!b) H
noncomputable abbrev MQ(W:AH->BP->Prop)(Q:BP):BP:=λb H=>match b with|true=>W H Q|false=>Q false H
noncomputable abbrev Pg(W:AH->BP->Prop)(Q:BP):BP:=λb H=>match b with|true=>Q true H|false=>W H Q
noncomputable abbrev MB(K:Option AV->AH->Prop):au:=λy H=>K (some y) H
noncomputable abbrev Qo(W:WE)(K:Option AV->AH->Prop):BP:=λb H=>match b with|true=>W H (MB K)|false=>K none H
noncomputable abbrev yl(range:Bool)(turn:AV->AH->(Option AV->AH->Prop)->Prop)(Q:au):au:=λv H=>match range with
 | true=>i8 v λn=>(0<=n/\n<=100)/\eJ (λ_=>True) turn (cnt n.toNat) H [] (yj Q)
 | false=>rk H v λa xs=>eJ (λH=>H a=some (.list xs)) turn xs H [] (yj Q)
theorem yk{turn:AV->AH->(Option AV->AH->Prop)->Prop}{Q:au}{v:AV}{H:AH}(h:yl true turn Q v H):∃ n:Nat,v=.int (n:Int)/\n<=100/\eJ (λ_=>True) turn (cnt n) H [] (yj Q):=by
 induction v<;>first|exact False.elim h|skip
 refine h.elim λh1_ h=>h1_.elim λh0 h1=>?_
 exact⟨_,by exact ac (Int.toNat_of_nonneg h0) rfl,Int.toNat_le.mpr h1,h⟩
mutual
noncomputable def wE(T:aT)(C:CS)(m:bd):IE->AH->au->Prop
 | .loc i,H,Q=>match getL m i with|some v=>Q v H|none=>False
 | .val v,H,Q=>Q v H
 | .attr e k,H,Q=>wE T C m e H (ym T k Q)
 | .idx e i,H,Q=>wE T C m e H (ML T (wE T C m i) Q)
 | .slice e lo hi,H,Q=>wE T C m e H (QW (wE T C m lo) (wE T C m hi) Q)
 | .bin op a b,H,Q=>wE T C m a H (Pl op (wE T C m b) Q)
 | .cmp op a b,H,Q=>wE T C m a H (oP T op (wE T C m b) (l5 Q))
 | .and es,H,Q=>wAnd T C m es H Q
 | .or es,H,Q=>wOr T C m es H Q
 | .not _,_,_=>False
 | .bad,_,_=>False
 | .ite t a b,H,Q=>wT T C m t H (Pj (wE T C m a) (wE T C m b) Q)
 | .tup es,H,Q=>wEs T C m es H (Pa Q)
 | .lst es,H,Q=>wEs T C m es H (yj Q)
 | .call f es,H,Q=>wEs T C m es H (Fo C f Q)
 | .new D es,H,Q=>wEs T C m es H (MG T C D Q)
 | .meth o k es,H,Q=>wE T C m o H (oO T C k (wEs T C m es) Q)
 | .bi b es,H,Q=>wEs T C m es H (Pm T b Q)
 | .comp range src tgt one cond elt,H,Q=>T.calm/\wE T C m src H (yl range (λx H K=>Hp H m tgt one x λm'=>wOpt T C m' cond H (Qo (wE T C m' elt) K)) Q)
noncomputable def wOpt(T:aT)(C:CS)(m:bd):Option IE->AH->BP->Prop
 | none,H,Q=>Q true H
 | some c,H,Q=>wT T C m c H Q
noncomputable def wEs(T:aT)(C:CS)(m:bd):List IE->AH->(List AV->AH->Prop)->Prop
 | [],H,Q=>Q [] H
 | e::r,H,Q=>wE T C m e H (MN (wEs T C m r) Q)
noncomputable def wAnd(T:aT)(C:CS)(m:bd):List IE->AH->au->Prop
 | [],_,_=>False
 | [e],H,Q=>wE T C m e H Q
 | e::r,H,Q=>wE T C m e H (MR (wAnd T C m r) Q)
noncomputable def wOr(T:aT)(C:CS)(m:bd):List IE->AH->au->Prop
 | [],_,_=>False
 | [e],H,Q=>wE T C m e H Q
 | e::r,H,Q=>wE T C m e H (Qk (wOr T C m r) Q)
noncomputable def wT(T:aT)(C:CS)(m:bd):IE->AH->(Bool->AH->Prop)->Prop
 | .not e,H,Q=>wT T C m e H (Ph Q)
 | .and es,H,Q=>wTAnd T C m es H Q
 | .or es,H,Q=>wTOr T C m es H Q
 | .loc i,H,Q=>match getL m i with|some v=>qD Q v H|none=>False
 | .val v,H,Q=>qD Q v H
 | .cmp op a b,H,Q=>wE T C m a H (oP T op (wE T C m b) Q)
 | .attr e k,H,Q=>wE T C m e H (ym T k (qD Q))
 | .idx e i,H,Q=>wE T C m e H (ML T (wE T C m i) (qD Q))
 | .call f es,H,Q=>wEs T C m es H (Fo C f (qD Q))
 | .meth o k es,H,Q=>wE T C m o H (oO T C k (wEs T C m es) (qD Q))
 | .bi b es,H,Q=>wEs T C m es H (Pm T b (qD Q))
 | _,_,_=>False
noncomputable def wTAnd(T:aT)(C:CS)(m:bd):List IE->AH->(Bool->AH->Prop)->Prop
 | [],H,Q=>Q true H
 | e::r,H,Q=>wT T C m e H (MQ (wTAnd T C m r) Q)
noncomputable def wTOr(T:aT)(C:CS)(m:bd):List IE->AH->(Bool->AH->Prop)->Prop
 | [],H,Q=>Q false H
 | e::r,H,Q=>wT T C m e H (Pg (wTOr T C m r) Q)
end
noncomputable abbrev NP:=bd->AH->Prop
noncomputable abbrev Ql(W:bd->AH->NP->Prop)(Q:NP):NP:=λm H=>W m H Q
noncomputable abbrev QV(W body:bd->AH->NP->Prop)(m:bd)(Q:NP):BP:=λb H=>match b with
 | true=>body m H (Ql W Q)
 | false=>Q m H
noncomputable def jJ(test:bd->AH->(Bool->AH->Prop)->Prop)(body:bd->AH->(bd->AH->Prop)->Prop):Nat->bd->AH->(bd->AH->Prop)->Prop
 | 0,_,_,_=>False
 | n+1,m,H,Q=>test m H (QV (jJ test body n) body m Q)
noncomputable def lj(i:Nat)(body:bd->AH->(bd->AH->Prop)->Prop):List AV->bd->AH->(bd->AH->Prop)->Prop
 | [],m,H,Q=>Q m H
 | v::r,m,H,Q=>body (bT m i v) H (Ql (lj i body r) Q)
noncomputable abbrev WS:=bd->AH->NP->au->Prop
noncomputable abbrev QY(m:bd)(N:NP):au:=λ_ H=>N m H
noncomputable abbrev Pd(m:bd)(i:Nat)(N:NP):au:=λv H=>N (bT m i v) H
noncomputable abbrev II(T:aT)(k:Nat)(x:AV)(m:bd)(N:NP):au:=λv H=>sR T H v k x (N m)
noncomputable abbrev MF(T:aT)(W:WE)(k:Nat)(m:bd)(N:NP):au:=λx H=>W H (II T k x m N)
noncomputable abbrev IG(v x:AV)(m:bd)(N:NP):au:=λj H=>sQ H v j x (N m)
noncomputable abbrev IH(W:WE)(x:AV)(m:bd)(N:NP):au:=λv H=>W H (IG v x m N)
noncomputable abbrev MD(W V:WE)(m:bd)(N:NP):au:=λx H=>W H (IH V x m N)
noncomputable abbrev Mz(is:List Nat)(m:bd)(N:NP)(H:AH):List AV->Prop:=λvs=>N ((is.zip vs).foldl (λm p=>bT m p.1 p.2) m) H
noncomputable abbrev O9(is:List Nat)(m:bd)(N:NP):au:=λv H=>jg H v is.length (Mz is m N H)
noncomputable abbrev QX(A B:WS)(m:bd)(N:NP)(R:au):BP:=λr H=>match r with|true=>A m H N R|false=>B m H N R
noncomputable abbrev Pe(A:WS)(N:NP)(R:au):NP:=λm H=>A m H N R
noncomputable abbrev MM(B:bd->AH->NP->Prop)(i:Nat)(m:bd)(N:NP):au:=λv H=>match v with
 | .int n=>(0<=n/\n<=100)/\lj i B (cnt n.toNat) m H N
 | _=>False
theorem CI{B:bd->AH->NP->Prop}{i:Nat}{m:bd}{N:NP}{v:AV}{H:AH}(h:MM B i m N v H):∃ n:Nat,v=.int (n:Int)/\n<=100/\lj i B (cnt n) m H N:=by
 induction v<;>first|exact False.elim h|skip
 refine h.elim λh1_ h=>h1_.elim λh0 h1=>?_
 exact⟨_,by rw[Int.toNat_of_nonneg h0],Int.toNat_le.mpr h1,h⟩
mutual
noncomputable def wS(T:aT)(C:CS):IS->bd->AH->(bd->AH->Prop)->au->Prop
 | .ex e,m,H,N,_=>wE T C m e H (QY m N)
 | .set i e,m,H,N,_=>wE T C m e H (Pd m i N)
 | .setA o k e,m,H,N,_=>wE T C m e H (MF T (wE T C m o) k m N)
 | .setI o i e,m,H,N,_=>wE T C m e H (MD (wE T C m o) (wE T C m i) m N)
 | .unp is e,m,H,N,_=>wE T C m e H (O9 is m N)
 | .ite t a b,m,H,N,R=>wT T C m t H (QX (wSs T C a) (wSs T C b) m N R)
 | .whl t b,m,H,N,R=>∃ n,jJ (λm H K=>wT T C m t H K) (λm H K=>wSs T C b m H K R) n m H N
 | .forR i e b,m,H,N,R=>T.calm/\wE T C m e H (MM (λm H K=>wSs T C b m H K R) i m N)
 | .ret e,m,H,_,R=>wE T C m e H R
 | .bad,_,_,_,_=>False
noncomputable def wSs(T:aT)(C:CS):List IS->bd->AH->(bd->AH->Prop)->au->Prop
 | [],m,H,N,_=>N m H
 | s::r,m,H,N,R=>wS T C s m H (Pe (wSs T C r) N R) R
end
structure ax where
 n:Nat
 params:List Nat
 dfl:List AV
 body:List IS
noncomputable def ax.fill(d:ax)(vs:List AV):List AV:=if vs.length+d.dfl.length=d.params.length then vs++d.dfl else vs
noncomputable def bindL(n:Nat)(ps:List Nat)(vs:List AV):bd:=(ps.zip vs).foldl (λm p=>bT m p.1 p.2) (List.replicate n none)
noncomputable abbrev gn:=Nat->aT->CS->List AV->AH->au->Prop
@[irreducible] noncomputable def bC(T:aT)(F:Nat->Option ax)(hd:Nat->Option gn)(n:Nat):CS:=
 @Nat.rec (λ_=>CS) (λ_ _ _ _=>False) (λk C f vs H Q=>match hd f with
  | some W=>W k T C vs H Q
  | none=>match F f with
   | some d=>d.params.length=(d.fill vs).length/\(∀ v∈vs,v≠.oth)/\wSs T C d.body (bindL d.n d.params (d.fill vs)) H (λ_ H=>Q .none H) Q
   | none=>False) n
theorem fX(T:aT)(F:Nat->Option ax)(hd:Nat->Option gn)(n f:Nat)(vs:List AV)(H:AH)(Q:au):bC T F hd (n+1) f vs H Q=(match hd f with
 | some W=>W n T (bC T F hd n) vs H Q
 | none=>match F f with
  | some d=>d.params.length=(d.fill vs).length/\(∀ v∈vs,v≠.oth)/\wSs T (bC T F hd n) d.body (bindL d.n d.params (d.fill vs)) H (λ_ H=>Q .none H) Q
  | none=>False):=by
 unfold bC;rfl
theorem ra(T:aT)(F:Nat->Option ax)(hd:Nat->Option gn)(f:Nat)(vs:List AV)(H:AH)(Q:au):bC T F hd 0 f vs H Q=False:=by
 unfold bC;rfl
noncomputable def jA(X:Prop)(d:ax)(ies:List IE):gn:=λ_ T C vs H _=>X/\d.params.length=(d.fill vs).length/\wEs T C (bindL d.n d.params (d.fill vs)) ies H (λ_ _=>True)
noncomputable def AH.over(H' H:AH):AH:=λa=>match H' a with|some o=>some o|none=>H a
noncomputable def kP(F:Nat->Option ax)(hdP:Prop->Nat->Option gn)(N0:Nat)(d:ax)(tryIS:List IS)(ret:IS):gn:=λn T C vs H Q=>n+1=N0/\d.params.length=(d.fill vs).length/\
 ∃ X':Prop,(X'->Q .none H)/\wSs { T with calm:=False } (bC { T with calm:=False } F (hdP X') n) tryIS (bindL d.n d.params (d.fill vs)) (λ_=>none)
  (λm' H'=>wS T C ret m' H' (λ_ _=>False) λv H''=>(∀ a,H a≠none->H'' a=none)->Q v (H''.over H)) (λ_ _=>False)
end Mine
namespace Mine
open PySem PySem.W PySem.Calls PyProof.Rows
noncomputable def er:Value->AV
 | .none=>.none
 | .bool b=>.bool b
 | .int i _=>.int i
 | .str s _=>.str s.cps.toList
 | .ref a=>.ref a
 | _=>.oth
theorem sx{v:Value}(h:er v=.none):v=.none:=by induction v<;>first|rfl|cases h
theorem fV{v:Value}{b:Bool}(h:er v=.bool b):v=.bool b:=by induction v<;>cases h;rfl
theorem a9{v:Value}{i:Int}(h:er v=.int i):∃ t,v=.int i t:=by induction v<;>cases h;exact⟨_,rfl⟩
set_option tactic.hygienic true in
theorem bV{v:Value}{s:List Nat}(h:er v=.str s):∃ t,v=.str ⟨s.toArray⟩ t:=by
 induction v<;>cases h
 rename_i x t
 exact⟨t,by induction x;simp⟩
theorem bO{v:Value}{a:Nat}(h:er v=.ref a):v=.ref a:=by induction v<;>cases h;rfl
theorem uA{v:Value}(h:er v≠.oth):handedIn v=true:=by
 induction v<;>first|rfl|exact absurd rfl h
structure cy where
 at_:Nat->Str
 inj:∀ i j,at_ i=at_ j->i=j
section
variable (A:cy)
inductive ce:List DictEntry->List (Nat×AV)->Prop
 | nil:ce [] []
 | cons {h:Int} {k:Nat} {t:Tok} {v:Value} {es fs} : er v≠.oth->ce es fs->ce (⟨h,.str (A.at_ k) t,v⟩::es) ((k,er v)::fs)
end
section
variable {A:cy}
theorem oV{k j:Nat}{t:Tok} : (Value.str (A.at_ k) t).isStr (A.at_ j)=Nat.beq k j:=by
 show(A.at_ k==A.at_ j)=_
 induction h:Nat.beq k j with
 | true=>exact(Nat.eq_of_beq_eq_true h)▸(beq_self_eq_true _)
 | false=>exact beq_eq_false_iff_ne.mpr λe=>Nat.ne_of_beq_eq_false h (A.inj _ _ e)
theorem ce.len{es:List DictEntry}{fs:List (Nat×AV)}(F:ce A es fs):es.length=fs.length:=by
 induction F with
 | nil=>rfl
 | cons _ _ ih=>simp[ih]
theorem ce.noRef{es:List DictEntry}{fs:List (Nat×AV)}(F:ce A es fs):es.any (·.refKey)=false:=by
 induction F with
 | nil=>rfl
 | cons _ _ ih=>simp only[List.any_cons,ih,Bool.or_false];rfl
set_option tactic.hygienic true in
theorem ce.find{es:List DictEntry}{fs:List (Nat×AV)}(F:ce A es fs)(k:Nat) :
 (es.find? (·.key.isStr (A.at_ k))).map (λe=>er e.val)=pF k fs/\∀ e,es.find? (·.key.isStr (A.at_ k))=some e->er e.val≠.oth:=by
 induction F with
 | nil=>exact⟨rfl,λ_ h=>by exact fI h⟩
 | cons hv _ ih=>
  rename_i h j t v es fs _
  simp only[List.find?_cons,oV,pF]
  induction hb:Nat.beq j k with
  | true=>exact⟨rfl,λe h=>by obtain rfl:=Option.some.inj h;exact hv⟩
  | false=>exact ih
theorem ce.getL{es:List DictEntry}{fs:List (Nat×AV)}(F:ce A es fs){k:Nat}{x:AV}(h:pF k fs=some x):∃ v,er v=x/\x≠.oth/\W.getL (A.at_ k) es=some (some v):=by
 refine(F.find k).elim λe1 e2=>?_
 rw[h] at e1
 refine cG (Option.map_eq_some_iff.mp e1) λe he hx=>?_
 refine⟨e.val,hx,hx▸e2 e he,?_⟩
 unfold W.getL
 exact ac (he ..) rfl
theorem ce.getL_none{es:List DictEntry}{fs:List (Nat×AV)}(F:ce A es fs){k:Nat}(h:pF k fs=none):W.getL (A.at_ k) es=some none:=by
 refine(F.find k).elim λe1 _=>?_
 rw[h] at e1
 unfold W.getL
 refine(Option.map_eq_none_iff.mp e1).symm ▸ ?_
 dsimp only
 refine F.noRef.symm ▸ ?_
 rfl
theorem ce.getL_isSome{es:List DictEntry}{fs:List (Nat×AV)}(F:ce A es fs)(k:Nat):(W.getL (A.at_ k) es).isSome=true:=by
 cases h:pF k fs with
 | none=>refine ac (F.getL_none h) ?_;rfl
 | some x=>obtain⟨v,_,_,e⟩:=F.getL h;refine ac e ?_;rfl
set_option tactic.hygienic true in
theorem ce.put{es:List DictEntry}{fs:List (Nat×AV)}(F:ce A es fs){k:Nat}{v:Value}(hv:er v≠.oth)(hsh:Int)(t:Tok):ce A (putL (A.at_ k) hsh (.str (A.at_ k) t) v es) (xq k (er v) fs):=by
 induction F with
 | nil=>exact .cons hv .nil
 | cons hw F ih=>
  rename_i h j t' w es fs
  unfold putL xq
  dsimp only
  refine ac oV ?_
  match hb:Nat.beq j k with
  | true=>exact .cons hv F
  | false=>exact .cons hw ih
theorem ce.put_len{es:List DictEntry}(n:Str)(h:Int)(k v:Value):(putL n h k v es).length<=es.length+1:=by
 induction es with
 | nil=>simp[putL]
 | cons e r ih=>
  unfold putL
  split
  ·simp
  ·simp only[List.length_cons];lia
end
inductive jj(A:cy)(news:List (Addr×Obj)):Addr->AO->Prop
 | tup {a xs n} : (a,({ cls:=.type "tuple",data:=.seq xs n } : Obj))∈news->(∀ v∈xs.toList,er v≠.oth)->jj A news a (.tup (xs.toList.map er))
 | list {a xs n} : (a,listOf xs n)∈news->(∀ v∈xs.toList,er v≠.oth)->jj A news a (.list (xs.toList.map er))
 | inst {a C dx es n fs} : (a,instObj C dx)∈news->(dx,dictOf es n)∈news->ce A es fs->jj A news a (.inst C fs)
structure P8(A:cy)(news:List (Addr×Obj))(H:AH):Prop where
 ob:∀ a o,H a=some o->jj A news a o
 one:∀ a b C D dx,(a,instObj C dx)∈news->(b,instObj D dx)∈news->a=b
 hid:∀ a C dx,(a,instObj C dx)∈news->H dx=none
theorem P8.nil{A:cy}{news:List (Addr×Obj)}(h:∀ a C dx,(a,instObj C dx) ∉ news):P8 A news (λ_=>none):=
 ⟨λ_ _ e=>(nomatch e),λa _ C _ dx e=>absurd e (h a C dx),λ_ _ _ _=>rfl⟩
noncomputable def cg(l:List (Addr×Obj)):Prop:=(l.map (·.1)).Nodup
theorem cg.inj{l:List (Addr×Obj)}(h:cg l){a:Addr}{o o':Obj}(x:(a,o)∈l)(y:(a,o')∈l):o=o':=by
 induction l with
 | nil=>cases x
 | cons p r ih=>
  unfold cg at h
  rw[List.map_cons,List.nodup_cons] at h
  rcases List.mem_cons.mp x with e|x'<;>rcases List.mem_cons.mp y with e'|y'
  ·rw[← e] at e';exact(Prod.mk.inj e').2.symm
  ·exact absurd (List.mem_map.mpr ⟨_,y',by exact ac (e ..).symm rfl⟩) h.1
  ·exact absurd (List.mem_map.mpr ⟨_,x',by exact ac (e' ..).symm rfl⟩) h.1
  ·exact ih h.2 x' y'
theorem cg.upd{l:List (Addr×Obj)}(h:cg l){a:Addr}{o:Obj}(x:(a,o)∈l)(o':Obj):∃ l',Upd a o o' l l'/\l'.map (·.1)=l.map (·.1)/\∀ p,p∈l'↔(p=(a,o')\/(p∈l/\p.1≠a)):=by
 induction l with
 | nil=>exfalso;cases x
 | cons p r ih=>
  unfold cg at h
  rw[List.map_cons,List.nodup_cons] at h
  by_cases e:p.1=a
  ·have hp:p=(a,o):=by
    rcases List.mem_cons.mp x with z|z
    ·exact z.symm
    ·exact absurd (List.mem_map.mpr ⟨_,z,by exact ac (e ..) rfl⟩) h.1
   subst hp
   have hr:∀ q∈r,q.1≠a:=λq hq z=>h.1 (List.mem_map.mpr ⟨q,hq,z⟩)
   refine⟨(a,o')::r,.head hr,rfl,λq=>?_⟩
   simp only[List.mem_cons]
   constructor
   ·rintro(rfl|hq)
    ·exact .inl rfl
    ·exact .inr ⟨.inr hq,hr q hq⟩
   ·rintro(rfl|⟨rfl|hq,hn⟩)
    ·exact .inl rfl
    ·exact absurd rfl hn
    ·exact .inr hq
  ·have x':(a,o)∈r:=by
    rcases List.mem_cons.mp x with z|z
    ·exact absurd (by exact ac (z ..).symm rfl) e
    ·exact z
   refine fW (ih h.2 x') λl' U hm hl=>?_
   refine⟨p::l',.tail e U,by exact ac (List.map_cons ..) (ac (hm ..) (ac (List.map_cons ..) rfl)),λq=>?_⟩
   simp only[List.mem_cons,hl]
   constructor
   ·rintro(rfl|rfl|hq)
    ·exact .inr ⟨.inl rfl,e⟩
    ·exact .inl rfl
    ·exact .inr ⟨.inr hq.1,hq.2⟩
   ·rintro(rfl|⟨rfl|hq,hn⟩)
    ·exact .inr (.inl rfl)
    ·exact .inl rfl
    ·exact .inr (.inr ⟨hq,hn⟩)
section
variable {A:cy}
theorem jj.mem{news:List (Addr×Obj)}{a:Addr}{o:AO}(h:jj A news a o):∃ x,(a,x)∈news:=by
 induction h with
 | tup h _=>exact⟨_,h⟩
 | list h _=>exact⟨_,h⟩
 | inst h _ _=>exact⟨_,h⟩
theorem jj.keep{news news':List (Addr×Obj)}{a c:Addr}{o:AO}(h:jj A news a o)(hk:∀ p∈news,p.1≠c->p∈news')(ha:a≠c)
 (hd:∀ C dx,(a,instObj C dx)∈news->dx≠c):jj A news' a o:=by
 induction h with
 | tup h q=>exact .tup (hk _ h ha) q
 | list h q=>exact .list (hk _ h ha) q
 | inst h1 h2 q=>exact .inst (hk _ h1 ha) (hk _ h2 (hd _ _ h1)) q
theorem jj.mono{news news':List (Addr×Obj)}{a:Addr}{o:AO}(h:jj A news a o)(hk:∀ p∈news,p∈news'):jj A news' a o:=by
 induction h with
 | tup h q=>exact .tup (hk _ h) q
 | list h q=>exact .list (hk _ h) q
 | inst h1 h2 q=>exact .inst (hk _ h1) (hk _ h2) q
end
theorem iN{H:AH}{a:Nat}{o:AO} : H.put a o a=some o:=by unfold AH.put;exact ac (if_pos rfl) rfl
theorem fO{H:AH}{a b:Nat}{o:AO}(h:b≠a):H.put a o b=H b:=by unfold AH.put;exact ac (if_neg h) rfl
structure gm(A:cy)(news:List (Addr×Obj))(H:AH):Prop extends P8 A news H where
 dxin:∀ a C dx,(a,instObj C dx)∈news->∃ o,(dx,o)∈news
inductive OD(A:cy)(h₀:Heap)(L:Addr)(mm:Str->Option Value)(ex:List (Addr×Obj))(H:AH)(h:Heap):Prop
 | mk (news:List (Addr×Obj)) (F:Fr h₀ L h mm) (N:News h₀ L h (news++ex)) (O:cg (news++ex)) (D:gm A news H):OD A h₀ L mm ex H h
structure cv(A:cy)(gens:Array GenState)(os:OsState)(h₀:Heap)(L:Addr)(mm:Str->Option Value)(ex:List (Addr×Obj))(H:AH)(s:Shared):Prop where
 out:OD A h₀ L mm ex H s.heap
 gens:s.gens=gens
 os:s.os=os
section
variable {A:cy} {gens:Array GenState} {os:OsState} {h₀:Heap} {L:Addr} {mm:Str->Option Value} {ex:List (Addr×Obj)} {H:AH} {s:Shared}
theorem cv.toks(M:cv A gens os h₀ L mm ex H s)(t:Nat):cv A gens os h₀ L mm ex H { s with toks:=t }:=⟨M.out,M.gens,M.os⟩
theorem cv.fr(M:cv A gens os h₀ L mm ex H s):Fr h₀ L s.heap mm:=M.out.casesOn λ_ F _ _ _=>F
theorem fq{p:Addr×Obj}{l:List (Addr×Obj)}(h:cg l)(hn:∀ q∈l,q.1≠p.1):cg (p::l):=by
 unfold cg
 refine ac List.map_cons ?_;rw[List.nodup_cons]
 refine⟨λhm=>?_,h⟩
 refine cG (List.mem_map.mp hm) λq hq e=>?_
 exact hn q hq e
theorem gm.absent{news:List (Addr×Obj)}(D:gm A news H){a:Addr}(hn:∀ q∈news,q.1≠a):H a=none:=by
 cases e:H a with
 | none=>rfl
 | some o=>
  refine((D.ob a o e).mem).elim λx hx=>?_
  exact absurd rfl (hn _ hx)
theorem gm.alloc{news:List (Addr×Obj)}(D:gm A news H){a:Addr}{x:Obj}{o:AO}(hn:∀ q∈news,q.1≠a)(hx:∀ C dx,x≠instObj C dx)(ho:jj A ((a,x)::news) a o):gm A ((a,x)::news) (H.put a o):=by
 have up:∀ b C dx,(b,instObj C dx)∈(a,x)::news->(b,instObj C dx)∈news:=λb C dx h=>by
  rcases List.mem_cons.mp h with e|h
  ·exact absurd (Prod.mk.inj e).2.symm (hx C dx)
  ·exact h
 refine⟨⟨λb o' e=>?_,λb c C E dx h1 h2=>D.one b c C E dx (up _ _ _ h1) (up _ _ _ h2),λb C dx h=>?_⟩,λb C dx h=>?_⟩
 ·by_cases q:b=a
  ·subst q;rw[iN] at e;obtain rfl:=Option.some.inj e;exact ho
  ·rw[fO q] at e;exact(D.ob b o' e).mono λp hp=>.tail _ hp
 ·refine(D.dxin b C dx (up _ _ _ h)).elim λy hy=>?_
  refine(fO (hn _ hy)).symm ▸ ?_
  exact D.hid b C dx (up _ _ _ h)
 ·refine(D.dxin b C dx (up _ _ _ h)).elim λy hy=>?_
  exact⟨y,.tail _ hy⟩
theorem gm.inst{news:List (Addr×Obj)}(D:gm A news H){x dx C:Addr}(hn:∀ q∈news,q.1<dx)(hx:dx<x):gm A ((x,instObj C dx)::(dx,dictOf [] 0)::news) (H.put x (.inst C [])):=by
 have hxn:∀ q∈news,q.1≠x:=λq hq=>Nat.ne_of_lt (Nat.lt_trans (hn q hq) hx)
 have hdn:∀ q∈news,q.1≠dx:=λq hq=>Nat.ne_of_lt (hn q hq)
 have up:∀ b E d,(b,instObj E d)∈(x,instObj C dx)::(dx,dictOf [] 0)::news->(b=x/\E=C/\d=dx)\/(b,instObj E d)∈news:=λb E d h=>by
  rcases List.mem_cons.mp h with e|h
  ·obtain⟨e1,e2⟩:=Prod.mk.inj e
   simp only[instObj,Obj.mk.injEq,Value.ref.injEq,Option.some.injEq] at e2
   exact .inl ⟨e1,e2.1,e2.2.1⟩
  ·rcases List.mem_cons.mp h with e|h
   ·have:=(Prod.mk.inj e).2
    simp[instObj,dictOf] at this
   ·exact .inr h
 refine⟨⟨λb o' e=>?_,λb c E G d h1 h2=>?_,λb E d h=>?_⟩,λb E d h=>?_⟩
 ·by_cases q:b=x
  ·subst q;rw[iN] at e;obtain rfl:=Option.some.inj e;exact .inst (.head _) (.tail _ (.head _)) .nil
  ·rw[fO q] at e;exact(D.ob b o' e).mono λp hp=>.tail _ (.tail _ hp)
 ·rcases up _ _ _ h1 with⟨e1,_,e3⟩|h1<;>rcases up _ _ _ h2 with⟨g1,_,g3⟩|h2
  ·exact ac (e1 ..) (ac (g1 ..) rfl)
  ·obtain⟨y,hy⟩:=D.dxin _ _ _ h2
   exact absurd e3 (hdn _ hy)
  ·obtain⟨y,hy⟩:=D.dxin _ _ _ h1
   exact absurd g3 (hdn _ hy)
  ·exact D.one _ _ _ _ _ h1 h2
 ·rcases up _ _ _ h with⟨_,_,e3⟩|h
  ·subst e3
   refine ac (fO (Nat.ne_of_lt hx)) ?_
   exact D.absent hdn
  ·obtain⟨y,hy⟩:=D.dxin _ _ _ h
   refine ac (fO (hxn _ hy)) ?_
   exact D.hid _ _ _ h
 ·rcases up _ _ _ h with⟨_,_,e3⟩|h
  ·subst e3;exact⟨_,.tail _ (.head _)⟩
  ·obtain⟨y,hy⟩:=D.dxin _ _ _ h
   exact⟨y,.tail _ (.tail _ hy)⟩
theorem i9{news:List (Addr×Obj)}(N:News h₀ L s.heap news):∀ q∈news,q.1<s.heap.objs.size:=λq hq=>Heap.lt_size (N q hq).1
theorem gm.turn{news news':List (Addr×Obj)}(D:gm A news H){c:Addr}{x x':Obj}(hc:(c,x)∈news)(hl:∀ p,p∈news'↔(p=(c,x')\/(p∈news/\p.1≠c)))
 (hx':∀ C dx,x'≠instObj C dx) {H':AH} (hob:∀ a o,H' a=some o->jj A news' a o) (hH:∀ a,H a=none->H' a=none):gm A news' H':=by
 have up:∀ b C dx,(b,instObj C dx)∈news'->(b,instObj C dx)∈news:=λb C dx h=>by
  rcases(hl _).mp h with e|h
  ·exact absurd (Prod.mk.inj e).2.symm (hx' C dx)
  ·exact h.1
 refine⟨⟨hob,λb d C E dx h1 h2=>D.one b d C E dx (up _ _ _ h1) (up _ _ _ h2),λb C dx h=>hH _ (D.hid b C dx (up _ _ _ h))⟩,λb C dx h=>?_⟩
 refine(D.dxin b C dx (up _ _ _ h)).elim λy hy=>?_
 by_cases q:dx=c
 ·exact⟨x',(hl _).mpr (.inl (by exact ac (q ..) rfl))⟩
 ·exact⟨y,(hl _).mpr (.inr ⟨hy,q⟩)⟩
theorem gm.setList{news news':List (Addr×Obj)}(D:gm A news H){c:Addr}{xs ys:Array Value}{n n':Nat}{vs:List AV}(hc:(c,listOf xs n)∈news)(hH:H c=some (.list vs))
 (hl:∀ p,p∈news'↔(p=(c,listOf ys n')\/(p∈news/\p.1≠c))) (hy:∀ v∈ys.toList,er v≠.oth):gm A news' (H.put c (.list (ys.toList.map er))):=by
 refine D.turn hc hl (λC dx e=>by simp[W.listOf,instObj] at e) (λa o e=>?_) λa e=>?_
 ·by_cases q:a=c
  ·subst q;rw[iN] at e;obtain rfl:=Option.some.inj e;exact .list ((hl _).mpr (.inl rfl)) hy
  ·rw[fO q] at e
   refine(D.ob a o e).keep (c:=c) (λp hp hn=>(hl _).mpr (.inr ⟨hp,hn⟩)) q λC dx h z=>?_
   subst z
   rw[D.hid a C dx h] at hH;exact fI hH
 ·by_cases q:a=c
  ·subst q;rw[hH] at e;exact uU e
  ·exact(fO q)▸e
theorem gm.setInst{news news':List (Addr×Obj)}(D:gm A news H){x dx C:Addr}{es es':List DictEntry}{n n':Nat}{fs fs':List (Nat×AV)}(hx:(x,instObj C dx)∈news)(hd:(dx,dictOf es n)∈news)
 (hH:H x=some (.inst C fs)) (hl:∀ p,p∈news'↔(p=(dx,dictOf es' n')\/(p∈news/\p.1≠dx))) (hf:ce A es' fs'):gm A news' (H.put x (.inst C fs')):=by
 have hxd:x≠dx:=λz=>by have:=D.hid x C dx hx;rw[← z,hH] at this;exact uU this
 refine D.turn hd hl (λC dx e=>by simp[dictOf,instObj] at e) (λa o e=>?_) λa e=>?_
 ·by_cases q:a=x
  ·subst q
   rw[iN] at e;obtain rfl:=Option.some.inj e
   exact .inst ((hl _).mpr (.inr ⟨hx,hxd⟩)) ((hl _).mpr (.inl rfl)) hf
  ·rw[fO q] at e
   refine(D.ob a o e).keep (c:=dx) (λp hp hn=>(hl _).mpr (.inr ⟨hp,hn⟩)) (λz=>?_) λE d h z=>?_
   ·subst z;rw[D.hid x C _ hx] at e;exact fI e
   ·subst z;exact q (D.one _ _ _ _ _ h hx)
 ·by_cases q:a=x
  ·subst q;rw[hH] at e;exfalso;cases e
  ·exact(fO q)▸e
end
end Mine
namespace Mine
open PySem
set_option genInjectivity false
set_option genSizeOf false
inductive uX where|ord|len|max|min|tuple|str|int|range|isinstance
 deriving DecidableEq
inductive GV where
 | fn (a:Nat)|cls (a:Nat)|val (v:AV)|blt (b:uX)
structure ch where
 kind:Str->Option NameKind
 slots:List (Str×Nat)
 nx:Nat
 glob:Str->Option GV
 aid:Str->Option Nat
 top:Bool
noncomputable def dS:Expr->Bool
 | .Call (.Name _ _) [] [] _=>false
 | _=>true
noncomputable def bU:Expr->Bool
 | .Starred _ _=>false
 | _=>true
noncomputable def eI:Expr->Bool
 | .Slice ..=>true
 | _=>false
noncomputable def dJ:Expr->Bool
 | .ListComp .. | .SetComp .. | .DictComp ..=>true
 | _=>false
noncomputable def L5:A0->Operator
 | .add=>.Add|.sub=>.Sub|.mul=>.Mult|.fdiv=>.FloorDiv|.mod=>.Mod|.pow=>.Pow
noncomputable def Md:A0->Bool
 | .pow=>true
 | _=>false
noncomputable def PN:(o:Operator)->Option { op:A0 // o=L5 op/\Md op=false }
 | .Add=>some ⟨.add,rfl,rfl⟩|.Sub=>some ⟨.sub,rfl,rfl⟩|.Mult=>some ⟨.mul,rfl,rfl⟩|.FloorDiv=>some ⟨.fdiv,rfl,rfl⟩|.Mod=>some ⟨.mod,rfl,rfl⟩|_=>none
noncomputable def OQ(o:Operator):Option A0:=(PN o).map (·.1)
theorem Ki{o:Operator}{op:A0}(h:OQ o=some op):o=L5 op/\Md op=false:=by
 refine cG (Option.map_eq_some_iff.mp h) λq _ e=>?_
 exact e▸q.2
noncomputable def PF:CmpOp->Option KB
 | .Eq=>some .eq|.NotEq=>some .ne|.Lt=>some .lt|.LtE=>some .le|.Gt=>some .gt|.GtE=>some .ge|.In=>some .inn|.NotIn=>some .nin|_=>none
noncomputable def ch.into(x:ch)(sc:Scope)(tg:List Str):ch:=
 { x with top:=false,kind:=λn=>sc.names.lookup n,slots:=(tg.zip ((List.range tg.length).map (x.nx + ·)))++x.slots,nx:=x.nx+tg.length }
noncomputable def nc(x:ch)(sc:Scope)(tg:List Str):Bool:=
 x.top&&(sc.kind==.function)&&(sc.names.all λp=>p.2 != .cell&&(p.2 != .local||sc.names.lookup p.1==some .local)&&(p.2 != .free||x.kind p.1==some .cell)&&(p.2 != .local||tg.contains p.1||(x.slots.lookup p.1).isNone))&&(tg.all λt=>sc.names.lookup t==some .local)
inductive EV where
 | const (c:Const) (k:Nat) (p:Pos)|name (n:Str) (p:Pos)|attr (v:Expr) (a:Str) (p:Pos)|sub (v i:Expr) (p:Pos)|bin (l:Expr) (o:Operator) (r:Expr) (p:Pos)|un (o:UnaryOp) (e:Expr) (p:Pos)
 | bl (o:BoolOp) (es:List Expr) (p:Pos)|cmp (l:Expr) (os:List CmpOp) (rs:List Expr) (p:Pos)|ife (t a b:Expr) (p:Pos)|tup (es:List Expr) (k:Nat) (p:Pos)|lst (es:List Expr) (p:Pos)
 | call (g:Expr) (as:List Expr) (kw:List Keyword) (p:Pos)|comp (e:Expr) (gs:List Comprehension) (sc:Scope) (p:Pos)|slice (lo hi st:Option Expr) (p:Pos)|other
noncomputable def ta:Expr->EV
 | .Constant c k p=>.const c k p
 | .Name n p=>.name n p
 | .Attribute v a p=>.attr v a p
 | .Subscript v i p=>.sub v i p
 | .BinOp l o r p=>.bin l o r p
 | .UnaryOp o e p=>.un o e p
 | .BoolOp o es p=>.bl o es p
 | .Compare l os rs p=>.cmp l os rs p
 | .IfExp t a b p=>.ife t a b p
 | .Tuple es k p=>.tup es k p
 | .List es p=>.lst es p
 | .Call g as kw p=>.call g as kw p
 | .ListComp e gs sc p=>.comp e gs sc p
 | .Slice lo hi st p=>.slice lo hi st p
 | _=>.other
noncomputable def pK(e:Expr):EV->Expr
 | .const c k p=>.Constant c k p
 | .name n p=>.Name n p
 | .attr v a p=>.Attribute v a p
 | .sub v i p=>.Subscript v i p
 | .bin l o r p=>.BinOp l o r p
 | .un o e p=>.UnaryOp o e p
 | .bl o es p=>.BoolOp o es p
 | .cmp l os rs p=>.Compare l os rs p
 | .ife t a b p=>.IfExp t a b p
 | .tup es k p=>.Tuple es k p
 | .lst es p=>.List es p
 | .call g as kw p=>.Call g as kw p
 | .comp e gs sc p=>.ListComp e gs sc p
 | .slice lo hi st p=>.Slice lo hi st p
 | .other=>e
theorem rv(e:Expr):pK e (ta e)=e:=by cases e<;>rfl
theorem HS{e:Expr}{P:Expr->EV->Prop}(h:∀ v,pK e v=e->P (pK e v) v):P e (ta e):=by
 have:=h (ta e) (rv e)
 rw[rv] at this;exact this
noncomputable def Qi(e:Expr):Option { n:Str // ∃ p,e=.Name n p }:=match e with
 | .Name n p=>some ⟨n,p,rfl⟩
 | _=>none
noncomputable def ON(e:Expr):Option Str:=(Qi e).map (·.1)
theorem km{α:Type}{P:α->Prop}{o:Option { a:α // P a }}{a:α}(h:o.map (·.1)=some a):P a:=by
 obtain⟨x,_,rfl⟩:=Option.map_eq_some_iff.mp h;exact x.2
theorem gR{P:Prop}{o:Option (PLift P)}(h:o.isSome=true):P:=by
 obtain⟨x,_⟩:=Option.isSome_iff_exists.mp h;exact x.1
theorem ql{e:Expr}{n:Str}(h:ON e=some n):∃ p,e=.Name n p:=km (o:=Qi e) h
noncomputable def KY{α β:Type}(l:List α)(z:β)(k:α->α->β):β:=match l with
 | []=>z
 | a::r=>(match r with
  | []=>z
  | b::r'=>(match r' with
   | []=>k a b
   | _::_=>z))
noncomputable def tM{α β:Type}(l:List α)(z:β)(k:α->β):β:=match l with
 | []=>z
 | a::r=>(match r with
  | []=>k a
  | _::_=>z)
theorem iT{α β:Type}{l:List α}{z:β}{k:α->β}{P:β->Prop}(hz:P z)(h:∀ a,l=[a]->P (k a)):P (tM l z k):=by
 cases l with
 | nil=>exact hz
 | cons a r=>
  induction r with
  | nil=>exact h a rfl
  | cons _ _=>exact hz
theorem Bh{α β:Type}{l:List α}{z:β}{k:α->α->β}{P:β->Prop}(hz:P z)(h:∀ a b,l=[a,b]->P (k a b)):P (KY l z k):=by
 cases l with
 | nil=>exact hz
 | cons a r=>
  cases r with
  | nil=>exact hz
  | cons b r=>
   induction r with
   | nil=>exact h a b rfl
   | cons _ _=>exact hz
noncomputable def K6(e:Expr):Option { q:List Str×Bool // (∃ n p,e=.Name n p/\q.1=[n]/\q.2=true)\/∃ n pn m pm k p,e=.Tuple [.Name n pn,.Name m pm] k p/\n≠m/\q.1=[n,m]/\q.2=false }:=match e with
 | .Name n p=>some ⟨([n],true),.inl ⟨n,p,rfl,rfl,rfl⟩⟩
 | .Tuple [.Name n pn,.Name m pm] k p=>if h:n=m then none else some ⟨([n,m],false),.inr ⟨n,pn,m,pm,k,p,rfl,h,rfl,rfl⟩⟩
 | _=>none
noncomputable def eL(e:Expr):Option (List Str×Bool):=(K6 e).map (·.1)
theorem jK{e:Expr}{tg:List Str}{one:Bool}(h:eL e=some (tg,one)):(∃ n p,e=.Name n p/\tg=[n]/\one=true)\/∃ n pn m pm k p,e=.Tuple [.Name n pn,.Name m pm] k p/\n≠m/\tg=[n,m]/\one=false:=km (o:=K6 e) h
noncomputable def aL(x:ch)(id:Str):Option Nat:=match x.kind id with
 | some .local|some .cell|some .free=>x.slots.lookup id
 | _=>none
noncomputable def bj(x:ch)(id:Str):Option GV:=match x.kind id with
 | some .globalImplicit=>x.glob id
 | _=>none
noncomputable def AD:uX->Option BI
 | .len=>some .len|.max=>some .max|.min=>some .min|.tuple=>some .tuple|.str=>some .str|.int=>some .int2|.ord=>some .ord|_=>none
noncomputable def lq(b:Bool)(e:IE):IE:=match b with|true=>e|false=>.bad
noncomputable def im{α:Type}(o:Option α)(f:α->IE):IE:=match o with|some a=>f a|none=>.bad
noncomputable def AL(as:List Expr):Bool:=as.length<20&&as.all bU
noncomputable def KN{β:Type}(b:Bool)(x y:β):β:=match b with|true=>x|false=>y
noncomputable def qW{α β:Type}(o:Option α)(f:α->β)(g:β):β:=match o with|some a=>f a|none=>g
noncomputable def NS(e:Expr):Option { i:Int // ∃ k p,e=.Constant (.int i) k p }:=match e with
 | .Constant (.int i) k p=>some ⟨i,k,p,rfl⟩
 | _=>none
noncomputable def CR(e:Expr):Option Int:=(NS e).map (·.1)
noncomputable def Mc(e:Expr):Option (PLift (∃ k p,e=.Constant .none k p)):=match e with
 | .Constant .none k p=>some ⟨k,p,rfl⟩
 | _=>none
noncomputable def mR(e:Expr):Bool:=(Mc e).isSome
noncomputable def isInt(e:Expr)(i:Int):Bool:=qW (CR e) (λj=>decide (j=i)) false
noncomputable def IQ(o:Operator):Option (PLift (o=.Pow)):=match o with
 | .Pow=>some ⟨rfl⟩
 | _=>none
noncomputable def Fs(o:Operator):Bool:=(IQ o).isSome
noncomputable def MX(o:CmpOp):Option (PLift (o=.Is)):=match o with
 | .Is=>some ⟨rfl⟩
 | _=>none
noncomputable def MY(o:CmpOp):Bool:=(MX o).isSome
noncomputable def yv(o:CmpOp):Option (PLift (o=.IsNot)):=match o with
 | .IsNot=>some ⟨rfl⟩
 | _=>none
noncomputable def si(o:CmpOp):Bool:=(yv o).isSome
noncomputable def yt(o:Option GV):Option (PLift (o=some (.blt .range))):=match o with
 | some (.blt .range)=>some ⟨rfl⟩
 | _=>none
noncomputable def mP(o:Option GV):Bool:=(yt o).isSome
noncomputable def CQ(o:uX):Option (PLift (o=.isinstance)):=match o with
 | .isinstance=>some ⟨rfl⟩
 | _=>none
noncomputable def yw(o:uX):Bool:=(CQ o).isSome
theorem sk{e:Expr}{i:Int}(h:CR e=some i):∃ k p,e=.Constant (.int i) k p:=km (o:=NS e) h
theorem oW{e:Expr}{i:Int}(h:isInt e i=true):∃ k p,e=.Constant (.int i) k p:=by
 unfold isInt at h
 induction hi:CR e with
 | none=>rw[hi] at h;exfalso;cases h
 | some j=>
  rw[hi] at h
  obtain rfl:=of_decide_eq_true (show decide (j=i)=true from h)
  exact sk hi
theorem kN{e:Expr}(h:mR e=true):∃ k p,e=.Constant .none k p:=gR h
theorem yu{o:Operator}(h:Fs o=true):o=.Pow:=gR h
theorem CO{o:CmpOp}(h:MY o=true):o=.Is:=gR h
theorem qL{o:CmpOp}(h:si o=true):o=.IsNot:=gR h
theorem uf{o:uX}(h:yw o=true):o=.isinstance:=gR h
theorem qI{o:Option GV}(h:mP o=true):o=some (.blt .range):=gR h
noncomputable def Qd(e:Expr):Option { q:Expr×Expr // ∃ p,e=.Slice (some q.1) (some q.2) none p }:=match e with
 | .Slice (some lo) (some hi) none p=>some ⟨(lo,hi),p,rfl⟩
 | _=>none
noncomputable def Qe(e:Expr):Option (Expr×Expr):=(Qd e).map (·.1)
theorem HK{e:Expr}{lo hi:Expr}(h:Qe e=some (lo,hi)):∃ p,e=.Slice (some lo) (some hi) none p:=km (o:=Qd e) h
noncomputable def Qf(e:Expr):Option { q:Str×Expr // ∃ pr pc,e=.Call (.Name q.1 pr) [q.2] [] pc }:=match e with
 | .Call (.Name r pr) [a] [] pc=>some ⟨(r,a),pr,pc,rfl⟩
 | _=>none
noncomputable def lO(e:Expr):Option (Str×Expr):=(Qf e).map (·.1)
theorem mC{e a:Expr}{r:Str}(h:lO e=some (r,a)):∃ pr pc,e=.Call (.Name r pr) [a] [] pc:=km (o:=Qf e) h
noncomputable def iL(x:ch)(e:Expr):Option (Str×Expr):=(lO e).bind λq=>KN (mP (bj x q.1)) (some q) none
theorem jO{x:ch}{e a:Expr}{r:Str}(h:iL x e=some (r,a)):∃ pr pc,e=.Call (.Name r pr) [a] [] pc/\bj x r=some (.blt .range):=by
 refine cG (Option.bind_eq_some_iff.mp h) λq hq h=>?_
 induction hg:mP (bj x q.1) with
 | false=>rw[hg] at h;exact fI h
 | true=>
  rw[hg] at h
  obtain rfl:=Option.some.inj h
  refine pG (mC hq) λpr pc e=>?_
  exact⟨pr,pc,e,qI hg⟩
noncomputable def Kf(c:Const):IE:=match c with
 | .none=>.val .none
 | .bool b=>.val (.bool b)
 | .int i=>.val (.int i)
 | .str s=>lq (s.length<=1000) (.val (.str s.cps.toList))
 | _=>.bad
noncomputable def He:Option GV->IE
 | some (.val v)=>.val v
 | _=>.bad
noncomputable def Ou(e:IE):Option GV->IE
 | some g=>(match g with
  | .cls C=>.bi (.isCls C) [e]
  | .blt b=>(match b with
   | .int=>.bi .isInt [e]
   | .str=>.bi .isStr [e]
   | _=>.bad)
  | _=>.bad)
 | none=>.bad
noncomputable def PK(x:ch)(f:Expr->IE)(as:List Expr):IE:=KY as .bad λe k=>im (ON k) λc=>lq (!(c==("__debug__" : Str))) (Ou (f e) (bj x c))
noncomputable def rc(x:ch)(f:Expr->IE)(g:Option GV)(as:List Expr):IE:=match g with
 | some g=>(match g with
  | .fn a=>.call a (as.map f)
  | .cls a=>.new a (as.map f)
  | .blt b=>KN (yw b) (PK x f as) (im (AD b) λb=>.bi b (as.map f))
  | .val _=>.bad)
 | none=>.bad
noncomputable def Aw(x:ch)(f:Expr->IE)(g:Expr)(as:List Expr)(p:Pos):IE:=match ta g with
 | .attr o a ap=>lq (dS o&&AL as&&ap.endLine==p.line) (im (x.aid a) λk=>.meth (f o) k (as.map f))
 | .name fn _=>lq (AL as&&!(fn==("__debug__" : Str))) (rc x f (bj x fn) as)
 | _=>.bad
noncomputable def q3(f:Expr->IE)(ifs:List Expr):Option (Option IE):=match ifs with
 | []=>some none
 | c::r=>(match r with|[]=>some (some (f c))|_::_=>none)
noncomputable def qG(x:ch)(f:Expr->IE)(is:List Nat)(one:Bool)(cond:Option IE)(ielt:IE)(iter:Expr):IE:=
 qW (iL x iter) (λq=>lq (bU q.2&&!(q.1==("__debug__" : Str))) (.comp true (f q.2) is one cond ielt)) (.comp false (f iter) is one cond ielt)
noncomputable def sH(x:ch)(F:ch->Expr->IE)(elt tgt iter:Expr)(ifs:List Expr)(sc:Scope):IE:=im (eL tgt) λq=>lq (nc x sc q.1)
 (im (q3 (F (x.into sc q.1)) ifs) λcond=>qG x (F x) ((List.range q.1.length).map (x.nx + ·)) q.2 cond (F (x.into sc q.1) elt) iter)
noncomputable def Q4(f:Expr->IE)(op:UnaryOp)(e:Expr):IE:=match op with
 | .USub=>im (CR e) λi=>.val (.int (-i))
 | .Not=>.not (f e)
 | _=>.bad
noncomputable def Dl(op:BoolOp)(l:List IE):IE:=match op with
 | .And=>.and l
 | .Or=>.or l
noncomputable def Ov(f:Expr->IE)(l:Expr)(op:CmpOp)(r:Expr):IE:=KN (mR r&&MY op) (.cmp .isNone (f l) (.val .none)) (KN (mR r&&si op) (.cmp .isNotNone (f l) (.val .none))
 (im (PF op) λo=>lq (!behindInMarks op r) (.cmp o (f l) (f r))))
noncomputable def cV(x:ch)(F:ch->Expr->IE)(v:EV):IE:=match v with
 | .const c _ _=>Kf c
 | .name id _=>lq (!(id==("__debug__" : Str))) (qW (aL x id) .loc (He (bj x id)))
 | .attr v a _=>lq (dS v) (im (x.aid a) λk=>.attr (F x v) k)
 | .sub v i _=>qW (Qe i) (λq=>.slice (F x v) (F x q.1) (F x q.2)) (lq (!eI i) (.idx (F x v) (F x i)))
 | .bin l op r _=>KN (Fs op&&(isInt l 10&&isInt r 18)) (.bin .pow (.val (.int 10)) (.val (.int 18))) (im (OQ op) λo=>.bin o (F x l) (F x r))
 | .un op e _=>Q4 (F x) op e
 | .bl op es _=>Dl op (es.map (F x))
 | .cmp l ops rs _=>tM ops .bad λop=>tM rs .bad λr=>Ov (F x) l op r
 | .ife t a b _=>.ite (F x t) (F x a) (F x b)
 | .tup es _ _=>lq (AL es) (.tup (es.map (F x)))
 | .lst es _=>lq (AL es) (.lst (es.map (F x)))
 | .call g as kw p=>(match kw with|[]=>Aw x (F x) g as p|_::_=>.bad)
 | .comp elt gs sc _=>tM gs .bad λg=>lq (decide (g.is_async=0)) (sH x F elt g.target g.iter g.ifs sc)
 | .slice ..=>.bad
 | .other=>.bad
noncomputable def Q6(x:ch)(F:ch->Expr->IE)(e:Expr):IE:=cV x F (ta e)
noncomputable def cE(x:ch)(n:Nat)(e:Expr):IE:=@Nat.rec (λ_=>ch->Expr->IE) (λ_ _=>.bad) (λ_ F x e=>Q6 x F e) n x e
noncomputable def iI:Expr->Bool
 | .Tuple vs _ _=>vs.all (constantsAlone 8)&&!(vs.all (foldedForSure 8))
 | _=>false
noncomputable def kG:List Nat->Bool
 | []=>true
 | a::r=>r.all (λb=>!(Nat.beq a b))&&kG r
noncomputable def dY(x:ch):List Expr->Option (List Nat)
 | []=>some []
 | t::r=>(ON t).bind λn=>(aL x n).bind λi=>(dY x r).map λis=>i::is
noncomputable def xI(b:Bool)(s:IS):IS:=match b with|true=>s|false=>.bad
noncomputable def lm{α:Type}(o:Option α)(f:α->IS):IS:=match o with|some a=>f a|none=>.bad
noncomputable def PJ(x:ch)(t v:Expr):IS:=match ta t with
 | .name id _=>lm (aL x id) λi=>.set i (cE x 30 v)
 | .attr o a _=>xI (!dJ v&&dS o) (lm (x.aid a) λk=>.setA (cE x 30 o) k (cE x 30 v))
 | .sub o i _=>xI (!dJ v&&!eI i) (.setI (cE x 30 o) (cE x 30 i) (cE x 30 v))
 | .tup ts _ _=>xI (!dJ v&&!iI v) (lm (dY x ts) λis=>xI (kG is) (.unp is (cE x 30 v)))
 | _=>.bad
noncomputable def PL(x:ch)(t i:Expr)(a:List IS):IS:=lm (ON t) λid=>lm (iL x i) λq=>xI (bU q.2&&!(q.1==("__debug__" : Str))) (lm (aL x id) λi=>.forR i (cE x 30 q.2) a)
noncomputable def Fd{α:Type}(l:List α)(s:IS):IS:=match l with|[]=>s|_::_=>.bad
noncomputable def Q5(x:ch)(F:Stmt->IS)(s:Stmt):IS:=match s with
 | .Expr e _=>xI (!dJ e) (.ex (cE x 30 e))
 | .Assign ts v _=>tM ts .bad λt=>PJ x t v
 | .If t a b _=>.ite (cE x 30 t) (a.map F) (b.map F)
 | .While t a b _=>Fd b (.whl (cE x 30 t) (a.map F))
 | .For t i a b _=>Fd b (PL x t i (a.map F))
 | .Return e _=>qW e (λe=>.ret (cE x 30 e)) (.ret (.val .none))
 | _=>.bad
noncomputable def cS(x:ch)(n:Nat)(s:Stmt):IS:=@Nat.rec (λ_=>Stmt->IS) (λ_=>.bad) (λ_ F s=>Q5 x F s) n s
noncomputable def gv(sc:Scope):List Str:=(sc.names.filter λp=>p.2==.local||p.2==.cell).map (·.1)
noncomputable def aF(glob:Str->Option GV)(aid:Str->Option Nat)(sc:Scope):ch:=
 { kind:=λn=>sc.names.lookup n,slots:=(gv sc).zip (List.range (gv sc).length),nx:=(gv sc).length,glob,aid,top:=true }
noncomputable def Dk(glob:Str->Option GV)(aid:Str->Option Nat)(ps:Arguments)(dfl:List AV)(body:List Stmt)(sc:Scope):Option ax:=
 let x:=aF glob aid sc
 (ps.args.mapM λa=>x.slots.lookup a.arg).map λis=>⟨x.nx+3,is,dfl,body.map (cS x 60)⟩
end Mine
namespace Mine
open PySem PySem.W PySem.Calls PyProof.Rows
structure Fc where
 prog:Program
 w:World
 K:Frag
 T:aT
 nm:cy
 C:CS
 X:Prop
 dp:Nat
 un:Nat
 gd:Option (List Code)
 fenv:Env
 outer:List Env
 L:Addr
 env:Env
 h₀:Heap
 base:Heap
 G₀:Heap
 PE:Addr
 ex:List (Addr×Obj)
 x:ch
 inv:(Str->Option Value)->List (Addr×Obj)->Prop
 gens:Array GenState
 os:OsState
noncomputable def Fc.A(c:Fc):Around:={ handled:=none,depth:=c.dp,frames:=some (c.fenv::c.outer),guards:=c.gd,units:=c.un }
@[simp] theorem Fc.A_handled(c:Fc):c.A.handled=none:=rfl
@[simp] theorem Fc.A_units(c:Fc):c.A.units=c.un:=rfl
@[simp] theorem Fc.A_depth(c:Fc):c.A.depth=c.dp:=rfl
noncomputable abbrev Fc.M(c:Fc):Model:=model c.prog c.w
noncomputable def Hh(o:Obj)(m:Str->Option Value):Prop:=∀ h:Heap,∀ a,h.get? a=some o->h.Ns a m
inductive nE(env:Env)(L:Addr)(ex:List (Addr×Obj))(mm:Str->Option Value)(lc:List (Addr×Obj))(n:Str)(v:Value):Prop
 | loc:env.kindOf n=some .local->env.locals=L->mm n=some v->nE env L ex mm lc n v
 | cell (k:env.kindOf n=some .cell) (a:Addr) (o:Obj):env.cells.lookup n=some a->(a,o)∈lc++ex->o.data=.cell (some v)->nE env L ex mm lc n v
 | own (k:env.kindOf n=some .local) (o:Obj) (mo:Str->Option Value):(env.locals,o)∈ex->Hh o mo->mo n=some v->nE env L ex mm lc n v
inductive OC(env:Env)(L:Addr)(ex:List (Addr×Obj))(mm:Str->Option Value)(lc:List (Addr×Obj))(n:Str)(av:AV):Prop
 | mk (ho:av≠.oth) (v:Value) (e:er v=av) (r:nE env L ex mm lc n v):OC env L ex mm lc n av
structure lb(c:Fc)(mm:Str->Option Value)(lc:List (Addr×Obj))(m:bd):Prop where
 reads:∀ n i av,aL c.x n=some i->getL m i=some av->OC c.env c.L c.ex mm lc n av
 cells:c.env.locals=c.L->∀ n,c.env.kindOf n=some .cell->∀ a,c.env.cells.lookup n=some a->∃ o v,(a,o)∈lc/\o.data=.cell v
 inv:c.inv mm lc
noncomputable def Fc.Me(c:Fc)(mm:Str->Option Value)(lc:List (Addr×Obj))(H:AH)(s:Shared):Prop:=cv c.nm c.gens c.os c.h₀ c.L mm (lc++c.ex) H s
inductive St(c:Fc)(m:bd)(H:AH)(s:Shared):Prop
 | mk (mm:Str->Option Value) (lc:List (Addr×Obj)) (M:c.Me mm lc H s) (lo:lb c mm lc m):St c m H s
inductive PE(c:Fc)(m:bd)(Q:au)(v:Value)(s:Shared):Prop
 | mk (H:AH) (S:St c m H s) (ho:er v≠.oth) (q:Q (er v) H):PE c m Q v s
inductive PB(c:Fc)(m:bd)(Q:BP)(b:Bool)(s:Shared):Prop
 | mk (H:AH) (S:St c m H s) (q:Q b H):PB c m Q b s
inductive PV(c:Fc)(m:bd)(k:Nat)(Q:List AV->AH->Prop)(vs:List Value)(s:Shared):Prop
 | mk (H:AH) (S:St c m H s) (hv:∀ v∈vs,er v≠.oth) (hl:vs.length=k) (q:Q (vs.map er) H):PV c m k Q vs s
inductive Qb(X:Prop)(base:Heap)(l:List Env)(PE L:Addr)(G₀:Heap)(gens:Array GenState)(os:OsState)(e:Value)(s:Shared):Prop
 | mk (hX:X) (a:Addr) (a0:Value) (he:e=.ref a) (hf:Heap.FlyingW base l a (.ref PE) a0 s.heap\/Heap.HeldW base l a (.ref PE) a0 L s.heap) (hG:G₀.UpToSlots s.heap) (hg:s.gens=gens) (ho:s.os=os):Qb X base l PE L G₀ gens os e s
noncomputable def Ex(c:Fc)(e:Value)(s:Shared):Prop:=Qb c.X c.base (c.fenv::c.outer) c.PE c.L c.G₀ c.gens c.os e s
theorem Ex.x{c:Fc}{e:Value}{s:Shared}(h:Ex c e s):c.X:=Qb.casesOn h λx _ _ _ _ _ _ _=>x
noncomputable def Hg:AV->PyData
 | .int i=>.int i
 | .str s=>.str ⟨s.toArray⟩
 | .bool b=>.bool b
 | _=>.none
noncomputable def Kp:PyData->AV
 | .int i=>.int i
 | .str s=>.str s.cps.toList
 | .bool b=>.bool b
 | _=>.none
noncomputable def uB(p:List Nat×AV):PyData×PyData:=(.str ⟨p.1.toArray⟩,Hg p.2)
structure dg(A:cy):Prop where
 n0:A.at_ 0 = "append"
 n1:A.at_ 1 = "get"
 n2:A.at_ 2 = "join"
 n3:A.at_ 3 = "lower"
 n4:A.at_ 4 = "upper"
 n5:A.at_ 5 = "isascii"
 n6:A.at_ 6 = "find"
 n7:A.at_ 7 = "lstrip"
structure eB(w:World)(K:Frag)(T:aT)(nm:cy):Prop where
 data:∀ C k,T.data C k=true->plainGet K C (nm.at_ k)=true/\hasDictIn K C=true/\findIn K (.ref C) (nm.at_ k)=some none/\
  findIn K (.ref C) "__setattr__" = some (some (.builtin "object.__setattr__"))/\plainOver K C=true/\takerIn K C (nm.at_ k)=some none
 meth:∀ C k f,T.meth C k=some f->plainGet K C (nm.at_ k)=true/\findIn K (.ref C) (nm.at_ k)=some (some (.ref f))/\isFn K (.ref f)=true/\keepIn K (.ref f)=true
 init:∀ C f,T.init C=some f->makesIn K C=true/\findIn K (.ref C) "__init__" = some (some (.ref f))/\isFn K (.ref f)=true/\keepIn K (.ref C)=true
 tstrs:∀ a l,T.stat a=some (.tStrs l)->∃ xs n,K.lookup a=some { cls:=.type "tuple",data:=.seq xs n }/\xs.toList.map er=l.map AV.str
 tdict:∀ a l,T.stat a=some (.tDict l)->(∀ (h:Heap) (prog:Program),K.In h->StrTab prog w h a (l.map uB))/\∀ p∈l,p.2=Kp (Hg p.2)
 isi:∀ D C,T.isi D C=true->(D=C/\isIn K (.ref C) C=true)\/(D≠C/\kin_not K D C=true/\plainGet K D "__class__" = true/\hasDictIn K D=true/\findIn K (.ref D) "__class__" = some (some (.builtin "object.__class__"))/\
  specialIn K (.builtin "object.__class__") "__get__" = some (some (.builtin "getset_descriptor.__get__"))/\takesIn K (.builtin "object.__class__")=some true/\mroIn K D (.type "object")=some true)
 tints:∀ a l,T.stat a=some (.tInts l)->∃ o xs n,K.lookup a=some o/\o.cls=.type "list"/\o.data=.seq xs n/\xs.toList.map er=l.map AV.int/\l.length<2^62
noncomputable def iD(c:Fc)(dp un:Nat):Prop:=∀ (mm:Str->Option Value) (ex:List (Addr×Obj)) (f:Addr) (vs:List Value) (H:AH) (s:Shared) (Q:au),
 cv c.nm c.gens c.os c.h₀ c.L mm ex H s->(∀ v∈vs,er v≠.oth)->c.C f (vs.map er) H Q->
 codeAny c.M { c.A with depth:=dp,units:=un } (.call (.ref f) ⟨vs,[]⟩) (λr s'=>match r with
  | .ok (.ret v)=>∃ H',cv c.nm c.gens c.os c.h₀ c.L mm ex H' s'/\er v≠.oth/\Q (er v) H'
  | .ok _=>False
  | .error e=>Ex c e s') s
noncomputable def iz:uX->Value
 | .ord=>.builtin "ord" | .len=>.builtin "len" | .max=>.builtin "max" | .min=>.builtin "min" | .isinstance=>.builtin "isinstance"
 | .tuple=>.type "tuple" | .str=>.type "str" | .int=>.type "int" | .range=>.type "range"
inductive Hk(glob:Str->Option GV)(K:Frag)(h₀:Heap):Prop
 | mk (mg mb:Str->Option Value) (g1:h₀.Ns mainGlobals mg) (g2:h₀.Ns builtinsNs mb) (fn:∀ n a,glob n=some (.fn a)->mg n=some (.ref a)/\keepIn K (.ref a)=true) (cls:∀ n a,glob n=some (.cls a)->mg n=some (.ref a))
  (val:∀ n v,glob n=some (.val v)->v≠.oth/\∃ u,mg n=some u/\er u=v) (blt:∀ n b,glob n=some (.blt b)->mg n=none/\mb n=some (iz b)):Hk glob K h₀
structure pC(c:Fc):Prop where
 g:Hk c.x.glob c.K c.h₀
structure Fc.Def(c:Fc):Prop where
 same:c.env=c.fenv
 kindEq:∀ n,c.env.kindOf n=c.x.kind n
 locals:c.env.locals=c.L
 cellAt:∀ n,c.env.kindOf n=some .cell->∃ a,c.env.cells.lookup n=some a
 cellInj:∀ n n' a,c.env.cells.lookup n=some a->c.env.cells.lookup n'=some a->n=n'
 noFree:∀ n,c.env.kindOf n≠some .free
 free:∀ mm lc,c.inv mm lc
 slotInj:∀ n n' i,aL c.x n=some i->aL c.x n'=some i->n=n'
structure Fc.Ok(c:Fc):Prop where
 K:c.K.In c.h₀
 top:eB c.w c.K c.T c.nm
 aid:∀ n k,c.x.aid n=some k->c.nm.at_ k=n
 std:dg c.nm
 glob:pC c
 below:Below { c.A with frames:=some c.outer } c.base c.outer c.h₀
 frame:c.fenv.frame=some c.L
 fkind:c.fenv.scope.kind=.function
 ekind:c.env.scope.kind=.function
 eglob:c.env.globals=mainGlobals
 eblt:c.env.builtins=builtinsNs
 lim:c.h₀.NoLimit
 G:c.G₀.StaysIn c.h₀
 units:c.un+100<cLine
 depth:c.dp+2<recursionLimit
 calls:∀ dp un,dp<=c.dp+1->un<=c.un+8->iD c dp un
 calm:c.T.calm->¬ c.X
 globk:∀ n,c.x.kind n=some .globalImplicit->c.env.kindOf n=some .globalImplicit
 def_:c.x.top=true->c.Def
 slotsLt:∀ n i,c.x.slots.lookup n=some i->i<c.x.nx
section
variable {c:Fc} {m:bd} {H:AH} {s:Shared}
theorem St.toks(S:St c m H s)(t:Nat):St c m H { s with toks:=t }:=S.casesOn λmm lc M l=>⟨mm,lc,M.toks t,l⟩
theorem cv.keepK{A:cy}{gens os h₀ L mm ex}(M:cv A gens os h₀ L mm ex H s){K:Frag}(X:K.In h₀):K.In s.heap:=X.keeps M.fr.keep
theorem qz(o:c.Ok){n:Str}{i:Nat}{av:AV}(S:St c m H s)(hl:aL c.x n=some i)(hm:getL m i=some av){Q:Value->Shared->Prop}{E:Value->Shared->Prop}{p:Pos}
 (hd:(n==("__debug__" : Str))=false) (h:∀ v,er v=av->av≠.oth->Q v s):wpAny c.M c.A (eval (.Name n p) c.env) Q E s:=by
 obtain⟨mm,lc,M,lo⟩:=S
 obtain⟨hav,v,hv,r⟩:=lo.reads n i av hl hm
 refine wpAny_Name ?_ hd
 obtain⟨news,F,N,_,_⟩:=M.out
 rcases r with⟨k,e,hr⟩|⟨k,a,ob,hc,hin,hdat⟩|⟨k,ob,mo,hin,hns,hr⟩
 ·exact wpAny_loadName_local o.ekind k (e▸F.ns) hr (h v hv hav)
 ·exact wpAny_loadName_cell o.ekind k hc ⟨ob,(N _ (List.mem_append_right _ hin)).1,hdat⟩ (h v hv hav)
 ·exact wpAny_loadName_local o.ekind k (hns _ _ (N _ (List.mem_append_right _ (List.mem_append_right _ hin))).1) hr (h v hv hav)
theorem ek{x:ch}{n:Str}{g:GV}(h:bj x n=some g):x.kind n=some .globalImplicit/\x.glob n=some g:=by
 unfold bj at h
 split at h
 ·rename_i e;exact⟨e,h⟩
 ·exfalso;cases h
theorem yb(o:c.Ok){n:Str}(S:St c m H s){u:AV}(hg:bj c.x n=some (.val u)){Q:Value->Shared->Prop}{E:Value->Shared->Prop}{p:Pos}(hd:(n==("__debug__" : Str))=false)
 (h:∀ v,er v=u->u≠.oth->Q v s):wpAny c.M c.A (eval (.Name n p) c.env) Q E s:=by
 obtain⟨hk,hx⟩:=ek hg
 obtain⟨mg,mb,g1,g2,_,_,g3,_⟩:=o.glob.g
 obtain⟨hu,v,hv,he⟩:=g3 n u hx
 obtain⟨mm,lc,M,lo⟩:=S
 exact Name_function_global o.ekind (o.globk n hk) (loadGlobal_global (by refine ac o.eglob ?_;exact g1.keeps M.fr.keep) hv (h v he hu)) hd
theorem Ct(o:c.Ok){n:Str}(S:St c m H s){a:Nat}(hg:bj c.x n=some (.fn a)){Q:Value->Shared->Prop}{E:Value->Shared->Prop}{p:Pos}(hd:(n==("__debug__" : Str))=false)
 (h:keepIn c.K (.ref a)=true->Q (.ref a) s):wpAny c.M c.A (eval (.Name n p) c.env) Q E s:=by
 refine(ek hg).elim λhk hx=>?_
 obtain⟨mg,mb,g1,g2,g3,_,_,_⟩:=o.glob.g
 refine(g3 n a hx).elim λhv hkp=>?_
 obtain⟨mm,lc,M,lo⟩:=S
 exact Name_function_global o.ekind (o.globk n hk) (loadGlobal_global (by rw[o.eglob];exact g1.keeps M.fr.keep) hv (h hkp)) hd
theorem kK(o:c.Ok){n:Str}(S:St c m H s){a:Nat}(hg:bj c.x n=some (.cls a)){Q:Value->Shared->Prop}{E:Value->Shared->Prop}{p:Pos}(hd:(n==("__debug__" : Str))=false)
 (h:Q (.ref a) s):wpAny c.M c.A (eval (.Name n p) c.env) Q E s:=by
 refine(ek hg).elim λhk hx=>?_
 obtain⟨mg,mb,g1,g2,_,g3,_,_⟩:=o.glob.g
 have hv:=g3 n a hx
 obtain⟨mm,lc,M,lo⟩:=S
 exact Name_function_global o.ekind (o.globk n hk) (loadGlobal_global (by refine o.eglob.symm ▸ ?_;exact g1.keeps M.fr.keep) hv h) hd
theorem fu(o:c.Ok){n:Str}(S:St c m H s){b:uX}(hg:bj c.x n=some (.blt b)){Q:Value->Shared->Prop}{E:Value->Shared->Prop}{p:Pos}(hd:(n==("__debug__" : Str))=false)
 (h:Q (iz b) s):wpAny c.M c.A (eval (.Name n p) c.env) Q E s:=by
 refine(ek hg).elim λhk hx=>?_
 obtain⟨mg,mb,g1,g2,_,_,_,g3⟩:=o.glob.g
 refine(g3 n b hx).elim λhn hv=>?_
 obtain⟨mm,lc,M,lo⟩:=S
 exact Name_function_global o.ekind (o.globk n hk) (loadGlobal_builtin (by refine ac o.eglob ?_;exact g1.keeps M.fr.keep) hn (by refine ac o.eblt ?_;exact g2.keeps M.fr.keep) hv h) hd
end
noncomputable def nD(c:Fc)(e:Expr)(ie:IE):Prop:=∀ (m:bd) (H:AH) (s:Shared) (Q:au),St c m H s->wE c.T c.C m ie H Q->
 wpAny c.M c.A (eval e c.env) (PE c m Q) (Ex c) s
noncomputable def Kz(c:Fc)(e:Expr)(ie:IE):Prop:=∀ (m:bd) (H:AH) (s:Shared) (Q:Bool->AH->Prop),St c m H s->wT c.T c.C m ie H Q->
 wpAny c.M c.A (isTrue e c.env (eval e c.env)) (PB c m Q) (Ex c) s
noncomputable def Dv(c:Fc)(es:List Expr)(ies:List IE):Prop:=∀ (p:Pos) (m:bd) (H:AH) (s:Shared) (Q:List AV->AH->Prop),St c m H s->wEs c.T c.C m ies H Q->
 wpAny c.M c.A (spliced (backTo p (starEach es c.env))) (PV c m es.length Q) (Ex c) s
theorem bR{e:Expr}{r:List Expr}{env:Env}(h:bU e=true):starEach (e::r) env=(false,eval e env)::starEach r env:=by
 cases e<;>first|rfl|exfalso;cases h
theorem dD{c:Fc}{f:Expr->IE} : ∀ es:List Expr,(∀ e∈es,nD c e (f e))->es.all bU=true->Dv c es (es.map f)
 | [],_,_=>λp m H s Q S h=>spliced_none ⟨H,S,(λ_ z=>nomatch z),rfl,h⟩
 | e::r,ih,hn=>λp m H s Q S h=>by
  simp only[List.all_cons,Bool.and_eq_true] at hn
  refine spliced_more ?_ (bR hn.1)
  refine wpAny_mono (ih e (.head _) m H s _ S h) (λv s1 h1=>?_) λ_ _ z=>z
  obtain⟨H1,S1,ho,h1⟩:=h1
  refine wpAny_mono (dD r (λe he=>ih e (.tail _ he)) hn.2 p m H1 s1 _ S1 h1) (λvs s2 h2=>?_) λ_ _ z=>z
  obtain⟨H2,S2,ha,hl,h2⟩:=h2
  exact⟨H2,S2,λu hu=>by rcases List.mem_cons.mp hu with rfl|hu;exact ho;exact ha u hu,by simp[hl],h2⟩
theorem Upd.app{a:Addr}{o o':Obj}{l l' r:List (Addr×Obj)}(U:Upd a o o' l l')(h:∀ p∈r,p.1≠a):Upd a o o' (l++r) (l'++r):=by
 induction U with
 | head q=>exact .head λp hp=>by rcases List.mem_append.mp hp with z|z;exact q p z;exact h p z
 | tail e _ ih=>exact .tail e ih
theorem cg.left{l r:List (Addr×Obj)}(h:cg (l++r)):cg l:=by
 unfold cg at *
 rw[List.map_append] at h
 exact(List.nodup_append.mp h).1
theorem cg.apart{l r:List (Addr×Obj)}(h:cg (l++r)){p:Addr×Obj}(hp:p∈l):∀ q∈r,q.1≠p.1:=λq hq e=>by
 unfold cg at h
 rw[List.map_append] at h
 exact(List.nodup_append.mp h).2.2 _ (List.mem_map_of_mem hp) _ (List.mem_map_of_mem hq) e.symm
theorem cg.turn{l r:List (Addr×Obj)}(h:cg (l++r)){a:Addr}{o:Obj}(x:(a,o)∈l)(o':Obj) :
 ∃ l',Upd a o o' (l++r) (l'++r)/\cg (l'++r)/\∀ p,p∈l'↔(p=(a,o')\/(p∈l/\p.1≠a)):=by
 refine fW (h.left.upd x o') λl' U hm hl=>?_
 refine⟨l',Upd.app U (h.apart x),?_,hl⟩
 unfold cg at h⊢
 refine ac List.map_append (ac hm (ac List.map_append.symm ?_))
 exact h
section
variable {A:cy} {gens:Array GenState} {os:OsState} {h₀:Heap} {L:Addr} {mm:Str->Option Value} {ex:List (Addr×Obj)} {H:AH} {s:Shared} {K:Frag} {prog:Program} {w:World} {Ar:Around} {T:aT}
 {E:Value->Shared->Prop}
theorem Kq(M:cv A gens os h₀ L mm ex H s)(X:K.In h₀)(tp:eB w K T A){v:AV}{k:Nat}{Q:AV->Prop}(h:sV T H v k Q){u:Value}(hu:er u=v){expr:Bool}{n:Str}(hn:A.at_ k=n) :
 wpAny (model prog w) Ar (getAttr u n expr) (λx s'=>cv A gens os h₀ L mm ex H s'/\er x≠.oth/\Q (er x)) E s:=by
 subst hn
 refine a7 λGg fin_=>?_
 obtain⟨a,C,fs,x,rfl,hH,hd,hl,hq⟩:=h
 refine fin_ ?_
 obtain rfl:=bO hu
 refine a7 λGg fin_=>?_
 obtain⟨news,F,N,O,D⟩:=M.out
 refine fin_ ?_
 have hob:=D.ob a _ hH
 cases hob with
 | inst h1 h2 hf=>
  refine a7 λGg fin_=>?_
  refine(tp.data C k hd).elim λt1 h1_=>h1_.elim λt2 h2_=>h2_.elim λt3 h3_=>h3_.elim λt4 h4_=>h4_.elim λt5 t6=>?_
  refine fin_ ?_
  refine a7 λGg fin_=>?_
  obtain⟨v,hv,hx,hg⟩:=hf.getL hl
  refine fin_ ?_
  refine get_own F X (InstAt.of_news N (List.mem_append_left _ h1) (List.mem_append_left _ h2)) t1 t2 t3 rfl hg (uA (hv▸hx)) ⟨M.toks _,hv▸hx,hv▸hq⟩
theorem HZ(n:Str)(h:Int)(k v:Value):∀ es:List DictEntry,(putL n h k v es).length<=es.length+1:=by
 intro z_
 induction z_ with
 | nil=>
  simp[putL]
 | cons e r ihz=>
  unfold putL
  split
  ·simp
  ·have:=ihz;simp only[List.length_cons];lia
theorem HO(M:cv A gens os h₀ L mm ex H s)(X:K.In h₀)(tp:eB w K T A){v x:AV}{k:Nat}{Q:AH->Prop}(h:sR T H v k x Q){u y:Value}(hu:er u=v)(hy:er y=x){n:Str}(hn:A.at_ k=n) :
 wpAny (model prog w) Ar (setAttr u n y) (λ_ s'=>∃ H',cv A gens os h₀ L mm ex H' s'/\Q H') E s:=by
 subst hn
 refine a7 λGg fin_=>?_
 obtain⟨a,C,fs,rfl,hH,hd,hlen,hx,hq⟩:=h
 refine fin_ ?_
 obtain rfl:=bO hu
 refine a7 λGg fin_=>?_
 obtain⟨news,F,N,O,D⟩:=M.out
 refine fin_ ?_
 have hob:=D.ob a _ hH
 cases hob with
 | inst h1 h2 hf=>
  refine a7 λGg fin_=>?_
  refine(tp.data C k hd).elim λt1 h1_=>h1_.elim λt2 h2_=>h2_.elim λt3 h3_=>h3_.elim λt4 h4_=>h4_.elim λt5 t6=>?_
  refine fin_ ?_
  rename_i dx es n
  refine a7 λGg fin_=>?_
  refine fW (O.turn h2 (dictOf (putL (A.at_ k) (PyData.keyHash w.params (A.at_ k)) (.str (A.at_ k) (s.toks+1)) y es) (putN (A.at_ k) es n))) λnews' U O' hl=>?_
  refine fin_ ?_
  have hp:=hf.put (k:=k) (v:=y) (hy▸hx) (PyData.keyHash w.params (A.at_ k)) (s.toks+1)
  refine set_dict F X N (InstAt.of_news N (List.mem_append_left _ h1) (List.mem_append_left _ h2)) rfl t4 t5 t6 t2 (hf.getL_isSome k) rfl U ?_ λh' F' N'=>⟨_,⟨⟨news',F',N',O',?_⟩,M.gens,M.os⟩,hq⟩
  ·have:=HZ (A.at_ k) (PyData.keyHash w.params (A.at_ k)) (.str (A.at_ k) (s.toks+1)) y es
   have:=hf.len
   lia
  ·exact hy▸D.setInst h1 h2 hH hl hp
theorem qr(M:cv A gens os h₀ L mm ex H s){vs:List Value}(hv:∀ v∈vs,er v≠.oth){Q:Nat->AH->Prop}(h:dm H (.tup (vs.map er)) Q)(hsz:vs.length<=sizeLine) :
 wpAny (model prog w) Ar (newTuple vs) (λx s'=>∃ H',cv A gens os h₀ L mm ex H' s'/\∃ a,x=.ref a/\Q a H') E s:=by
 unfold dm at h
 refine a7 λGg fin_=>?_
 obtain⟨news,F,N,O,D⟩:=M.out
 refine fin_ ?_
 have hfr:=i9 N
 have hn:∀ q∈news,q.1≠s.heap.objs.size:=λq hq=>Nat.ne_of_lt (hfr q (List.mem_append_left _ hq))
 refine newTuple_N F N (λh' F' N'=>⟨_,⟨⟨_::news,F',N',fq O λq hq=>Nat.ne_of_lt (hfr q hq),D.alloc hn (λC dx e=>by simp[instObj] at e) (.tup (xs:=vs.toArray) (n:=0) (.head _) hv)⟩,M.gens,M.os⟩,_,rfl,?_⟩) hsz
 exact h _ (D.absent hn)
theorem tT(M:cv A gens os h₀ L mm ex H s){vs:List Value}(hv:∀ v∈vs,er v≠.oth){Q:Nat->AH->Prop}(h:dm H (.list (vs.map er)) Q)(hsz:vs.length<=sizeLine) :
 wpAny (model prog w) Ar (newList vs) (λx s'=>∃ H',cv A gens os h₀ L mm ex H' s'/\∃ a,x=.ref a/\Q a H') E s:=by
 unfold dm at h
 refine a7 λGg fin_=>?_
 obtain⟨news,F,N,O,D⟩:=M.out
 refine fin_ ?_
 have hfr:=i9 N
 have hn:∀ q∈news,q.1≠s.heap.objs.size:=λq hq=>Nat.ne_of_lt (hfr q (List.mem_append_left _ hq))
 refine newList_N F N (λh' F' N'=>⟨_,⟨⟨_::news,F',N',fq O λq hq=>Nat.ne_of_lt (hfr q hq),D.alloc hn (λC dx e=>by simp[instObj] at e) (.list (xs:=vs.toArray) (n:=0) (.head _) hv)⟩,M.gens,M.os⟩,_,rfl,?_⟩) hsz
 exact h _ (D.absent hn)
theorem AI(M:cv A gens os h₀ L mm ex H s){v x:AV}{Q:AH->Prop}(h:kc H v x Q){u y:Value}(hu:er u=v)(hy:er y=x) :
 wpAny (model prog w) Ar (call (.builtin "list.append") [u,y]) (λr s'=>r=.none/\∃ H',cv A gens os h₀ L mm ex H' s'/\Q H') E s:=by
 refine a7 λGg fin_=>?_
 obtain⟨a,vs,rfl,hH,hlen,hx,hq⟩:=h
 refine fin_ ?_
 obtain rfl:=bO hu
 refine a7 λGg fin_=>?_
 obtain⟨news,F,N,O,D⟩:=M.out
 refine fin_ ?_
 generalize ho:AO.list vs=o at hH
 have hob:=D.ob a _ hH
 induction hob with
 | tup _ _=>exfalso;cases ho
 | inst _ _ _=>exfalso;cases ho
 | list h1 h2=>
  rename_i xs n
  injection ho with ho;subst ho
  refine a7 λGg fin_=>?_
  refine fW (O.turn h1 (listOf (xs.push y) (n+1))) λnews' U O' hl=>?_
  refine fin_ ?_
  refine append_K F N U (λh' F' N'=>⟨rfl,_,⟨⟨news',F',N',O',?_⟩,M.gens,M.os⟩,hq⟩) ?_
  ·have:=D.setList (ys:=xs.push y) h1 hH hl (λv hv=>by
    rw[Array.toList_push] at hv
    rcases List.mem_append.mp hv with z|z
    ·exact h2 v z
    ·refine ac (List.mem_singleton.mp z) (ac hy ?_);exact hx)
   rw[Array.toList_push,List.map_append,List.map_cons,List.map_nil,hy] at this
   exact this
  ·rw[List.length_map] at hlen
   have:sizeLine=2^24:=by rfl
   unfold ah at hlen
   refine Array.length_toList ▸ ?_
   exact iX hlen rfl
end
noncomputable abbrev bz(s:List Nat):Str:=⟨s.toArray⟩
theorem qv(x:Str):bz x.cps.toList=x:=by induction x;simp[bz]
theorem gG{s:List Nat}{t:Tok} : er (.str (bz s) t)=.str s:=by simp[er,bz]
theorem iq(s t:List Nat):bz s++bz t=bz (s++t):=by
 show Str.append _ _=_
 unfold Str.append
 simp[bz]
theorem aY(s:List Nat):(bz s).length=s.length:=by show(s.toArray).size=_;simp
theorem iY(s t:List Nat):(bz s==bz t)=decide (s=t):=by
 by_cases h:s=t
 ·subst h;simp
 ·refine(decide_eq_false h) ▸ ?_
  refine beq_eq_false_iff_ne.mpr λe=>h ?_
  have:=congrArg (λx:Str=>x.cps.toList) e
  simpa [bz] using this
theorem rK{es:List Expr}{env:Env}{pos:Pos}(h:es.all bU=true):(backTo pos (starEach es env)).any (·.1)=false:=by
 induction es with
 | nil=>rfl
 | cons e r ih=>
  simp only[List.all_cons,Bool.and_eq_true] at h
  refine(bR h.1).symm ▸ ?_
  refine(ih h.2).symm ▸ ?_;rfl
section
variable {M:Model} {A:Around} {E:Value->Shared->Prop} {s:Shared} {env:Env} {pos:Pos} {f:Value} {first:List Value} {Q:Value->Shared->Prop}
theorem jf{P:Heap->Prop}{es:List Expr}(hn:es.all bU=true)
 (hk:∀ h,P h->∃ k,(k=Keeper.frame\/k=Keeper.machine\/k=Keeper.boundFrame)/\Looks M h (keeperOf f) k)
 (h:wpAny M A (spliced (backTo pos (starEach es env))) (λvs s₁=>P s₁.heap/\wpAny M A (call f (first++vs)) Q E s₁) E s) :
 wpAny M A (callWith pos f first (backTo pos (starEach es env)) []) Q E s:=by
 refine callWith_of (P:=P) (by refine(rK hn).symm ▸ ?_;rfl) hk ?_
 induction es with
 | nil=>
  unfold evalArgs
  refine wpAny_bind (wpAny_mono h (λvs s' h'=>?_) λ_ _ x=>x)
  refine wpAny_bind (wpAny_pure ?_)
  refine wpAny_holding ?_
  exact wpAny_bind (wpAny_pure (wpAny_bind (wpAny_pure (wpAny_pure h'))))
 | cons e r=>
  simp only[List.all_cons,Bool.and_eq_true] at hn
  rw[bR hn.1] at h⊢
  exact evalArgs_plain h
theorem du{id:String}{es:List Expr}(hn:es.all bU=true)(h:wpAny M A (spliced (backTo pos (starEach es env))) (λvs s₁=>wpAny M A (call (.builtin id) (first++vs)) Q E s₁) E s) :
 wpAny M A (callWith pos (.builtin id) first (backTo pos (starEach es env)) []) Q E s:=
 jf (P:=λ_=>True) hn (λ_ _=>⟨.machine,.inr (.inl rfl),Looks.of_pure rfl⟩) (wpAny_mono h (λ_ _ z=>⟨trivial,z⟩) λ_ _ z=>z)
theorem gJ{T:String}{es:List Expr}(hn:es.all bU=true)(h:wpAny M A (spliced (backTo pos (starEach es env))) (λvs s₁=>wpAny M A (call (.type T) (first++vs)) Q E s₁) E s) :
 wpAny M A (callWith pos (.type T) first (backTo pos (starEach es env)) []) Q E s:=
 jf (P:=λ_=>True) hn (λ_ _=>⟨.machine,.inr (.inl rfl),Looks.of_pure rfl⟩) (wpAny_mono h (λ_ _ z=>⟨trivial,z⟩) λ_ _ z=>z)
theorem iy{K:Frag}{es:List Expr}(hn:es.all bU=true)(hk:keepIn K f=true)(h:wpAny M A (spliced (backTo pos (starEach es env))) (λvs s₁=>K.In s₁.heap/\wpAny M A (call f (first++vs)) Q E s₁) E s) :
 wpAny M A (callWith pos f first (backTo pos (starEach es env)) []) Q E s:=
 jf (P:=K.In) hn (keeps_K hk) h
end
section
variable {prog:Program} {w:World} {A:Around} {E:Value->Shared->Prop} {s:Shared}
theorem gp{value slice:Expr}{o i:Value}{T id:String}{Q:Value->Shared->Prop}(hT:s.TypeIs o T)(hl:typeLookup (.type T) "__getitem__" = pure (some (.builtin id)))(hs:eI slice=false)
 (h:wpAny (model prog w) A (getItem o i) Q E s):wpAny (model prog w) A (subscriptTail value slice o i) Q E s:=by
 unfold subscriptTail
 refine wpAny_bind ?_
 refine(getitemInPython_of_ne hT.not_modules).symm ▸ ?_
 refine wpAny_bind (wpAny_specialOf hT hl ?_)
 have e:subscripted slice false o i=operate [o,i] (getItem o i):=by cases slice<;>first|rfl|exfalso;cases hs
 have fin:wpAny (model prog w) A (subscripted slice false o i) (λr s₃=>wpAny (model prog w) A (letTemporaryGo value o r >>= λ_=>pure r) Q E s₃) E s:=by
  refine ac e ?_
  exact wpAny_operating (wpAny_mono h (λr s₃ h₃=>wpAny_bind (wpAny_letTemporaryGo (wpAny_pure h₃))) λ_ _ x=>x)
 first
  | exact wpAny_pure (wpAny_bind fin)
  | exact wpAny_bind (wpAny_pure (wpAny_bind fin))
  | exact wpAny_bind fin
end
theorem pu:∀ c<128,Unicode.upperOf c=[eK c]:=by
 have h:(List.range 128).all (λc=>Unicode.upperOf c==[eK c])=true:=by decide +kernel
 intro c hc
 exact beq_iff_eq.mp (List.all_eq_true.mp h c (List.mem_range.mpr hc))
theorem pv:∀ c<128,Unicode.lowerOf c=[gx c]:=by
 have h:(List.range 128).all (λc=>Unicode.lowerOf c==[gx c])=true:=by decide +kernel
 intro c hc
 exact beq_iff_eq.mp (List.all_eq_true.mp h c (List.mem_range.mpr hc))
theorem kC{s:List Nat}{f:Nat->Nat->List Nat}{g:Nat->Nat}(h:∀ i c,s[i]?=some c->f i c=[g c]):(⟨placed (bz s) f⟩:Str)=bz (s.map g):=by
 unfold placed bz
 congr 1
 have e:Array.mapIdx (λi c=>(f i c).toArray) s.toArray=(s.map λc=>#[g c]).toArray:=by
  apply Array.ext'
  simp only[Array.toList_mapIdx]
  apply List.ext_getElem?
  intro i
  refine ac (List.getElem?_mapIdx) (ac (List.getElem?_map) ?_)
  induction hc:s[i]? with
  | none=>simp
  | some c=>simp[h i c hc]
 refine e.symm ▸ ?_
 clear h e
 apply Array.ext'
 simp
 induction s with
 | nil=>rfl
 | cons a r ih=>simp_all
theorem lE{s:List Nat}(h:bf s):Txt.upper (bz s)=bz (s.map eK):=
 kC λi c e=>pu c (h c (List.mem_of_getElem? e))
theorem lX{s:List Nat}(h:bf s):Txt.lower (bz s)=bz (s.map gx):=by
 refine kC (f:=λi _=>Unicode.lowerAt s.toArray i) λi c e=>?_
 have hc:=h c (List.mem_of_getElem? e)
 unfold Unicode.lowerAt
 have e':s.toArray[i]?=some c:=by simpa using e
 refine e'.symm ▸ ?_
 dsimp only
 refine ac (if_neg (by simp;lia)) ?_
 exact pv c hc
theorem oR{s:List Nat}(h:bf s):Txt.isascii (bz s)=true:=by
 unfold Txt.isascii bz
 unfold bf at h
 simpa using h
theorem qw(s:List Nat)(c:Nat):Txt.lstripChars (bz s) (bz [c])=bz (s.dropWhile (· == c)):=by
 have e:Txt.lstripChars (bz s) (bz [c])=PySem.stripped (bz [c]).cps.contains true false (bz s):=by
  unfold Txt.lstripChars Txt.stripBy
  split
  ·rename_i h
   unfold stripSame at h
   rw[Bool.and_eq_true] at h
   have h1:=beq_iff_eq.mp h.1
   have h2:=beq_iff_eq.mp h.2
   unfold PySem.stripped
   refine ac h2 (ac h1 ?_)
   apply Str.ext'
   simp[Builtin.Str.strSub,Str.length]
  ·rfl
 refine ac e ?_
 unfold PySem.stripped
 apply Str.ext'
 apply Array.ext'
 refine ac (StrLaws.strSub_toList ..) ?_
 have g:(bz [c]).cps.contains=λd=>d==c:=by
  funext d
  exact ac (List.contains_toArray ..) (ac (List.contains_cons ..) (ac (List.contains_nil ..) (ac (Bool.or_false ..) rfl)))
 have t:∀ l:List Nat,l.drop (l.takeWhile (· == c)).length=l.dropWhile (· == c):=by
  intro l
  induction l with
  | nil=>rfl
  | cons a r ih=>
   by_cases h:(a==c)=true
   ·simp[h,ih]
   ·simp[h]
 simp only[stripLo,stripHi,if_true,Bool.false_eq_true,if_false,g]
 refine ac (aY ..) ?_
 refine(t s).symm ▸ ?_
 refine List.take_of_length_le ?_
 refine ac (t s).symm (ac List.length_drop ?_)
 exact Nat.le_refl _
theorem tP(x:Str)(c:Nat):∀ (n lo fr:Nat),lo+n=x.length+1->fr<=lo->(Id.run (forIn (List.range' lo n) ((#[]:Array Nat),fr) (StrLaws.occBody x ⟨#[c]⟩ x.length 1))).fst.toList.head?=g9 c (x.cps.toList.drop lo) lo:=by
 intro z_
 induction z_ with
 | zero=>
  intro lo fr h _
  simp
  rw[List.drop_of_length_le (by have:x.length=x.cps.toList.length:=(by simp[Str.length]);lia)]
  rfl
 | succ n ihz=>
  intro lo fr h hfr
  refine ac (List.range'_succ ..) (ac (List.forIn_cons ..) ?_)
  have hs:=StrLaws.subAt_one x c lo
  unfold StrLaws.occBody
  have hl:x.length=x.cps.toList.length:=by simp[Str.length]
  by_cases hc:x.cps.toList[lo]?=some c
  ·refine(hs.mpr hc).elim λh1 h2=>?_
   refine ac (if_pos ⟨⟨⟨by simp,hfr⟩,h1⟩,h2⟩) ?_
   have keep:∀ (l:List Nat) (st:Array Nat×Nat),st.fst.toList.head?=some lo->st.fst.size=1->(Id.run (forIn l st (StrLaws.occBody x ⟨#[c]⟩ x.length 1))).fst.toList.head?=some lo:=by
    intro l
    induction l with
    | nil=>intro st hst _;exact hst
    | cons a l ih=>
     intro st hst hsz
     refine ac (List.forIn_cons ..) ?_
     unfold StrLaws.occBody
     rw[if_neg (by rw[hsz];simp)]
     exact ih _ hst hsz
   have:=keep (List.range' (lo+1) n) (#[lo],lo+1) rfl rfl
   refine(List.getElem?_eq_some_iff.mp hc).elim λhlt e=>?_
   refine ac (List.drop_eq_getElem_cons hlt) (ac e ?_)
   unfold g9
   refine ac (Nat.beq_refl ..) ?_
   exact this
  ·refine ac (if_neg (λz=>hc (hs.mp ⟨z.1.2,z.2⟩))) ?_
   have hz:=ihz (lo+1) fr (by lia) (by lia)
   by_cases hlt:lo<x.cps.toList.length
   ·refine ac (List.drop_eq_getElem_cons hlt) ?_
    unfold g9
    have:Nat.beq (x.cps.toList[lo]) c=false:=by
     cases q:Nat.beq (x.cps.toList[lo]) c with
     | false=>rfl
     | true=>exact absurd (by exact ac (List.getElem?_eq_getElem hlt) (ac (Nat.eq_of_beq_eq_true q) rfl)) hc
    refine ac this ?_
    exact hz
   ·refine ac (List.drop_of_length_le (Nat.le_of_not_lt hlt)) ?_
    rw[List.drop_of_length_le (by lia)] at hz
    exact hz
theorem yY(s:List Nat)(c:Nat){i:Int}(hi:0<=i):Txt.find3 (bz s) (bz [c]) i=(match g9 c (s.drop i.toNat) i.toNat with|some j=>(j:Int)|none=>-1):=by
 unfold Txt.find3
 have e:fromIndex (bz s).length i=i.toNat:=by unfold fromIndex;refine ac (if_neg (by lia)) ?_;lia
 refine ac (e ..) (ac (StrLaws.occ_eq ..) ?_)
 have key:(Id.run (forIn (List.range' i.toNat ((bz s).length+1-i.toNat)) ((#[]:Array Nat),i.toNat) (StrLaws.occBody (bz s) (bz [c]) (bz s).length 1))).fst.toList.head?=g9 c (s.drop i.toNat) i.toNat:=by
  by_cases hl:i.toNat<=(bz s).length+1
  ·have h:=tP (bz s) c ((bz s).length+1-i.toNat) i.toNat i.toNat (by lia) (Nat.le_refl _)
   rw[show(bz s).cps.toList=s from by simp[bz]] at h
   exact h
  ·refine ac (show(bz s).length+1-i.toNat=0 from by lia) ?_
   rw[aY] at hl
   refine ac (List.drop_of_length_le (by lia)) ?_
   rfl
 refine key ▸ ?_
 generalize(Id.run (forIn (List.range' i.toNat ((bz s).length+1-i.toNat)) ((#[]:Array Nat),i.toNat) (StrLaws.occBody (bz s) (bz [c]) (bz s).length 1))).fst.toList=q
 induction q<;>rfl
noncomputable def sF(i:Int)(n:Nat):Int:=max 0 (min (if i<0 then i+n else i) n)
theorem mf{a:Int}(h:0<=a)(n:Nat):sF a n=((min a.toNat n:Nat):Int):=by
 refine(Int.eq_ofNat_of_zero_le h).elim λk eq1_=>?_
 subst eq1_
 unfold sF
 refine ac (if_neg (Int.not_lt.mpr h)) (ac (Int.toNat_natCast ..) ?_)
 rcases Nat.le_total k n with q|q
 ·exact ac (Nat.min_eq_left q) (ac (Int.min_eq_left (Int.ofNat_le.mpr q)) (ac (Int.max_eq_right h) rfl))
 ·exact ac (Nat.min_eq_right q) (ac (Int.min_eq_right (Int.ofNat_le.mpr q)) (ac (Int.max_eq_right (Int.natCast_nonneg n)) rfl))
theorem yJ(a b:Int)(n:Nat):Builtin.Str.strSliceIndices (some a) (some b) 1 n=sliceRange (sF a n) (sF b n) 1:=rfl
theorem mW{a b:Int}(ha:0<=a)(hb:0<=b)(n:Nat):Builtin.Str.strSliceIndices (some a) (some b) 1 n=sliceRange ((min a.toNat n:Nat):Int) ((min b.toNat n:Nat):Int) 1:=by
 rw[yJ,mf ha,mf hb]
theorem vf(s:List Nat)(b:Nat):s.take (min b s.length)=s.take b:=by
 exact ac (List.take_take ..).symm (ac (List.take_length ..) rfl)
theorem qb{a b:Nat}(h:b<=a):sliceRange (a:Int) (b:Int) 1=[]:=by
 unfold sliceRange
 refine ac (if_pos (by decide)) (ac (if_neg (Int.not_lt.mpr (Int.ofNat_le.mpr h))) ?_)
 rfl
theorem ti{s:List Nat}{a b:Nat}(hab:a<=b)(hbl:b<=s.length):Txt.slice (bz s) (some (a:Int)) (some (b:Int))=bz ((s.take b).drop a):=by
 have h:=StrLaws.sliced_plain (bz s) hab (by refine ac (aY ..) ?_;exact hbl)
 unfold Txt.slice
 split
 ·rename_i hq
  rw[StrLaws.strSliceIndices_plain hab (by rw[aY];exact hbl)] at hq
  simp[aY] at hq
  rcases Nat.eq_zero_or_pos a with rfl|h0
  ·refine ac List.drop_zero ?_;exact ac (List.take_of_length_le (i:=b) (Nat.le_of_eq hq.symm)) rfl
  ·have:s=[]:=List.eq_nil_of_length_eq_zero (by lia)
   exact ac (this ..) (ac (List.take_nil ..) (ac (List.drop_nil ..) rfl))
 ·rw[h,show(bz s).cps.toList=s from by simp[bz],List.drop_take]
theorem tj{s:List Nat}{a b:Int}(ha:0<=a)(hb:0<=b):Txt.slice (bz s) (some a) (some b)=bz ((s.take b.toNat).drop a.toNat):=by
 have hn:(bz s).length=s.length:=aY s
 rcases Nat.le_total (min a.toNat s.length) (min b.toNat s.length) with h|h
 ·have e2:Txt.slice (bz s) (some a) (some b)=Txt.slice (bz s) (some ((min a.toNat s.length:Nat):Int)) (some ((min b.toNat s.length:Nat):Int)):=by
   unfold Txt.slice
   refine ac hn ?_;rw[mW ha hb,mW (Int.natCast_nonneg _) (Int.natCast_nonneg _),Int.toNat_natCast,Int.toNat_natCast,Nat.min_assoc,Nat.min_assoc,Nat.min_self]
  refine ac (e2 ..) (ac (ti h (Nat.min_le_right _ _)) (ac (vf ..) ?_))
  apply congrArg bz
  rcases Nat.le_total a.toNat s.length with q|q
  ·exact ac (Nat.min_eq_left q) rfl
  ·exact ac (Nat.min_eq_right q) (ac (List.drop_of_length_le (List.length_take_le' _ _)) (ac (List.drop_of_length_le (Nat.le_trans (List.length_take_le' _ _) q)) rfl))
 ·have e4:(s.take b.toNat).drop a.toNat=[]:=List.drop_of_length_le (by refine List.length_take.symm ▸ ?_;exact Nat.le_trans h (Nat.min_le_left _ _))
  unfold Txt.slice
  refine ac hn ?_;rw[mW ha hb];refine ac (qb h) ?_;refine ac e4 ?_
  split
  ·rename_i hq
   simp at hq
   exact ac (List.eq_nil_of_length_eq_zero hq.symm) rfl
  ·rfl
theorem Bp{xs:List Value} : ∀ {l:List (List Nat)},xs.map er=l.map AV.str->∃ l':List (Str×Tok),strValues l'=xs/\l'.map (·.1)=l.map bz:=by
 induction xs with
 | nil=>intro l h;cases l<;>first|exact⟨[],rfl,rfl⟩|exfalso;cases h
 | cons v r ih=>
  intro l h
  cases l with
  | nil=>exfalso;cases h
  | cons s l=>
   simp only[List.map_cons,List.cons.injEq] at h
   refine(bV h.1).elim λt eq1_=>?_
   subst eq1_
   refine cG (ih h.2) λl' h1 h2=>?_
   refine⟨(bz s,t)::l',?_,?_⟩
   ·show Value.str (bz s) t::strValues l'=_
    exact ac (h1 ..) rfl
   ·exact ac (List.map_cons ..) (ac (h2 ..) (ac (List.map_cons ..) rfl))
theorem yn(sep:List Nat):∀ l:List (List Nat),Txt.join (bz sep) (l.map bz)=bz (List.intercalate sep l):=by
 intro l
 show Builtin.Str.glued _ _=_
 refine ac (StrLaws.glued_eq_join ..) ?_
 induction l with
 | nil=>rfl
 | cons a r ih=>
  induction r with
  | nil=>simp[Str.join]
  | cons b r=>
   show bz a++bz sep++Str.join (bz sep) ((b::r).map bz)=_
   refine ac ih ?_;rw[iq,iq]
   simp[List.intercalate]
theorem qF{sep:List Nat}{l:List (List Nat)}(h:(List.intercalate sep l).length<=ah)(h':sep.length<=ah):JoinOk (bz sep) (l.map bz)=true:=by
 unfold JoinOk Builtin.Str.tooLong
 have key:∀ (l:List (List Nat)) (k:Nat),(l.map bz).foldl (λx1 x2=>x1+x2.length+(bz sep).length) k=k+(l.map List.length).sum+l.length*sep.length:=by
  intro l
  induction l with
  | nil=>intro k;simp
  | cons a r ih=>
   intro k
   refine ac (List.map_cons ..) (ac (List.foldl_cons ..) (ac (ih ..) (ac (aY ..) (ac (aY ..) ?_))))
   simp only[List.map_cons,List.sum_cons,List.length_cons,Nat.add_mul]
   lia
 have len:∀ l:List (List Nat),(l.map List.length).sum+l.length*sep.length<=(List.intercalate sep l).length+sep.length:=by
  intro l
  induction l with
  | nil=>simp
  | cons a r ih=>
   induction r with
   | nil=>simp[List.intercalate]
   | cons b r=>
    have e:List.intercalate sep (a::b::r)=a++sep++List.intercalate sep (b::r):=by simp[List.intercalate]
    refine ac e ?_
    simp only[List.map_cons,List.sum_cons,List.length_cons,List.length_append,Nat.add_mul] at *
    lia
 have e:(l.map bz).toArray.foldl (λx1 x2=>x1+x2.length+(bz sep).length) 0=(l.map bz).foldl (λx1 x2=>x1+x2.length+(bz sep).length) 0:=by simp
 refine ac e (ac (key l 0) ?_)
 have:=len l
 have hs:sizeLine=2^24:=by rfl
 unfold ah at *
 simp
 lia
theorem Fa{n:Nat}(h:n<=ah):(n:Int)<2^63:=by unfold ah at h;lia
section
variable {A:cy} {gens:Array GenState} {os:OsState} {h₀:Heap} {L:Addr} {mm:Str->Option Value} {ex:List (Addr×Obj)} {H:AH} {s:Shared} {K:Frag} {prog:Program} {w:World} {Ar:Around} {T:aT}
 {E:Value->Shared->Prop}
theorem Mp{i:Int}(h:i.natAbs<2^64) : -2^64<i/\i<2^64:=by lia
theorem qV{j:Int}(h0:0<j)(h1:j<2^64):¬ ((if(j==0)=true then 0 else j.natAbs.log2 / 30+1)>300):=by
 rw[if_neg (by simp;lia)]
 have:j.natAbs.log2<64:=(Nat.log2_lt (by lia)).mpr (by lia)
 lia
theorem AK{a b:List Nat}(h:(a++b).length<=ah):(bz a).length+(bz b).length<=sizeLine:=by
 refine ac (aY ..) (ac (aY ..) (ac (List.length_append ..).symm ?_))
 exact Nat.le_trans h (by decide)
theorem Oy(M:cv A gens os h₀ L mm ex H s){op:A0}{x y:AV}{Q:AV->Prop}(h:KW op x y Q){u v:Value}(hu:er u=x)(hv:er v=y){o:Operator}(ho:OQ o=some op) :
 wpAny (model prog w) Ar (binaryOp o u v) (λr s'=>cv A gens os h₀ L mm ex H s'/\er r≠.oth/\Q (er r)) E s:=by
 refine(Ki ho).elim λeq1_ hp=>?_
 subst eq1_
 clear ho
 have MT:=M.toks
 clear M
 induction op with
 | add=>
  induction x with
  | int i=>
   obtain⟨j,rfl,h⟩:=fg (show i8 y λj=>Q (.int (i+j)) from h)
   obtain⟨t,rfl⟩:=a9 hu;obtain⟨t',rfl⟩:=a9 hv
   exact add_int ⟨MT _,(λz=>nomatch z),h⟩
  | str a=>
   obtain⟨b,rfl,h⟩:=se (show jY y λt=>(a++t).length<=ah/\Q (.str (a++t)) from h)
   obtain⟨t,rfl⟩:=bV hu;obtain⟨t',rfl⟩:=bV hv
   refine add_str (λt' tk=>⟨MT _,(λz=>nomatch z),?_⟩) (AK h.1)
   refine ac (iq ..) (ac (gG ..) ?_);exact h.2
  | _=>exact False.elim h
 | sub=>
  obtain⟨i,rfl,h⟩:=fg h;obtain⟨j,rfl,h⟩:=fg h
  obtain⟨t,rfl⟩:=a9 hu;obtain⟨t',rfl⟩:=a9 hv
  exact sub_int ⟨MT _,(λz=>nomatch z),h⟩
 | mul=>
  obtain⟨i,rfl,h⟩:=fg h;obtain⟨j,rfl,h⟩:=fg h
  obtain⟨t,rfl⟩:=a9 hu;obtain⟨t',rfl⟩:=a9 hv
  exact mul_int ⟨MT _,(λz=>nomatch z),h.2⟩ (IntMulOk.of_left (intBits_le_64 (Mp h.1.1).1 (Mp h.1.1).2))
 | fdiv=>
  obtain⟨i,rfl,h⟩:=fg h;obtain⟨j,rfl,h⟩:=fg h
  obtain⟨t,rfl⟩:=a9 hu;obtain⟨t',rfl⟩:=a9 hv
  refine floordiv_int (Int.ne_of_gt h.1.1) ⟨MT _,(λz=>nomatch z),?_⟩ (.inl ?_)
  ·refine ac (Int.fdiv_eq_ediv_of_nonneg _ (Int.le_of_lt h.1.1)) ?_;exact h.2
  ·unfold Builtin.divisionGoesByPylong
   simp only[qV h.1.1 h.1.2,decide_false,Bool.false_and]
 | mod=>
  obtain⟨i,rfl,h⟩:=fg h;obtain⟨j,rfl,h⟩:=fg h
  obtain⟨t,rfl⟩:=a9 hu;obtain⟨t',rfl⟩:=a9 hv
  refine mod_int (Int.ne_of_gt h.1) ⟨MT _,(λz=>nomatch z),?_⟩
  refine ac (Int.fmod_eq_emod_of_nonneg _ (Int.le_of_lt h.1)) ?_;exact h.2
 | pow=>exact nomatch hp
theorem ff(M:cv A gens os h₀ L mm ex H s){a:Nat}{vs:List AV}(h:H a=some (.list vs)) :
 ∃ xs n,s.heap.get? a=some (listOf xs n)/\vs=xs.toList.map er/\∀ v∈xs.toList,er v≠.oth:=by
 obtain⟨news,F,N,O,D⟩:=M.out
 have hob:=D.ob a _ h
 generalize ho:AO.list vs=o at hob
 induction hob with
 | tup _ _=>exfalso;cases ho
 | inst _ _ _=>exfalso;cases ho
 | list h1 h2=>injection ho with ho;subst ho;exact⟨_,_,(N _ (List.mem_append_left _ h1)).1,rfl,h2⟩
theorem lG(M:cv A gens os h₀ L mm ex H s){a:Nat}{vs:List AV}(h:H a=some (.tup vs)) :
 ∃ xs,IsTup s.heap a xs/\vs=xs.toList.map er/\∀ v∈xs.toList,er v≠.oth:=by
 obtain⟨news,F,N,O,D⟩:=M.out
 have hob:=D.ob a _ h
 generalize ho:AO.tup vs=o at hob
 induction hob with
 | list _ _=>exfalso;cases ho
 | inst _ _ _=>exfalso;cases ho
 | tup h1 h2=>injection ho with ho;subst ho;exact⟨_,⟨_,(N _ (List.mem_append_left _ h1)).1,rfl,_,rfl⟩,rfl,h2⟩
theorem mI{xs:Array Value}{k:Nat}{x:AV}(h:(xs.toList.map er)[k]?=some x):∃ v,xs[k]?=some v/\er v=x:=by
 rw[List.getElem?_map,Option.map_eq_some_iff] at h
 refine cG h λv e hv=>?_
 exact⟨v,by refine(Array.getElem?_toList) ▸ ?_;exact e,hv⟩
open PyProof.V in
theorem ss{v:Value}{x:AV}(h:Flat v (Hg x))(hx:x=Kp (Hg x)):er v=x/\x≠.oth:=by
 induction x with
 | int i=>obtain⟨t,rfl⟩:=h.int_inv;exact⟨rfl,λz=>nomatch z⟩
 | str s=>obtain⟨t,rfl⟩:=h.str_inv;exact⟨gG,λz=>nomatch z⟩
 | bool b=>obtain rfl:=h.bool_inv;exact⟨rfl,λz=>nomatch z⟩
 | none=>obtain rfl:=h.none_inv;exact⟨rfl,λz=>nomatch z⟩
 | ref a=>exfalso;cases hx
 | oth=>exfalso;cases hx
theorem fS(t:List Nat):∀ l:List (List Nat×AV),PySem.Spec.lookup (.str (bz t)) (l.map uB)=(jR t l).map Hg:=by
 intro z_
 induction z_ with
 | nil=>
  exact rfl
 | cons p r ihz=>
  have ih:=ihz
  refine List.map_cons.symm ▸ ?_
  unfold jR
  by_cases h:p.1=t
  ·refine ac (if_pos h) ?_
   simp[PySem.Spec.lookup,uB,h,PySem.Spec.same]
  ·refine ac (if_neg h) (ac ih.symm ?_)
   have e:(bz t==bz p.1)=false:=by refine ac (iY ..) ?_;simp[Ne.symm h]
   have e':(bz p.1==bz t)=false:=by refine ac (iY ..) ?_;simp[h]
   simp[PySem.Spec.lookup,uB,PySem.Spec.same,e,e']
theorem ry{xs:List Value} : ∀ {l:List (List Nat)},xs.map er=l.map AV.str->StrsAre xs (l.map bz):=by
 induction xs with
 | nil=>intro l h;induction l<;>first|exact .nil|exfalso;cases h
 | cons v r ih=>
  intro l h
  induction l with
  | nil=>cases h
  | cons s l=>
   simp only[List.map_cons,List.cons.injEq] at h
   obtain⟨t,rfl⟩:=bV h.1
   exact .cons _ _ (ih h.2)
theorem kb(x:List Nat)(l:List (List Nat)):((l.map bz).any λy=>y==bz x)=decide (x∈l):=by
 induction l with
 | nil=>simp
 | cons a r ih=>
  refine ac (List.map_cons ..) (ac (List.any_cons ..) (ac (ih ..) (ac (iY ..) ?_)))
  by_cases h:a=x
  ·subst h;simp
  ·have h':¬ x=a:=λe=>h e.symm
   simp[h,h']
theorem sb{xs:Array Value}{k:Int}{x:AV}(h:(tN k/\(xs.toList.map er)[k.toNat]?=some x)\/(k = -1/\(xs.toList.map er).getLast?=some x)) :
 ∃ y j,xs[j]?=some y/\er y=x/\y∈xs.toList/\j<xs.size/\((tN k/\j=k.toNat)\/(k = -1/\j+1=xs.size)):=by
 have key:∀ j,(xs.toList.map er)[j]?=some x->((tN k/\j=k.toNat)\/(k = -1/\j+1=xs.size))->∃ y j,xs[j]?=some y/\er y=x/\y∈xs.toList/\j<xs.size/\((tN k/\j=k.toNat)\/(k = -1/\j+1=xs.size)):=λj hj ho=>by
  refine cG (mI hj) λy hy e=>?_
  exact⟨y,j,hy,e,by rw[← Array.getElem?_toList] at hy;exact List.mem_of_getElem? hy,(Array.getElem?_eq_some_iff.mp hy).1,ho⟩
 rcases h with h|h
 ·exact key _ h.2 (.inl ⟨h.1,rfl⟩)
 ·have hg:=h.2
  rw[List.getLast?_eq_getElem?,List.length_map,Array.length_toList] at hg
  have h0:xs.size≠0:=λz=>by rw[z,List.getElem?_map,Array.getElem?_toList,Array.getElem?_eq_none (by rw[z];exact Nat.zero_le _)] at hg;exact nomatch hg
  exact key _ hg (.inr ⟨h.1,Nat.succ_pred_eq_of_ne_zero h0⟩)
theorem rY{n j:Nat}(h:j+1=n):((-1:Int)+(n:Int)).toNat=j:=by lia
section
variable {M:Model} {P:Value->Shared->Prop} {value slice:Expr} {a:Addr} {xs:Array Value} {k:Int} {tk:Tok} {x:AV}
theorem ub(IL:s.heap.IsList a xs)(hs:eI slice=false)(h:(tN k/\(xs.toList.map er)[k.toNat]?=some x)\/(k = -1/\(xs.toList.map er).getLast?=some x))(hP:∀ y∈xs.toList,er y=x->P y s) :
 wpAny (model prog w) Ar (subscriptTail value slice (.ref a) (.int k tk)) P E s:=by
 refine a7 λGg fin_=>?_
 obtain⟨y,j,hy,e,hm,hlt,ho⟩:=sb h
 refine fin_ (gp IL.typeIs slot_list_getitem.lookup hs ?_)
 have hp:=hP y hm e
 rcases ho with⟨hk,rfl⟩|⟨rfl,hj⟩
 ·exact wpAny_getItem_list IL hk.1 hk.2 hy hp
 ·exact wpAny_getItem_list_neg IL (by decide) (by refine hj ▸ ?_;lia) (by decide) (by refine(rY hj).symm ▸ ?_;exact hy) hp
theorem vq{n j:Nat}(h:j+1=n):seqIndex? (-1) n=some j:=by
 unfold seqIndex?
 simp only[show((-1:Int)<0) from by decide,if_true]
 rw[if_pos (by simp;lia)]
 exact congrArg some (rY h)
theorem yp(IT:IsTup s.heap a xs)(hs:eI slice=false)(h:(tN k/\(xs.toList.map er)[k.toNat]?=some x)\/(k = -1/\(xs.toList.map er).getLast?=some x))(hP:∀ y∈xs.toList,er y=x->P y s) :
 wpAny (model prog w) Ar (subscriptTail value slice (.ref a) (.int k tk)) P E s:=by
 refine a7 λGg fin_=>?_
 obtain⟨y,j,hy,e,hm,hlt,ho⟩:=sb h
 refine fin_ (gp IT.typeIs slot_tuple_getitem.lookup hs ?_)
 have hp:=hP y hm e
 rcases ho with⟨hk,rfl⟩|⟨rfl,hj⟩
 ·have h1:=hk.1
  exact getItem_tuple IT (by lia) hk.2 (StrLaws.seqIndex_nonneg h1 (by lia)) hy hp
 ·exact getItem_tuple IT (by decide) (by decide) (j:=j) (vq hj) hy hp
theorem yq{t:List Nat}{c:Nat}{tk':Tok}(hs:eI slice=false)(hk:tN k)(hc:t[k.toNat]?=some c)(hP:∀ t,P (.str (bz [c]) t) { s with toks:=s.toks+1 }) :
 wpAny (model prog w) Ar (subscriptTail value slice (.str (bz t) tk') (.int k tk)) P E s:=by
 have h1:=hk.1
 have hlt:k.toNat<t.length:=(List.getElem?_eq_some_iff.mp hc).1
 have e:Txt.charAt (bz t) k=some c:=by
  unfold Txt.charAt
  refine ac (aY ..) ?_;refine ac (StrLaws.seqIndex_nonneg h1 (by lia)) ?_
  simpa using hc
 refine gp (T:="str") rfl slot_str_getitem.lookup hs (SB.getItem ?_ (by refine e ▸ ?_;rfl) ?_)
 ·unfold fitsSsize
  have:=hk.2
  simp;lia
 ·unfold Txt.item
  refine e.symm ▸ ?_
  exact hP _
end
theorem Cu{t:List Nat}{x:AV} : ∀ {l:List (List Nat×AV)},jR t l=some x->∃ p∈l,p.2=x:=λ{l} hl=>by
 induction l with
 | nil=>exfalso;cases hl
 | cons p r ih=>
  unfold jR at hl
  split at hl
  ·obtain rfl:=Option.some.inj hl;exact⟨p,.head _,rfl⟩
  ·obtain⟨q,h1,h2⟩:=ih hl;exact⟨q,.tail _ h1,h2⟩
theorem NX(M:cv A gens os h₀ L mm ex H s)(X:K.In h₀)(tp:eB w K T A){v i:AV}{Q:AV->Prop}(h:j0 T H v i Q){u j:Value}(hu:er u=v)(hj:er j=i){value slice:Expr}(hs:eI slice=false) :
 wpAny (model prog w) Ar (subscriptTail value slice u j) (λx s'=>cv A gens os h₀ L mm ex H s'/\er x≠.oth/\Q (er x)) E s:=by
 have XK:K.In s.heap:=X.keeps M.fr.keep
 rcases h with⟨a,k,vs,x,rfl,rfl,ho,hk,hq⟩|⟨t,k,c,rfl,rfl,hk,hc,hq⟩|⟨a,t,l,x,rfl,rfl,hst,hl,hq⟩|⟨a,k,l,x,rfl,rfl,hst,hk,hl,hq⟩
 ·obtain rfl:=bO hu;obtain⟨tk,rfl⟩:=a9 hj
  rcases ho with ho|ho
  ·refine gf (ff M ho) λxs n hg eq1_ hx=>?_
   subst eq1_
   exact ub ⟨_,hg,rfl,_,rfl⟩ hs hk λy hy e=>⟨M,hx y hy,e▸hq⟩
  ·refine fW (lG M ho) λxs IT eq1_ hx=>?_
   subst eq1_
   exact yp IT hs hk λy hy e=>⟨M,hx y hy,e▸hq⟩
 ·obtain⟨tk,rfl⟩:=bV hu;obtain⟨tk',rfl⟩:=a9 hj
  exact yq hs hk hc λt=>⟨M.toks _,(λz=>nomatch z),hq⟩
 ·obtain rfl:=bO hu;obtain⟨tk,rfl⟩:=bV hj
  refine(tp.tdict a l hst).elim λt1 t2=>?_
  have TT:=t1 s.heap prog XK
  refine TT.elim λlo h1_=>h1_.elim λkvs h2_=>h2_.elim λhd hf=>?_
  obtain⟨v,hv,hfl⟩:=hf.of_lookup PyProof.V.same_str (k:=bz t) (by refine ac (fS ..) (ac (hl ..) ?_);rfl)
  refine cG (Cu hl) λp hp eq1_=>?_
  subst eq1_
  refine(ss hfl (t2 p hp)).elim λe1 e2=>?_
  exact gp hd.typeIs slot_dict_getitem.lookup hs (wpAny_getItem_of (strKind_is prog w _ tk) hd.mapOf hv ⟨M.toks _,e1▸e2,e1▸hq⟩)
 ·obtain rfl:=bO hu;obtain⟨tk,rfl⟩:=a9 hj
  refine(tp.tints a l hst).elim λo h1_=>h1_.elim λxs h2_=>h2_.elim λn h3_=>h3_.elim λh1 h4_=>h4_.elim λh2 h5_=>h5_.elim λh3 h6_=>h6_.elim λh4 h5=>?_
  have IL:s.heap.IsList a xs:=⟨_,XK _ _ h1,h2,_,h3⟩
  obtain⟨y,hy,e⟩:=mI (xs:=xs) (k:=k.toNat) (x:=.int x) (by refine ac h4 (ac (List.getElem?_map) (ac hl ?_));rfl)
  exact gp IL.typeIs slot_list_getitem.lookup hs (wpAny_getItem_list IL hk.1 hk.2 hy ⟨M,(by refine ac e ?_;exact λz=>nomatch z),e▸hq⟩)
theorem NW(M:cv A gens os h₀ L mm ex H s)(X:K.In h₀)(tp:eB w K T A){x c:AV}{Q:Bool->Prop}(h:AN T H x c Q){u v:Value}(hu:er u=x)(hv:er v=c) :
 wpAny (model prog w) Ar (compareOp .In u v) (λr s'=>∃ b,r=.bool b/\cv A gens os h₀ L mm ex H s'/\Q b) E s/\
 wpAny (model prog w) Ar (compareOp .NotIn u v) (λr s'=>∃ b,r=.bool (!b)/\cv A gens os h₀ L mm ex H s'/\Q b) E s:=by
 have XK:K.In s.heap:=X.keeps M.fr.keep
 rcases h with⟨d,t,rfl,rfl,hq⟩|⟨t,a,l,rfl,rfl,ho,hq⟩|⟨t,a,l,rfl,rfl,hst,hq⟩|⟨t,a,l,rfl,rfl,hst,hq⟩
 ·obtain⟨tk,rfl⟩:=bV hu;obtain⟨tk',rfl⟩:=bV hv
  have e:=StrLaws.found_one (bz t) d
  exact⟨P.in_str ⟨_,rfl,M,by rw[show(!(Builtin.Str.occurrences (bz t) (bz [d]) 0 (bz t).length 1).isEmpty)=decide (d∈t) from e.trans (by simp[bz])];exact hq⟩,
   P.notIn_str ⟨_,rfl,M,by rw[show(!(Builtin.Str.occurrences (bz t) (bz [d]) 0 (bz t).length 1).isEmpty)=decide (d∈t) from e.trans (by simp[bz])];exact hq⟩⟩
 ·obtain⟨tk,rfl⟩:=bV hu;obtain rfl:=bO hv
  refine fW (lG M ho) λxs IT he hx=>?_
  have hi:=ry he.symm
  exact⟨in_tuple_strs IT hi ⟨_,rfl,M,by rw[kb];exact hq⟩,notin_tuple_strs IT hi ⟨_,rfl,M,by rw[kb];exact hq⟩⟩
 ·obtain⟨tk,rfl⟩:=bV hu;obtain rfl:=bO hv
  refine pf (tp.tstrs a l hst) λxs n hl he=>?_
  have IT:IsTup s.heap a xs:=⟨_,XK _ _ hl,rfl,_,rfl⟩
  have hi:=ry he
  exact⟨in_tuple_strs IT hi ⟨_,rfl,M,by rw[kb];exact hq⟩,notin_tuple_strs IT hi ⟨_,rfl,M,by rw[kb];exact hq⟩⟩
 ·obtain⟨tk,rfl⟩:=bV hu;obtain rfl:=bO hv
  have TT:=(tp.tdict a l hst).1 s.heap prog XK
  have e:(PySem.Spec.lookup (.str (bz t)) (l.map uB)).isSome=(jR t l).isSome:=by refine ac (fS ..) ?_;cases jR t l<;>rfl
  exact⟨in_strTab TT ⟨_,rfl,M.toks _,e▸hq⟩,notin_strTab TT ⟨_,rfl,M.toks _,e▸hq⟩⟩
end
section
variable {A:cy} {gens:Array GenState} {os:OsState} {h₀:Heap} {L:Addr} {mm:Str->Option Value} {ex:List (Addr×Obj)} {H:AH} {s:Shared} {K:Frag} {prog:Program} {w:World} {Ar:Around} {T:aT}
 {E:Value->Shared->Prop}
mutual
noncomputable def DT.py:DT->PyData
 | .none=>.none
 | .bool b=>.bool b
 | .int i=>.int i
 | .str s=>.str (bz s)
 | .tup l=>.tuple (DT.pys l)
noncomputable def DT.pys:List DT->List PyData
 | []=>[]
 | d::r=>d.py::DT.pys r
end
mutual
theorem DT.py_lay:∀ d:DT,d.good=true->d.py.canLay0=true/\d.py.depth=d.dep
 | .none,_=>⟨rfl,rfl⟩
 | .bool _,_=>⟨rfl,rfl⟩
 | .int _,_=>⟨rfl,rfl⟩
 | .str s,h=>by
  refine⟨?_,rfl⟩
  unfold DT.good at h
  show(bz s).cps.all _=true
  refine ac (show(bz s).cps=s.toArray from rfl) (ac List.all_toArray ?_)
  exact List.all_eq_true.mpr λc hc=>decide_eq_true (Nat.le_of_ble_eq_true (List.all_eq_true.mp h c hc))
 | .tup l,h=>by
  refine(DT.pys_lay l h).elim λh1 h2=>?_
  exact⟨h1,congrArg (· + 1) h2⟩
theorem DT.pys_lay:∀ l:List DT,DT.goodL l=true->PyData.canLayAll0 (DT.pys l)=true/\PyData.depthAll (DT.pys l)=DT.depL l
 | [],_=>⟨rfl,rfl⟩
 | d::r,h=>by
  unfold DT.goodL at h
  obtain⟨a,b⟩:=Bool.and_eq_true_iff.mp h
  obtain⟨h1,h2⟩:=DT.py_lay d a
  obtain⟨h3,h4⟩:=DT.pys_lay r b
  refine⟨?_,?_⟩
  ·show(d.py.canLay0&&PyData.canLayAll0 (DT.pys r))=true
   refine ac h1 (ac h3 ?_);rfl
  ·show max d.py.depth (PyData.depthAll (DT.pys r))=max d.dep (DT.depL r)
   exact ac (h2 ..) (ac (h4 ..) rfl)
end
theorem tF(M:cv A gens os h₀ L mm ex H s){v:AV}{d:DT}(h:bS H v d):∀ u,er u=v->Reads s.heap u d.py []:=by
 refine bS.rec (motive_1:=λv d _=>∀ u,er u=v->Reads s.heap u d.py []) (motive_2:=λvs ds _=>∀ us:List Value,us.map er=vs->ReadsAll s.heap us (DT.pys ds) []) (λu e=>sx e▸.none) (λu e=>fV e▸.bool _) (λu e=>?_) (λu e=>?_) (λh _ ih u e=>?_)
  (λus e=>List.map_eq_nil_iff.mp e▸.nil) (λ_ _ ih1 ih2 us e=>?_) h
 ·obtain⟨t,rfl⟩:=a9 e;exact .int _ _
 ·obtain⟨t,rfl⟩:=bV e;exact .str _ _
 ·obtain rfl:=bO e
  refine fW (lG M h) λxs g1_ hx _=>?_
  obtain⟨o,g1,g2,n,g3⟩:=g1_
  exact .tuple g1 g2 g3 (ih xs.toList hx.symm)
 ·obtain⟨u,us',rfl,h1,h2⟩:=List.map_eq_cons_iff.mp e
  exact .cons (as:=[]) (bs:=[]) (ih1 u h1) (ih2 us' h2)
theorem lM(M:cv A gens os h₀ L mm ex H s){v:AV}{d:DT}(h:bS H v d)(u:Value)(e:er u=v):Reads s.heap u d.py []:=tF M h u e
theorem Fg(M:cv A gens os h₀ L mm ex H s)(hu:Ar.units+64<cLine){x y:AV}{Q:Bool->Prop}(h:uO H x y Q){u v:Value}(e1:er u=x)(e2:er v=y) :
 wpAny (model prog w) Ar (compareOp .Eq u v) (λr s'=>∃ b,r=.bool b/\cv A gens os h₀ L mm ex H s'/\Q b) E s/\
 wpAny (model prog w) Ar (compareOp .NotEq u v) (λr s'=>∃ b,r=.bool (!b)/\cv A gens os h₀ L mm ex H s'/\Q b) E s:=by
 rcases h with⟨a,b,vs,rfl,rfl,h1,h2,hq⟩|⟨d,d1,d2,hg,hd,hq⟩
 rotate_left
 ·have r1:=lM M d1 u e1
  have r2:=lM M d2 v e2
  obtain⟨c1,c2⟩:=DT.py_lay d hg
  have sh:SeqAt.shaped d.py=true:=Bool.and_eq_true_iff.mpr ⟨c1,decide_eq_true (by lia)⟩
  have er:=SeqAt.eqv_refl d.py c1
  exact⟨eq_dataH r1 r2 sh sh hu (by refine er.symm ▸ ?_;exact⟨_,rfl,M,hq⟩),ne_dataH r1 r2 sh sh hu (by refine er.symm ▸ ?_;exact⟨true,rfl,M,hq⟩)⟩
 obtain rfl:=bO e1;obtain rfl:=bO e2
 refine a7 λGg fin_=>?_
 refine gf (ff M h1) λxs n g1 eq1_ _=>?_
 subst eq1_
 refine fin_ ?_
 refine a7 λGg fin_=>?_
 refine gf (ff M h2) λys n' g2 q2 _=>?_
 refine fin_ ?_
 have hy:ys=#[]:=by
  have:=congrArg List.length q2
  simp at this
  exact Array.eq_empty_of_size_eq_zero this.symm
 subst hy
 have I1:s.heap.IsList a xs:=⟨_,g1,rfl,_,rfl⟩
 have I2:s.heap.IsList b #[]:=⟨_,g2,rfl,_,rfl⟩
 by_cases hz:xs.size=0
 ·have hx:xs=#[]:=Array.eq_empty_of_size_eq_zero hz
  subst hx
  have hi:IntsAre ([]:List Value) []:=.nil
  exact⟨eq_intsK I1 hi I2 hi hu ⟨_,rfl,M,hq⟩,ne_intsK I1 hi I2 hi hu ⟨_,rfl,M,hq⟩⟩
 ·have e:(xs.toList.map er).isEmpty=false:=by
   cases q:xs.toList with
   | nil=>exact absurd (by refine ac Array.length_toList.symm (ac q ?_);rfl) hz
   | cons _ _=>rfl
  rw[e] at hq
  exact⟨SeqAt.eq_list_lengthsAt I1 I2 (by simp[hz]) (by lia) ⟨_,rfl,M,hq⟩,SeqAt.RcNeAt.lists_lengths I1 I2 (by simp[hz]) (by lia) prog w E _ ⟨_,rfl,M,hq⟩⟩
theorem Hc(M:cv A gens os h₀ L mm ex H s)(X:K.In h₀)(tp:eB w K T A)(hu:Ar.units+64<cLine){op:KB}{x y:AV}{Q:Bool->Prop}(h:gV T op H x y Q){u v:Value}(e1:er u=x)(e2:er v=y){o:CmpOp}(ho:PF o=some op) :
 wpAny (model prog w) Ar (compareOp o u v) (λr s'=>∃ b,r=.bool b/\cv A gens os h₀ L mm ex H s'/\Q b) E s:=by
 induction o<;>cases ho
 ·unfold gV OI at h
  dsimp only at h
  split at h
  ·obtain⟨t,rfl⟩:=a9 e1;obtain⟨t',rfl⟩:=a9 e2
   exact eq_int ⟨_,rfl,M,by refine ac (show((_:Int)==_)=decide _ from rfl) ?_;exact h⟩
  ·obtain⟨t,rfl⟩:=bV e1;obtain⟨t',rfl⟩:=bV e2
   exact eq_str ⟨_,rfl,M,by refine ac (iY ..) ?_;exact h⟩
  ·exact(Fg M hu h e1 e2).1
  ·exact h.elim
 ·unfold gV OI at h
  dsimp only at h
  split at h
  ·obtain⟨t,rfl⟩:=a9 e1;obtain⟨t',rfl⟩:=a9 e2
   exact ne_int ⟨_,rfl,M,h⟩
  ·obtain⟨t,rfl⟩:=bV e1;obtain⟨t',rfl⟩:=bV e2
   exact ne_str ⟨_,rfl,M,by rw[bne,iY];exact h⟩
  ·refine wpAny_mono (Fg M hu h e1 e2).2 (λr s' ⟨b,hr,M',hq⟩=>⟨_,hr,M',hq⟩) λ_ _ z=>z
  ·exact h.elim
 ·unfold gV at h
  dsimp only at h
  split at h
  ·obtain⟨t,rfl⟩:=a9 e1;obtain⟨t',rfl⟩:=a9 e2
   exact lt_int ⟨_,rfl,M,h⟩
  ·exact h.elim
 ·unfold gV at h
  dsimp only at h
  split at h
  ·obtain⟨t,rfl⟩:=a9 e1;obtain⟨t',rfl⟩:=a9 e2
   exact le_int ⟨_,rfl,M,h⟩
  ·exact h.elim
 ·unfold gV at h
  dsimp only at h
  split at h
  ·obtain⟨t,rfl⟩:=a9 e1;obtain⟨t',rfl⟩:=a9 e2
   exact gt_int ⟨_,rfl,M,h⟩
  ·exact h.elim
 ·unfold gV at h
  dsimp only at h
  split at h
  ·obtain⟨t,rfl⟩:=a9 e1;obtain⟨t',rfl⟩:=a9 e2
   exact ge_int ⟨_,rfl,M,h⟩
  ·exact h.elim
 ·exact(NW M X tp h e1 e2).1
 ·exact wpAny_mono (NW M X tp h e1 e2).2 (λr s' ⟨b,hr,M',hq⟩=>⟨_,hr,M',hq⟩) λ_ _ z=>z
theorem MS(M:cv A gens os h₀ L mm ex H s){x y:AV}{Q:Bool->Prop}(h:gV T .isNone H x y Q){u:Value}(e1:er u=x) :
 wpAny (model prog w) Ar (compareOp .Is u .none) (λr s'=>∃ b,r=.bool b/\cv A gens os h₀ L mm ex H s'/\Q b) E s:=by
 unfold gV at h
 dsimp only at h
 induction u<;>subst e1<;>first|exact h.elim|skip
 ·exact wpAny_is_self rfl ⟨_,rfl,M,h⟩
 all_goals exact wpAny_is_other rfl (λz=>nomatch z) ⟨_,rfl,M,h⟩
theorem sf(M:cv A gens os h₀ L mm ex H s){x y:AV}{Q:Bool->Prop}(h:gV T .isNotNone H x y Q){u:Value}(e1:er u=x) :
 wpAny (model prog w) Ar (compareOp .IsNot u .none) (λr s'=>∃ b,r=.bool b/\cv A gens os h₀ L mm ex H s'/\Q b) E s:=by
 unfold gV at h
 dsimp only at h
 induction u<;>subst e1<;>first|exact h.elim|skip
 ·exact wpAny_isNot_self rfl ⟨_,rfl,M,h⟩
 all_goals exact wpAny_isNot_other rfl (λz=>nomatch z) ⟨_,rfl,M,h⟩
end
noncomputable def jM:Nat->String
 | 2=>"str.join" | 3=>"str.lower" | 4=>"str.upper" | 5=>"str.isascii" | 6=>"str.find" | _=>"str.lstrip"
theorem dO:sizeLine=2^24:=by rfl
theorem map_nil{us:List Value}(h:us.map er=[]):us=[]:=by induction us<;>first|rfl|exfalso;cases h
theorem rQ{us:List Value}{a:AV}(h:us.map er=[a]):∃ u,us=[u]/\er u=a:=by
 induction us with
 | nil=>exfalso;cases h
 | cons u r=>simp only[List.map_cons,List.cons.injEq] at h;exact⟨u,by exact ac (map_nil h.2) rfl,h.1⟩
theorem Cs{us:List Value}{a b:AV}(h:us.map er=[a,b]):∃ u v,us=[u,v]/\er u=a/\er v=b:=by
 cases us with
 | nil=>exfalso;cases h
 | cons u r=>
  simp only[List.map_cons,List.cons.injEq] at h
  refine cG (rQ h.2) λv eq1_ hv=>?_
  subst eq1_
  exact⟨u,v,rfl,h.1,hv⟩
section
variable (us:List Value) (u:Value)
@[elab_as_elim] theorem Dp{k:Prop}{C:List Value->Prop}(h:Bd (us.map er) k)(q:k->C []):C us:=by induction us<;>first|exact q h|exact False.elim h
@[elab_as_elim] theorem rh{k:AV->Prop}{C:List Value->Prop}(h:nK (us.map er) k)(q:∀ u,k (er u)->C [u]):C us:=by
 induction us with
 | nil=>exact False.elim h
 | cons u r=>exact Dp r (C:=λr=>C (u::r)) h (q u)
@[elab_as_elim] theorem Do{k:AV->AV->Prop}{C:List Value->Prop}(h:A1 (us.map er) k)(q:∀ u v,k (er u) (er v)->C [u,v]):C us:=by
 induction us with
 | nil=>exact False.elim h
 | cons u r=>exact rh r (C:=λr=>C (u::r)) h (q u)
@[elab_as_elim] theorem rg{k:Int->Prop}{C:Value->Prop}(h:i8 (er u) k)(q:∀ i t,k i->C (.int i t)):C u:=by
 refine cG (fg h) λi e h=>?_
 refine(a9 e).elim λt eq1_=>?_
 subst eq1_
 exact q i t h
@[elab_as_elim] theorem Dn{k:List Nat->Prop}{C:Value->Prop}(h:jY (er u) k)(q:∀ s t,k s->C (.str ⟨s.toArray⟩ t)):C u:=by
 refine cG (se h) λi e h=>?_
 refine(bV e).elim λt eq1_=>?_
 subst eq1_
 exact q i t h
@[elab_as_elim] theorem Kv(s:List Nat){k:Nat->Prop}{C:List Nat->Prop}(h:pp s k)(q:∀ c,k c->C [c]):C s:=by
 refine cG (Db h) λi eq1_ h=>?_
 subst eq1_
 exact q i h
@[elab_as_elim] theorem uM{C:Nat->Prop}(k:Nat){n:Nat}{P R:Prop}(h:bif Nat.beq k n then P else R)(a:P->C n)(b:R->C k):C k:=by
 rcases Kn h with⟨rfl,h2⟩|h2
 ·exact a h2
 ·exact b h2
end
inductive jW(A:cy)(gens:Array GenState)(os:OsState)(h₀:Heap)(L:Addr)(mm:Str->Option Value)(ex:List (Addr×Obj))(H:AH)(Q:AV->Prop)(r:Value)(s:Shared):Prop
 | mk (M:cv A gens os h₀ L mm ex H s) (ho:er r≠.oth) (q:Q (er r)):jW A gens os h₀ L mm ex H Q r s
inductive gN(A:cy)(gens:Array GenState)(os:OsState)(h₀:Heap)(L:Addr)(mm:Str->Option Value)(ex:List (Addr×Obj))(Q:AV->AH->Prop)(r:Value)(s:Shared):Prop
 | mk (H:AH) (M:cv A gens os h₀ L mm ex H s) (ho:er r≠.oth) (q:Q (er r) H):gN A gens os h₀ L mm ex Q r s
section
variable {A:cy} {gens:Array GenState} {os:OsState} {h₀:Heap} {L:Addr} {mm:Str->Option Value} {ex:List (Addr×Obj)} {H:AH} {s:Shared} {K:Frag} {prog:Program} {w:World} {Ar:Around} {T:aT}
 {E:Value->Shared->Prop}
theorem Bw(std:dg A){M:Model}{x:Str}{t:Tok}{pl:Sem Bool}{Q:Value×List Value->Shared->Prop}(h:Q (.builtin (jM 2),[.str x t]) s):wpAny M Ar (getMethod (.str x t) (A.at_ 2) pl) Q E s:=by
 refine std.n2.symm ▸ ?_
 refine GM.join ?_
 exact h
theorem Bv(std:dg A){M:Model}{x:Str}{t:Tok}{pl:Sem Bool}{Q:Value×List Value->Shared->Prop}(h:Q (.builtin (jM 3),[.str x t]) s):wpAny M Ar (getMethod (.str x t) (A.at_ 3) pl) Q E s:=by
 refine std.n3.symm ▸ ?_
 refine GM.lower ?_
 exact h
theorem Bu(std:dg A){M:Model}{x:Str}{t:Tok}{pl:Sem Bool}{Q:Value×List Value->Shared->Prop}(h:Q (.builtin (jM 4),[.str x t]) s):wpAny M Ar (getMethod (.str x t) (A.at_ 4) pl) Q E s:=by
 refine std.n4.symm ▸ ?_
 refine GM.upper ?_
 exact h
theorem Bt(std:dg A){M:Model}{x:Str}{t:Tok}{pl:Sem Bool}{Q:Value×List Value->Shared->Prop}(h:Q (.builtin (jM 5),[.str x t]) s):wpAny M Ar (getMethod (.str x t) (A.at_ 5) pl) Q E s:=by
 refine std.n5.symm ▸ ?_
 refine GM.isascii ?_
 exact h
theorem Br(std:dg A){M:Model}{x:Str}{t:Tok}{pl:Sem Bool}{Q:Value×List Value->Shared->Prop}(h:Q (.builtin (jM 6),[.str x t]) s):wpAny M Ar (getMethod (.str x t) (A.at_ 6) pl) Q E s:=by
 refine std.n6.symm ▸ ?_
 refine GM.find ?_
 exact h
theorem Bq(std:dg A){M:Model}{x:Str}{t:Tok}{pl:Sem Bool}{Q:Value×List Value->Shared->Prop}(h:Q (.builtin (jM 7),[.str x t]) s):wpAny M Ar (getMethod (.str x t) (A.at_ 7) pl) Q E s:=by
 refine std.n7.symm ▸ ?_
 refine GM.lstrip ?_
 exact h
theorem HA(std:dg A){M:Model}{x:Str}{t:Tok}{pl:Sem Bool}{Q:Value×List Value->Shared->Prop} : ∀ {k:Nat},2<=k->k<=7->Q (.builtin (jM k),[.str x t]) s->wpAny M Ar (getMethod (.str x t) (A.at_ k) pl) Q E s
 | 2,_,_,h=>Bw std h
 | 3,_,_,h=>Bv std h
 | 4,_,_,h=>Bu std h
 | 5,_,_,h=>Bt std h
 | 6,_,_,h=>Br std h
 | 7,_,_,h=>Bq std h
 | 0,h,_,_=>absurd h (by lia)
 | 1,h,_,_=>absurd h (by lia)
 | _+8,_,h,_=>absurd h (by lia)
theorem oz{s:Str}(h:s.length<=ah):Builtin.Str.tooLong s.length=false:=by
 unfold Builtin.Str.tooLong
 unfold ah at h
 have:=dO
 simp;exact iX h rfl
section
variable {x:List Nat} {t:Tok} {us:List Value} {Q:AV->Prop}
theorem HI(M:cv A gens os h₀ L mm ex H s)(h:nK (us.map er) λv=>sT H x v Q):wpAny (model prog w) Ar (call (.builtin "str.join") (.str (bz x) t::us)) (jW A gens os h₀ L mm ex H Q) E s:=by
 refine rh us h λu h=>?_
 obtain⟨a,l,hu,ho,⟨hs,hl⟩,hq⟩:=h
 obtain rfl:=bO hu
 refine gf (ff M ho) λxs n hg he hx=>?_
 refine cG (Bp he.symm) λl' h1 h2=>?_
 refine SC.join (l:=l') ⟨_,hg,rfl,n,by exact ac (h1 ..) rfl⟩ h2 (qF hl hs) λt' k=>⟨M.toks _,(λz=>nomatch z),?_⟩
 refine ac (yn ..) (ac (gG ..) ?_);exact hq
theorem BL(M:cv A gens os h₀ L mm ex H s)(h:Bd (us.map er) ((bf x/\x.length<=ah)/\Q (.str (x.map gx)))):wpAny (model prog w) Ar (call (.builtin "str.lower") (.str (bz x) t::us)) (jW A gens os h₀ L mm ex H Q) E s:=by
 refine Dp us h λh=>?_
 refine SC.lower ?_ ⟨M.toks _,(λz=>nomatch z),?_⟩
 ·refine ac (lX h.1.1) ?_;exact oz (by refine ac (aY ..) (ac (List.length_map ..) ?_);exact h.1.2)
 ·refine ac (lX h.1.1) (ac gG ?_);exact h.2
theorem BJ(M:cv A gens os h₀ L mm ex H s)(h:Bd (us.map er) ((bf x/\x.length<=ah)/\Q (.str (x.map eK)))):wpAny (model prog w) Ar (call (.builtin "str.upper") (.str (bz x) t::us)) (jW A gens os h₀ L mm ex H Q) E s:=by
 refine Dp us h λh=>?_
 refine SC.upper ?_ ⟨M.toks _,(λz=>nomatch z),?_⟩
 ·refine(lE h.1.1).symm ▸ ?_;exact oz (by refine ac (aY ..) (ac (List.length_map ..) ?_);exact h.1.2)
 ·refine ac (lE h.1.1) (ac gG ?_);exact h.2
theorem BM(M:cv A gens os h₀ L mm ex H s)(h:Bd (us.map er) (bf x/\Q (.bool true))):wpAny (model prog w) Ar (call (.builtin "str.isascii") (.str (bz x) t::us)) (jW A gens os h₀ L mm ex H Q) E s:=by
 refine Dp us h λh=>?_
 exact SC.isascii ⟨M,(λz=>nomatch z),by refine(oR h.1).symm ▸ ?_;exact h.2⟩
theorem HJ(M:cv A gens os h₀ L mm ex H s)(h:A1 (us.map er) λv w=>jY v λs'=>pp s' λc=>i8 w λi=>pA x c i Q):wpAny (model prog w) Ar (call (.builtin "str.find") (.str (bz x) t::us)) (jW A gens os h₀ L mm ex H Q) E s:=by
 refine Do us h λu v h=>Dn u h λs' t1 h=>Kv s' h λc h=>rg v h λi t2 h=>?_
 unfold pA at h
 refine SC.find3 ⟨M.toks _,(λz=>nomatch z),?_⟩
 refine(yY _ _ h.1).symm ▸ ?_
 have hq:=h.2
 revert hq
 generalize g9 _ _ _=q
 intro hq
 induction q<;>exact hq
theorem BK(M:cv A gens os h₀ L mm ex H s)(h:nK (us.map er) λv=>jY v λs'=>pp s' λc=>x.length<=ah/\Q (.str (x.dropWhile (· == c)))):wpAny (model prog w) Ar (call (.builtin "str.lstrip") (.str (bz x) t::us)) (jW A gens os h₀ L mm ex H Q) E s:=by
 refine rh us h λu h=>Dn u h λs' t1 h=>Kv s' h λc h=>?_
 refine SC.lstripChars (λt' k=>⟨M.toks _,(λz=>nomatch z),?_⟩) ?_
 ·refine ac (qw ..) (ac (gG ..) ?_);exact h.2
 ·rw[aY]
  have:=h.1
  unfold ah at this
  have:=dO
  lia
theorem Bx(M:cv A gens os h₀ L mm ex H s){k:Nat}(h:u0 H x k (us.map er) Q) :
 wpAny (model prog w) Ar (call (.builtin (jM k)) (.str (bz x) t::us)) (jW A gens os h₀ L mm ex H Q) E s:=
 uM k h (HI M) λh=>uM k h (BL M) λh=>uM k h (BJ M) λh=>uM k h (BM M) λh=>uM k h (HJ M) λh=>uM k h (BK M) λh=>False.elim h
end
theorem cv.grown(M:cv A gens os h₀ L mm ex H s){h':Heap}(hk:∀ b o,s.heap.get? b=some o->h'.get? b=some o)(t:Nat):cv A gens os h₀ L mm ex H { s with heap:=h',toks:=t }:=by
 refine a7 λGg fin_=>?_
 obtain⟨⟨news,F,N,O,D⟩,g,o⟩:=M
 refine fin_ ?_
 exact⟨⟨news,⟨F.ns.keeps hk,λb o e=>hk b o (F.keep b o e),F.above⟩,λp hp=>⟨hk _ _ (N p hp).1,(N p hp).2⟩,O,D⟩,g,o⟩
theorem Bi(M:cv A gens os h₀ L mm ex H s){v:AV}{Q:AV->AH->Prop}(h:jG H v Q){u:Value}(hu:er u=v) :
 wpAny (model prog w) Ar (call (.type "tuple") [u]) (gN A gens os h₀ L mm ex Q) E s:=by
 refine a7 λGg fin_=>?_
 obtain⟨a,vs,rfl,ho,hl,hq⟩:=h
 refine fin_ ?_
 obtain rfl:=bO hu
 refine a7 λGg fin_=>?_
 refine gf (ff M ho) λxs n hg eq1_ hx=>?_
 subst eq1_
 refine fin_ ?_
 refine call_tuple_list ⟨_,hg,rfl,n,rfl⟩ (λh' hk=>?_) ?_
 ·refine a7 λGg fin_=>?_
  obtain⟨⟨news,F,N,O,D⟩,g,o⟩:=M.grown hk s.toks
  refine fin_ ?_
  have hfr:=i9 N
  unfold dm at hq
  have hn:∀ q∈news,q.1≠h'.objs.size:=λq hq=>Nat.ne_of_lt (hfr q (List.mem_append_left _ hq))
  refine⟨_,⟨⟨_::news,F.push _,N.push F _,fq O λq hq=>Nat.ne_of_lt (hfr q hq),D.alloc hn (λC dx e=>by simp[instObj] at e) (.tup (xs:=xs) (n:=0) (.head _) hx)⟩,g,o⟩,(λz=>nomatch z),?_⟩
  exact hq _ (D.absent hn)
 ·rw[List.length_map,Array.length_toList] at hl
  have:=dO
  unfold ah at hl
  exact iX hl rfl
theorem Ms(M:cv A gens os h₀ L mm ex H s)(X:K.In h₀)(tp:eB w K T A){v:AV}{Q:Nat->Prop}(h:lv T H v Q){u:Value}(hu:er u=v) :
 wpAny (model prog w) Ar (call (.builtin "len") [u]) (λr s'=>∃ n t,r=.int (n:Nat) t/\cv A gens os h₀ L mm ex H s'/\Q n) E s:=by
 have XK:K.In s.heap:=X.keeps M.fr.keep
 rcases h with⟨x,rfl,hl,hq⟩|⟨a,vs,rfl,hl,ho,hq⟩|⟨a,l,rfl,hst,hq⟩
 ·obtain⟨t,rfl⟩:=bV hu
  refine len_str ?_ ⟨_,_,rfl,M.toks _,by refine ac (aY ..) ?_;exact hq⟩
  refine ac (aY ..) ?_;unfold ah at hl;lia
 ·obtain rfl:=bO hu
  rcases ho with ho|ho
  ·refine a7 λGg fin_=>?_
   refine gf (ff M ho) λxs n hg eq1_ hx=>?_
   subst eq1_
   refine fin_ ?_
   rw[List.length_map,Array.length_toList] at hl hq
   exact call_len_list ⟨_,hg,rfl,n,rfl⟩ (by unfold ah at hl;lia) ⟨_,_,rfl,M.toks _,hq⟩
  ·refine a7 λGg fin_=>?_
   refine fW (lG M ho) λxs IT eq1_ hx=>?_
   subst eq1_
   refine fin_ ?_
   rw[List.length_map,Array.length_toList] at hl hq
   exact len_tuple IT (by unfold ah at hl;lia) ⟨_,_,rfl,M.toks _,hq⟩
 ·obtain rfl:=bO hu
  refine a7 λGg fin_=>?_
  obtain⟨o,xs,n,h1,h2,h3,h4,h5⟩:=tp.tints a l hst
  refine fin_ ?_
  have e:xs.size=l.length:=by
   have:=congrArg List.length h4
   simpa using this
  exact call_len_list ⟨_,XK _ _ h1,h2,n,h3⟩ (by lia) ⟨_,_,rfl,M.toks _,by refine ac e ?_;exact hq⟩
end
end Mine
namespace Mine
open PySem PySem.W PySem.Calls PySem.NumText PyProof.Rows PySem.W.KIN
theorem uh(a b:Value):checkTypeCall "int" ⟨[a,b],[]⟩=pure ():=by kernel_rfl
theorem yE(a b:Value):checkBuiltinCall "int.__new__" ⟨[.type "int",a,b],[]⟩=pure ():=by kernel_rfl
set_option maxHeartbeats 4000000 in
theorem o7{x:PySem.Str}{u t:Tok}{n:Int}(hl:x.length<=640)(hn:PySem.intText? x=some n):Gives (Builtin.«int.__new__» ⟨[.type "int",.str x u,.int 10 t],[]⟩) (.int n):=
 .of_wp λM A E s Q h=>by
  obtain⟨hp,g,d,tk,os⟩:=s
  have f1:=F.conv_sub_int
  have f2:=F.madeHere_int
  have f3:=str_int
  have f4:=str_idx
  have f5:=str_trunc
  have f6:typeOf (.str x u)=pure (.type "str"):=rfl
  have hs:(numSeenOf x).length<=640:=Nat.le_trans (seen_length x) hl
  have hr:(int_private% "readNumeral") 0 10 (numSeenOf x)=(int_private% "Numeral.value") n/\((numSeenOf x).length==(numTextOf x).length)=true:=by
   rcases read0 x hs with⟨m,h1,h2,h3⟩|⟨h1,_⟩
   ·rw[hn] at h1
    injection h1 with h1
    subst h1
    exact⟨h3,h2⟩
   ·rw[hn] at h1
    cases h1
  have hk:=Hid.mk (And.intro hs hr)
  clear hs hr hl hn
  repeat (any_goals (first
   | assumption
   | ((with_reducible show wpAny _ _ ((int_private% "intFromText") _ _ _) _ _ _);refine wp_text hk.out.1 hk.out.2.1 hk.out.2.2 ?_)
   | wp_step))
  all_goals first|exact⟨_,rfl,h⟩|skip
theorem uI{prog:Program}{w:World}{A:Around}{E:Value->Shared->Prop}{s:Shared}{x:PySem.Str}{u t:Tok}{n:Int}{Q:Value->Shared->Prop}(hl:x.length<=640)(hn:PySem.intText? x=some n)
 (h:Q (.int n s.toks) { s with toks:=s.toks+1 }):wpAny (model prog w) A (call (.type "int") [.str x u,.int 10 t]) Q E s:=
 callType_new F.called_int F.newNe_int (uh _ _) (yE _ _) (λobj=>F.args_object_init_3 obj _ _) F.entry_int_new (o7 hl hn).meets (show(Made.int n).post _ s from⟨rfl,h⟩)
theorem ph:∀ n<1000,PySem.intText? (bz (aD 4 n))=some (n:Int):=by
 have h:(List.range 1000).all (λn=>PySem.intText? (bz (aD 4 n))==some (n:Int))=true:=by decide +kernel
 intro c hc
 exact beq_iff_eq.mp (List.all_eq_true.mp h c (List.mem_range.mpr hc))
theorem qY:∀ n,(aD 4 n).length<=4:=by
 have key:∀ f n,(aD f n).length<=f:=by
  intro f
  induction f with
  | zero=>intro n;exact Nat.le_refl _
  | succ f ih=>
   intro n
   unfold aD
   split
   ·simp
   ·have:=ih (n / 10)
    refine ac List.length_append ?_
    simp;omega
 exact key 4
theorem qX:∀ n:Nat,n<1000->(Str.ofString (toString (n:Int)))=bz (aD 4 n):=by
 have h:(List.range 1000).all (λn=>(Str.ofString (toString (n:Int)))==bz (aD 4 n))=true:=by decide +kernel
 intro c hc
 exact beq_iff_eq.mp (List.all_eq_true.mp h c (List.mem_range.mpr hc))
end Mine
namespace Mine
open PySem PySem.W PySem.Calls PyProof.Rows
section
variable {A:cy} {gens:Array GenState} {os:OsState} {h₀:Heap} {L:Addr} {mm:Str->Option Value} {ex:List (Addr×Obj)} {H:AH} {s:Shared} {K:Frag} {prog:Program} {w:World} {Ar:Around} {T:aT}
 {E:Value->Shared->Prop}
set_option tactic.hygienic true in
theorem MZ(M:cv A gens os h₀ L mm ex H s)(X:K.In h₀)(tp:eB w K T A){v:AV}{C:Nat}{Q:Bool->Prop}(h:Dr T H v C Q){u:Value}(hu:er u=v) :
 wpAny (model prog w) Ar (call (.builtin "isinstance") [u,.ref C]) (λr s'=>∃ b,r=.bool b/\cv A gens os h₀ L mm ex H s'/\Q b) E s:=by
 have XK:K.In s.heap:=X.keeps M.fr.keep
 refine a7 λGg fin_=>?_
 obtain⟨a,D,fs,rfl,hH,hi,hq⟩:=h
 refine fin_ ?_
 obtain rfl:=bO hu
 refine a7 λGg fin_=>?_
 obtain⟨news,F,N,O,D'⟩:=M.out
 refine fin_ ?_
 have hob:=D'.ob a _ hH
 cases hob with
 | inst h1 h2 hf=>
  rename_i dx es n
  have I:InstAt s.heap a (instObj D dx) D (some (dictOf es n)):=InstAt.of_news N (List.mem_append_left _ h1) (List.mem_append_left _ h2)
  rcases tp.isi D C hi with⟨rfl,e⟩|⟨hne,e,e1,e2,e3,e4,e5,e6⟩
  ·refine isi_call XK (λM=>I.type) e (λz=>nomatch z) ⟨true,rfl,M,?_⟩
   rw[Nat.beq_refl] at hq;exact hq
  ·refine kin_callC XK I e e1 e2 e3 e4 e5 e6 ⟨false,rfl,M.toks _,?_⟩
   have:Nat.beq D C=false:=by
    cases q:Nat.beq D C with
    | false=>rfl
    | true=>exact absurd (Nat.eq_of_beq_eq_true q) hne
   rw[this] at hq;exact hq
theorem Iw{a b:Int} : (if b>a then b else a)=max a b:=by lia
theorem Iv{a b:Int} : (if b<a then b else a)=min a b:=by lia
section
variable {us:List Value} {Q:AV->AH->Prop}
theorem PY(M:cv A gens os h₀ L mm ex H s)(hh:Ar.handled=none)(h:A1 (us.map er) λv w=>i8 v λi=>i8 w λj=>Q (.int (max i j)) H):wpAny (model prog w) Ar (call (.builtin "max") us) (gN A gens os h₀ L mm ex Q) E s:=by
 refine Do us h λu v h=>rg u h λi t h=>rg v h λj t' h=>?_
 obtain⟨news,F,N,O,D⟩:=M.out
 exact max_two_N hh F N λh' tk F' N'=>⟨_,⟨⟨news,F',N',O,D⟩,M.gens,M.os⟩,(λz=>nomatch z),by refine ac (Iw ..) ?_;exact h⟩
theorem PW(M:cv A gens os h₀ L mm ex H s)(hh:Ar.handled=none)(h:A1 (us.map er) λv w=>i8 v λi=>i8 w λj=>Q (.int (min i j)) H):wpAny (model prog w) Ar (call (.builtin "min") us) (gN A gens os h₀ L mm ex Q) E s:=by
 refine Do us h λu v h=>rg u h λi t h=>rg v h λj t' h=>?_
 obtain⟨news,F,N,O,D⟩:=M.out
 exact min_two_N hh F N λh' tk F' N'=>⟨_,⟨⟨news,F',N',O,D⟩,M.gens,M.os⟩,(λz=>nomatch z),by refine ac Iv ?_;exact h⟩
theorem th{i:Int}(h0:0<=i)(h1:i<1000):Nat.log2 i.natAbs<=10:=by
 by_cases hz:i.natAbs=0
 ·refine ac hz ?_;decide
 ·exact Nat.le_of_lt ((Nat.log2_lt hz).mpr (by lia))
theorem int_str{i:Int}(h0:0<=i)(h1:i<1000):Str.ofString (toString i)=bz (aD 4 i.toNat):=by
 have:=qX i.toNat (by lia)
 rwa [Int.toNat_of_nonneg h0] at this
theorem PQ(M:cv A gens os h₀ L mm ex H s)(h:nK (us.map er) λv=>i8 v λi=>(0<=i/\i<1000)/\Q (.str (aD 4 i.toNat)) H):wpAny (model prog w) Ar (call (.type "str") us) (gN A gens os h₀ L mm ex Q) E s:=by
 refine rh us h λu h=>rg u h λi t h=>?_
 obtain⟨⟨h0,h1⟩,hq⟩:=h
 refine P.str_of_int ?_ ⟨_,M.toks _,(λz=>nomatch z),?_⟩
 ·have:=th h0 h1
  lia
 ·show Q (er (.str (Str.ofString (toString i)) _)) H
  refine ac (int_str h0 h1) (ac (gG ..) ?_);exact hq
theorem Oz(M:cv A gens os h₀ L mm ex H s)(h:A1 (us.map er) λv w=>jY v λs=>i8 w λj=>j=10/\∃ n:Nat,n<1000/\s=aD 4 n/\Q (.int n) H):wpAny (model prog w) Ar (call (.type "int") us) (gN A gens os h₀ L mm ex Q) E s:=by
 refine Do us h λu v h=>Dn u h λs' t h=>rg v h λj t' h=>?_
 obtain⟨rfl,n,hn,rfl,hq⟩:=h
 refine uI ?_ (ph n hn) ⟨_,M.toks _,(λz=>nomatch z),hq⟩
 refine ac (aY ..) ?_
 have:=qY n
 lia
theorem PR(M:cv A gens os h₀ L mm ex H s)(h:nK (us.map er) λv=>jY v λs=>pp s λc=>c<128/\Q (.int c) H):wpAny (model prog w) Ar (call (.builtin "ord") us) (gN A gens os h₀ L mm ex Q) E s:=
 rh us h λu h=>Dn u h λs' t h=>Kv s' h λc h=>P.ord_of_char ⟨_,M.toks _,(λz=>nomatch z),h.2⟩
theorem PZ(M:cv A gens os h₀ L mm ex H s)(X:K.In h₀)(tp:eB w K T A)(h:nK (us.map er) λv=>lv T H v λn=>Q (.int n) H):wpAny (model prog w) Ar (call (.builtin "len") us) (gN A gens os h₀ L mm ex Q) E s:=by
 refine rh us h λu h=>wpAny_mono (Ms M X tp h rfl) (λr s' z=>?_) λ_ _ z=>z
 obtain⟨n,t,rfl,M',hq⟩:=z
 exact⟨_,M',(λz=>nomatch z),hq⟩
theorem PP(M:cv A gens os h₀ L mm ex H s)(h:nK (us.map er) λv=>jG H v Q):wpAny (model prog w) Ar (call (.type "tuple") us) (gN A gens os h₀ L mm ex Q) E s:=rh us h λu h=>Bi M h rfl
theorem PO(M:cv A gens os h₀ L mm ex H s)(X:K.In h₀)(tp:eB w K T A)(hh:Ar.handled=none){b:uX}{bi:BI}(hb:AD b=some bi)(h:OJ T bi H (us.map er) Q) :
 wpAny (model prog w) Ar (call (iz b) us) (gN A gens os h₀ L mm ex Q) E s:=by
 induction b with
 | ord=>rw[← Option.some.inj hb] at h;exact PR M h
 | len=>rw[← Option.some.inj hb] at h;exact PZ M X tp h
 | max=>rw[← Option.some.inj hb] at h;exact PY M hh h
 | min=>rw[← Option.some.inj hb] at h;exact PW M hh h
 | tuple=>rw[← Option.some.inj hb] at h;exact PP M h
 | str=>rw[← Option.some.inj hb] at h;exact PQ M h
 | int=>rw[← Option.some.inj hb] at h;exact Oz M h
 | _=>exact fI hb
theorem MU(M:cv A gens os h₀ L mm ex H s){b:uX}{bi:BI}(hb:(b=.int/\bi=.isInt)\/(b=.str/\bi=.isStr)){u:Value}(h:OJ T bi H [er u] Q) :
 wpAny (model prog w) Ar (call (.builtin "isinstance") [u,iz b]) (gN A gens os h₀ L mm ex Q) E s:=by
 rcases hb with⟨rfl,rfl⟩|⟨rfl,rfl⟩
 ·cases hv:er u with
  | int i=>
   rw[hv] at h
   obtain⟨t,rfl⟩:=a9 hv
   exact IsiPair.int_int ⟨_,M,(λz=>nomatch z),h⟩
  | str i=>
   rw[hv] at h
   obtain⟨t,rfl⟩:=bV hv
   exact IsiPair.str_int ⟨_,M.toks _,(λz=>nomatch z),h⟩
  | _=>rw[hv] at h;exact False.elim h
 ·cases hv:er u with
  | str i=>
   rw[hv] at h
   obtain⟨t,rfl⟩:=bV hv
   exact IsiPair.str_str ⟨_,M,(λz=>nomatch z),h⟩
  | int i=>
   rw[hv] at h
   obtain⟨t,rfl⟩:=a9 hv
   exact IsiPair.int_str ⟨_,M.toks _,(λz=>nomatch z),h⟩
  | _=>rw[hv] at h;exact False.elim h
end
end
theorem Upd.pre{a:Addr}{o o':Obj} : ∀ {p l l':List (Addr×Obj)},Upd a o o' l l'->(∀ q∈p,q.1≠a)->Upd a o o' (p++l) (p++l'):=by
 intro z_
 induction z_ with
 | nil=>
  intro _ _ U _
  exact U
 | cons x p ihz=>
  intro _ _ U h
  exact .tail (h x (.head _)) (ihz U λq hq=>h q (.tail _ hq))
theorem cg.right{l r:List (Addr×Obj)}(h:cg (l++r)):cg r:=by
 unfold cg at *
 rw[List.map_append] at h
 exact(List.nodup_append.mp h).2.1
theorem cg.turnMid{a b r:List (Addr×Obj)}(h:cg (a++(b++r))){k:Addr}{o:Obj}(x:(k,o)∈b)(o':Obj) :
 ∃ b',Upd k o o' (a++(b++r)) (a++(b'++r))/\cg (a++(b'++r))/\∀ p,p∈b'↔(p=(k,o')\/(p∈b/\p.1≠k)):=by
 obtain⟨b',U,hm,hl⟩:=h.right.left.upd x o'
 refine⟨b',Upd.pre (Upd.app U (h.right.apart x)) (λq hq e=>?_),?_,hl⟩
 ·exact h.apart hq (k,o) (List.mem_append_left _ x) e.symm
 ·unfold cg at h⊢
  simp only[List.map_append] at h⊢
  refine ac hm ?_;exact h
theorem cC{m:bd}{i j:Nat}{v w:AV}(h:getL (bT m i v) j=some w):(j=i/\w=v)\/(j≠i/\getL m j=some w):=by
 unfold getL bT at h
 by_cases e:j=i
 ·subst e
  refine .inl ⟨rfl,?_⟩
  rw[List.getElem?_set] at h
  simp only[if_true] at h
  split at h
  ·rename_i q
   split at q
   ·cases q;exact(Option.some.inj h).symm
   ·cases q
  ·cases h
 ·refine .inr ⟨e,?_⟩
  rw[List.getElem?_set_ne (λq=>e q.symm)] at h
  exact h
section
variable {c:Fc} {m:bd} {H:AH} {s:Shared}
theorem iZ{x:ch}{n:Str}{i:Nat}(h:aL x n=some i):x.kind n=some .local\/x.kind n=some .cell\/x.kind n=some .free:=by
 unfold aL at h
 split at h
 ·exact .inl ‹_›
 ·exact .inr (.inl ‹_›)
 ·exact .inr (.inr ‹_›)
 ·cases h
theorem iJ(o:c.Ok)(d:c.Def)(S:St c m H s){n:Str}{i:Nat}{v:Value}(hl:aL c.x n=some i)(hv:er v≠.oth){E:Value->Shared->Prop} :
 wpAny c.M c.A (storeName c.env n v) (λ_ s'=>St c (bT m i (er v)) H s') E s:=by
 obtain⟨mm,lc,M,lo⟩:=S
 obtain⟨news,F,N,O,D⟩:=M.out
 rcases iZ hl with hk|hk|hk
 ·have hk':=(d.kindEq n).trans hk
  have F':Fr c.h₀ c.env.locals s.heap mm:=by refine ac d.locals ?_;exact F
  refine wpAny_storeName_local hk' F'.ns (λh' hn hs=>?_) (by refine ac o.ekind ?_;rfl)
  rw[d.locals] at hn hs
  refine⟨_,lc,⟨⟨news,F.set hn hs,N.set hs,O,D⟩,M.gens,M.os⟩,⟨λn' j av hl' hg=>?_,lo.cells,d.free _ _⟩⟩
  rcases cC hg with⟨rfl,rfl⟩|⟨hne,hg⟩
  ·obtain rfl:=d.slotInj _ _ _ hl hl'
   exact⟨hv,v,rfl,.loc hk' d.locals (if_pos rfl)⟩
  ·obtain⟨h1,v',h2,h3⟩:=lo.reads n' j av hl' hg
   refine⟨h1,v',h2,?_⟩
   rcases h3 with⟨k,e,r⟩|⟨k,a,ob,g1,g2,g3⟩|⟨k,ob,mo,g1,g2,g3⟩
   ·refine .loc k e ?_
    have:n'≠n:=λq=>hne (by subst q;rw[hl] at hl';exact(Option.some.inj hl').symm)
    show(if n'=n then some v else mm n')=some v'
    refine ac (if_neg this) ?_;exact r
   ·exact .cell k a ob g1 g2 g3
   ·exact .own k ob mo g1 g2 g3
 ·have hk':=(d.kindEq n).trans hk
  obtain⟨a,ha⟩:=d.cellAt n hk'
  obtain⟨ob,v0,hin,hd⟩:=lo.cells d.locals n hk' a ha
  have hmem:=N (a,ob) (List.mem_append_right _ (List.mem_append_left _ hin))
  refine wpAny_storeName_cell o.ekind hk' ha ⟨ob,hmem.1,hd⟩ λh' hv' hs=>?_
  obtain⟨o',ho',hd'⟩:=hv'
  obtain⟨lc',U,O',hl2⟩:=O.turnMid hin o'
  obtain⟨pre,post,e1,e2,p1,p2⟩:=U.split
  have N':News c.h₀ c.L h' (news++(lc'++c.ex)):=by refine ac e2 ?_;rw[e1] at N;exact news_set N p1 p2 hs ho'
  refine⟨mm,lc',⟨⟨news,⟨F.ns.sameBut hs (Ne.symm hmem.2.1),λb ob e=>(hs.2 b (λq=>?_)).trans (F.keep b ob e),F.above⟩,N',O',D⟩,M.gens,M.os⟩,⟨λn' j av hl' hg=>?_,λhl3 n' hk2 a' ha'=>?_,d.free _ _⟩⟩
  ·subst q;rw[hmem.2.2] at e;cases e
  ·rcases cC hg with⟨rfl,rfl⟩|⟨hne,hg⟩
   ·obtain rfl:=d.slotInj _ _ _ hl hl'
    exact⟨hv,v,rfl,.cell hk' a o' ha (List.mem_append_left _ ((hl2 _).mpr (.inl rfl))) hd'⟩
   ·obtain⟨h1,v',h2,h3⟩:=lo.reads n' j av hl' hg
    have hnn:n'≠n:=λq=>hne (by subst q;rw[hl] at hl';exact(Option.some.inj hl').symm)
    refine⟨h1,v',h2,?_⟩
    rcases h3 with⟨k,e,r⟩|⟨k,a',ob',hc,hin',hdat⟩|⟨k,ob,mo,g1,g2,g3⟩
    ·exact .loc k e r
    ·refine .cell k a' ob' hc ?_ hdat
     have:a'≠a:=λq=>hnn (d.cellInj _ _ _ (q▸hc) ha)
     rcases List.mem_append.mp hin' with z|z
     ·exact List.mem_append_left _ ((hl2 _).mpr (.inr ⟨z,this⟩))
     ·exact List.mem_append_right _ z
    ·exact .own k ob mo g1 g2 g3
  ·by_cases q:a'=a
   ·subst q;exact⟨o',_,(hl2 _).mpr (.inl rfl),hd'⟩
   ·obtain⟨ob',v',hin',hd''⟩:=lo.cells hl3 n' hk2 a' ha'
    exact⟨ob',v',(hl2 _).mpr (.inr ⟨hin',q⟩),hd''⟩
 ·exact absurd ((d.kindEq n).trans hk) (d.noFree n)
end
theorem kY{o:Expr}{name:Str}{env:Env}{whole:Sem Value}(h:dS o=true):attributeBase o name env whole=whole:=by
 cases o with
 | Call f as ks p=>
  cases f with
  | Name id q=>
   induction as with
   | nil=>
    induction ks with
    | nil=>exact nomatch h
    | cons _ _=>rfl
   | cons _ _=>rfl
  | _=>rfl
 | _=>rfl
theorem By{es:List Expr}{env:Env}(h:es.all bU=true):(starEach es env).length=es.length:=by
 induction es with
 | nil=>rfl
 | cons e r ih=>
  simp only[List.all_cons,Bool.and_eq_true] at h
  exact ac (bR h.1) (ac (List.length_cons ..) (ac (ih h.2) (ac (List.length_cons ..) rfl)))
section
variable {prog:Program} {w:World} {A:Around} {E:Value->Shared->Prop} {s:Shared} {env:Env}
theorem uN{value:Expr}{attr:Str}{pos:Pos}{Q:Value->Shared->Prop}(hs:dS value=true)
 (h:wpAny (model prog w) A (eval value env) (λo s₁=>wpAny (model prog w) A (getAttr o attr true) Q E s₁) E s):wpAny (model prog w) A (eval (.Attribute value attr pos) env) Q E s:=by
 refine Attribute_any_ h ?_
 show(do let o ← attributeBase value attr env (eval value env);_)=_
 exact ac (kY hs) rfl
theorem tX{M:Model}{o:Expr}{name:Str}{apos pos:Pos}{args:List Expr}{Q:Value->Shared->Prop}(hs:dS o=true)(hn:args.all bU=true)(hl:args.length<30)(hp:(apos.endLine==pos.line)=true)
 (h:wpAny M A (eval o env) (λov s₁=>∀ pl,wpAny M A (getMethod ov name pl) (λfx s₂=>wpAny M A (callWith pos fx.1 fx.2 (backTo pos (starEach args env)) []) Q E s₂) E s₁) E s) :
 wpAny M A (eval (.Call (.Attribute o name apos) args [] pos) env) Q E s:=by
 show wpAny M A (do
  let ov ← attributeBase o name env (eval o env)
  standAt apos.atName
  methodCall o name apos pos env ov (args.length+0) (backTo pos (starEach args env)) []) Q E s
 refine(kY hs).symm ▸ ?_
 refine wpAny_bind (wpAny_mono h (λov s₁ h₁=>wpAny_bind (wpAny_standAt ?_)) λ_ _ x=>x)
 unfold methodCall
 have hf:methodCallForm (args.length+0) (backTo pos (starEach args env)) []=true:=by
  unfold methodCallForm
  have:=rK (env:=env) (pos:=pos) hn
  have e:(backTo pos (starEach args env)).all (λx=>!x.1)=true:=by
   rw[List.all_eq_true]
   intro x hx
   rw[List.any_eq_false] at this
   simpa using this x hx
  refine e.symm ▸ ?_
  simp;omega
 refine hf.symm ▸ ?_
 refine wpAny_bind (wpAny_holding (wpAny_mono (h₁ _) (λfx s₂ h₂=>?_) λ_ _ x=>x))
 unfold methodCallPos
 refine hp.symm ▸ ?_
 simp only[Bool.not_true,Bool.false_or,if_true]
 exact wpAny_bind (wpAny_pure h₂)
theorem pN{M:Model}{e:Expr}{Q:Bool->Shared->Prop}(h:wpAny M A (eval e env) (λv s₁=>∃ b,v=.bool b/\Q b s₁) E s)(he:isTrue e env (eval e env)=(do let v ← eval e env;standAt e.pos;holding [v] (truthy v))) :
 wpAny M A (isTrue e env (eval e env)) Q E s:=
 isTrue_plain (wpAny_mono h (λv s₁ ⟨b,hv,hq⟩=>by subst hv;exact wpAny_truthy_bool hq) λ_ _ z=>z) he
end
structure ao(c:Fc)(e:Expr)(ie:IE):Prop where
 E:nD c e ie
 T:Kz c e ie
section
variable {c:Fc} {e:Expr} {ie:IE}
theorem ao.bad:ao c e .bad:=⟨λm H s Q S h=>by exact False.elim h,λm H s Q S h=>h.elim⟩
theorem ao.ok{b:Bool}(h:b=true->ao c e ie):ao c e (lq b ie):=by
 induction b with
 | true=>exact h rfl
 | false=>exact .bad
theorem ao.opt{α:Type}{x:Option α}{f:α->IE}(h:∀ a,x=some a->ao c e (f a)):ao c e (im x f):=by
 induction x with
 | some a=>exact h a rfl
 | none=>exact .bad
theorem ao.els{α:Type}{x:Option α}{f:α->IE}{g:IE}(h:∀ a,x=some a->ao c e (f a))(h2:ao c e g):ao c e (qW x f g):=by
 induction x with
 | some a=>exact h a rfl
 | none=>exact h2
theorem ao.ifb{b:Bool}{f g:IE}(h:b=true->ao c e f)(h2:ao c e g):ao c e (KN b f g):=by
 induction b with
 | true=>exact h rfl
 | false=>exact h2
theorem ao.plain(h:nD c e ie)(ht:∀ m H Q,wT c.T c.C m ie H Q->wE c.T c.C m ie H λv H=>Bc v λb=>Q b H)
 (he:isTrue e c.env (eval e c.env)=(do let v ← eval e c.env;standAt e.pos;holding [v] (truthy v))):ao c e ie:=
 ⟨h,λm H s Q S hq=>pN (wpAny_mono (h m H s _ S (ht m H Q hq)) (λv s' ⟨H',S',ho,hr⟩=>by
  unfold Bc at hr
  split at hr
  ·rename_i b hb
   exact⟨b,fV hb,H',S',hr⟩
  ·exact hr.elim) λ_ _ z=>z) he⟩
theorem ao.noT(h:nD c e ie)(ht:∀ m H Q,¬ wT c.T c.C m ie H Q):ao c e ie:=⟨h,λm H s Q S hq=>absurd hq (ht m H Q)⟩
end
section
variable {c:Fc}
theorem mz{k:Nat}{p:Pos} : ao c (.Constant .none k p) (.val .none):=by
 refine .plain (λm H s Q S h=>?_) (λm H Q h=>h) rfl
 exact Constant_none ⟨H,S,(λz=>nomatch z),h⟩
theorem mA{b:Bool}{k:Nat}{p:Pos} : ao c (.Constant (.bool b) k p) (.val (.bool b)):=by
 refine .plain (λm H s Q S h=>?_) (λm H Q h=>h) rfl
 exact Constant_bool ⟨H,S,(λz=>nomatch z),h⟩
theorem nS{b:Int}{k:Nat}{p:Pos} : ao c (.Constant (.int b) k p) (.val (.int b)):=by
 refine .plain (λm H s Q S h=>?_) (λm H Q h=>h) rfl
 exact wpAny_Constant_int ⟨H,S.toks _,(λz=>nomatch z),h⟩
theorem nR{b:Str}{k:Nat}{p:Pos} : ao c (.Constant (.str b) k p) (.val (.str b.cps.toList)):=by
 refine .plain (λm H s Q S h=>?_) (λm H Q h=>h) rfl
 exact wpAny_Constant_str ⟨H,S.toks _,(λz=>nomatch z),h⟩
theorem Lo(o:c.Ok){id:Str}{p:Pos}{i:Nat}(hd:(id==("__debug__" : Str))=false)(hl:aL c.x id=some i):ao c (.Name id p) (.loc i):=by
 refine .plain (λm H s Q S h=>?_) (λm H Q h=>by
  have h:(match getL m i with|some v=>Bc v λb=>Q b H|none=>False):=h
  exact h) rfl
 have h:(match getL m i with|some v=>Q v H|none=>False):=h
 induction hv:getL m i with
 | none=>rw[hv] at h;exact False.elim h
 | some v=>rw[hv] at h;exact qz o S hl hv hd λu hu ho=>⟨H,S,hu▸ho,hu▸h⟩
theorem HU(o:c.Ok){id:Str}{p:Pos}(hd:(id==("__debug__" : Str))=false):ao c (.Name id p) (He (bj c.x id)):=by
 cases hg:bj c.x id with
 | none=>exact .bad
 | some g=>
  induction g with
  | val v=>
   refine .plain (λm H s Q S h=>?_) (λm H Q h=>h) rfl
   exact yb o S hg hd λu hu ho=>⟨H,S,hu▸ho,hu▸h⟩
  | _=>exact .bad
theorem em{m:bd}{H':AH}{s':Shared}{mm:Str->Option Value}{lc:List (Addr×Obj)}(lo:lb c mm lc m)(M:c.Me mm lc H' s'):St c m H' s':=⟨mm,lc,M,lo⟩
theorem HX(o:c.Ok){v:Expr}{iv:IE}{a:Str}{k:Nat}{p:Pos}(hs:dS v=true)(ha:c.x.aid a=some k)(ih:ao c v iv):ao c (.Attribute v a p) (.attr iv k):=by
 refine .plain (λm H s Q S h=>?_) (λm H Q h=>h) rfl
 refine uN hs (wpAny_mono (ih.E m H s _ S h) (λu s1 zq_=>?_) λ_ _ z=>z)
 refine a7 λGg fin_=>?_
 obtain⟨H1,⟨mm,lc,M,lo⟩,_,h1⟩:=zq_
 refine fin_ ?_
 exact wpAny_mono (Kq (prog:=c.prog) (w:=c.w) M o.K o.top h1 rfl (o.aid _ _ ha)) (λx s2 ⟨M2,hx,hq⟩=>⟨H1,em lo M2,hx,hq⟩) λ_ _ z=>z
theorem Lq(o:c.Ok){v i:Expr}{iv ii:IE}{p:Pos}(hs:eI i=false)(ihv:ao c v iv)(ihi:ao c i ii):ao c (.Subscript v i p) (.idx iv ii):=by
 refine .plain (λm H s Q S h=>?_) (λm H Q h=>h) rfl
 refine Subscript_ (wpAny_mono (ihv.E m H s _ S h) (λu s1 zq_=>?_) λ_ _ z=>z)
 refine a7 λGg fin_=>?_
 obtain⟨H1,S1,_,h1⟩:=zq_
 refine fin_ ?_
 refine wpAny_mono (ihi.E m H1 s1 _ S1 h1) (λj s2 zq_=>?_) λ_ _ z=>z
 refine a7 λGg fin_=>?_
 obtain⟨H2,⟨mm,lc,M,lo⟩,_,h2⟩:=zq_
 refine fin_ ?_
 exact wpAny_mono (NX (prog:=c.prog) (w:=c.w) M o.K o.top h2 rfl rfl hs) (λx s2 ⟨M2,hx,hq⟩=>⟨H2,em lo M2,hx,hq⟩) λ_ _ z=>z
theorem Lu{l r:Expr}{il ir:IE}{op:Operator}{b:A0}{p:Pos}(hb:OQ op=some b)(ihl:ao c l il)(ihr:ao c r ir):ao c (.BinOp l op r p) (.bin b il ir):=by
 refine .noT (λm H s Q S h=>?_) (λm H Q h=>h)
 refine wpAny_BinOp (wpAny_mono (ihl.E m H s _ S h) (λu s1 zq_=>?_) λ_ _ z=>z)
 refine a7 λGg fin_=>?_
 obtain⟨H1,S1,_,h1⟩:=zq_
 refine fin_ ?_
 refine wpAny_mono (ihr.E m H1 s1 _ S1 h1) (λj s2 zq_=>?_) λ_ _ z=>z
 refine a7 λGg fin_=>?_
 obtain⟨H2,⟨mm,lc,M,lo⟩,_,h2⟩:=zq_
 refine fin_ ?_
 exact wpAny_mono (Oy (prog:=c.prog) (w:=c.w) M h2 rfl rfl hb) (λx s2 ⟨M2,hx,hq⟩=>⟨H2,em lo M2,hx,hq⟩) λ_ _ z=>z
theorem Lk{k k':Nat}{p q p':Pos} : ao c (.BinOp (.Constant (.int 10) k p) .Pow (.Constant (.int 18) k' q) p') (.bin .pow (.val (.int 10)) (.val (.int 18))):=by
 refine .noT (λm H s Q S h=>?_) (λm H Q h=>h)
 refine h.elim λ_ hq=>?_
 refine wpAny_BinOp (wpAny_Constant_int (wpAny_Constant_int ?_))
 refine pow_int (by decide) (by decide) ⟨H,(S.toks _).toks _,(λz=>nomatch z),?_⟩
 exact hq
theorem Lm{i:Int}{k:Nat}{p q:Pos} : ao c (.UnaryOp .USub (.Constant (.int i) k p) q) (.val (.int (-i))):=by
 refine .plain (λm H s Q S h=>?_) (λm H Q h=>h) rfl
 exact UnaryOp_ (wpAny_Constant_int (PyProof.Rows.neg_int ⟨H,(S.toks _).toks _,(λz=>nomatch z),h⟩))
theorem Ll{e:Expr}{ie:IE}{q:Pos}(ih:ao c e ie):ao c (.UnaryOp .Not e q) (.not ie):=by
 refine⟨λm H s Q S h=>by exact False.elim h,λm H s Q S h=>?_⟩
 exact isTrue_not (wpAny_mono (ih.T m H s _ S h) (λb s' z=>z.casesOn λH1 S1 h1=>⟨H1,S1,h1⟩) λ_ _ z=>z)
theorem Lp{t a b:Expr}{it ia ib:IE}{p:Pos}(iht:ao c t it)(iha:ao c a ia)(ihb:ao c b ib):ao c (.IfExp t a b p) (.ite it ia ib):=by
 refine .noT (λm H s Q S h=>?_) (λm H Q h=>h)
 refine IfExp_ (wpAny_mono (iht.T m H s _ S h) (λr s1 zq_=>?_) λ_ _ z=>z)
 refine a7 λGg fin_=>?_
 obtain⟨H1,S1,h1⟩:=zq_
 refine fin_ ?_
 induction r with
 | true=>exact iha.E m H1 s1 Q S1 h1
 | false=>exact ihb.E m H1 s1 Q S1 h1
theorem Lr(o:c.Ok){l r:Expr}{il ir:IE}{op:CmpOp}{b:KB}{p:Pos}(hb:PF op=some b)(hm:behindInMarks op r=false)(ihl:ao c l il)(ihr:ao c r ir):ao c (.Compare l [op] [r] p) (.cmp b il ir):=by
 have hu:c.A.units+64<cLine:=by have:=o.units;show c.un+64<cLine;omega
 refine⟨λm H s Q S h=>?_,λm H s Q S h=>?_⟩
 ·replace h:wE c.T c.C m il H (oP c.T b (wE c.T c.C m ir) (l5 Q)):=h
  refine wpAny_Compare1 (wpAny_mono (ihl.E m H s _ S h) (λu s1 zq_=>?_) λ_ _ z=>z) hm
  refine a7 λGg fin_=>?_
  obtain⟨H1,S1,_,h1⟩:=zq_
  refine fin_ ?_
  refine wpAny_mono (ihr.E m H1 s1 _ S1 h1) (λj s2 zq_=>?_) λ_ _ z=>z
  refine a7 λGg fin_=>?_
  obtain⟨H2,⟨mm,lc,M,lo⟩,_,h2⟩:=zq_
  refine fin_ ?_
  exact wpAny_mono (Hc (prog:=c.prog) (w:=c.w) M o.K o.top hu h2 rfl rfl hb) (λx s2 ⟨bb,hx,M2,hq⟩=>by subst hx;exact⟨H2,em lo M2,(λz=>nomatch z),hq⟩) λ_ _ z=>z
 ·replace h:wE c.T c.C m il H (oP c.T b (wE c.T c.C m ir) Q):=h
  refine wpAny_isTrue_Compare1 (wpAny_mono (ihl.E m H s _ S h) (λu s1 zq_=>?_) λ_ _ z=>z) hm
  refine a7 λGg fin_=>?_
  obtain⟨H1,S1,_,h1⟩:=zq_
  refine fin_ ?_
  refine wpAny_mono (ihr.E m H1 s1 _ S1 h1) (λj s2 zq_=>?_) λ_ _ z=>z
  refine a7 λGg fin_=>?_
  obtain⟨H2,⟨mm,lc,M,lo⟩,_,h2⟩:=zq_
  refine fin_ ?_
  exact wpAny_mono (Hc (prog:=c.prog) (w:=c.w) M o.K o.top hu h2 rfl rfl hb) (λx s2 ⟨bb,hx,M2,hq⟩=>by subst hx;exact wpAny_truthy_bool ⟨H2,em lo M2,hq⟩) λ_ _ z=>z
theorem OY{l:Expr}{il:IE}{k:Nat}{p q:Pos}(ihl:ao c l il):ao c (.Compare l [.Is] [.Constant .none k q] p) (.cmp .isNone il (.val .none)):=by
 refine⟨λm H s Q S h=>?_,λm H s Q S h=>?_⟩
 ·replace h:wE c.T c.C m il H (oP c.T .isNone (wE c.T c.C m (.val .none)) (l5 Q)):=h
  refine wpAny_Compare1 (wpAny_mono (ihl.E m H s _ S h) (λu s1 zq_=>?_) λ_ _ z=>z) rfl
  refine a7 λGg fin_=>?_
  obtain⟨H1,S1,_,h1⟩:=zq_
  refine fin_ ?_
  replace h1:gV c.T .isNone H1 (er u) .none (λr=>l5 Q r H1):=h1
  refine a7 λGg fin_=>?_
  obtain⟨mm,lc,M,lo⟩:=S1
  refine fin_ ?_
  exact Constant_none (wpAny_mono (MS (prog:=c.prog) (w:=c.w) M h1 rfl) (λx s2 ⟨bb,hx,M2,hq⟩=>by subst hx;exact⟨H1,em lo M2,(λz=>nomatch z),hq⟩) λ_ _ z=>z)
 ·replace h:wE c.T c.C m il H (oP c.T .isNone (wE c.T c.C m (.val .none)) Q):=h
  refine wpAny_isTrue_Compare1 (wpAny_mono (ihl.E m H s _ S h) (λu s1 zq_=>?_) λ_ _ z=>z) rfl
  refine a7 λGg fin_=>?_
  obtain⟨H1,S1,_,h1⟩:=zq_
  refine fin_ ?_
  replace h1:gV c.T .isNone H1 (er u) .none (λr=>Q r H1):=h1
  refine a7 λGg fin_=>?_
  obtain⟨mm,lc,M,lo⟩:=S1
  refine fin_ ?_
  exact Constant_none (wpAny_mono (MS (prog:=c.prog) (w:=c.w) M h1 rfl) (λx s2 ⟨bb,hx,M2,hq⟩=>by subst hx;exact wpAny_truthy_bool ⟨H1,em lo M2,hq⟩) λ_ _ z=>z)
theorem BT{l:Expr}{il:IE}{k:Nat}{p q:Pos}(ihl:ao c l il):ao c (.Compare l [.IsNot] [.Constant .none k q] p) (.cmp .isNotNone il (.val .none)):=by
 refine⟨λm H s Q S h=>?_,λm H s Q S h=>?_⟩
 ·replace h:wE c.T c.C m il H (oP c.T .isNotNone (wE c.T c.C m (.val .none)) (l5 Q)):=h
  refine wpAny_Compare1 (wpAny_mono (ihl.E m H s _ S h) (λu s1 zq_=>?_) λ_ _ z=>z) rfl
  refine a7 λGg fin_=>?_
  obtain⟨H1,S1,_,h1⟩:=zq_
  refine fin_ ?_
  replace h1:gV c.T .isNotNone H1 (er u) .none (λr=>l5 Q r H1):=h1
  refine a7 λGg fin_=>?_
  obtain⟨mm,lc,M,lo⟩:=S1
  refine fin_ ?_
  exact Constant_none (wpAny_mono (sf (prog:=c.prog) (w:=c.w) M h1 rfl) (λx s2 ⟨bb,hx,M2,hq⟩=>by subst hx;exact⟨H1,em lo M2,(λz=>nomatch z),hq⟩) λ_ _ z=>z)
 ·replace h:wE c.T c.C m il H (oP c.T .isNotNone (wE c.T c.C m (.val .none)) Q):=h
  refine wpAny_isTrue_Compare1 (wpAny_mono (ihl.E m H s _ S h) (λu s1 zq_=>?_) λ_ _ z=>z) rfl
  refine a7 λGg fin_=>?_
  obtain⟨H1,S1,_,h1⟩:=zq_
  refine fin_ ?_
  replace h1:gV c.T .isNotNone H1 (er u) .none (λr=>Q r H1):=h1
  refine a7 λGg fin_=>?_
  obtain⟨mm,lc,M,lo⟩:=S1
  refine fin_ ?_
  exact Constant_none (wpAny_mono (sf (prog:=c.prog) (w:=c.w) M h1 rfl) (λx s2 ⟨bb,hx,M2,hq⟩=>by subst hx;exact wpAny_truthy_bool ⟨H1,em lo M2,hq⟩) λ_ _ z=>z)
end
section
variable {c:Fc}
theorem Lw{f:Expr->IE}{p:Pos} : ∀ es:List Expr,(∀ e∈es,ao c e (f e))->ao c (.BoolOp .And es p) (.and (es.map f)):=by
 intro es ih
 refine⟨?_,?_⟩
 ·intro m H s Q S h
  replace h:wAnd c.T c.C m (es.map f) H Q:=h
  induction es generalizing H s Q with
  | nil=>exact False.elim h
  | cons e r ihr=>
   induction r with
   | nil=>
    simp only[List.map_cons,List.map_nil] at h
    exact BoolOp_one ((ih e (.head _)).E m H s Q S h)
   | cons e2 r=>
    simp only[List.map_cons] at h
    refine BoolOp_and (wpAny_mono ((ih e (.head _)).E m H s _ S h) (λv s1 zq_=>?_) λ_ _ z=>z)
    refine a7 λGg fin_=>?_
    obtain⟨H1,S1,ho,h1⟩:=zq_
    refine fin_ ?_
    unfold MR at h1
    split at h1
    ·rename_i hv
     refine ac (fV hv) ?_
     refine wpAny_truthy_bool ?_
     exact ihr (λe he=>ih e (.tail _ he)) H1 s1 Q S1 (by simpa only[List.map_cons] using h1)
    ·rename_i hv
     refine ac (fV hv) ?_
     exact wpAny_truthy_bool ⟨H1,S1,(λz=>nomatch z),h1⟩
    ·exact False.elim h1
 ·intro m H s Q S h
  replace h:wTAnd c.T c.C m (es.map f) H Q:=h
  generalize hw:eval (.BoolOp .And es p) c.env=whole
  clear hw
  induction es generalizing H s Q with
  | nil=>exact isTrue_and_nil ⟨H,S,h⟩
  | cons e r ihr=>
   simp only[List.map_cons] at h
   refine isTrue_and (wpAny_mono ((ih e (.head _)).T m H s _ S h) (λb s1 zq_=>?_) λ_ _ z=>z)
   refine a7 λGg fin_=>?_
   obtain⟨H1,S1,h1⟩:=zq_
   refine fin_ ?_
   induction b with
   | true=>exact ihr (λe he=>ih e (.tail _ he)) H1 s1 Q S1 h1
   | false=>exact⟨H1,S1,h1⟩
theorem OX{f:Expr->IE}{p:Pos} : ∀ es:List Expr,(∀ e∈es,ao c e (f e))->ao c (.BoolOp .Or es p) (.or (es.map f)):=by
 intro es ih
 refine⟨?_,?_⟩
 ·intro m H s Q S h
  replace h:wOr c.T c.C m (es.map f) H Q:=h
  induction es generalizing H s Q with
  | nil=>exact False.elim h
  | cons e r ihr=>
   induction r with
   | nil=>
    simp only[List.map_cons,List.map_nil] at h
    exact BoolOp_one ((ih e (.head _)).E m H s Q S h)
   | cons e2 r=>
    simp only[List.map_cons] at h
    refine BoolOp_or (wpAny_mono ((ih e (.head _)).E m H s _ S h) (λv s1 zq_=>?_) λ_ _ z=>z)
    refine a7 λGg fin_=>?_
    obtain⟨H1,S1,ho,h1⟩:=zq_
    refine fin_ ?_
    unfold Qk at h1
    split at h1
    ·rename_i hv
     refine ac (fV hv) ?_
     refine wpAny_truthy_bool ?_
     exact ihr (λe he=>ih e (.tail _ he)) H1 s1 Q S1 (by simpa only[List.map_cons] using h1)
    ·rename_i hv
     rw[fV hv]
     exact wpAny_truthy_bool ⟨H1,S1,(λz=>nomatch z),h1⟩
    ·exact False.elim h1
 ·intro m H s Q S h
  replace h:wTOr c.T c.C m (es.map f) H Q:=h
  generalize hw:eval (.BoolOp .Or es p) c.env=whole
  clear hw
  induction es generalizing H s Q with
  | nil=>exact isTrue_or_nil ⟨H,S,h⟩
  | cons e r ihr=>
   simp only[List.map_cons] at h
   refine isTrue_or (wpAny_mono ((ih e (.head _)).T m H s _ S h) (λb s1 zq_=>?_) λ_ _ z=>z)
   refine a7 λGg fin_=>?_
   obtain⟨H1,S1,h1⟩:=zq_
   refine fin_ ?_
   induction b with
   | false=>exact ihr (λe he=>ih e (.tail _ he)) H1 s1 Q S1 h1
   | true=>exact⟨H1,S1,h1⟩
theorem jh{es:List Expr}(h:AL es=true):es.all bU=true/\es.length<20:=by
 unfold AL at h
 rw[Bool.and_eq_true,decide_eq_true_eq] at h
 exact⟨h.2,h.1⟩
theorem Lj(o:c.Ok){f:Expr->IE}{k:Nat}{p:Pos}{es:List Expr}(ih:∀ e∈es,ao c e (f e))(ha:AL es=true):ao c (.Tuple es k p) (.tup (es.map f)):=by
 refine .noT (λm H s Q S h=>?_) (λm H Q h=>h)
 obtain⟨hn,hl⟩:=jh ha
 refine Tuple_ (wpAny_mono (dD es (λe he=>(ih e he).E) hn p m H s _ S h) (λvs s1 zq_=>?_) λ_ _ z=>z)
 refine a7 λGg fin_=>?_
 obtain⟨H1,⟨mm,lc,M,lo⟩,hv,hlen,h1⟩:=zq_
 refine fin_ ?_
 refine wpAny_mono (qr (prog:=c.prog) (w:=c.w) M hv h1 ?_) (λx s2 ⟨H2,M2,a,hx,hq⟩=>?_) λ_ _ z=>z
 ·refine ac hlen ?_;have:=dO;lia
 ·subst hx;exact⟨H2,em lo M2,(λz=>nomatch z),hq⟩
theorem Ln(o:c.Ok){f:Expr->IE}{p:Pos}{es:List Expr}(ih:∀ e∈es,ao c e (f e))(ha:AL es=true):ao c (.List es p) (.lst (es.map f)):=by
 refine .noT (λm H s Q S h=>?_) (λm H Q h=>h)
 obtain⟨hn,hl⟩:=jh ha
 refine List_ (wpAny_mono (dD es (λe he=>(ih e he).E) hn p m H s _ S h) (λvs s1 ⟨H1,⟨mm,lc,M,lo⟩,hv,hlen,h1⟩=>?_) λ_ _ z=>z)
 refine wpAny_mono (tT (prog:=c.prog) (w:=c.w) M hv h1 ?_) (λx s2 ⟨H2,M2,a,hx,hq⟩=>?_) λ_ _ z=>z
 ·refine ac hlen ?_;have:=dO;lia
 ·subst hx;exact⟨H2,em lo M2,(λz=>nomatch z),hq⟩
theorem ui(o:c.Ok){mm:Str->Option Value}{lc:List (Addr×Obj)}{H:AH}{s:Shared}(M:c.Me mm lc H s):c.K.In s.heap:=o.K.keeps M.fr.keep
theorem Au(o:c.Ok){m:bd}{H:AH}{s:Shared}(S:St c m H s){f:Nat}{vs:List Value}{Q:au}(hv:∀ v∈vs,er v≠.oth)(h:c.C f (vs.map er) H Q) :
 wpAny c.M c.A (call (.ref f) vs) (PE c m Q) (Ex c) s:=by
 refine a7 λGg fin_=>?_
 obtain⟨mm,lc,M,lo⟩:=S
 refine fin_ ?_
 refine wpAny_call (codeAny_mono (o.calls c.dp c.un (Nat.le_succ _) (by lia) mm (lc++c.ex) f vs H s Q M hv h) λr s' z=>?_)
 rcases r with e|(v|_|_|_)<;>first|exact z|exact z.elim|skip
 refine a7 λGg fin_=>?_
 refine fW z λH' M' ho hq=>?_
 refine fin_ ?_
 exact⟨H',em lo M',ho,hq⟩
theorem pL(A:Around)(C:Addr)(rest:List Value)(kw:List (Str×Value)):A.under (.builtin "type.__call__" ⟨.ref C::rest,kw⟩) = { A with depth:=A.depth+1,units:=A.units+1 }:=by
 unfold Around.under
 have e1:Code.weight (.builtin "type.__call__" ⟨.ref C::rest,kw⟩)=1:=by kernel_rfl
 have e2:Code.cUnits (.builtin "type.__call__" ⟨.ref C::rest,kw⟩)=1:=by kernel_rfl
 have e3:Code.envs (.builtin "type.__call__" ⟨.ref C::rest,kw⟩)=[]:=by kernel_rfl
 have e4:Code.guards (.builtin "type.__call__" ⟨.ref C::rest,kw⟩)=[]:=by kernel_rfl
 refine ac e1 (ac e2 (ac e3 (ac e4 ?_)))
 unfold pushEnvs pushGuards
 induction A with
 | mk a b f g u=>induction f<;>induction g<;>rfl
theorem Mi(o:c.Ok){m:bd}{H:AH}{s:Shared}(S:St c m H s){D:Nat}{vs:List Value}{Q:au}(hv:∀ v∈vs,er v≠.oth)(h:el c.T c.C D (vs.map er) H Q) :
 wpAny c.M c.A (call (.ref D) vs) (PE c m Q) (Ex c) s:=by
 refine a7 λGg fin_=>?_
 obtain⟨f,hi,h⟩:=h
 refine fin_ ?_
 refine a7 λGg fin_=>?_
 refine zb (o.top.init D f hi) λt1 t2 t3 t4=>?_
 refine fin_ ?_
 refine a7 λGg fin_=>?_
 obtain⟨mm,lc,M,lo⟩:=S
 refine fin_ ?_
 refine a7 λGg fin_=>?_
 obtain⟨news,F,N,O,D'⟩:=M.out
 refine fin_ ?_
 have hfr:=i9 N
 unfold dm at h
 refine wpAny_call (make_K F N (ui o M) t1 t2 (beq_iff_eq.mp t3) λx dx h' F' N' hn hx=>?_)
 refine ac (pL ..) ?_
 have hn1:∀ q∈news,q.1<dx:=λq hq=>hn q (List.mem_append_left _ hq)
 have hxn:∀ q∈news,q.1≠x:=λq hq=>Nat.ne_of_lt (Nat.lt_trans (hn1 q hq) hx)
 have M':cv c.nm c.gens c.os c.h₀ c.L mm (lc++c.ex) (H.put x (.inst D [])) { s with heap:=h' }:=by
  refine⟨⟨_::_::news,F',N',?_,D'.inst hn1 hx⟩,M.gens,M.os⟩
  refine fq (fq O λq hq=>Nat.ne_of_lt (hn q hq)) λq hq=>?_
  rcases List.mem_cons.mp hq with rfl|hq
  ·exact Nat.ne_of_lt hx
  ·exact Nat.ne_of_lt (Nat.lt_trans (hn q hq) hx)
 have hc:=o.calls (c.dp+1) (c.un+1) (Nat.le_refl _) (by lia) mm (lc++c.ex) f (.ref x::vs) _ _ _ M' (λv hv'=>by rcases List.mem_cons.mp hv' with rfl|q;exact λz=>nomatch z;exact hv v q) (h x (D'.absent hxn))
 refine codeAny_mono hc λr s' z=>?_
 rcases r with e|(v|_|_|_)<;>first|exact z|exact z.elim|skip
 refine a7 λGg fin_=>?_
 refine sy z λH' M' ho hn hq=>?_
 refine fin_ ?_
 exact⟨sx hn,H',em lo M',(λz=>nomatch z),hq⟩
theorem OZ(o:c.Ok){f:Expr->IE}{g:Str}{a:Nat}{p q:Pos}{es:List Expr}(ih:∀ e∈es,ao c e (f e))(hn:es.all bU=true)(hd:(g==("__debug__" : Str))=false)(hg:bj c.x g=some (.fn a)) :
 ao c (.Call (.Name g p) es [] q) (.call a (es.map f)):=by
 refine .plain (λm H s Q S h=>?_) (λm H Q h=>h) rfl
 refine Call_ (Ct o S hg hd λhk=>iy hn hk ?_)
 refine wpAny_mono (dD es (λe he=>(ih e he).E) hn q m H s _ S h) (λvs s1 ⟨H1,S1,hv,_,h1⟩=>⟨?_,?_⟩) λ_ _ z=>z
 ·obtain⟨mm,lc,M,lo⟩:=S1;exact ui o M
 ·exact Au o S1 hv h1
theorem Ls(o:c.Ok){f:Expr->IE}{g:Str}{a:Nat}{p q:Pos}{es:List Expr}(ih:∀ e∈es,ao c e (f e))(hn:es.all bU=true)(hd:(g==("__debug__" : Str))=false)(hg:bj c.x g=some (.cls a)) :
 ao c (.Call (.Name g p) es [] q) (.new a (es.map f)):=by
 refine .noT (λm H s Q S h=>?_) (λm H Q h=>h)
 refine Call_ (kK o S hg hd ?_)
 refine jf (P:=λh=>c.K.In h/\keepIn c.K (.ref a)=true) hn (λh hp=>keeps_K hp.2 h hp.1) ?_
 refine wpAny_mono (dD es (λe he=>(ih e he).E) hn q m H s _ S h) (λvs s1 ⟨H1,S1,hv,_,h1⟩=>⟨⟨?_,?_⟩,?_⟩) λ_ _ z=>z
 ·obtain⟨mm,lc,M,lo⟩:=S1;exact ui o M
 ·unfold MG at h1
  obtain⟨f,hi,_⟩:=h1
  exact(o.top.init a f hi).2.2.2
 ·exact Mi o S1 hv h1
theorem Dy{c:Fc}{m:bd}{b:BI}{es:List IE}{H:AH}{Q:au} : wE c.T c.C m (.bi b es) H Q=wEs c.T c.C m es H (Pm c.T b Q):=rfl
theorem O0(o:c.Ok){f:Expr->IE}{g:Str}{b:uX}{bi:BI}{p q:Pos}{es:List Expr}(ih:∀ e∈es,ao c e (f e))(hn:es.all bU=true)(hd:(g==("__debug__" : Str))=false)(hg:bj c.x g=some (.blt b))(hb:AD b=some bi) :
 ao c (.Call (.Name g p) es [] q) (.bi bi (es.map f)):=by
 refine .plain (λm H s Q S h=>?_) (λm H Q h=>h) rfl
 refine Call_ (fu o S hg hd ?_)
 have hs:=dD es (λe he=>(ih e he).E) hn q m H s _ S h
 have fin:wpAny c.M c.A (spliced (backTo q (starEach es c.env))) (λvs s₁=>wpAny c.M c.A (call (iz b) ([]++vs)) (PE c m Q) (Ex c) s₁) (Ex c) s:=by
  refine wpAny_mono hs (λvs s1 zq_=>?_) λ_ _ z=>z
  refine a7 λGg fin_=>?_
  obtain⟨H1,⟨mm,lc,M,lo⟩,hv,_,h1⟩:=zq_
  refine fin_ ?_
  exact wpAny_mono (PO (prog:=c.prog) (w:=c.w) M o.K o.top rfl hb h1) (λx s2 ⟨H2,M2,ho,hq⟩=>⟨H2,em lo M2,ho,hq⟩) λ_ _ z=>z
 induction b<;>first|exact du hn fin|exact gJ hn fin
theorem BU(o:c.Ok){e:Expr}{ie:IE}{g k:Str}{C:Nat}{p q r:Pos}(ih:ao c e ie)(hn:bU e=true)(hd:(g==("__debug__" : Str))=false)(hg:bj c.x g=some (.blt .isinstance))(hk:bj c.x k=some (.cls C))(hd':(k==("__debug__" : Str))=false) :
 ao c (.Call (.Name g p) [e,.Name k r] [] q) (.bi (.isCls C) [ie]):=by
 refine .plain (λm H s Q S h=>?_) (λm H Q h=>h) rfl
 rw[Dy] at h
 refine Call_ (fu o S hg hd (du (by refine ac (List.all_cons ..) (ac (hn ..) ?_);rfl) ?_))
 refine spliced_more (wpAny_mono (ih.E m H s _ S h) (λu s1 zq_=>?_) λ_ _ z=>z) (bR hn)
 refine a7 λGg fin_=>?_
 obtain⟨H1,S1,ho,h1⟩:=zq_
 refine fin_ ?_
 refine spliced_more (kK o S1 hk hd' (spliced_none ?_))
 refine a7 λGg fin_=>?_
 obtain⟨mm,lc,M,lo⟩:=S1
 refine fin_ ?_
 exact wpAny_mono (MZ (prog:=c.prog) (w:=c.w) M o.K o.top h1 rfl) (λx s2 ⟨b,hx,M2,hq⟩=>by subst hx;exact⟨H1,em lo M2,(λz=>nomatch z),hq⟩) λ_ _ z=>z
theorem DH(o:c.Ok){e:Expr}{ie:IE}{g k:Str}{b:uX}{bi:BI}{p q r:Pos}(ih:ao c e ie)(hn:bU e=true)(hd:(g==("__debug__" : Str))=false)(hg:bj c.x g=some (.blt .isinstance))(hk:bj c.x k=some (.blt b))(hd':(k==("__debug__" : Str))=false)
 (hb:(b=.int/\bi=.isInt)\/(b=.str/\bi=.isStr)):ao c (.Call (.Name g p) [e,.Name k r] [] q) (.bi bi [ie]):=by
 refine .plain (λm H s Q S h=>?_) (λm H Q h=>h) rfl
 rw[Dy] at h
 refine Call_ (fu o S hg hd (du (by refine ac List.all_cons (ac hn ?_);rfl) ?_))
 refine spliced_more (wpAny_mono (ih.E m H s _ S h) (λu s1 zq_=>?_) λ_ _ z=>z) (bR hn)
 refine a7 λGg fin_=>?_
 obtain⟨H1,S1,ho,h1⟩:=zq_
 refine fin_ ?_
 refine spliced_more (fu o S1 hk hd' (spliced_none ?_))
 refine a7 λGg fin_=>?_
 obtain⟨mm,lc,M,lo⟩:=S1
 refine fin_ ?_
 exact wpAny_mono (MU (prog:=c.prog) (w:=c.w) M hb h1) (λx s2 ⟨H2,M2,ho,hq⟩=>⟨H2,em lo M2,ho,hq⟩) λ_ _ z=>z
end
section
variable {c:Fc}
set_option tactic.hygienic true in
theorem JF{v:Value}{d:AV}(h:er v=d)(hd:d≠.oth)(hr:∀ a,d≠.ref a):PyProof.V.Flat v (Hg d):=by
 induction v<;>subst h<;>first|exact absurd rfl hd|exact absurd rfl (hr _)|skip
 ·exact .none
 ·exact .bool _
 ·exact .int _ _
 ·rename_i x t
  show PyProof.V.Flat (.str x t) (.str ⟨x.cps.toList.toArray⟩)
  rw[show(⟨x.cps.toList.toArray⟩:Str)=x from qv x]
  exact .str _ _
theorem JL(o:c.Ok){m:bd}{H:AH}{s:Shared}(S:St c m H s){a:Nat}{us:List Value}{x d:AV}{Q:au}(hu:us.map er=[x,d])(h:Du c.T (.ref a) x d λv=>Q v H) :
 wpAny c.M c.A (call (.builtin "dict.get") (.ref a::us)) (PE c m Q) (Ex c) s:=by
 obtain⟨u,v,rfl,e1,e2⟩:=Cs hu
 obtain⟨a',t,l,ha,rfl,hd,hst,hq⟩:=h
 cases ha
 obtain⟨tk,rfl⟩:=bV e1
 obtain⟨mm,lc,M,lo⟩:=S
 have TT:=(o.top.tdict a l hst).1 s.heap c.prog (ui o M)
 have ok:=(o.top.tdict a l hst).2
 obtain⟨lo',kvs,hdd,hf⟩:=TT
 refine call_meetsIn PySem.F.slot_dict_get hdd.typeIs PySem.F.entry_dict_get (PySem.F.args_dict_get_3 _ _ _) (meets_dict_get_default (strKind c.prog c.w) a (strKind_is c.prog c.w (bz t) tk) lo' v) ⟨_,hdd.mapOf,?_⟩
 induction hl:jR t l with
 | some y=>
  rw[hl] at hq
  obtain⟨w,hv,hfl⟩:=hf.of_lookup PyProof.V.same_str (k:=bz t) (by refine ac (fS ..) (ac (hl ..) ?_);rfl)
  have hm:∃ p∈l,p.2=y:=by
   clear ok hf hdd hst hq hv hfl
   induction l with
   | nil=>cases hl
   | cons p r ih=>
    unfold jR at hl
    split at hl
    ·cases hl;exact⟨p,.head _,rfl⟩
    ·obtain⟨q,h1,h2⟩:=ih hl;exact⟨q,.tail _ h1,h2⟩
  obtain⟨p,hp,rfl⟩:=hm
  obtain⟨f1,f2⟩:=ss hfl (ok p hp)
  refine ac hv ?_
  exact⟨H,em lo (M.toks _),f1▸f2,f1▸hq⟩
 | none=>
  rw[hl] at hq
  have hn:=hf.none_of_lookup PyProof.V.same_str (k:=bz t) (by refine ac (fS ..) (ac (hl ..) ?_);rfl)
  refine ac hn ?_
  exact⟨H,em lo (M.toks _),e2▸hd,e2▸hq⟩
theorem HT(o:c.Ok){f:Expr->IE}{ob:Expr}{iob:IE}{nm:Str}{k:Nat}{ap p:Pos}{es:List Expr}(ih:∀ e∈es,ao c e (f e))(iho:ao c ob iob)(hs:dS ob=true)(ha:AL es=true)(hp:(ap.endLine==p.line)=true)(hk:c.x.aid nm=some k) :
 ao c (.Call (.Attribute ob nm ap) es [] p) (.meth iob k (es.map f)):=by
 refine .plain (λm H s Q S h=>?_) (λm H Q h=>h) rfl
 obtain⟨hn,hl⟩:=jh ha
 have hnm:c.nm.at_ k=nm:=o.aid _ _ hk
 subst hnm
 refine tX hs hn (iX hl rfl) hp (wpAny_mono (iho.E m H s _ S h) (λu s1 ⟨H1,S1,ho,h1⟩ pl=>?_) λ_ _ z=>z)
 unfold oO at h1
 rcases h1 with⟨a,D,fs,g,hv,hH,hlk,hm,h1⟩|⟨a,vs₁,hv,rfl,hH,h1⟩|⟨a,l,hv,rfl,hst,h1⟩|⟨t,hv,h2,h7,h1⟩
 ·obtain rfl:=bO hv
  obtain⟨t1,t2,t3,t4⟩:=o.top.meth D k g hm
  have S1':=S1
  obtain⟨mm,lc,M,lo⟩:=S1'
  obtain⟨news,F,N,O,D'⟩:=M.out
  have hob:=D'.ob a _ hH
  cases hob with
  | inst i1 i2 hf=>
   refine method_inst F o.K (InstAt.of_news N (List.mem_append_left _ i1) (List.mem_append_left _ i2)) t1 t2 t3 (hf.getL_none hlk) ?_
   refine iy hn t4 ?_
   refine wpAny_mono (dD es (λe he=>(ih e he).E) hn p m H1 s1 _ S1 h1) (λvs s2 ⟨H2,S2,hv2,_,h2⟩=>⟨?_,?_⟩) λ_ _ z=>z
   ·obtain⟨mm,lc,M,lo⟩:=S2;exact ui o M
   ·exact Au o S2 (vs:=.ref a::vs) (λv hv'=>by rcases List.mem_cons.mp hv' with rfl|q;exact λz=>nomatch z;exact hv2 v q) h2
 ·obtain rfl:=bO hv
  have S1':=S1
  obtain⟨mm,lc,M,lo⟩:=S1'
  obtain⟨xs,n,hg,he,hx⟩:=ff M hH
  refine ac (o.std.n0 ..) ?_
  refine getMethod_list_append hg rfl rfl ?_
  refine du hn ?_
  refine wpAny_mono (dD es (λe he=>(ih e he).E) hn p m H1 s1 _ S1 h1) (λvs s2 ⟨H2,⟨mm2,lc2,M2,lo2⟩,hv2,_,x,hx2,h2⟩=>?_) λ_ _ z=>z
  obtain⟨w,rfl,hw⟩:=rQ hx2
  refine wpAny_mono (AI (prog:=c.prog) (w:=c.w) M2 h2 rfl hw) (λr s3 ⟨hr,H3,M3,hq⟩=>?_) λ_ _ z=>z
  subst hr
  exact⟨H3,em lo2 M3,(λz=>nomatch z),hq⟩
 ·obtain rfl:=bO hv
  have S1':=S1
  obtain⟨mm,lc,M,lo⟩:=S1'
  have TT:=(o.top.tdict a l hst).1 s1.heap c.prog (ui o M)
  refine ac o.std.n1 ?_
  refine getMethod_strTab_get TT ?_
  refine du hn ?_
  refine wpAny_mono (dD es (λe he=>(ih e he).E) hn p m H1 s1 _ S1 h1) (λvs s2 ⟨H2,S2,hv2,_,x,d,hx2,h2⟩=>?_) λ_ _ z=>z
  exact JL o S2 hx2 h2
 ·obtain⟨tk,rfl⟩:=bV hv
  refine HA o.std h2 h7 ?_
  refine du hn ?_
  refine wpAny_mono (dD es (λe he=>(ih e he).E) hn p m H1 s1 _ S1 h1) (λvs s2 ⟨H2,⟨mm2,lc2,M2,lo2⟩,hv2,_,h2⟩=>?_) λ_ _ z=>z
  exact wpAny_mono (Bx (prog:=c.prog) (w:=c.w) M2 h2) (λr s3 ⟨M3,ho,hq⟩=>⟨H2,em lo2 M3,ho,hq⟩) λ_ _ z=>z
end
section
variable {c:Fc}
theorem BS(o:c.Ok){v lo hi:Expr}{iv il ih:IE}{p q:Pos}(hv:ao c v iv)(hl:ao c lo il)(hh:ao c hi ih):ao c (.Subscript v (.Slice (some lo) (some hi) none q) p) (.slice iv il ih):=by
 refine .noT (λm H s Q S h=>?_) (λm H Q h=>h)
 refine Subscript_ (wpAny_mono (hv.E m H s _ S h) (λu s1 ⟨H1,S1,_,h1⟩=>?_) λ_ _ z=>z)
 refine wpAny_Slice (wpAny_mono (hl.E m H1 s1 _ S1 h1) (λa s2 ⟨H2,S2,_,h2⟩=>?_) λ_ _ z=>z)
 refine wpAny_mono (hh.E m H2 s2 _ S2 h2) (λb s3 ⟨H3,⟨mm,lc,M,lo⟩,_,h3⟩=>?_) λ_ _ z=>z
 refine wpAny_pure ?_
 unfold MC u1 at h3
 split at h3
 ·rename_i e1 e2 e3
  obtain⟨t1,rfl⟩:=bV e1;obtain⟨t2,rfl⟩:=a9 e2;obtain⟨t3,rfl⟩:=a9 e3
  unfold OR at h3
  obtain⟨⟨h0,h0',hsz⟩,hq⟩:=h3
  refine tail_of_ItemOn (SBH.sliceItem_ss (P:=λh=>∀ b o,s3.heap.get? b=some o->h.get? b=some o) (λh ob k b o e=>Heap.get?_push_of_some _ (k b o e)) (λ_ _ e=>e) (λh' t' k hk=>?_) ?_) rfl (λr=>?_)
  ·refine⟨H3,em lo (M.grown hk k),(λz=>nomatch z),?_⟩
   refine ac (tj h0 h0') (ac gG ?_)
   exact hq
  ·refine ac (aY ..) ?_
   have:=dO
   unfold ah at hsz
   exact iX hsz rfl
  ·cases v<;>rfl
 ·exact h3.elim
end
noncomputable def jm(n:Nat):Prop:=∀ c:Fc,c.Ok->∀ elt tgt iter ifs sc p,ao c (.ListComp elt [⟨tgt,iter,ifs,0⟩] sc p) (cE c.x (n+1) (.ListComp elt [⟨tgt,iter,ifs,0⟩] sc p))
section
variable {c:Fc}
theorem HW(o:c.Ok){F:Expr->IE}(ih:∀ e,ao c e (F e))(g:Expr)(as:List Expr)(p:Pos):ao c (.Call g as [] p) (Aw c.x F g as p):=by
 unfold Aw
 refine HS (P:=λg v=>ao c (.Call g as [] p) (match v with
  | .attr o a ap=>lq (dS o&&AL as&&ap.endLine==p.line) (im (c.x.aid a) λk=>.meth (F o) k (as.map F))
  | .name fn _=>lq (AL as&&!(fn==("__debug__" : Str))) (rc c.x F (bj c.x fn) as)
  | _=>.bad)) λv _=>?_
 induction v with
 | attr ob a ap=>
  refine .ok λh=>.opt λk hk=>?_
  rw[Bool.and_eq_true,Bool.and_eq_true] at h
  exact HT o (λe _=>ih e) (ih _) h.1.1 h.1.2 h.2 hk
 | name fn q=>
  refine .ok λh=>?_
  rw[Bool.and_eq_true] at h
  have hn:=(jh h.1).1
  have hd:=h.2
  rw[Bool.not_eq_true'] at hd
  show ao c (.Call (.Name fn q) as [] p) (rc c.x F (bj c.x fn) as)
  match hg:bj c.x fn with
  | none=>exact .bad
  | some g=>
   induction g with
   | fn a=>exact OZ o (λe _=>ih e) hn hd hg
   | cls a=>exact Ls o (λe _=>ih e) hn hd hg
   | val v=>exact .bad
   | blt b=>
    refine .ifb (λhi=>?_) (.opt λb' hb=>O0 o (λe _=>ih e) hn hd hg hb)
    have hi:=uf hi
    subst hi
    refine Bh (P:=ao c (.Call (.Name fn q) as [] p)) .bad λe1 k1 ha=>?_
    subst ha
    simp only[List.all_cons,Bool.and_eq_true] at hn
    refine .opt λk hk=>.ok λhkd=>?_
    obtain⟨r,rfl⟩:=ql hk
    rw[Bool.not_eq_true'] at hkd
    match hc:bj c.x k with
    | none=>exact .bad
    | some g2=>
     induction g2 with
     | cls C=>exact BU o (ih _) hn.1 hd hg hc hkd
     | blt b2=>
      induction b2 with
      | int=>exact DH o (ih _) hn.1 hd hg hc hkd (.inl ⟨rfl,rfl⟩)
      | str=>exact DH o (ih _) hn.1 hd hg hc hkd (.inr ⟨rfl,rfl⟩)
      | _=>exact .bad
     | _=>exact .bad
 | _=>exact .bad
theorem HV(o:c.Ok){F:Expr->IE}(ih:∀ e,ao c e (F e))(l:Expr)(op:CmpOp)(r:Expr)(p:Pos):ao c (.Compare l [op] [r] p) (Ov F l op r):=by
 refine .ifb (λh=>?_) (.ifb (λh=>?_) (.opt λb hb=>.ok λhm=>Lr o hb (by simpa using hm) (ih _) (ih _)))
 ·obtain⟨h1,h2⟩:=Bool.and_eq_true_iff.mp h
  obtain⟨k,q,rfl⟩:=kN h1
  obtain rfl:=CO h2
  exact OY (ih _)
 ·obtain⟨h1,h2⟩:=Bool.and_eq_true_iff.mp h
  obtain⟨k,q,rfl⟩:=kN h1
  obtain rfl:=qL h2
  exact BT (ih _)
theorem kv(n:Nat)(ih:∀ c:Fc,c.Ok->∀ e,ao c e (cE c.x n e))(hc:jm n)(c:Fc)(o:c.Ok)(e:Expr):ao c e (cE c.x (n+1) e):=by
 have ih:=ih c o
 refine HS (P:=λe v=>ao c e (cV c.x (λx e=>cE x n e) v)) λv _=>?_
 induction v with
 | const k a p=>
  induction k with
  | none=>exact mz
  | bool b=>exact mA
  | int i=>exact nS
  | str s=>exact .ok λ_=>nR
  | _=>exact .bad
 | name id p=>exact .ok λh=>.els (λi hi=>Lo o (by simpa using h) hi) (HU o (by simpa using h))
 | attr v a p=>exact .ok λh=>.opt λk hk=>HX o h hk (ih _)
 | sub v i p=>
  refine .els (λq hq=>?_) (.ok λh=>Lq o (by simpa using h) (ih _) (ih _))
  obtain⟨lo,hi⟩:=q
  obtain⟨q,rfl⟩:=HK hq
  exact BS o (ih _) (ih _) (ih _)
 | bin l op r p=>
  refine .ifb (λh=>?_) (.opt λb hb=>Lu hb (ih _) (ih _))
  obtain⟨h1,h2⟩:=Bool.and_eq_true_iff.mp h
  obtain⟨h2,h3⟩:=Bool.and_eq_true_iff.mp h2
  obtain rfl:=yu h1
  obtain⟨_,_,rfl⟩:=oW h2
  obtain⟨_,_,rfl⟩:=oW h3
  exact Lk
 | un op e p=>
  induction op with
  | USub=>
   refine .opt λi hi=>?_
   obtain⟨_,_,rfl⟩:=sk hi
   exact Lm
  | Not=>exact Ll (ih _)
  | _=>exact .bad
 | bl op es p=>
  induction op with
  | And=>exact Lw _ λe _=>ih e
  | Or=>exact OX _ λe _=>ih e
 | cmp l ops rs p=>
  refine iT (P:=ao c (.Compare l ops rs p)) .bad λop ho=>?_
  subst ho
  refine iT (P:=ao c (.Compare l [op] rs p)) .bad λr hr=>?_
  subst hr
  exact HV o ih l op r p
 | ife t a b p=>exact Lp (ih _) (ih _) (ih _)
 | tup es k p=>exact .ok λh=>Lj o (λe _=>ih e) h
 | lst es p=>exact .ok λh=>Ln o (λe _=>ih e) h
 | call g as kw p=>
  induction kw with
  | nil=>exact HW o ih g as p
  | cons _ _=>exact .bad
 | comp elt gs sc p=>
  refine iT (P:=ao c (.ListComp elt gs sc p)) .bad λg hg=>?_
  subst hg
  refine .ok λh=>?_
  obtain⟨tgt,iter,ifs,z⟩:=g
  obtain rfl:=of_decide_eq_true (show decide (z=0)=true from h)
  exact hc c o elt tgt iter ifs sc p
 | slice=>exact .bad
 | other=>exact .bad
theorem lJ(hc:∀ n,jm n):∀ n (c:Fc),c.Ok->∀ e,ao c e (cE c.x n e):=by
 intro z_
 induction z_ with
 | zero=>
  intro _ _ _
  exact .bad
 | succ n ihz=>
  intro c o e
  exact kv n (ihz) (hc n) c o e
end
inductive QD(c:Fc)(N:NP)(s:Shared):Prop
 | mk (m:bd) (H:AH) (S:St c m H s) (n:N m H):QD c N s
inductive QC(c:Fc)(R:au)(v:Value)(s:Shared):Prop
 | mk (m:bd) (H:AH) (S:St c m H s) (ho:er v≠.oth) (q:R (er v) H):QC c R v s
noncomputable def Fl(c:Fc)(N:bd->AH->Prop)(R:au)(f:Flow)(s':Shared):Prop:=match f with
 | .next=>QD c N s'
 | .ret v=>QC c R v s'
 | _=>False
noncomputable def bP(c:Fc)(st:Stmt)(is:IS):Prop:=∀ m H s N R,St c m H s->wS c.T c.C is m H N R->wpAny c.M c.A (exec st c.env) (Fl c N R) (Ex c) s
noncomputable def dW(c:Fc)(st:List Stmt)(is:List IS):Prop:=∀ m H s N R,St c m H s->wSs c.T c.C is m H N R->wpAny c.M c.A (execs st c.env) (Fl c N R) (Ex c) s
inductive PU(c:Fc)(m:bd)(i:Nat)(Q:au)(u:Unit)(s:Shared):Prop
 | mk (v:AV) (H:AH) (S:St c (bT m i v) H s) (ho:v≠.oth) (q:Q v H):PU c m i Q u s
noncomputable def AQ(c:Fc)(e:Expr)(ie:IE):Prop:=∀ (m:bd) (H:AH) (s:Shared) (Q:au) (n:Str) (i:Nat) (p:Pos),aL c.x n=some i->St c m H s->wE c.T c.C m ie H Q->
 wpAny c.M c.A (evalThenUse e c.env (assign (.Name n p) c.env)) (PU c m i Q) (Ex c) s
noncomputable def rm:Prop:=∀ c:Fc,c.Ok->∀ e,dJ e=true->AQ c e (cE c.x 30 e)
section
variable {c:Fc}
theorem bP.bad{st:Stmt} : bP c st .bad:=λm H s N R S h=>by exact False.elim h
theorem bP.ok{st:Stmt}{b:Bool}{is:IS}(h:b=true->bP c st is):bP c st (xI b is):=by
 induction b with
 | true=>exact h rfl
 | false=>exact .bad
theorem bP.opt{st:Stmt}{α:Type}{x:Option α}{f:α->IS}(h:∀ a,x=some a->bP c st (f a)):bP c st (lm x f):=by
 induction x with
 | some a=>exact h a rfl
 | none=>exact .bad
theorem dZ{v:Expr}{t:Option Expr}{l:Nat}{env:Env}(h:dJ v=false):swapsWith v t l env=pure false:=by
 cases v<;>first|rfl|exfalso;cases h
theorem HF:dW c [] []:=λm H s N R S h=>by
 exact wpAny_execs_nil ⟨m,H,S,h⟩
theorem BD{st:Stmt}{r:List Stmt}{is:IS}{ir:List IS}(h1:bP c st is)(h2:dW c r ir):dW c (st::r) (is::ir):=λm H s N R S h=>by
 refine wpAny_execs_cons (wpAny_mono (h1 m H s _ R S h) (λf s' hf=>?_) λ_ _ z=>z)
 induction f with
 | next=>
  obtain⟨m',H',S',hn⟩:=hf
  exact h2 m' H' s' N R S' hn
 | ret v=>exact hf
 | brk=>exact hf
 | cont=>exact hf
theorem mw{f:Stmt->IS} : ∀ l:List Stmt,(∀ st∈l,bP c st (f st))->dW c l (l.map f):=by
 intro z_
 induction z_ with
 | nil=>
  intro _
  exact HF
 | cons st r ihz=>
  intro h
  exact BD (h st (.head _)) (ihz λx hx=>h x (.tail _ hx))
theorem BC(o:c.Ok){e:Expr}{ie:IE}{p:Pos}(h:ao c e ie)(hc:dJ e=false):bP c (.Expr e p) (.ex ie):=λm H s N R S hw=>by
 have hi:interactive c.env=false:=by unfold interactive;refine o.ekind.symm ▸ ?_;rfl
 refine(exec_Expr c.env e p hi (dZ hc)).symm ▸ ?_
 refine wpAny_bind (wpAny_standAt (wpAny_bind (wpAny_mono (h.E m H s _ S hw) (λv s1 ⟨H1,S1,ho,h1⟩=>?_) λ_ _ z=>z)))
 exact wpAny_dropValue ⟨m,H1,S1,h1⟩
theorem uz(x:Str)(p':Pos)(value:Expr)(pos:Pos)(env:Env):exec (.Assign [.Name x p'] value pos) env=(do
 standAt pos
 if ← swapsWith value (some (.Name x p')) pos.line env then
  evalThenUse value env (assign (.Name x p') env)
  return .next
 let v ← eval value env
 standAt p'
 bindName env x v
 pure .next):=rfl
theorem pS(v:Expr)(x:Str)(p:Pos)(l:Nat)(env:Env):∃ b,swapsWith v (some (.Name x p)) l env=pure b:=by
 cases v<;>exact⟨_,rfl⟩
theorem HC(o:c.Ok)(d:c.Def)(hu:rm){v:Expr}{x:Str}{i:Nat}{p p':Pos}(h:ao c v (cE c.x 30 v))(hl:aL c.x x=some i):bP c (.Assign [.Name x p'] v p) (.set i (cE c.x 30 v)):=λm H s N R S hw=>by
 refine ac (uz ..) ?_
 refine wpAny_bind (wpAny_standAt ?_)
 have plain:wpAny c.M c.A (do let v ← eval v c.env;standAt p';bindName c.env x v;pure Flow.next) (Fl c N R) (Ex c) s:=by
  refine wpAny_bind (wpAny_mono (h.E m H s _ S hw) (λw s1 ⟨H1,S1,ho,h1⟩=>?_) λ_ _ z=>z)
  refine wpAny_bind (wpAny_standAt (wpAny_bind (wpAny_bindName (wpAny_mono (iJ o d S1 hl ho) (λ_ s2 S2=>wpAny_pure ⟨_,H1,S2,h1⟩) λ_ _ z=>z))))
 induction hc:dJ v with
 | false=>
  refine(dZ hc).symm ▸ ?_
  refine wpAny_bind (wpAny_pure ?_)
  refine ac (if_neg (by decide)) ?_
  exact plain
 | true=>
  refine(pS v x p' p.line c.env).elim λb hb=>?_
  refine ac hb ?_
  refine wpAny_bind (wpAny_pure ?_)
  induction b with
  | false=>refine ac (if_neg (by decide)) ?_;exact plain
  | true=>
   refine ac (if_pos rfl) ?_
   exact wpAny_bind (wpAny_mono (hu c o v hc m H s _ x i p' hl S hw) (λ_ s1 ⟨w,H1,S1,ho,h1⟩=>wpAny_pure ⟨_,H1,S1,h1⟩) λ_ _ z=>z)
theorem BA(o:c.Ok){v ob:Expr}{iv io:IE}{a:Str}{k:Nat}{p p':Pos}(hv:ao c v iv)(ho:ao c ob io)(hc:dJ v=false)(hk:c.x.aid a=some k):bP c (.Assign [.Attribute ob a p'] v p) (.setA io k iv):=λm H s N R S hw=>by
 refine plainObj_wpAny_Assign_Attribute (wpAny_mono (hv.E m H s _ S hw) (λx s1 ⟨H1,S1,hx,h1⟩=>?_) λ_ _ z=>z) (dZ hc)
 refine wpAny_mono (ho.E m H1 s1 _ S1 h1) (λu s2 ⟨H2,⟨mm,lc,M,lo⟩,hu,h2⟩=>?_) λ_ _ z=>z
 exact wpAny_mono (HO (prog:=c.prog) (w:=c.w) M o.K o.top h2 rfl rfl (o.aid _ _ hk)) (λ_ s3 ⟨H3,M3,hq⟩=>⟨m,H3,em lo M3,hq⟩) λ_ _ z=>z
set_option tactic.hygienic true in
theorem HN{A:cy}{gens:Array GenState}{os:OsState}{h₀:Heap}{L:Addr}{mm:Str->Option Value}{ex:List (Addr×Obj)}{H:AH}{s:Shared}{prog:Program}{w:World}{Ar:Around}{E:Value->Shared->Prop}
 (M:cv A gens os h₀ L mm ex H s) {v i x:AV} {Q:AH->Prop} (h:sQ H v i x Q) {u j y:Value} (hu:er u=v) (hj:er j=i) (hy:er y=x) :
 wpAny (model prog w) Ar (setItem u j y) (λ_ s'=>∃ H',cv A gens os h₀ L mm ex H' s'/\Q H') E s:=by
 obtain⟨a,k,vs,rfl,rfl,hk,hlt,hx,hH,hq⟩:=h
 obtain rfl:=bO hu;obtain⟨tk,rfl⟩:=a9 hj
 obtain⟨news,F,N,O,D⟩:=M.out
 have hob:=D.ob a _ hH
 generalize ho:AO.list vs=o at hob
 induction hob with
 | tup _ _=>exfalso;cases ho
 | inst _ _ _=>exfalso;cases ho
 | list h1 h2=>
  rename_i xs n
  injection ho with ho;subst ho
  have hlt':k.toNat<xs.size:=by simpa using hlt
  have e:ki_setL xs.toList k.toNat y=some (xs.toList.set k.toNat y):=by
   have key:∀ (l:List Value) (n:Nat),n<l.length->ki_setL l n y=some (l.set n y):=by
    intro l
    induction l with
    | nil=>intro n h;exact absurd h (Nat.not_lt_zero _)
    | cons a r ih=>
     intro n h
     induction n with
     | zero=>rfl
     | succ n=>
      simp only[ki_setL,List.set_cons_succ]
      exact ac (ih n (by simpa using h)) rfl
   exact key _ _ (by simpa using hlt')
  refine fW (O.turn h1 (listOf (xs.toList.set k.toNat y).toArray n)) λnews' U O' hl=>?_
  refine ki_set F N hk.1 hk.2 e U λh' F' N'=>⟨_,⟨⟨news',F',N',O',?_⟩,M.gens,M.os⟩,hq⟩
  have:=D.setList (ys:=(xs.toList.set k.toNat y).toArray) h1 hH hl (λv hv=>by
   rcases List.mem_or_eq_of_mem_set hv with z|z
   ·exact h2 v z
   ·refine ac z (ac hy ?_);exact hx)
  rw[show((xs.toList.set k.toNat y).toArray).toList=xs.toList.set k.toNat y from rfl,List.map_set,hy] at this
  exact this
theorem Bz{v ob i:Expr}{iv io ii:IE}{p p':Pos}(hv:ao c v iv)(ho:ao c ob io)(hi:ao c i ii)(hc:dJ v=false):bP c (.Assign [.Subscript ob i p'] v p) (.setI io ii iv):=λm H s N R S hw=>by
 refine wpAny_Assign_Subscript (wpAny_mono (hv.E m H s _ S hw) (λx s1 ⟨H1,S1,hx,h1⟩=>?_) λ_ _ z=>z) (dZ hc)
 refine wpAny_mono (ho.E m H1 s1 _ S1 h1) (λu s2 ⟨H2,S2,hu,h2⟩=>?_) λ_ _ z=>z
 refine wpAny_mono (hi.E m H2 s2 _ S2 h2) (λj s3 ⟨H3,⟨mm,lc,M,lo⟩,hj,h3⟩=>?_) λ_ _ z=>z
 exact wpAny_mono (HN (prog:=c.prog) (w:=c.w) M h3 rfl rfl rfl) (λ_ s4 ⟨H4,M4,hq⟩=>⟨m,H4,em lo M4,hq⟩) λ_ _ z=>z
theorem K9{t:Expr}{it:IE}{a b:List Stmt}{ia ib:List IS}{p:Pos}(ht:ao c t it)(ha:dW c a ia)(hb:dW c b ib):bP c (.If t a b p) (.ite it ia ib):=λm H s N R S hw=>by
 refine wpAny_If (wpAny_mono (ht.T m H s _ S hw) (λr s1 ⟨H1,S1,h1⟩=>?_) λ_ _ z=>z)
 induction r with
 | true=>exact ha m H1 s1 N R S1 h1
 | false=>exact hb m H1 s1 N R S1 h1
theorem HD{e:Expr}{ie:IE}{p:Pos}(h:ao c e ie):bP c (.Return (some e) p) (.ret ie):=λm H s N R S hw=>by
 exact wpAny_Return_some (wpAny_mono (h.E m H s _ S hw) (λv s1 ⟨H1,S1,ho,h1⟩=>⟨m,H1,S1,ho,h1⟩) λ_ _ z=>z)
theorem BB{p:Pos} : bP c (.Return none p) (.ret (.val .none)):=λm H s N R S hw=>by
 exact wpAny_Return_none ⟨m,H,S,(λz=>nomatch z),hw⟩
end
section
variable {M:Model} {A:Around} {E:Value->Shared->Prop} {s:Shared}
theorem m0{base:Heap}{l:List Env}{e L:Addr}{cls a0 fl:Value}{Q:Unit->Shared->Prop}(hkb:base.StaysIn s.heap)(hen:base.get? e=none)(hl:s.heap.FunFrames base l)(ht:s.heap.TracedAtW base e cls a0 fl)
 (h:∀ h',Heap.HeldW base l e cls a0 L h'->s.heap.UpToSlots h'->Q () { s with heap:=h' }) :
 wpAny M A (do
  if(← field (.ref e) 1)==.none then unsupported "frame.own-activation:exception-without-traceback"
  setFlight (.ref e) (some L)) Q E s:=by
 refine a7 λGg fin_=>?_
 refine ht.elim λoe h1_=>h1_.elim λvs h2_=>h2_.elim λT h3_=>h3_.elim λoT h4_=>h4_.elim λts h5_=>h5_.elim λhe h6_=>h6_.elim λhcls h7_=>h7_.elim λhd h8_=>h8_.elim λh1 h9_=>h9_.elim λhnT h10_=>h10_.elim λhTe h11_=>h11_.elim λhT h12_=>h12_.elim λhdT h3=>?_
 refine fin_ ?_
 have hsz3:3<ts.size:=(Array.getElem?_eq_some_iff.mp h3).1
 have other:∀ b,b≠T->(s.heap.update T (Obj.mapFields (·.setIfInBounds 3 ((some L).elim Value.none λf=>rawInt f)))).get? b=s.heap.get? b:=
  λb hb=>Heap.get?_update_other _ _ (Ne.symm hb)
 have noRecord:∀ b o,s.heap.get? b=some o->(∀ vs,o.data≠.fields vs)->b≠T:=λb o hb hnf q=>by
  rw[q,hT] at hb;injection hb with hb;subst hb;exact hnf ts hdT
 refine wpAny_bind (wpAny_field he hd h1 ?_)
 refine(if_neg (show ¬ ((Value.ref T==Value.none)=true) from by simp)).symm ▸ ?_
 have fin:wpAny M A (setFlight (.ref e) (some L)) Q E s:=by
  unfold setFlight
  refine wpAny_bind (wpAny_field he hd h1 ?_)
  refine(if_pos (show(Value.ref T != Value.none)=true from by simp)).symm ▸ ?_
  refine wpAny_setField hT hdT hsz3 (h _ ⟨λb o hbo=>(other b λq=>by rw[q,hnT] at hbo;exact fI hbo).trans (hkb b o hbo),hen,
   hl.of_keeps λb o hb hnf=>⟨o,(other b (noRecord b o hb hnf)).trans hb,rfl⟩,?_⟩ λb o hb hnf=>⟨o.slots,(other b (noRecord b o hb hnf)).trans hb⟩)
  exact⟨oe,vs,T,_,_,(other e (Ne.symm hTe)).trans he,hcls,hd,h1,hnT,hTe,Heap.get?_update_self _ hT (Obj.isFreed_of_fields (Obj.data_mapFields hdT _)),Obj.data_mapFields hdT _,by simp[hsz3]⟩
 first
  | exact wpAny_bind (wpAny_pure fin)
  | exact fin
end
section
variable {c:Fc}
theorem C6(o:c.Ok)(d:c.Def):PassesOwn c.M c.A c.env (Ex c):=by
 rintro e s ⟨hX,a,a0,rfl,hfh,hG,hg,hos⟩
 have hfr:c.A.frames=some (c.fenv::c.outer):=rfl
 have again:∀ s':Shared,Heap.HeldW c.base (c.fenv::c.outer) a (.ref c.PE) a0 c.L s'.heap->c.G₀.UpToSlots s'.heap->s'.gens=c.gens->s'.os=c.os->cameBackBy c.M c.A c.env (Ex c) (.ref a) s':=by
  intro s' hh hG' hg' hos'
  unfold cameBackBy
  refine ac d.same (ac o.frame ?_)
  refine a7 λGg fin_=>?_
  refine zb hh λk1 k2 k3 k4=>?_
  refine fin_ ?_
  exact m0 k1 k2 k3 k4 λh' hh' hs'=>⟨hX,a,a0,rfl,.inr hh',hG'.trans hs',hg',hos'⟩
 unfold notedBy
 refine d.same.symm ▸ ?_
 rcases hfh with hf|hh
 ·exact wpAny_looks_onW hfr o.frame hf λh' hh' hs'=>by
   have:=again { s with heap:=h' } hh' (hG.trans hs') hg hos
   rw[d.same] at this;exact this
 ·exact wpAny_noteFrame_againW o.frame hh.2.2.2 (by
   have:=again s hh hG hg hos
   rw[d.same] at this;exact this)
theorem vh(o:c.Ok)(d:c.Def){t:Expr}{it:IE}{b:List Stmt}{ib:List IS}{p:Pos}(ht:ao c t it)(hb:dW c b ib):bP c (.While t b [] p) (.whl it ib):=λm H s N R S hw=>by
 refine hw.elim λn hw=>?_
 have hE:=C6 o d
 refine wpAny_While ?_
 refine codeAny_whileLoop (I:=λn s=>∃ m H,St c m H s/\jJ (λm H K=>wT c.T c.C m it H K) (λm H K=>wSs c.T c.C ib m H K R) n m H N) (λn s zq_=>?_) n ⟨m,H,S,hw⟩
 refine a7 λGg fin_=>?_
 refine pf zq_ λm H S hw=>?_
 refine fin_ ?_
 induction n with
 | zero=>exact False.elim hw
 | succ n=>
  refine wpAny_mono (ht.T m H s _ S hw) (λr s1 zq_=>?_) hE
  refine a7 λGg fin_=>?_
  obtain⟨H1,S1,h1⟩:=zq_
  refine fin_ ?_
  induction r with
  | true=>
   refine wpAny_mono (hb m H1 s1 _ R S1 h1) (λf s2 hf=>?_) hE
   induction f with
   | next=>
    refine a7 λGg fin_=>?_
    obtain⟨m2,H2,S2,h2⟩:=hf
    refine fin_ ?_
    exact⟨n,Nat.lt_succ_self _,m2,H2,S2,h2⟩
   | ret v=>exact hf
   | brk=>exact hf.elim
   | cont=>exact hf.elim
  | false=>exact wpAny_execs_nil ⟨m,H1,S1,h1⟩
theorem te{x:ch} : ∀ {ts:List Expr} {is:List Nat},dY x ts=some is->∃ nps:List (Str×Pos),ts=nps.map (λp=>Expr.Name p.1 p.2)/\nps.map (λp=>aL x p.1)=is.map some:=by
 intro z_
 induction z_ with
 | nil=>
  intro is h
  obtain rfl:=Option.some.inj h;exact⟨[],rfl,rfl⟩
 | cons t r ihz=>
  intro is h
  refine cG (Option.bind_eq_some_iff.mp h) λn hn h2=>?_
  refine(ql hn).elim λp eq1_=>?_
  subst eq1_
  refine cG (Option.bind_eq_some_iff.mp h2) λi hi h3=>?_
  refine cG (Option.map_eq_some_iff.mp h3) λjs hj eq1_=>?_
  subst eq1_
  refine cG (ihz hj) λnps eq1_ e=>?_
  subst eq1_
  exact⟨(n,p)::nps,rfl,by simp[hi,e]⟩
theorem tf(o:c.Ok)(d:c.Def):∀ (nps:List (Str×Pos)) (is:List Nat) (vs:List Value) {m:bd} {H:AH} {s:Shared},nps.map (λp=>aL c.x p.1)=is.map some->vs.length=is.length->(∀ v∈vs,er v≠.oth)->St c m H s->
 wpAny c.M c.A (assignInOrder (nps.map λp v=>assign (.Name p.1 p.2) c.env v) vs) (λ_ s'=>St c ((is.zip (vs.map er)).foldl (λm p=>bT m p.1 p.2) m) H s') (Ex c) s:=by
 intro z_
 induction z_ with
 | nil=>
  intro is vs m H s h hl hv S
  induction is with
  | cons _ _=>cases h
  | nil=>
   have:vs=[]:=by cases vs<;>first|rfl|cases hl
   subst this
   exact assignInOrder_nil S
 | cons q nps ihz=>
  intro is vs m H s h hl hv S
  cases is with
  | nil=>cases h
  | cons i is=>
   induction vs with
   | nil=>cases hl
   | cons v vs=>
    simp only[List.map_cons,List.cons.injEq] at h
    refine assignInOrder_cons (assign_Name (wpAny_mono (iJ o d S h.1 (hv v (.head _))) (λ_ s1 S1=>?_) λ_ _ z=>z))
    exact ihz is vs h.2 (by simpa using hl) (λw hw=>hv w (.tail _ hw)) S1
theorem AG(o:c.Ok)(d:c.Def):∀ (ns:List Str) (is:List Nat) (vs:List Value) {m:bd} {H:AH} {s:Shared},ns.map (λp=>aL c.x p)=is.map some->vs.length=is.length->(∀ v∈vs,er v≠.oth)->St c m H s->
 wpAny c.M c.A (assignInOrder (ns.map λn=>bindName c.env n) vs) (λ_ s'=>St c ((is.zip (vs.map er)).foldl (λm p=>bT m p.1 p.2) m) H s') (Ex c) s:=by
 intro z_
 induction z_ with
 | nil=>
  intro is vs m H s h hl hv S
  induction is with
  | cons _ _=>exfalso;cases h
  | nil=>
   have:vs=[]:=by induction vs<;>first|rfl|cases hl
   subst this
   exact assignInOrder_nil S
 | cons q nps ihz=>
  intro is vs m H s h hl hv S
  cases is with
  | nil=>exfalso;cases h
  | cons i is=>
   induction vs with
   | nil=>exfalso;cases hl
   | cons v vs=>
    simp only[List.map_cons,List.cons.injEq] at h
    refine assignInOrder_cons (wpAny_bindName (wpAny_mono (iJ o d S h.1 (hv v (.head _))) (λ_ s1 S1=>?_) λ_ _ z=>z))
    exact ihz is vs h.2 (by simpa using hl) (λw hw=>hv w (.tail _ hw)) S1
theorem tr{m:bd}{i j:Nat}{v w:AV}(h:i≠j):bT (bT m i v) j w=bT (bT m j w) i v:=by
 unfold bT;exact List.set_comm _ _ h
theorem yV{i:Nat}{v:AV} : ∀ (l:List (Nat×AV)) (m:bd),(∀ p∈l,p.1≠i)->l.foldl (λm p=>bT m p.1 p.2) (bT m i v)=bT (l.foldl (λm p=>bT m p.1 p.2) m) i v:=by
 intro z_
 induction z_ with
 | nil=>
  intro _ _
  exact rfl
 | cons p r ihz=>
  intro m h
  exact ac (List.foldl_cons ..) (ac (List.foldl_cons ..) (ac (tr (λe=>h p (.head _) e.symm)) (ac (ihz _ λq hq=>h q (.tail _ hq)) rfl)))
theorem yU:∀ (l:List (Nat×AV)) (m:bd),(l.map (·.1)).Nodup->l.reverse.foldl (λm p=>bT m p.1 p.2) m=l.foldl (λm p=>bT m p.1 p.2) m:=by
 intro z_
 induction z_ with
 | nil=>
  intro _ _
  exact rfl
 | cons p r ihz=>
  intro m h
  rw[List.map_cons,List.nodup_cons] at h
  refine ac List.reverse_cons (ac List.foldl_append (ac List.foldl_cons (ac List.foldl_cons (ac List.foldl_nil (ac (ihz _ h.2) ?_)))))
  exact(yV r m λq hq e=>h.1 (List.mem_map.mpr ⟨q,hq,e⟩)).symm
theorem ru:∀ {is:List Nat} {vs:List AV},is.length=vs.length->is.reverse.zip vs.reverse=(is.zip vs).reverse
 | [],[],_=>rfl
 | [],_::_,h=>by exfalso;cases h
 | _::_,[],h=>by cases h
 | i::is,v::vs,h=>by
  have hl:is.length=vs.length:=by simpa using h
  refine ac List.reverse_cons (ac List.reverse_cons (ac (List.zip_append (by simpa using hl)) (ac (ru hl) ?_)))
  show _=((i,v)::is.zip vs).reverse
  refine ac List.reverse_cons ?_
  rfl
set_option backward.match.sparseCases true in
theorem tU{g:Str->Pos->Bool} : ∀ nps:List (Str×Pos),((nps.map λp=>Expr.Name p.1 p.2).filterMap fun|.Name id pos=>if g id pos=true then some id else none|_=>none).length=(nps.map λp=>Expr.Name p.1 p.2).length->
 ((nps.map λp=>Expr.Name p.1 p.2).filterMap fun|.Name id pos=>if g id pos=true then some id else none|_=>none)=nps.map (·.1):=by
 intro z_
 induction z_ with
 | nil=>
  intro _
  exact rfl
 | cons q r ihz=>
  intro h
  rw[List.map_cons,List.filterMap_cons] at h⊢
  dsimp only at h⊢
  induction hg:g q.1 q.2 with
  | true=>
   rw[hg] at h
   simp only[if_true] at h⊢
   exact ac (ihz (by simpa using h)) (ac (List.map_cons ..) rfl)
  | false=>
   rw[hg] at h
   simp only[Bool.false_eq_true,if_false] at h
   have:=List.length_filterMap_le (fun|.Name id pos=>if g id pos=true then some id else none|_=>none) (r.map λp=>Expr.Name p.1 p.2)
   simp only[List.length_cons,List.length_map] at h this
   lia
set_option tactic.hygienic true in
set_option backward.match.sparseCases true in
theorem ll{nps:List (Str×Pos)}{k:Nat}{tp:Pos}{v:Expr}{env:Env}(hb:iI v=false) :
 swappedStores [.Tuple (nps.map λp=>Expr.Name p.1 p.2) k tp] v env=pure none\/swappedStores [.Tuple (nps.map λp=>Expr.Name p.1 p.2) k tp] v env=pure (some (nps.map (·.1))):=by
 cases v<;>first|exact .inl rfl|skip
 rename_i vs k' p'
 unfold swappedStores
 dsimp only
 split
 ·exact .inl rfl
 split
 ·exact .inl rfl
 split
 ·exact .inl rfl
 rename_i hnames
 split
 ·exact .inl rfl
 rename_i hf
 split
 ·rename_i hc
  exfalso
  unfold iI at hb
  dsimp only at hb
  rw[hc] at hb
  simp only[Bool.true_and,Bool.not_eq_false'] at hb
  exact hf hb
 ·refine .inr ?_
  simp only[Bool.or_eq_true,not_or,Bool.not_eq_true] at hnames
  have hlen:=hnames.1
  rw[bne_eq_false_iff_eq] at hlen
  exact congrArg (λl=>pure (some l)) (tU nps hlen)
theorem xL:∀ {l:List Nat},kG l=true->l.Nodup:=by
 intro z_
 induction z_ with
 | nil=>
  intro _
  exact .nil
 | cons a r ihz=>
  intro h
  unfold kG at h
  rw[Bool.and_eq_true,List.all_eq_true] at h
  refine List.nodup_cons.mpr ⟨λhm=>?_,ihz h.2⟩
  have:=h.1 a hm
  rw[Nat.beq_refl] at this
  exact Bool.noConfusion this
theorem HB(o:c.Ok)(d:c.Def){ts:List Expr}{k:Nat}{tp p:Pos}{v:Expr}{iv:IE}{is:List Nat}(h:ao c v iv)(hc:dJ v=false)(hb:iI v=false)(ht:dY c.x ts=some is)(hd:is.Nodup):bP c (.Assign [.Tuple ts k tp] v p) (.unp is iv):=λm H s N R S hw=>by
 refine a7 λGg fin_=>?_
 refine cG (te ht) λnps eq1_ e=>?_
 subst eq1_
 refine fin_ ?_
 have hlen:nps.length=is.length:=by have:=congrArg List.length e;simpa using this
 have hsw:swapsWithSole [.Tuple (nps.map λp=>Expr.Name p.1 p.2) k tp] v p.line c.env=pure false:=by
  unfold swapsWithSole
  exact dZ hc
 have unp:∀ {H1:AH} {s1:Shared} {u:Value},St c m H1 s1->jg H1 (er u) is.length (λvs=>N ((is.zip vs).foldl (λm p=>bT m p.1 p.2) m) H1)->
  ∃ (t:Addr) (xs:Array Value),u=.ref t/\IsTup s1.heap t xs/\xs.size=is.length/\(∀ v∈xs.toList,er v≠.oth)/\N ((is.zip (xs.toList.map er)).foldl (λm p=>bT m p.1 p.2) m) H1:=by
  intro H1 s1 u S1 h1
  refine a7 λGg fin_=>?_
  obtain⟨a,vs,hu,hH,hvl,hq⟩:=h1
  refine fin_ ?_
  refine a7 λGg fin_=>?_
  obtain⟨mm,lc,M,lo⟩:=S1
  refine fin_ ?_
  refine a7 λGg fin_=>?_
  refine fW (lG M hH) λxs IT eq1_ hx=>?_
  subst eq1_
  refine fin_ ?_
  exact⟨a,xs,bO hu,IT,by simpa using hvl,hx,hq⟩
 rcases ll (nps:=nps) (k:=k) (tp:=tp) (env:=c.env) hb with hs|hs
 ·refine Assign_Tuple (wpAny_mono (h.E m H s _ S hw) (λu s1 zq_=>?_) λ_ _ z=>z) hsw hs
  refine a7 λGg fin_=>?_
  obtain⟨H1,S1,hu,h1⟩:=zq_
  refine fin_ ?_
  refine a7 λGg fin_=>?_
  obtain⟨t,xs,rfl,IT,hsz,hx,hq⟩:=unp S1 h1
  refine fin_ ?_
  have ea:∀ l:List (Str×Pos),assignEach (l.map λp=>Expr.Name p.1 p.2) c.env=l.map λp=>(false,assign (.Name p.1 p.2) c.env):=by
   intro l
   induction l with
   | nil=>rfl
   | cons q r ih=>refine ac List.map_cons (ac List.map_cons (ac ih.symm ?_));rfl
  refine assign_Tuple_tuple rfl IT (by exact ac (ea ..) (ac (List.length_map ..) (ac (hlen ..) (ac (hsz ..) rfl)))) ?_ (λh' he=>?_)
  ·rw[ea,List.findIdx?_eq_none_iff]
   intro x hx
   refine a7 λGg fin_=>?_
   refine cG (List.mem_map.mp hx) λq _ eq1_=>?_
   subst eq1_
   refine fin_ ?_
   rfl
  ·refine ac (ea ..) (ac (List.map_map ..) ?_)
   have S2:St c m H1 { s1 with heap:=h' }:=by
    refine a7 λGg fin_=>?_
    obtain⟨mm,lc,M,lo⟩:=S1
    refine fin_ ?_
    exact em lo (M.grown (λb o e=>he b o (Nat.ne_of_lt (Heap.lt_size e)) e) s1.toks)
   exact wpAny_mono (tf o d nps is xs.toList e (by simpa using hsz) hx S2) (λ_ s2 S3=>⟨_,H1,S3,hq⟩) λ_ _ z=>z
 ·refine Assign_Tuple_swapped (wpAny_mono (h.E m H s _ S hw) (λu s1 zq_=>?_) λ_ _ z=>z) hsw hs
  refine a7 λGg fin_=>?_
  obtain⟨H1,S1,hu,h1⟩:=zq_
  refine fin_ ?_
  refine a7 λGg fin_=>?_
  obtain⟨t,xs,rfl,IT,hsz,hx,hq⟩:=unp S1 h1
  refine fin_ ?_
  refine ac (show(nps.map (·.1)).length=xs.size from by exact ac (List.length_map ..) (ac (hlen ..) (ac (hsz ..) rfl))) ?_
  refine unpackItems_tuple rfl IT λh' he=>?_
  have S2:St c m H1 { s1 with heap:=h' }:=by
   refine a7 λGg fin_=>?_
   obtain⟨mm,lc,M,lo⟩:=S1
   refine fin_ ?_
   exact em lo (M.grown (λb o e=>he b o (Nat.ne_of_lt (Heap.lt_size e)) e) s1.toks)
  refine wpAny_mono (AG o d (nps.map (·.1)).reverse is.reverse xs.toList.reverse ?_ (by simpa using hsz) (λv hv=>hx v (List.mem_reverse.mp hv)) S2) (λ_ s2 S3=>⟨_,H1,S3,?_⟩) λ_ _ z=>z
  ·refine ac List.map_reverse (ac List.map_reverse (ac List.map_map ?_))
   exact congrArg List.reverse e
  ·rw[List.map_reverse,ru (by simp[hsz]),yU _ _ (by
    have:(is.zip (xs.toList.map er)).map (·.1)=is:=by
     rw[List.map_fst_zip]
     simp[hsz]
    refine this.symm ▸ ?_;exact hd)]
   exact hq
end
noncomputable abbrev Fc.wi(c:Fc)(e:List (Addr×Obj)):Fc:={ c with ex:=e }
section
variable {c:Fc}
theorem Fc.Ok.wi(o:c.Ok)(e:List (Addr×Obj)):(c.wi e).Ok where
 K:=o.K
 top:=o.top
 aid:=o.aid
 std:=o.std
 glob:=⟨o.glob.g⟩
 below:=o.below
 frame:=o.frame
 fkind:=o.fkind
 ekind:=o.ekind
 eglob:=o.eglob
 eblt:=o.eblt
 lim:=o.lim
 G:=o.G
 units:=o.units
 depth:=o.depth
 calls:=o.calls
 calm:=o.calm
 globk:=o.globk
 def_:=λh=>let d:=o.def_ h;⟨d.same,d.kindEq,d.locals,d.cellAt,d.cellInj,d.noFree,d.free,d.slotInj⟩
 slotsLt:=o.slotsLt
theorem Fc.Def.wi(d:c.Def)(e:List (Addr×Obj)):(c.wi e).Def:=⟨d.same,d.kindEq,d.locals,d.cellAt,d.cellInj,d.noFree,d.free,d.slotInj⟩
theorem Ex.wi{e:List (Addr×Obj)}{x:Value}{s:Shared}(h:Ex (c.wi e) x s):Ex c x s:=h
theorem y7(o:c.Ok)(h:c.T.calm){x:Value}{s:Shared}{P:Prop}(hx:Ex c x s):P:=absurd hx.x (o.calm h)
noncomputable def jl(e:List (Addr×Obj)):Prop:=∀ p∈e,∀ v,p.2.data≠.cell v
theorem St.turn{e e':List (Addr×Obj)}{m:bd}{H:AH}{s:Shared}{h':Heap}{t:Nat}(d:c.Def)(S:St (c.wi (e++c.ex)) m H s)(hk:(e'.map (·.1)).Sublist (e.map (·.1)))(hn:jl e)
 (hin:∀ p∈e',h'.get? p.1=some p.2) (hs:∀ b o,b ∉ e.map (·.1)->s.heap.get? b=some o->h'.get? b=some o):St (c.wi (e'++c.ex)) m H { s with heap:=h',toks:=t }:=by
 obtain⟨mm,lc,M,lo⟩:=S
 obtain⟨news,F,N,O,D⟩:=M.out
 have hL:c.L ∉ e.map (·.1):=λhm=>by
  obtain⟨p,hp,hq⟩:=List.mem_map.mp hm
  exact(N p (List.mem_append_right _ (List.mem_append_right _ (List.mem_append_left _ hp)))).2.1 hq
 have hh:∀ b o,c.h₀.get? b=some o->b ∉ e.map (·.1):=λb o hb hm=>by
  obtain⟨p,hp,hq⟩:=List.mem_map.mp hm
  have:=(N p (List.mem_append_right _ (List.mem_append_right _ (List.mem_append_left _ hp)))).2.2
  rw[hq,hb] at this;cases this
 have other:∀ p∈news++(lc++c.ex),p.1 ∉ e.map (·.1):=λp hp hm=>by
  have O2:cg (e++(news++(lc++c.ex))):=by
   unfold cg at O⊢
   refine(List.Perm.nodup_iff ?_).mp O
   simp only[List.map_append]
   have p1:(List.map (·.1) lc++(List.map (·.1) e++List.map (·.1) c.ex)).Perm (List.map (·.1) e++(List.map (·.1) lc++List.map (·.1) c.ex)):=by
    refine ac (List.append_assoc ..).symm (ac (List.append_assoc ..).symm ?_)
    exact List.Perm.append_right _ List.perm_append_comm
   refine(List.Perm.append_left _ p1).trans ?_
   rw[← List.append_assoc,← List.append_assoc (List.map (·.1) e)]
   exact List.Perm.append_right _ List.perm_append_comm
  obtain⟨q,hq,e1⟩:=List.mem_map.mp hm
  exact O2.apart hq p hp e1.symm
 refine⟨mm,lc,⟨⟨news,⟨?_,λb o hb=>hs b o (hh b o hb) (F.keep b o hb),F.above⟩,?_,?_,D⟩,M.gens,M.os⟩,⟨λn i av hl hg=>?_,lo.cells,lo.inv⟩⟩
 ·obtain⟨oL,es,ep,g1,g2⟩:=F.ns
  exact⟨oL,es,ep,hs _ _ hL g1,g2⟩
 ·intro p hp
  rcases List.mem_append.mp hp with hp|hp
  ·have:=N p (List.mem_append_left _ hp)
   exact⟨hs _ _ (other p (List.mem_append_left _ hp)) this.1,this.2⟩
  ·rcases List.mem_append.mp hp with hp|hp
   ·have:=N p (List.mem_append_right _ (List.mem_append_left _ hp))
    exact⟨hs _ _ (other p (List.mem_append_right _ (List.mem_append_left _ hp))) this.1,this.2⟩
   ·rcases List.mem_append.mp hp with hp|hp
    ·have hm:p.1∈e.map (·.1):=hk.subset (List.mem_map_of_mem hp)
     obtain⟨q,hq,e1⟩:=List.mem_map.mp hm
     have:=N q (List.mem_append_right _ (List.mem_append_right _ (List.mem_append_left _ hq)))
     exact⟨hin p hp,e1▸this.2⟩
    ·have:=N p (List.mem_append_right _ (List.mem_append_right _ (List.mem_append_right _ hp)))
     exact⟨hs _ _ (other p (List.mem_append_right _ (List.mem_append_right _ hp))) this.1,this.2⟩
 ·unfold cg at O⊢
  simp only[List.map_append] at O⊢
  exact List.Nodup.sublist (List.Sublist.append_left (List.Sublist.append_left (List.Sublist.append_right hk _) _) _) O
 ·obtain⟨h1,v,h2,h3⟩:=lo.reads n i av hl hg
  refine⟨h1,v,h2,?_⟩
  rcases h3 with⟨k,e,r⟩|⟨k,a,ob,hc,hin',hdat⟩|⟨k,ob,mo,hin',_,_⟩
  ·exact .loc k e r
  ·refine .cell k a ob hc ?_ hdat
   rcases List.mem_append.mp hin' with z|z
   ·exact List.mem_append_left _ z
   ·rcases List.mem_append.mp z with z|z
    ·exact absurd hdat (hn _ z _)
    ·exact List.mem_append_right _ (List.mem_append_right _ z)
  ·refine absurd d.locals ?_
   exact(N _ (List.mem_append_right _ (List.mem_append_right _ hin'))).2.1
theorem St.more{e:List (Addr×Obj)}{m:bd}{H:AH}{s:Shared}{h':Heap}{t:Nat}{a:Addr}{ob:Obj}(S:St (c.wi e) m H s)(hk:∀ b o,s.heap.get? b=some o->h'.get? b=some o)(ha:s.heap.get? a=none)(ho:h'.get? a=some ob) :
 St (c.wi ((a,ob)::e)) m H { s with heap:=h',toks:=t }:=by
 obtain⟨mm,lc,M,lo⟩:=S
 obtain⟨⟨news,F,N,O,D⟩,g,os⟩:=M.grown hk t
 obtain⟨news₀,F₀,N₀,O₀,_⟩:=M.out
 obtain⟨news,F1,N1,O1,D1⟩:=M.out
 have fresh:∀ q∈news++(lc++e),q.1≠a:=λq hq z=>by rw[← z,(N1 q hq).1] at ha;cases ha
 refine⟨mm,lc,⟨⟨news,⟨F1.ns.keeps hk,λb o hb=>hk b o (F1.keep b o hb),F1.above⟩,λp hp=>?_,?_,D1⟩,g,os⟩,⟨λn i av hl hg=>?_,lo.cells,lo.inv⟩⟩
 ·have old:p∈news++(lc++e)->h'.get? p.1=some p.2/\p.1≠c.L/\c.h₀.get? p.1=none:=λq=>⟨hk _ _ (N1 p q).1,(N1 p q).2⟩
  rcases List.mem_append.mp hp with hp|hp
  ·exact old (List.mem_append_left _ hp)
  ·rcases List.mem_append.mp hp with hp|hp
   ·exact old (List.mem_append_right _ (List.mem_append_left _ hp))
   ·rcases List.mem_cons.mp hp with rfl|hp
    ·refine⟨ho,λz=>?_,?_⟩
     ·obtain⟨oL,_,_,g1,_⟩:=F1.ns
      rw[← z,ha] at g1;cases g1
     ·cases q:c.h₀.get? a with
      | none=>rfl
      | some o'=>have:=F1.keep _ _ q;rw[ha] at this;cases this
    ·exact old (List.mem_append_right _ (List.mem_append_right _ hp))
 ·unfold cg at O1⊢
  have:(List.map (·.1) (news++(lc++(a,ob)::e))).Perm (List.map (·.1) ((a,ob)::(news++(lc++e)))):=by
   refine List.Perm.map _ ?_
   refine ac (List.append_assoc ..).symm (ac (List.append_assoc ..).symm ?_)
   exact List.perm_middle
  refine(List.Perm.nodup_iff this).mpr ?_
  refine ac List.map_cons ?_;rw[List.nodup_cons]
  exact⟨λhm=>by obtain⟨q,hq,e1⟩:=List.mem_map.mp hm;exact fresh q hq e1,O1⟩
 ·obtain⟨h1,v,h2,h3⟩:=lo.reads n i av hl hg
  refine⟨h1,v,h2,?_⟩
  rcases h3 with⟨k,e,r⟩|⟨k,a',ob',hc,hin',hdat⟩|⟨k,ob',mo,hin',h4,h5⟩
  ·exact .loc k e r
  ·refine .cell k a' ob' hc ?_ hdat
   rcases List.mem_append.mp hin' with z|z
   ·exact List.mem_append_left _ z
   ·exact List.mem_append_right _ (.tail _ z)
  ·exact .own k ob' mo (.tail _ hin') h4 h5
theorem St.less{e:List (Addr×Obj)}{m:bd}{H:AH}{s:Shared}(d:c.Def)(S:St (c.wi (e++c.ex)) m H s)(hn:jl e):St c m H s:=by
 obtain⟨mm,lc,M,lo⟩:=S
 obtain⟨news,F,N,O,D⟩:=M.out
 have sub:(news++(lc++c.ex)).Sublist (news++(lc++(e++c.ex))):=
  List.Sublist.append_left (List.Sublist.append_left (List.sublist_append_right _ _) _) _
 refine⟨mm,lc,⟨⟨news,F,λp hp=>N p (sub.subset hp),?_,D⟩,M.gens,M.os⟩,⟨λn i av hl hg=>?_,lo.cells,lo.inv⟩⟩
 ·exact List.Nodup.sublist (sub.map _) O
 ·obtain⟨h1,v,h2,h3⟩:=lo.reads n i av hl hg
  refine⟨h1,v,h2,?_⟩
  rcases h3 with⟨k,e,r⟩|⟨k,a,ob,hc,hin',hdat⟩|⟨k,ob,mo,hin',_,_⟩
  ·exact .loc k e r
  ·refine .cell k a ob hc ?_ hdat
   rcases List.mem_append.mp hin' with z|z
   ·exact List.mem_append_left _ z
   ·rcases List.mem_append.mp z with z|z
    ·exact absurd hdat (hn _ z _)
    ·exact List.mem_append_right _ z
  ·refine absurd d.locals ?_
   exact(N _ (List.mem_append_right _ (List.mem_append_right _ hin'))).2.1
theorem St.here{e:List (Addr×Obj)}{m:bd}{H:AH}{s:Shared}(S:St (c.wi e) m H s):∀ p∈e,s.heap.get? p.1=some p.2:=λp hp=>by
 obtain⟨mm,lc,M,lo⟩:=S
 obtain⟨news,F,N,O,D⟩:=M.out
 exact(N p (List.mem_append_right _ (List.mem_append_right _ hp))).1
end
noncomputable def g7(x n:Int):Obj:={ cls:=.type "range_iterator",dict:=none,data:=.fields #[rawInt x,rawInt n,rawInt 1],slots:=#[] }
theorem jl.one{a:Addr}{x n:Int} : jl [(a,g7 x n)]:=λp hp v e=>by
 rw[List.mem_singleton.mp hp] at e;cases e
theorem pk{n i:Nat}(h:i<n):(cnt n).drop i=.int (i:Int)::(cnt n).drop (i+1):=by
 have hl:(cnt n).length=n:=by simp[cnt]
 refine ac (List.drop_eq_getElem_cons (by omega)) ?_
 congr 1
 simp[cnt]
theorem sE{n:Nat} : (cnt n).drop n=[]:=List.drop_of_length_le (by simp[cnt])
section
variable {c:Fc}
theorem Fe(h:Heap):h.get? h.objs.size=none:=by
 induction q:h.get? h.objs.size with
 | none=>rfl
 | some ob=>exact absurd (Heap.lt_size q) (Nat.lt_irrefl _)
section
variable {e:List (Addr×Obj)} {m:bd} {H:AH} {s:Shared} {t:Nat} {E:Value->Shared->Prop} {Q:Value->Shared->Prop} {n:Nat}
theorem St.pushed{ob:Obj}(S:St (c.wi e) m H s)(hf:ob.isFreed=false):St (c.wi ((s.heap.objs.size,ob)::e)) m H { s with heap:=s.heap.push ob,toks:=t }:=
 St.more S (λb o e=>Heap.get?_push_of_some _ e) (Fe _) (Heap.get?_push_size _ hf)
theorem St.pushed2{ob oc:Obj}(S:St (c.wi e) m H s)(hf:ob.isFreed=false):St (c.wi (((s.heap.push oc).objs.size,ob)::e)) m H { s with heap:=(s.heap.push oc).push ob,toks:=t }:=
 St.more S (λb o e=>Heap.get?_push_of_some _ (Heap.get?_push_of_some _ e)) (by
  induction q:s.heap.get? (s.heap.push oc).objs.size with
  | none=>rfl
  | some ob=>have:=Heap.lt_size q;rw[Heap.size_push] at this;exact absurd (Nat.lt_trans (Nat.lt_succ_self _) this) (Nat.lt_irrefl _)) (Heap.get?_push_size _ hf)
theorem qa{n:Nat} : Builtin.Range.rangeSize 0 (n:Int) 1=(n:Int)-0:=by refine ac (rangeSize_one ..) ?_;split<;>omega
theorem nZ{n:Nat}(h:n<=100):Builtin.Range.small 0 (n:Int) 1=true:=small_one (by decide) (by decide) (Int.natCast_nonneg _) (by omega)
theorem n8{tk:Tok}(S:St (c.wi e) m H s)(h:n<=100)(k:∀ I s',St (c.wi ((I,g7 ((0:Nat):Int) (n-((0:Nat):Int)))::e)) m H s'->Q (.ref I) s') :
 wpAny c.M c.A (call (.type "range") [.int n tk]) (λr=>wpAny c.M c.A (pyIter r) Q E) E s:=by
 refine call_range_1 (wpAny_pyIter_range (IsRange.new _ _ _ _ _ _ _) (nZ h) ?_)
 refine qa ▸ ?_
 exact k _ _ (St.pushed2 S rfl)
theorem St.step{I:Addr}{a b:Int}{h':Heap}{o':Obj}(d:c.Def)(S:St (c.wi ([(I,g7 a b)]++c.ex)) m H s)(g:h'.get? I=some o')(keep:∀ b o,b≠I->s.heap.get? b=some o->h'.get? b=some o) :
 St (c.wi ([(I,o')]++c.ex)) m H { s with heap:=h',toks:=t }:=
 St.turn (e:=[(I,g7 a b)]) (e':=[(I,o')]) d S (List.Sublist.refl _) .one (List.forall_mem_singleton.mpr g) λb o hb e=>keep b o (λz=>hb (z▸.head _)) e
theorem St.last{I:Addr}{a b:Int}{h':Heap}(d:c.Def)(S:St (c.wi ([(I,g7 a b)]++c.ex)) m H s)(keep:∀ b o,b≠I->s.heap.get? b=some o->h'.get? b=some o) :
 St c m H { s with heap:=h',toks:=t }:=
 St.turn (e:=[(I,g7 a b)]) (e':=[]) d S (List.nil_sublist _) .one (λp hp=>nomatch hp) λb o hb e=>keep b o (λz=>hb (z▸.head _)) e
end
noncomputable def No:Value->Shared->Prop:=λ_ _=>False
noncomputable def KA(I:Nat->Shared->Prop)(n:Nat)(s:Shared):Prop:=∃ m,m<n/\I m s
section
variable (M:Model) (A:Around) (I:Nat->Shared->Prop) (n:Nat) (R:Result->Shared->Prop)
noncomputable def Ox:Flow->Shared->Prop
 | .next|.cont=>KA I n
 | .brk=>R (.ok .next)
 | .ret v=>R (.ok (.ret v))
noncomputable def Of(target:Expr)(env:Env)(body:List Stmt):Option Value->Shared->Prop
 | none=>R (.ok .next)
 | some v=>wpAny M A (assign target env v) (λ_=>wpAny M A (execs body env) (Ox I n R) No) No
end
theorem CY{prog:Program}{w:World}{A:Around}{R:Result->Shared->Prop}{target:Expr}{it:Value}{body:List Stmt}{env:Env}{s:Shared}(I:Nat->Shared->Prop)
 (turn:∀ n s,I n s->wpAny (model prog w) A (pyNext it) (Of (model prog w) A I n R target env body) No s) (n:Nat) (h:I n s) (ht:∀ v,letOwnedTupleGo target it v=pure ()):codeAny (model prog w) A (.forLoop target it body [] env) R s:=by
 refine codeAny_forLoop I (λn s hI=>wpAny_mono (turn n s hI) (λr s1 h1=>?_) λ_ _ z=>z.elim) n h ht
 induction r with
 | none=>exact wpAny_execs_nil h1
 | some v=>exact wpAny_mono h1 (λ_ s2 h2=>wpAny_mono h2 (λf s3 h3=>by induction f<;>exact h3) λ_ _ z=>z.elim) λ_ _ z=>z.elim
inductive sY(c:Fc)(I:Addr)(n:Nat)(i:Nat)(B:bd->AH->NP->Prop)(N:NP)(k:Nat)(s:Shared):Prop
 | mk (j:Nat) (m:bd) (H:AH) (hj:j<=n) (hk:k=n+1-j) (S:St (c.wi ([(I,g7 (j:Int) (n-(j:Int)))]++c.ex)) m H s) (hf:lj i B ((cnt n).drop j) m H N):sY c I n i B N k s
theorem yS(o:c.Ok)(d:c.Def)(calm:c.T.calm){x:Str}{i n k:Nat}{I:Addr}{b:List Stmt}{ib:List IS}{px:Pos}{N:NP}{R:au}{RR:Result->Shared->Prop}{s:Shared}(hl:aL c.x x=some i)(hb:∀ ex,dW (c.wi ex) b ib)
 (hN:∀ m H s,St c m H s->N m H->RR (.ok .next) s) (hR:∀ m H v s,St c m H s->er v≠.oth->R (er v) H->RR (.ok (.ret v)) s) (h:sY c I n i (λm H K=>wSs c.T c.C ib m H K R) N k s) :
 wpAny c.M c.A (pyNext (.ref I)) (Of c.M c.A (sY c I n i (λm H K=>wSs c.T c.C ib m H K R) N) k RR (.Name x px) c.env b) No s:=by
 obtain⟨j,m,H,hj,rfl,S,hf⟩:=h
 have hit:=S.here _ (.head _)
 by_cases hlt:j<n
 ·refine wpAny_pyNext_range_item hit (by omega) λh' hit' hs'=>?_
  rw[pk hlt] at hf
  unfold lj at hf
  have e2:(n:Int)-j-1=(n:Int)-((j+1:Nat):Int):=by omega
  rw[show(j:Int)+1=((j+1:Nat):Int) from rfl,e2] at hit'
  have S3:=St.step (o':=g7 ((j+1:Nat):Int) (n-((j+1:Nat):Int))) (t:=s.toks+1) d S hit' λb o n e=>(hs'.2 b n).trans e
  refine wpAny_assign_Name (wpAny_mono (iJ (E:=No) (o.wi _) (d.wi _) S3 hl (v:=.int j s.toks) (λz=>nomatch z)) (λ_ s4 S4=>?_) λ_ _ z=>z)
  refine wpAny_mono (hb ([(I,g7 ((j+1:Nat):Int) (n-((j+1:Nat):Int)))]++c.ex) _ _ s4 _ R S4 hf) (λf s5 hfl=>?_) λx s z=>y7 o calm (Ex.wi z)
  induction f with
  | next=>
   obtain⟨m5,H5,S5,h5⟩:=hfl
   exact⟨n+1-(j+1),by omega,j+1,m5,H5,hlt,rfl,S5,h5⟩
  | ret v=>
   obtain⟨m5,H5,S5,ho5,h5⟩:=hfl
   exact hR _ _ _ _ (St.less (e:=[(I,_)]) d S5 .one) ho5 h5
  | brk=>exact hfl.elim
  | cont=>exact hfl.elim
 ·obtain rfl:j=n:=by omega
  rw[sE] at hf
  exact wpAny_pyNext_range_end rfl hit (by omega) λh' he'=>hN _ _ _ (St.last (t:=s.toks) d S he') hf
theorem HE(o:c.Ok)(d:c.Def){x r:Str}{i:Nat}{e:Expr}{ie:IE}{b:List Stmt}{ib:List IS}{px pr pc p:Pos}(hn:bU e=true)(hr:bj c.x r=some (.blt .range))(hd:(r==("__debug__" : Str))=false)(hl:aL c.x x=some i)
 (he:ao c e ie) (hb:∀ ex,dW (c.wi ex) b ib):bP c (.For (.Name x px) (.Call (.Name r pr) [e] [] pc) b [] p) (.forR i ie ib):=λm H s N R S hw=>by
 refine hw.elim λcalm hw=>?_
 refine wpAny_For (Call_ (fu o S hr hd (gJ (by refine ac List.all_cons (ac hn ?_);rfl) ?_)))
 refine spliced_more (wpAny_mono (he.E m H s _ S hw) (λu s1 z=>spliced_none ?_) λ_ _ z=>z) (bR hn)
 obtain⟨H1,S1,ho,h1⟩:=z
 refine fW (CI h1) λn hk h100 hf=>?_
 refine(a9 hk).elim λtk eq1_=>?_
 subst eq1_
 refine n8 (c:=c) (e:=c.ex) S1 h100 λI s2 S2=>?_
 exact CY (sY c I n i (λm H K=>wSs c.T c.C ib m H K R) N) (λk s h=>yS o d calm hl hb (λm H s S h=>⟨m,H,S,h⟩) (λm H v s S ho h=>⟨m,H,S,ho,h⟩) h) (n+1) ⟨0,m,H1,Nat.zero_le _,rfl,S2,hf⟩ λ_=>rfl
end
theorem fM(hc:∀ n,jm n)(hu:rm):∀ (n:Nat) (c:Fc),c.Ok->c.Def->∀ st,bP c st (cS c.x n st):=by
 intro z_
 induction z_ with
 | zero=>
  intro _ _ _ _
  exact .bad
 | succ n ihz=>
  intro c o d st
  have E:=lJ hc 30 c o
  have ih:∀ ex st,bP (c.wi ex) st (cS c.x n st):=λex st=>ihz (c.wi ex) (o.wi ex) (d.wi ex) st
  have ihs:∀ ex (l:List Stmt),dW (c.wi ex) l (l.map (cS c.x n)):=λex l=>mw l λst _=>ih ex st
  cases st with
  | Expr e p=>exact .ok λh=>BC o (E _) (by simpa using h)
  | Assign ts v p=>
   refine iT (P:=bP c (.Assign ts v p)) .bad λt ht=>?_
   subst ht
   refine HS (P:=λt w=>bP c (.Assign [t] v p) (match w with
    | .name id _=>lm (aL c.x id) λi=>.set i (cE c.x 30 v)
    | .attr o a _=>xI (!dJ v&&dS o) (lm (c.x.aid a) λk=>.setA (cE c.x 30 o) k (cE c.x 30 v))
    | .sub o i _=>xI (!dJ v&&!eI i) (.setI (cE c.x 30 o) (cE c.x 30 i) (cE c.x 30 v))
    | .tup ts _ _=>xI (!dJ v&&!iI v) (lm (dY c.x ts) λis=>xI (kG is) (.unp is (cE c.x 30 v)))
    | _=>.bad)) λw _=>?_
   induction w with
   | name id q=>exact .opt λi hi=>HC o d hu (E _) hi
   | attr ob a q=>
    refine .ok λh=>.opt λk hk=>?_
    rw[Bool.and_eq_true] at h
    exact BA o (E _) (E _) (by simpa using h.1) hk
   | sub ob i q=>
    refine .ok λh=>?_
    rw[Bool.and_eq_true] at h
    exact Bz (E _) (E _) (E _) (by simpa using h.1)
   | tup ts k q=>
    refine .ok λh=>.opt λis hi=>.ok λhn=>?_
    rw[Bool.and_eq_true] at h
    exact HB o d (E _) (by simpa using h.1) (by simpa using h.2) hi (xL hn)
   | _=>exact .bad
  | If t a b p=>exact K9 (E _) (ihs c.ex _) (ihs c.ex _)
  | While t a b p=>
   induction b with
   | nil=>exact vh o d (E _) (ihs c.ex _)
   | cons _ _=>exact .bad
  | For t i a b p=>
   induction b with
   | cons _ _=>exact .bad
   | nil=>
    refine .opt λid hid=>.opt λq hq=>.ok λh=>.opt λj hj=>?_
    obtain⟨px,rfl⟩:=ql hid
    obtain⟨r,e⟩:=q
    obtain⟨pr,pc,rfl,hr⟩:=jO hq
    rw[Bool.and_eq_true] at h
    exact HE o d h.1 hr (by simpa using h.2) hj (E _) λex=>ihs ex _
  | Return e p=>
   induction e with
   | none=>exact BB
   | some e=>exact HD (E _)
  | _=>exact .bad
theorem gA{env:Env}(x:Str):∀ names:List (Str×NameKind),
 (names.map λ(n,k)=>if(k==NameKind.free&&env.scope.kind==.function&&env.kindOf n==some .cell) then(n,NameKind.cell) else(n,k)).lookup x =
  (names.lookup x).map λk=>if(k==NameKind.free&&env.scope.kind==.function&&env.kindOf x==some .cell) then .cell else k
 | []=>rfl
 | (n,k)::r=>by
  have ih:=@gA env x r
  refine ac List.map_cons ?_
  dsimp only
  induction hx:x==n with
  | true=>
   have e:x=n:=eq_of_beq hx
   subst e
   simp only[List.lookup_cons,beq_self_eq_true,Option.map_some]
   generalize(k==NameKind.free&&env.scope.kind==.function&&env.kindOf x==some .cell)=b
   induction b<;>simp only[Bool.false_eq_true,if_false,if_true,List.lookup_cons,beq_self_eq_true]
  | false=>
   generalize(k==NameKind.free&&env.scope.kind==.function&&env.kindOf n==some .cell)=b
   induction b<;>simp only[Bool.false_eq_true,if_false,if_true,List.lookup_cons,hx]<;>exact ih
theorem eG{env:Env}{sc:Scope}{cl:List (Str×Addr)}{C:Addr}(x:Str):(compEnvC sc cl C env).kindOf x=(sc.names.lookup x).map λk=>if(k==NameKind.free&&env.scope.kind==.function&&env.kindOf x==some .cell) then .cell else k:=
 gA x sc.names
theorem q8{env:Env} : ∀ (names:List (Str×NameKind)) (cs:List (Str×Addr)),(∀ p∈names,p.2=.free->∃ a,env.cells.lookup p.1=some a)->(∀ q∈cs,env.cells.lookup q.1=some q.2)->
 ∃ cl,(forIn names cs (λ(x:Str×NameKind) r=>do if(x.2==NameKind.free)=true then do let a ← cellOf env x.1;pure (ForInStep.yield ((x.1,a)::r)) else pure (ForInStep.yield r)):Sem (List (Str×Addr)))=pure cl/\
  (∀ q∈cl,env.cells.lookup q.1=some q.2)/\(∀ q∈cs,q∈cl)/\∀ p∈names,p.2=.free->∃ a,(p.1,a)∈cl:=by
 intro z_
 induction z_ with
 | nil=>
  intro cs _ hc
  exact⟨cs,by exact ac (List.forIn_nil ..) rfl,hc,λ_ h=>h,λ_ h=>nomatch h⟩
 | cons p r ihz=>
  intro cs hf hc
  refine ac (List.forIn_cons ..) ?_
  by_cases hp:p.2=.free
  ·refine(hf p (.head _) hp).elim λa ha=>?_
   obtain⟨cl,h1,h2,h3,h4⟩:=ihz ((p.1,a)::cs) (λq hq=>hf q (.tail _ hq)) (λq hq=>by rcases List.mem_cons.mp hq with rfl|hq;exact ha;exact hc q hq)
   refine⟨cl,?_,h2,λq hq=>h3 q (.tail _ hq),λq hq hqf=>?_⟩
   ·refine ac (if_pos (by refine hp.symm ▸ ?_;rfl)) ?_
    have e:cellOf env p.1=pure a:=by unfold cellOf;exact ac (ha ..) rfl
    refine e.symm ▸ ?_
    exact h1
   ·rcases List.mem_cons.mp hq with rfl|hq
    ·exact⟨a,h3 _ (.head _)⟩
    ·exact h4 q hq hqf
  ·refine sy (ihz cs (λq hq=>hf q (.tail _ hq)) hc) λcl h1 h2 h3 h4=>?_
   refine⟨cl,?_,h2,h3,λq hq hqf=>?_⟩
   ·refine ac (if_neg (by simpa using hp)) ?_
    exact h1
   ·rcases List.mem_cons.mp hq with rfl|hq
    ·exact absurd hqf hp
    ·exact h4 q hq hqf
theorem lr{cl:List (Str×Addr)}{env:Env}(h:∀ q∈cl,env.cells.lookup q.1=some q.2){n:Str}{a:Addr}(hm:(n,a)∈cl):cl.lookup n=env.cells.lookup n:=by
 induction cl with
 | nil=>exfalso;cases hm
 | cons q r ih=>
  refine ac List.lookup_cons ?_
  induction hx:n==q.1 with
  | true=>exact(eq_of_beq hx)▸((h q (.head _)).symm)
  | false=>
   rcases List.mem_cons.mp hm with rfl|hm
   ·simp at hx
   ·exact ih (λq hq=>h q (.tail _ hq)) hm
theorem q7{sc:Scope}{env:Env}(h:∀ p∈sc.names,p.2=.free->∃ a,env.cells.lookup p.1=some a):∃ cl,closureFor sc env=pure cl/\∀ n,(n,NameKind.free)∈sc.names->cl.lookup n=env.cells.lookup n:=by
 refine sy (q8 sc.names [] h (λ_ h=>nomatch h)) λcl h1 h2 _ h4=>?_
 refine⟨cl,?_,λn hn=>?_⟩
 ·unfold closureFor
  have:=h1
  simp only[bind_pure]
  exact this
 ·refine(h4 _ hn rfl).elim λa ha=>?_
  exact lr h2 ha
section
variable {prog:Program} {w:World} {A:Around} {R:Result->Shared->Prop} {s:Shared}
section
variable (M:Model) (A:Around) (elt:Expr) (env:Env) (acc:Value) (G:Shared->Prop)
noncomputable def Mt(s:Shared):Prop:=wpAny M A (eval elt env) (λx=>wpAny M A (call (.builtin "list.append") [acc,x]) (λ_=>G) No) No s
noncomputable def QN(ok:Bool)(s:Shared):Prop:=if ok=true then Mt M A elt env acc G s else G s
noncomputable def Dz(ifs:List Expr):Shared->Prop:=wpAny M A (forIn ifs true λc r=>if r=true then do let ok ← isTrue c env (eval c env);pure (ForInStep.yield ok) else pure (ForInStep.yield r)) (QN M A elt env acc G) No
noncomputable def Kt(target:Expr)(ifs:List Expr)(v:Value):Shared->Prop:=wpAny M A (assign target env v) (λ_=>Dz M A elt env acc G ifs) No
noncomputable def Mh(target:Expr)(it:Value)(ifs:List Expr)(R:Result->Shared->Prop):Option Value->Shared->Prop
 | none=>R (.ok .next)
 | some v=>wpAny M A (letOwnedTupleGo target it v) (λ_=>Kt M A elt env acc G target ifs v) No
end
theorem nf{elt target iter:Expr}{ifs:List Expr}{scope:Scope}{pos:Pos}{it acc:Value}{env:Env}(I:Nat->Shared->Prop)
 (turn:∀ n s,I n s->wpAny (model prog w) A (pyNext it) (Mh (model prog w) A elt env acc (KA I n) target it ifs R) No s)
 (n:Nat) (h:I n s):codeAny (model prog w) A (.compLoop (.ListComp elt [⟨target,iter,ifs,0⟩] scope pos) 0 it acc env) R s:=by
 refine codeAny_loop rfl I (λn s hI=>?_) n h
 refine wpAny_noted (m:=compTurn (.ListComp elt [⟨target,iter,ifs,0⟩] scope pos) 0 it acc env) ?_
 refine ac (compTurn_list ..) ?_
 refine wpAny_bind (wpAny_standAt (wpAny_bind (wpAny_mono (turn n s hI) (λr s₁ h₁=>?_) λ_ _ h'=>h'.elim)))
 induction r with
 | none=>exact wpAny_pure h₁
 | some v=>
  refine wpAny_bind (wpAny_mono h₁ (λ_ s₁' h₁'=>wpAny_bind (wpAny_mono h₁' (λ_ s₂ h₂=>wpAny_bind (wpAny_mono h₂ (λok s₃ h₃=>?_) λ_ _ h'=>h'.elim)) λ_ _ h'=>h'.elim)) λ_ _ h'=>h'.elim)
  induction ok with
  | false=>exact wpAny_pure ⟨rfl,h₃⟩
  | true=>
   exact wpAny_bind (wpAny_bind (wpAny_mono h₃ (λx s₄ h₄=>wpAny_bind (wpAny_mono h₄ (λ_ s₅ h₅=>wpAny_pure (wpAny_pure ⟨rfl,h₅⟩)) λ_ _ h'=>h'.elim)) λ_ _ h'=>h'.elim))
end
theorem xK{h:Heap}{a:Addr}{m:Str->Option Value}(hn:h.Ns a m):∃ o,h.get? a=some o/\Hh o m/\∀ v,o.data≠.cell v:=by
 refine na hn λo es ep h1 h2 h3=>?_
 exact⟨o,h1,λh' a' e=>⟨o,es,ep,e,h2,h3⟩,λv e=>by rw[h2] at e;cases e⟩
noncomputable abbrev eY(x:ch)(tg:List Str):List Nat:=(List.range tg.length).map (x.nx + ·)
noncomputable abbrev Fc.inn(c:Fc)(sc:Scope)(cl:List (Str×Addr))(C:Addr)(tg:List Str)(ex:List (Addr×Obj))(mm₀:Str->Option Value)(lc₀:List (Addr×Obj)):Fc:=
 { c with env:=compEnvC sc cl C c.env,x:=c.x.into sc tg,ex:=ex,inv:=λmm lc=>mm=mm₀/\lc=lc₀ }
theorem aB{α:Type}{l:List (Str×α)}{n:Str}{a:α}(h:l.lookup n=some a):(n,a)∈l:=by
 induction l with
 | nil=>exact fI h
 | cons q r ih=>
  rw[List.lookup_cons] at h
  induction hx:n==q.1 with
  | true=>rw[hx] at h;obtain rfl:=Option.some.inj h;rw[eq_of_beq hx];exact .head _
  | false=>rw[hx] at h;exact .tail _ (ih h)
structure dA(x:ch)(sc:Scope)(tg:List Str):Prop where
 top:x.top=true
 kind:sc.kind=.function
 nocell:∀ p∈sc.names,p.2≠.cell
 loc:∀ p∈sc.names,p.2=.local->sc.names.lookup p.1=some .local
 free:∀ p∈sc.names,p.2=.free->x.kind p.1=some .cell
 own:∀ p∈sc.names,p.2=.local->p.1∈tg\/x.slots.lookup p.1=none
 tgt:∀ t∈tg,sc.names.lookup t=some .local
theorem nb{x:ch}{sc:Scope}{tg:List Str}(h:nc x sc tg=true):dA x sc tg:=by
 unfold nc at h
 simp only[Bool.and_eq_true,List.all_eq_true,Bool.or_eq_true,bne_iff_ne,beq_iff_eq,List.contains_iff_mem,Option.isNone_iff_eq_none] at h
 refine h.elim λh1_ h4=>h1_.elim λh2_ h3=>h2_.elim λh1 h2=>?_
 refine⟨h1,h2,λp hp=>(h3 p hp).1.1.1,λp hp hl=>?_,λp hp hl=>?_,λp hp hl=>?_,h4⟩
 ·rcases(h3 p hp).1.1.2 with z|z
  ·exact absurd hl z
  ·exact z
 ·rcases(h3 p hp).1.2 with z|z
  ·exact absurd hl z
  ·exact z
 ·rcases(h3 p hp).2 with(z|z)|z
  ·exact absurd hl z
  ·exact .inl z
  ·exact .inr z
section
variable {c:Fc} {sc:Scope} {cl:List (Str×Addr)} {C:Addr} {tg:List Str} {ex:List (Addr×Obj)} {mm:Str->Option Value} {lc:List (Addr×Obj)}
theorem yF(o:c.Ok)(hs:dA c.x sc tg):(c.inn sc cl C tg ex mm lc).Ok where
 K:=o.K
 top:=o.top
 aid:=o.aid
 std:=o.std
 glob:=⟨o.glob.g⟩
 below:=o.below
 frame:=o.frame
 fkind:=o.fkind
 ekind:=hs.kind
 eglob:=o.eglob
 eblt:=o.eblt
 lim:=o.lim
 G:=o.G
 units:=o.units
 depth:=o.depth
 calls:=o.calls
 calm:=o.calm
 globk:=λn (h:sc.names.lookup n=some .globalImplicit)=>by
  show(compEnvC sc cl C c.env).kindOf n=_
  refine ac (eG ..) (ac (h ..) ?_);rfl
 def_:=λh=>nomatch h
 slotsLt:=λn i h=>by
  have h':=aB h
  rcases List.mem_append.mp h' with z|z
  ·have:=(List.of_mem_zip z).2
   obtain⟨k,hk,e⟩:=List.mem_map.mp this
   have:=List.mem_range.mp hk
   show i<c.x.nx+tg.length
   have e:c.x.nx+k=i:=e
   lia
  ·show i<c.x.nx+tg.length
   have h2:((tg.zip (eY c.x tg))++c.x.slots).lookup n=some i:=h
   rw[List.lookup_append] at h2
   induction q:(tg.zip (eY c.x tg)).lookup n with
   | some j=>
    rw[q] at h2
    cases h2
    have:=(List.of_mem_zip (aB q)).2
    obtain⟨k,hk,e⟩:=List.mem_map.mp this
    have:=List.mem_range.mp hk
    have e:c.x.nx+k=i:=e
    lia
   | none=>
    rw[q] at h2
    have:=o.slotsLt n i h2
    lia
theorem JA(o:c.Ok)(d:c.Def)(hs:dA c.x sc tg)(hcl:∀ n,(n,NameKind.free)∈sc.names->cl.lookup n=c.env.cells.lookup n){m m':bd}{H:AH}{s:Shared}{oC:Obj}{mo:Str->Option Value}
 (M:(c.wi ex).Me mm lc H s) (lo:lb (c.wi ex) mm lc m) (hC:(C,oC)∈ex) (hN:Hh oC mo)
 (hm1:∀ j av,j<c.x.nx->getL m' j=some av->getL m j=some av) (hm2:∀ n j av,(n,j)∈tg.zip (eY c.x tg)->getL m' j=some av->∃ v,er v=av/\av≠.oth/\mo n=some v):St (c.inn sc cl C tg ex mm lc) m' H s:=by
 refine⟨mm,lc,M,⟨λn i av hl hg=>?_,λhC'=>?_,rfl,rfl⟩⟩
 ·have hk:sc.names.lookup n=some .local\/sc.names.lookup n=some .cell\/sc.names.lookup n=some .free:=iZ hl
  have hlk:((tg.zip (eY c.x tg))++c.x.slots).lookup n=some i:=by
   unfold aL at hl
   split at hl
   ·exact hl
   ·exact hl
   ·exact hl
   ·exfalso;cases hl
  rw[List.lookup_append] at hlk
  induction q:(tg.zip (eY c.x tg)).lookup n with
  | some j=>
   rw[q] at hlk
   cases hlk
   have hz:=aB q
   refine fW (hm2 n i av hz hg) λv he ho hv=>?_
   refine⟨ho,v,he,.own ?_ oC mo hC hN hv⟩
   refine ac (eG ..) (ac (hs.tgt n (List.of_mem_zip hz).1) ?_);rfl
  | none=>
   rw[q] at hlk
   have hlk:c.x.slots.lookup n=some i:=hlk
   have hlt:=o.slotsLt n i hlk
   have hg':getL m i=some av:=hm1 i av hlt hg
   have hfree:sc.names.lookup n=some .free:=by
    rcases hk with hk|hk|hk
    ·rcases hs.own _ (aB hk) rfl with z|z
     ·exfalso
      have key:∀ (l:List Str) (r:List Nat),r.length=l.length->n∈l->(l.zip r).lookup n≠none:=by
       intro l
       induction l with
       | nil=>intro r _ h;exfalso;cases h
       | cons x l ih=>
        intro r hr hm'
        induction r with
        | nil=>exfalso;cases hr
        | cons y r=>
         refine ac List.zip_cons_cons (ac List.lookup_cons ?_)
         induction hx:n==x with
         | true=>exact λz=>nomatch z
         | false=>
          rcases List.mem_cons.mp hm' with rfl|hm'
          ·simp at hx
          ·exact ih r (by simpa using hr) hm'
      exact key tg (eY c.x tg) (by simp) z q
     ·rw[hlk] at z;exfalso;cases z
    ·exact absurd rfl (hs.nocell _ (aB hk))
    ·exact hk
   have hcell:=hs.free _ (aB hfree) rfl
   have hcell':c.env.kindOf n=some .cell:=(d.kindEq n).trans hcell
   have hl2:aL (c.wi ex).x n=some i:=by
    unfold aL
    exact hcell▸hlk
   obtain⟨h1,v,h2,h3⟩:=lo.reads n i av hl2 hg'
   refine⟨h1,v,h2,?_⟩
   rcases h3 with⟨k,_,_⟩|⟨k,a,ob,hc,hin,hdat⟩|⟨k,_,_,_,_,_⟩
   ·have k:c.env.kindOf n=some .local:=k
    rw[hcell'] at k;exfalso;cases k
   ·refine .cell ?_ a ob ?_ hin hdat
    ·refine ac (eG ..) (ac (hfree ..) ?_)
     simp[hcell',o.ekind]
    ·exact(hcl n (aB hfree))▸hc
   ·have k:c.env.kindOf n=some .local:=k
    rw[hcell'] at k;exfalso;cases k
 ·exfalso
  have hC':C=c.L:=hC'
  obtain⟨news,F,N,O,D⟩:=M.out
  exact(N _ (List.mem_append_right _ (List.mem_append_right _ hC))).2.1 hC'
theorem sm{m m':bd}{H:AH}{s:Shared}(S:St (c.inn sc cl C tg ex mm lc) m' H s)(lo:lb (c.wi ex) mm lc m):St (c.wi ex) m H s:=by
 obtain⟨mm',lc',M,lo'⟩:=S
 refine lo'.inv.elim λeq1_ eq2_=>?_
 subst eq1_
 subst eq2_
 exact⟨mm',lc',M,lo⟩
end
structure nH(c:Fc)(I:Addr)(IO:List AV->Obj->Prop)(ok:AH->Prop):Prop where
 nocell:∀ rest o,IO rest o->∀ v,o.data≠.cell v
 next:∀ (ex:List (Addr×Obj)) (m:bd) (H:AH) (s:Shared) (v:AV) (rest:List AV) (o:Obj) (Q:Option Value->Shared->Prop),St (c.wi ex) m H s->ok H->IO (v::rest) o->s.heap.get? I=some o->
  (∀ u h' o' t,er u=v->v≠.oth->IO rest o'->h'.get? I=some o'->Heap.SameBut I s.heap h'->Q (some u) { s with heap:=h',toks:=t })->wpAny c.M c.A (pyNext (.ref I)) Q No s
 stop:∀ (ex:List (Addr×Obj)) (m:bd) (H:AH) (s:Shared) (o:Obj) (Q:Option Value->Shared->Prop),St (c.wi ex) m H s->ok H->IO [] o->s.heap.get? I=some o->
  (∀ h',Heap.ExtBut I s.heap h'->Q none { s with heap:=h' })->wpAny c.M c.A (pyNext (.ref I)) Q No s
 again:∀ (s:Shared) rest o (Q:Value->Shared->Prop),IO rest o->s.heap.get? I=some o->Q (.ref I) s->wpAny c.M c.A (pyIter (.ref I)) Q No s
 own:∀ elts x1 tp (s:Shared) rest o (v:Value) (Q:Unit->Shared->Prop),IO rest o->s.heap.get? I=some o->Q () s->wpAny c.M c.A (letOwnedTupleGo (.Tuple elts x1 tp) (.ref I) v) Q No s
section
variable {c:Fc} {sc:Scope} {cl:List (Str×Addr)} {C D I:Addr} {tg:List Str}
noncomputable abbrev ey(C:Addr)(oC:Obj)(D:Addr)(ys:Array Value)(n:Nat)(I:Addr)(oI:Obj):List (Addr×Obj):=[(C,oC),(D,listOf ys n),(I,oI)]
theorem nN{C D I:Addr}{oC oI:Obj}{ys:Array Value}{n:Nat}(h1:∀ v,oC.data≠.cell v)(h2:∀ v,oI.data≠.cell v):jl (ey C oC D ys n I oI):=λp hp=>by
 rcases List.mem_cons.mp hp with rfl|hp
 ·exact h1
 ·rcases List.mem_cons.mp hp with rfl|hp
  ·exact λv e=>nomatch e
  ·exact(List.mem_singleton.mp hp)▸h2
theorem St.ne{e:List (Addr×Obj)}{m:bd}{H:AH}{s:Shared}(S:St (c.wi e) m H s):(e.map (·.1)).Nodup:=by
 obtain⟨mm,lc,M,lo⟩:=S
 obtain⟨news,F,N,O,D⟩:=M.out
 exact O.right.right
inductive Rn(c:Fc)(C D I:Addr)(oI:Obj)(ys:Array Value)(n:Nat)(mo:Str->Option Value)(m:bd)(H:AH)(s:Shared):Prop
 | mk (oC:Obj) (S:St (c.wi (ey C oC D ys n I oI++c.ex)) m H s) (hN:Hh oC mo) (hC:∀ v,oC.data≠.cell v):Rn c C D I oI ys n mo m H s
section
variable {m:bd} {H:AH} {s:Shared} {oC oC' oI oI':Obj} {ys ys':Array Value} {n n' t:Nat} {h':Heap}
inductive OA(h:Heap)(C:Addr)(oC:Obj)(D:Addr)(oD:Obj)(I:Addr)(oI:Obj):Prop
 | mk (gC:h.get? C=some oC) (gD:h.get? D=some oD) (gI:h.get? I=some oI) (nCD:D≠C) (nCI:I≠C) (nDI:I≠D)
theorem iH(S:St (c.wi (ey C oC D ys n I oI++c.ex)) m H s):OA s.heap C oC D (listOf ys n) I oI:=by
 have hh:=S.here
 have hne:(C::D::I::c.ex.map (·.1)).Nodup:=S.ne
 simp only[List.nodup_cons,List.mem_cons,not_or] at hne
 exact⟨hh _ (.head _),hh _ (.tail _ (.head _)),hh _ (.tail _ (.tail _ (.head _))),λz=>hne.1.1 z.symm,λz=>hne.1.2.1 z.symm,λz=>hne.2.1.1 z.symm⟩
theorem u7{h:Heap}(gC:h.get? C=some oC)(gD:h.get? D=some (listOf ys n))(gI:h.get? I=some oI):∀ p∈ey C oC D ys n I oI,h.get? p.1=some p.2:=
 List.forall_mem_cons.mpr ⟨gC,List.forall_mem_cons.mpr ⟨gD,List.forall_mem_singleton.mpr gI⟩⟩
theorem ic(d:c.Def)(S:St (c.wi (ey C oC D ys n I oI++c.ex)) m H s)(hC:∀ v,oC.data≠.cell v)(hI:∀ v,oI.data≠.cell v){x:Addr}(hx:x∈[C,D,I])
 (keep:∀ b o,b≠x->s.heap.get? b=some o->h'.get? b=some o) (gC:h'.get? C=some oC') (gD:h'.get? D=some (listOf ys' n')) (gI:h'.get? I=some oI') :
 St (c.wi (ey C oC' D ys' n' I oI'++c.ex)) m H { s with heap:=h',toks:=t }:=
 St.turn (e:=ey C oC D ys n I oI) (e':=ey C oC' D ys' n' I oI') d S (List.Sublist.refl _) (nN hC hI) (u7 gC gD gI) λb ob hb e=>keep b ob (λz=>hb (z▸hx)) e
theorem Rn.next{mo:Str->Option Value}(d:c.Def)(R:Rn c C D I oI ys n mo m H s)(hI:∀ v,oI.data≠.cell v)(keep:∀ b o,b≠I->s.heap.get? b=some o->h'.get? b=some o)(g:h'.get? I=some oI') :
 Rn c C D I oI' ys n mo m H { s with heap:=h',toks:=t }:=by
 obtain⟨oC,S,hN,hC⟩:=R
 obtain⟨gC,gD,gI,nCD,nCI,nDI⟩:=iH S
 exact⟨oC,ic d S hC hI (.tail _ (.tail _ (.head _))) keep (keep _ _ nCI.symm gC) (keep _ _ nDI.symm gD) g,hN,hC⟩
theorem mt(d:c.Def)(hs:dA c.x sc tg){mo:Str->Option Value}{u:Value}{t:Str}(R:Rn c C D I oI ys n mo m H s)(hI:∀ v,oI.data≠.cell v)(ht:t∈tg) :
 wpAny c.M c.A (storeName (compEnvC sc cl C c.env) t u) (λ_=>Rn c C D I oI ys n (λy=>if y=t then some u else mo y) m H) No s:=by
 have hk:(compEnvC sc cl C c.env).kindOf t=some .local:=by refine ac (eG ..) (ac (hs.tgt t ht) ?_);rfl
 obtain⟨oC,S,hN,hC⟩:=R
 obtain⟨gC,gD,gI,nCD,nCI,nDI⟩:=iH S
 refine wpAny_storeName_local hk (hN _ _ gC) (λh' hn hsb=>?_) (by refine(show(compEnvC sc cl C c.env).scope.kind=.function from hs.kind).symm ▸ ?_;rfl)
 refine fW (xK hn) λoC' g1 g2 g3=>?_
 exact⟨oC',ic d S hC hI (.head _) (λb o n e=>(hsb.2 b n).trans e) g1 ((hsb.2 D nCD).trans gD) ((hsb.2 I nCI).trans gI),g2,g3⟩
theorem Rn.push{mo:Str->Option Value}{x:Value}{G:Shared->Prop}(d:c.Def)(R:Rn c C D I oI ys n mo m H s)(hI:∀ v,oI.data≠.cell v)(hl:ys.size<=sizeLine)(k:∀ s',Rn c C D I oI (ys.push x) (n+1) mo m H s'->G s') :
 wpAny c.M c.A (call (.builtin "list.append") [.ref D,x]) (λ_=>G) No s:=by
 refine a7 λGg fin_=>?_
 obtain⟨oC,S,hN,hC⟩:=R
 obtain⟨gC,gD,gI,nCD,nCI,nDI⟩:=iH S
 refine fin_ ?_
 exact append_at (its:=ys) (n:=n) gD (λh6 hs6 g6=>k _ ⟨oC,ic (t:=s.toks) d S hC hI (.tail _ (.head _)) (λb o n e=>(hs6.2 b n).trans e) ((hs6.2 C nCD.symm).trans gC) g6 ((hs6.2 I nDI).trans gI),hN,hC⟩) hl
end
structure AP(c:Fc)(tg:List Str)(m m':bd)(mo:Str->Option Value):Prop where
 old:∀ j av,j<c.x.nx->getL m' j=some av->getL m j=some av
 new:∀ n j av,(n,j)∈tg.zip (eY c.x tg)->getL m' j=some av->∃ v,er v=av/\av≠.oth/\mo n=some v
inductive QA(c:Fc)(C D I:Addr)(tg:List Str)(oI:Obj)(ys:Array Value)(n:Nat)(m:bd)(H:AH)(Q:bd->Prop)(s:Shared):Prop
 | mk (mo:Str->Option Value) (m':bd) (R:Rn c C D I oI ys n mo m H s) (q:Q m') (see:AP c tg m m' mo):QA c C D I tg oI ys n m H Q s
theorem BR{t:Str}{u:Value}{m:bd}{mo:Str->Option Value}(hu:er u≠.oth):AP c [t] m (bT m c.x.nx (er u)) (λy=>if y=t then some u else mo y):=by
 refine⟨λj av hlt hg=>?_,λn' j av hz hg=>?_⟩
 ·rcases cC hg with⟨rfl,_⟩|⟨_,hg⟩
  ·exact absurd hlt (Nat.lt_irrefl _)
  ·exact hg
 ·cases List.mem_singleton.mp (show(n',j)∈[(t,c.x.nx)] from hz)
  rcases cC hg with⟨_,rfl⟩|⟨hne,_⟩
  ·exact⟨u,rfl,hu,if_pos rfl⟩
  ·exact absurd rfl hne
theorem BQ{a b:Str}{v1 v2:Value}{m:bd}{mo:Str->Option Value}(hab:a≠b)(h1:er v1≠.oth)(h2:er v2≠.oth) :
 AP c [a,b] m (bT (bT m c.x.nx (er v1)) (c.x.nx+1) (er v2)) (λy=>if y=b then some v2 else if y=a then some v1 else mo y):=by
 refine⟨λj av hlt hg=>?_,λn' j av hz hg=>?_⟩
 ·rcases cC hg with⟨rfl,_⟩|⟨_,hg⟩
  ·exact absurd hlt (Nat.not_lt.mpr (Nat.le_succ _))
  ·rcases cC hg with⟨rfl,_⟩|⟨_,hg⟩
   ·exact absurd hlt (Nat.lt_irrefl _)
   ·exact hg
 ·rcases List.mem_cons.mp (show(n',j)∈[(a,c.x.nx),(b,c.x.nx+1)] from hz) with z|z
  ·cases z
   rcases cC hg with⟨e,_⟩|⟨_,hg⟩
   ·exact absurd e.symm (Nat.succ_ne_self _)
   ·rcases cC hg with⟨_,rfl⟩|⟨hne,_⟩
    ·exact⟨v1,rfl,h1,(if_neg hab).trans (if_pos rfl)⟩
    ·exact absurd rfl hne
  ·cases List.mem_singleton.mp z
   rcases cC hg with⟨_,rfl⟩|⟨hne,_⟩
   ·exact⟨v2,rfl,h2,if_pos rfl⟩
   ·exact absurd rfl hne
theorem tc(d:c.Def)(hs:dA c.x sc tg){tgt:Expr}{one:Bool}(ht:eL tgt=some (tg,one)){m:bd}{H:AH}{s:Shared}{oI:Obj}{ys:Array Value}{n:Nat}{mo:Str->Option Value}{u:Value}{Q:bd->Prop}
 (R:Rn c C D I oI ys n mo m H s) (hI:∀ v,oI.data≠.cell v) (hu:er u≠.oth) (hq:Hp H m (eY c.x tg) one (er u) Q) :
 wpAny c.M c.A (assign tgt (compEnvC sc cl C c.env) u) (λ_=>QA c C D I tg oI ys n m H Q) No s:=by
 rcases jK ht with⟨t,pt,rfl,rfl,rfl⟩|⟨a,pa,b,pb,x1,tp,rfl,hab,rfl,rfl⟩
 ·exact assign_Name (wpAny_mono (mt (u:=u) d hs R hI (.head _)) (λ_ s1 R=>⟨_,_,R,hq,BR hu⟩) λ_ _ z=>z)
 ·clear ht
  replace hq:jg H (er u) 2 λvs=>match vs with|[x,y]=>Q (bT (bT m c.x.nx x) (c.x.nx+1) y)|_=>False:=hq
  obtain⟨ad,vs,hu2,hH,hlen,hq⟩:=hq
  obtain rfl:=bO hu2
  refine a7 λGg fin_=>?_
  obtain⟨oC,S,hN,hC⟩:=R
  obtain⟨mm,lc,M,lo⟩:=S
  refine fin_ ?_
  refine fW (lG M hH) λxs IT eq1_ hx=>?_
  subst eq1_
  have hsz:xs.size=2:=by exact ac (Array.length_toList ..).symm (ac (hlen ..).symm (ac (List.length_map ..) rfl))
  refine assign_Tuple_tuple rfl IT (by refine hsz.symm ▸ ?_;rfl) rfl (λh' he=>?_)
  refine a7 λGg fin_=>?_
  obtain⟨v1,v2,hxs⟩:=rW (by rw[Array.length_toList];exact hsz)
  refine fin_ ?_
  rw[hxs] at hq hx⊢
  have h1:=hx v1 (.head _)
  have h2:=hx v2 (.tail _ (.head _))
  have R2:Rn c C D I oI ys n mo m H { s with heap:=h' }:=⟨oC,em lo (M.grown (λb o e=>he b o (Nat.ne_of_lt (Heap.lt_size e)) e) s.toks),hN,hC⟩
  refine assignInOrder_cons (assign_Name (wpAny_mono (mt (u:=v1) d hs R2 hI (.head _)) (λ_ s1 R3=>?_) λ_ _ z=>z))
  exact assignInOrder_cons (assign_Name (wpAny_mono (mt (u:=v2) d hs R3 hI (.tail _ (.head _))) (λ_ s2 R4=>assignInOrder_nil ⟨_,_,R4,hq,BQ hab h1 h2⟩) λ_ _ z=>z))
end
noncomputable abbrev G3(T:aT)(CC:CS)(cond:Option IE)(elt:IE)(K:Option AV->AH->Prop)(H:AH)(m':bd):Prop:=wOpt T CC m' cond H (Qo (wE T CC m' elt) K)
noncomputable def rx(T:aT)(CC:CS)(m:bd)(is:List Nat)(one:Bool)(cond:Option IE)(elt:IE)(x:AV)(H:AH)(K:Option AV->AH->Prop):Prop:=
 Hp H m is one x (G3 T CC cond elt K H)
theorem q4{T:aT}{CC:CS}{m:bd}{r:Bool}{src:IE}{is:List Nat}{one:Bool}{cond:Option IE}{elt:IE}{H:AH}{Q:au}(h:wE T CC m (.comp r src is one cond elt) H Q) :
 T.calm/\wE T CC m src H (yl r (rx T CC m is one cond elt) Q):=h
inductive lf(c:Fc)(sc:Scope)(cl:List (Str×Addr))(C:Addr)(tg:List Str):List Expr->Option IE->Prop
 | none:lf c sc cl C tg [] none
 | one {e ie} : (∀ ex mm lc,ao (c.inn sc cl C tg ex mm lc) e ie)->lf c sc cl C tg [e] (some ie)
section
variable {c:Fc} {sc:Scope} {cl:List (Str×Addr)} {C D I:Addr} {tg:List Str}
inductive nF(c:Fc)(C D I:Addr)(tg:List Str)(one:Bool)(cond:Option IE)(ielt:IE)(IO:List AV->Obj->Prop)(ok:AH->Prop)(m:bd)(K:List AV->AH->Prop)(k:Nat)(s:Shared):Prop
 | mk (oI:Obj) (ys:Array Value) (n:Nat) (mo:Str->Option Value) (rest:List AV) (H:AH) (hk:k=rest.length+1) (R:Rn c C D I oI ys n mo m H s) (hio:IO rest oI) (hy:∀ y∈ys.toList,er y≠.oth)
  (hw:eJ ok (rx c.T c.C m (eY c.x tg) one cond ielt) rest H (ys.toList.map er) K):nF c C D I tg one cond ielt IO ok m K k s
inductive sW(c:Fc)(C D:Addr)(m:bd)(K:List AV->AH->Prop)(r:Result)(s:Shared):Prop
 | mk (hr:r=.ok .next) (oC:Obj) (mo:Str->Option Value) (ys:Array Value) (n:Nat) (H:AH) (S:St (c.wi ([(C,oC),(D,listOf ys n)]++c.ex)) m H s) (hN:Hh oC mo) (hC:∀ v,oC.data≠.cell v)
  (hy:∀ y∈ys.toList,er y≠.oth) (hK:K (ys.toList.map er) H):sW c C D m K r s
section
variable {elt:Expr} {ielt:IE} {oC oI:Obj} {ys:Array Value} {n:Nat} {mo mm:Str->Option Value} {m m2:bd} {H:AH} {s:Shared} {lc:List (Addr×Obj)} {G:Shared->Prop}
inductive AT(c:Fc)(C D I:Addr)(oI:Obj)(ys:Array Value)(n:Nat)(mo:Str->Option Value)(m:bd)(K:Option AV->AH->Prop)(s:Shared):Prop
 | out (H:AH) (R:Rn c C D I oI ys n mo m H s) (h:K none H):AT c C D I oI ys n mo m K s
 | lay (x:Value) (H:AH) (R:Rn c C D I oI (ys.push x) (n+1) mo m H s) (hx:er x≠.oth) (h:K (some (er x)) H):AT c C D I oI ys n mo m K s
theorem ye(o:c.Ok)(d:c.Def)(calm:c.T.calm){K:Option AV->AH->Prop}(hE:ao (c.inn sc cl C tg (ey C oC D ys n I oI++c.ex) mm lc) elt ielt)(lo:lb (c.wi (ey C oC D ys n I oI++c.ex)) mm lc m)(hN:Hh oC mo)(hC:∀ v,oC.data≠.cell v)
 (hI:∀ v,oI.data≠.cell v) (hl:ys.size<=sizeLine) (S:St (c.inn sc cl C tg (ey C oC D ys n I oI++c.ex) mm lc) m2 H s) (h:wE c.T c.C m2 ielt H λy H=>K (some y) H) (k:∀ s,AT c C D I oI ys n mo m K s->G s) :
 Mt c.M c.A elt (compEnvC sc cl C c.env) (.ref D) G s:=by
 refine wpAny_mono (hE.E m2 H s _ S h) (λx s4 z=>?_) λ_ _ z=>absurd z.x (o.calm calm)
 obtain⟨H4,S4,hx,h4⟩:=z
 exact Rn.push d ⟨oC,sm S4 lo,hN,hC⟩ hI hl λs R=>k s (.lay x H4 R hx h4)
theorem Bm(o:c.Ok)(d:c.Def)(calm:c.T.calm){ifs:List Expr}{cond:Option IE}{K:Option AV->AH->Prop}(hE:ao (c.inn sc cl C tg (ey C oC D ys n I oI++c.ex) mm lc) elt ielt)(hF:lf c sc cl C tg ifs cond)
 (lo:lb (c.wi (ey C oC D ys n I oI++c.ex)) mm lc m) (hN:Hh oC mo) (hC:∀ v,oC.data≠.cell v) (hI:∀ v,oI.data≠.cell v) (hl:ys.size<=sizeLine)
 (S:St (c.inn sc cl C tg (ey C oC D ys n I oI++c.ex) mm lc) m2 H s) (h:G3 c.T c.C cond ielt K H m2) (k:∀ s,AT c C D I oI ys n mo m K s->G s) :
 Dz c.M c.A elt (compEnvC sc cl C c.env) (.ref D) G ifs s:=by
 induction hF with
 | none=>exact wpAny_tests_nil (ye o d calm hE lo hN hC hI hl S h k)
 | one hc1=>
  refine wpAny_tests_one (wpAny_mono ((hc1 _ _ _).T m2 H s _ S h) (λb s3 z=>?_) λ_ _ z=>absurd z.x (o.calm calm))
  obtain⟨H3,S3,h3⟩:=z
  induction b with
  | true=>exact ye o d calm hE lo hN hC hI hl S3 h3 k
  | false=>exact k _ (.out H3 ⟨oC,sm S3 lo,hN,hC⟩ h3)
theorem Kr(o:c.Ok)(d:c.Def)(calm:c.T.calm)(hs:dA c.x sc tg)(hcl:∀ n,(n,NameKind.free)∈sc.names->cl.lookup n=c.env.cells.lookup n){tgt:Expr}{one:Bool}(ht:eL tgt=some (tg,one))
 {ifs:List Expr} {cond:Option IE} {K:Option AV->AH->Prop} (hE:∀ ex mm lc,ao (c.inn sc cl C tg ex mm lc) elt ielt) (hF:lf c sc cl C tg ifs cond) (hI:∀ v,oI.data≠.cell v) (hl:ys.size<=sizeLine)
 (R:Rn c C D I oI ys n mo m H s) {u:Value} (hu:er u≠.oth) (h:rx c.T c.C m (eY c.x tg) one cond ielt (er u) H K) (k:∀ mo s,AT c C D I oI ys n mo m K s->G s) :
 Kt c.M c.A elt (compEnvC sc cl C c.env) (.ref D) G tgt ifs u s:=by
 refine wpAny_mono (tc d hs ht R hI hu h) (λ_ s2 z=>?_) λ_ _ z=>z
 refine a7 λGg fin_=>?_
 obtain⟨mo2,m2,R2,hq,see⟩:=z
 obtain⟨oC2,S2,hN2,hC2⟩:=R2
 obtain⟨mm,lc,M2,lo2⟩:=S2
 refine fin_ ?_
 exact Bm o d calm (hE _ _ _) hF lo2 hN2 hC2 hI hl (JA o d hs hcl M2 lo2 (.head _) hN2 see.old see.new) hq (k mo2)
end
theorem uE(o:c.Ok)(d:c.Def)(calm:c.T.calm)(hs:dA c.x sc tg)(hcl:∀ n,(n,NameKind.free)∈sc.names->cl.lookup n=c.env.cells.lookup n){tgt elt iter:Expr}{one:Bool}(ht:eL tgt=some (tg,one))
 {ifs:List Expr} {cond:Option IE} {ielt:IE} {p:Pos} (hE:∀ ex mm lc,ao (c.inn sc cl C tg ex mm lc) elt ielt) (hF:lf c sc cl C tg ifs cond) {IO:List AV->Obj->Prop} {ok:AH->Prop} (It:nH c I IO ok)
 {m:bd} {s:Shared} {K:List AV->AH->Prop} {k:Nat} (h:nF c C D I tg one cond ielt IO ok m K k s) :
 codeAny c.M c.A (.compLoop (.ListComp elt [⟨tgt,iter,ifs,0⟩] sc p) 0 (.ref I) (.ref D) (compEnvC sc cl C c.env)) (sW c C D m K) s:=by
 refine nf (nF c C D I tg one cond ielt IO ok m K) (λk s h=>?_) k h
 obtain⟨oI,ys,n,mo,rest,H,rfl,R,hio,hy,hw⟩:=h
 have hI:=It.nocell _ _ hio
 have R0:=R
 obtain⟨oC,S,hN,hC⟩:=R
 obtain⟨gC,gD,gI,nCD,nCI,nDI⟩:=iH S
 cases rest with
 | nil=>
  refine It.stop _ m H s oI _ S hw.1 hio gI λh' he=>⟨rfl,oC,mo,ys,n,H,?_,hN,hC,hy,hw.2.2⟩
  exact St.turn (e:=ey C oC D ys n I oI) (e':=[(C,oC),(D,listOf ys n)]) d S (List.Sublist.cons_cons _ (List.Sublist.cons_cons _ (List.nil_sublist _))) (nN hC hI)
   (List.forall_mem_cons.mpr ⟨he _ _ nCI.symm gC,List.forall_mem_singleton.mpr (he _ _ nDI.symm gD)⟩) (λb ob hb e=>he b ob (λz=>hb (by refine z.symm ▸ ?_;exact .tail _ (.tail _ (.head _)))) e)
 | cons v rest=>
  refine It.next _ m H s v rest oI _ S hw.1 hio gI λu h' oI' t hu hv hio' gI' hsb=>?_
  have hl:ys.size<=sizeLine:=by
   have:=hw.2.1
   rw[List.length_map,Array.length_toList] at this
   exact Nat.le_trans this (by refine ac dO ?_;decide)
  have after:Kt c.M c.A elt (compEnvC sc cl C c.env) (.ref D) (KA (nF c C D I tg one cond ielt IO ok m K) ((v::rest).length+1)) tgt ifs u { s with heap:=h',toks:=t }:=by
   refine Kr o d calm hs hcl ht hE hF (It.nocell _ _ hio') hl (R0.next d hI (λb o n e=>(hsb.2 b n).trans e) gI') (hu▸hv) (hu▸hw.2.2) λmo s L=>⟨rest.length+1,Nat.lt_succ_self _,?_⟩
   induction L with
   | out H R h=>exact⟨oI',ys,n,mo,rest,H,rfl,R,hio',hy,h⟩
   | lay x H R hx h=>
    refine⟨oI',ys.push x,n+1,mo,rest,H,rfl,R,hio',?_,?_⟩
    ·refine Array.toList_push ▸ ?_
     exact List.forall_mem_append.mpr ⟨hy,List.forall_mem_singleton.mpr hx⟩
    ·refine ac Array.toList_push (ac List.map_append ?_);exact h.2
  rcases jK ht with⟨_,_,rfl,_,_⟩|⟨_,_,_,_,_,_,rfl,_,_,_⟩
  all_goals first|exact wpAny_pure after|exact It.own _ _ _ _ _ _ _ _ hio' gI' after
end
section
variable {c:Fc} {I:Addr}
noncomputable def Iz(a:Nat)(vs:List AV)(rest:List AV)(o:Obj):Prop:=o.cls=.type "list_iterator"/\∃ i:Nat,o.data=.fields #[.ref a,.int i 0]/\rest=vs.drop i
theorem t0{a:Nat}{vs:List AV} : nH c I (Iz a vs) (λH=>H a=some (.list vs)) where
 nocell:=λrest o ⟨_,i,h,_⟩ v e=>by rw[h] at e;cases e
 next:=λex m H s v rest o Q S hok ⟨hc,i,hd,hr⟩ hg k=>by
  obtain⟨mm,lc,M,lo⟩:=S
  refine gf (ff M hok) λxs n hx he ho=>?_
  have hv:vs[i]?=some v:=by
   have:=congrArg List.head? hr
   rw[List.head?_drop] at this
   exact this.symm
  have hrest:rest=vs.drop (i+1):=by
   have:=congrArg List.tail hr
   rw[List.tail_drop] at this
   exact this
  rw[he] at hv
  refine cG (mI hv) λu hu hue=>?_
  refine wpAny_pyNext_list_item (l:=a) (i:=i) ⟨o,hg,hc,hd⟩ ⟨_,hx,rfl,n,rfl⟩ hu λh' hit hs=>?_
  refine fW hit λo' g1 g2 g3=>?_
  exact k u h' o' s.toks hue (hue▸ho u (by rw[← Array.getElem?_toList] at hu;exact List.mem_of_getElem? hu)) ⟨g2,i+1,g3,hrest⟩ g1 hs
 stop:=λex m H s o Q S hok ⟨hc,i,hd,hr⟩ hg k=>by
  refine a7 λGg fin_=>?_
  obtain⟨mm,lc,M,lo⟩:=S
  refine fin_ ?_
  refine gf (ff M hok) λxs n hx he ho=>?_
  refine wpAny_pyNext_list_end (l:=a) (i:=i) (items:=xs) rfl ⟨o,hg,hc,hd⟩ ⟨_,hx,rfl,n,rfl⟩ ?_ k
  have hl:vs.length<=i:=by
   have:=congrArg List.length hr
   rw[List.length_drop] at this
   simp at this;lia
  rw[he,List.length_map,Array.length_toList] at hl
  exact Array.getElem?_eq_none hl
 again:=λs rest o Q ⟨hc,i,hd,_⟩ hg k=>wpAny_pyIter_listiter ⟨o,hg,hc,hd⟩ k
 own:=λelts x1 tp s rest o v Q ⟨hc,i,hd,_⟩ hg k=>by
  induction v<;>first|exact wpAny_pure k|exact wpAny_letOwnedTupleGo_listiter ⟨o,hg,hc,hd⟩ k
noncomputable def Cb(n:Nat)(rest:List AV)(o:Obj):Prop:=∃ j:Nat,j<=n/\o=g7 j (n-j)/\rest=(cnt n).drop j
theorem qc{n:Nat} : nH c I (Cb n) (λ_=>True) where
 nocell:=λrest o ⟨j,_,h,_⟩ v e=>by rw[h] at e;cases e
 next:=λex m H s v rest o Q S hok ⟨j,hj,ho,hr⟩ hg k=>by
  subst ho
  by_cases hlt:j<n
  ·rw[pk hlt] at hr
   cases hr
   refine wpAny_mono (E:=No) (wpAny_pyNext_range_item (Q:=Q) hg (by lia) λh' hit hs=>?_) (λ_ _ z=>z) λ_ _ z=>z
   refine k (.int j s.toks) h' _ (s.toks+1) rfl (λz=>nomatch z) ⟨j+1,hlt,rfl,rfl⟩ ?_ hs
   have e1:(j:Int)+1=((j+1:Nat):Int):=by lia
   have e2:(n:Int)-j-1=(n:Int)-((j+1:Nat):Int):=by lia
   rw[e1,e2] at hit
   exact hit
  ·have:j=n:=by lia
   subst this
   rw[sE] at hr
   cases hr
 stop:=λex m H s o Q S hok ⟨j,hj,ho,hr⟩ hg k=>by
  subst ho
  have:j=n:=by
   have:=congrArg List.length hr
   rw[List.length_drop] at this
   have hl:(cnt n).length=n:=by simp[cnt]
   simp[hl] at this;lia
  subst this
  exact wpAny_pyNext_range_end rfl hg (by lia) k
 again:=λs rest o Q ⟨j,_,ho,_⟩ hg k=>by
  subst ho
  exact wpAny_pyIter_rangeiter hg k
 own:=λelts x1 tp s rest o v Q ⟨j,_,ho,_⟩ hg k=>by
  subst ho
  induction v<;>first|exact wpAny_pure k|skip
  unfold letOwnedTupleGo
  refine wpAny_bind (wpAny_load hg ?_)
  rename_i T
  show wpAny _ _ (if(["enumerate","zip","dict_itemiterator","dict_reverseitemiterator","odict_iterator","itertools.zip_longest","itertools.pairwise"].contains "range_iterator" && _)=true then _ else _) Q No s
  rw[if_neg (by
   intro h
   rw[show(["enumerate","zip","dict_itemiterator","dict_reverseitemiterator","odict_iterator","itertools.zip_longest","itertools.pairwise"].contains "range_iterator")=false from by decide,Bool.false_and] at h
   exact Bool.noConfusion h)]
  exact wpAny_pure k
end
section
variable {c:Fc}
theorem St.adopt{C D:Addr}{oC:Obj}{e:List (Addr×Obj)}{ys:Array Value}{n:Nat}{m:bd}{H:AH}{s:Shared}(S:St (c.wi ([(C,oC),(D,listOf ys n)]++e)) m H s)(hy:∀ y∈ys.toList,er y≠.oth) :
 H D=none/\St (c.wi ([(C,oC)]++e)) m (H.put D (.list (ys.toList.map er))) s:=by
 refine a7 λGg fin_=>?_
 obtain⟨mm,lc,M,lo⟩:=S
 refine fin_ ?_
 refine a7 λGg fin_=>?_
 obtain⟨news,F,N,O,L⟩:=M.out
 refine fin_ ?_
 have hp:(news++(lc++([(C,oC),(D,listOf ys n)]++e))).Perm (((D,listOf ys n)::news)++(lc++([(C,oC)]++e))):=by
  have p1:([(C,oC),(D,listOf ys n)]++e).Perm ((D,listOf ys n)::([(C,oC)]++e)):=List.Perm.swap _ _ _
  have p2:(lc++([(C,oC),(D,listOf ys n)]++e)).Perm ((D,listOf ys n)::(lc++([(C,oC)]++e))):=(List.Perm.append_left lc p1).trans List.perm_middle
  exact(List.Perm.append_left news p2).trans List.perm_middle
 have O':cg (((D,listOf ys n)::news)++(lc++([(C,oC)]++e))):=by
  unfold cg at O⊢
  exact(List.Perm.nodup_iff (hp.map _)).mp O
 have hn:∀ q∈news,q.1≠D:=λq hq z=>by
  have O2:cg ((D,listOf ys n)::news):=O'.left
  unfold cg at O2
  rw[List.map_cons,List.nodup_cons] at O2
  exact O2.1 (List.mem_map.mpr ⟨q,hq,z⟩)
 refine⟨L.absent hn,mm,lc,⟨⟨(D,listOf ys n)::news,F,λp q=>N p (hp.mem_iff.mpr q),O',?_⟩,M.gens,M.os⟩,⟨λk i av hl hg=>?_,lo.cells,lo.inv⟩⟩
 ·exact L.alloc hn (λE dx z=>by simp[W.listOf,instObj] at z) (.list (.head _) hy)
 ·refine a7 λGg fin_=>?_
  obtain⟨h1,v,h2,h3⟩:=lo.reads k i av hl hg
  refine fin_ ?_
  refine⟨h1,v,h2,?_⟩
  have drop:∀ {q:Addr×Obj},q.2≠listOf ys n->q∈[(C,oC),(D,listOf ys n)]++e->q∈[(C,oC)]++e:=λ{q} hq hm=>by
   rcases List.mem_cons.mp hm with z|z
   ·exact z▸.head _
   ·rcases List.mem_cons.mp z with z|z
    ·exact absurd (by exact ac (z ..) rfl) hq
    ·exact .tail _ z
  rcases h3 with⟨k',e,r⟩|⟨k',a,ob,hc,hin',hdat⟩|⟨k',ob,mo,hin',hno,hmo⟩
  ·exact .loc k' e r
  ·refine .cell k' a ob hc ?_ hdat
   rcases List.mem_append.mp hin' with z|z
   ·exact List.mem_append_left _ z
   ·exact List.mem_append_right _ (drop (λq=>by rw[show ob=_ from q] at hdat;cases hdat) z)
  ·refine .own k' ob mo (drop (λq=>?_) hin') hno hmo
   refine a7 λGg fin_=>?_
   refine na (hno s.heap _ (N _ (List.mem_append_right _ (List.mem_append_right _ hin'))).1) λo' es ep g1 g2 _=>?_
   refine fin_ ?_
   have g0:=(N _ (List.mem_append_right _ (List.mem_append_right _ hin'))).1
   rw[g0] at g1
   obtain rfl:=Option.some.inj g1
   rw[show ob=_ from q] at g2
   cases g2
structure sZ(c:Fc)(sc:Scope)(cl:List (Str×Addr))(tg:List Str)(tgt elt:Expr)(ifs:List Expr)(one:Bool)(cond:Option IE)(ielt:IE):Prop where
 hs:dA c.x sc tg
 ht:eL tgt=some (tg,one)
 hE:∀ C ex mm lc,ao (c.inn sc cl C tg ex mm lc) elt ielt
 hC:∀ C,lf c sc cl C tg ifs cond
 hclos:closureFor sc c.env=pure cl
 hcl:∀ n,(n,NameKind.free)∈sc.names->cl.lookup n=c.env.cells.lookup n
noncomputable def Dx(c:Fc)(m:bd)(Q:au)(E:Value->Shared->Prop)(use:Option (Value->Sem Unit))(QQ:Value->Shared->Prop):Prop:=
 ∀ C oC mo D H s,St (c.wi ([(C,oC)]++c.ex)) m H s->Hh oC mo->(∀ v,oC.data≠.cell v)->Q (.ref D) H->compPost c.M c.A E use QQ (.ref D) C (.ok .next) s
theorem l7{I:Addr}(o:c.Ok)(d:c.Def)(calm:c.T.calm){sc:Scope}{tg:List Str}{tgt elt iter:Expr}{one:Bool}{ifs:List Expr}{cond:Option IE}{ielt:IE}{p:Pos}{cl:List (Str×Addr)}(X:sZ c sc cl tg tgt elt ifs one cond ielt)
 {IO:List AV->Obj->Prop} {ok:AH->Prop} (It:nH c I IO ok)
 {m:bd} {H:AH} {s:Shared} {oI:Obj} {rest:List AV} {Q:au} {E:Value->Shared->Prop} {use:Option (Value->Sem Unit)} {QQ:Value->Shared->Prop}
 (S:St (c.wi ([(I,oI)]++c.ex)) m H s) (hio:IO rest oI) (hw:eJ ok (rx c.T c.C m (eY c.x tg) one cond ielt) rest H [] (yj Q)) (fin:Dx c m Q E use QQ) :
 wpAny c.M c.A (newList []) (λacc s₃=>wpAny c.M c.A (newFunctionEnv sc c.env.globals cl [] c.env.qual none .none (some c.env)) (λcenv s₄=>
  codeAny c.M c.A (.compStart (.ListComp elt [⟨tgt,iter,ifs,0⟩] sc p) 0 (.ref I) acc { cenv with scope:=relabel sc c.env }) (compPost c.M c.A E use QQ acc cenv.locals) s₄) E s₃) E s:=by
 refine wpAny_newObj_type (wpAny_newFunctionEnv X.hs.nocell (by intro y hy;simp at hy) (λh₁ hns₁ hsb₁=>?_) X.hs.kind)
 dsimp only at hns₁ hsb₁⊢
 have S1:=St.pushed (t:=s.toks) (ob:={ cls:=.type "list",dict:=none,data:=.seq ([]:List Value).toArray }) S rfl
 generalize s.heap.push { cls:=.type "list",dict:=none,data:=.seq ([]:List Value).toArray } = H2 at hns₁ hsb₁ S1⊢
 refine fW (xK hns₁) λoC g1 g2 g3=>?_
 have S2:St (c.wi (ey H2.objs.size oC s.heap.objs.size #[] 0 I oI++c.ex)) m H { s with heap:=h₁,toks:=s.toks+([]:List (Str×Value)).length }:=
  St.more (s:={ s with heap:=H2 }) S1 (λb ob e=>(hsb₁.2 b (Nat.ne_of_lt (Heap.lt_size e))).trans (Heap.get?_push_of_some _ e)) (Fe _) g1
 have fin':codeAny c.M c.A (.compLoop (.ListComp elt [⟨tgt,iter,ifs,0⟩] sc p) 0 (.ref I) (.ref s.heap.objs.size) (compEnvC sc cl H2.objs.size c.env)) (compPost c.M c.A E use QQ (.ref s.heap.objs.size) H2.objs.size) { s with heap:=h₁,toks:=s.toks+([]:List (Str×Value)).length }:=by
  refine codeAny_mono (uE o d calm X.hs X.hcl X.ht (X.hE _) (X.hC _) It ⟨oI,#[],0,_,rest,H,rfl,⟨oC,S2,g2,g3⟩,hio,λy hy=>(nomatch hy),hw⟩) λr s' z=>?_
  obtain⟨rfl,oC',mo',ys',n',H',S',hN',hC',hy',hK⟩:=z
  obtain⟨hD,S3⟩:=St.adopt S' hy'
  replace hK:dm H' (.list (ys'.toList.map er)) (IJ Q):=hK
  unfold dm at hK
  exact fin _ oC' mo' _ _ s' S3 hN' hC' (hK _ hD)
 exact codeAny_compStart_list fin' (wpAny_mono (It.again _ _ _ _ hio (S2.here _ (.tail _ (.tail _ (.head _)))) fin') (λ_ _ z=>z) λ_ _ z=>z.elim)
end
theorem Iq{T:aT}{CC:CS}{m:bd}{x:ch}{n:Nat}{iter:Expr}{H:AH}{Q:au}(h:wE T CC m (cE x n iter) H Q)(env:Env)(v:Value):foldedSetIterable iter env v=pure v:=by
 cases iter<;>first|rfl|skip
 exfalso
 induction n<;>exact h
theorem sG(x:ch)(n:Nat)(elt tgt iter:Expr)(ifs:List Expr)(sc:Scope)(p:Pos):cE x (n+1) (.ListComp elt [⟨tgt,iter,ifs,0⟩] sc p)=sH x (λx e=>cE x n e) elt tgt iter ifs sc:=rfl
section
variable {c:Fc}
theorem E8{T:aT}{CC:CS}{m:bd}{b:Bool}{e:IE}{H:AH}{Q:au}(h:wE T CC m (lq b e) H Q):b=true/\wE T CC m e H Q:=by
 induction b with
 | true=>exact⟨rfl,h⟩
 | false=>exact False.elim h
theorem xC{α:Type}{T:aT}{CC:CS}{m:bd}{o:Option α}{f:α->IE}{H:AH}{Q:au}(h:wE T CC m (im o f) H Q):∃ a,o=some a/\wE T CC m (f a) H Q:=by
 induction o with
 | some a=>exact⟨a,rfl,h⟩
 | none=>exact False.elim h
theorem E9{T:aT}{CC:CS}{m:bd}{b:Bool}{e:IE}{H:AH}{Q:BP}(k:wT T CC m e H Q->False)(h:wT T CC m (lq b e) H Q):False:=by
 induction b with
 | true=>exact k h
 | false=>exact h
theorem xE{α:Type}{T:aT}{CC:CS}{m:bd}{o:Option α}{f:α->IE}{H:AH}{Q:BP}(k:∀ a,wT T CC m (f a) H Q->False)(h:wT T CC m (im o f) H Q):False:=by
 induction o with
 | some a=>exact k a h
 | none=>exact h
theorem Oh{α:Type}{T:aT}{CC:CS}{m:bd}{o:Option α}{f:α->IE}{g:IE}{H:AH}{Q:BP}(k:∀ a,wT T CC m (f a) H Q->False)(l:wT T CC m g H Q->False)(h:wT T CC m (qW o f g) H Q):False:=by
 induction o with
 | some a=>exact k a h
 | none=>exact l h
theorem zj{sc:Scope}{cl:List (Str×Addr)}{C:Addr}{tg:List Str}{f:Expr->IE}{ifs:List Expr}{cond:Option IE}(hq:q3 f ifs=some cond)(hE:∀ e ex mm lc,ao (c.inn sc cl C tg ex mm lc) e (f e)):lf c sc cl C tg ifs cond:=by
 cases ifs with
 | nil=>obtain rfl:=Option.some.inj hq;exact .none
 | cons c1 r=>
  induction r with
  | nil=>obtain rfl:=Option.some.inj hq;exact .one λex mm lc=>hE _ ex mm lc
  | cons _ _=>exact fI hq
section
variable {sc:Scope} {cl:List (Str×Addr)} {tg:List Str} {tgt elt iter:Expr} {ifs:List Expr} {one:Bool} {cond:Option IE} {ielt ii:IE} {p pos:Pos} {use:Option (Value->Sem Unit)} {QQ:Value->Shared->Prop} {m:bd} {H:AH} {s:Shared} {Q:au}
theorem uF(o:c.Ok)(d:c.Def)(X:sZ c sc cl tg tgt elt ifs one cond ielt)(ih:ao c iter ii)(S:St c m H s)(hn:∀ v,foldedSetIterable iter c.env v=pure v)(h:wE c.T c.C m (.comp false ii (eY c.x tg) one cond ielt) H Q)(fin:Dx c m Q (Ex c) use QQ) :
 wpAny c.M c.A (comprehension (.ListComp elt [⟨tgt,iter,ifs,0⟩] sc p) sc c.env pos (newList []) false (eval iter c.env) use) QQ (Ex c) s:=by
 refine(q4 h).elim λcalm h=>?_
 refine wpAny_comprehension_free rfl hn X.hclos X.hs.kind X.hs.loc ?_
 refine wpAny_mono (ih.E m H s _ S h) (λu s1 z=>?_) λ_ _ z=>z
 obtain⟨H1,S1,hu,h1⟩:=z
 obtain⟨a,vs,hv,hH,hlen,h1⟩:=h1
 obtain rfl:=bO hv
 obtain⟨mm,lc,M,lo⟩:=id S1
 refine gf (ff M hH) λxs k hx he hxo=>?_
 refine wpAny_pyIter_list (l:=a) ⟨_,hx,rfl,k,rfl⟩ ?_
 exact l7 (iter:=iter) (p:=p) o d calm X (t0 (a:=a) (vs:=vs)) (St.pushed (c:=c) (e:=c.ex) (t:=s1.toks) S1 rfl) ⟨rfl,0,rfl,rfl⟩ h1 fin
theorem q5(o:c.Ok)(d:c.Def){r:Str}{e:Expr}{pr pc:Pos}(X:sZ c sc cl tg tgt elt ifs one cond ielt)(ih:ao c e ii)(S:St c m H s)(hr:bj c.x r=some (.blt .range))(hb:(bU e&&!(r==("__debug__" : Str)))=true)
 (h:wE c.T c.C m (.comp true ii (eY c.x tg) one cond ielt) H Q) (fin:Dx c m Q (Ex c) use QQ) :
 wpAny c.M c.A (comprehension (.ListComp elt [⟨tgt,.Call (.Name r pr) [e] [] pc,ifs,0⟩] sc p) sc c.env pos (newList []) false (eval (.Call (.Name r pr) [e] [] pc) c.env) use) QQ (Ex c) s:=by
 refine(q4 h).elim λcalm h=>?_
 obtain⟨hb,hd⟩:=(Bool.and_eq_true _ _).mp hb
 refine wpAny_comprehension_free rfl (λx=>rfl) X.hclos X.hs.kind X.hs.loc ?_
 refine Call_ (fu o S hr (Bool.not_eq_true' _ |>.mp hd) (gJ (by refine ac List.all_cons (ac hb ?_);rfl) ?_))
 refine spliced_more (wpAny_mono (ih.E m H s _ S h) (λu s1 z=>spliced_none ?_) λ_ _ z=>z) (bR hb)
 obtain⟨H1,S1,hu,h1⟩:=z
 obtain⟨n,hk,h100,hf⟩:=yk h1
 obtain⟨tk,rfl⟩:=a9 hk
 exact n8 (c:=c) (e:=c.ex) S1 h100 λI s2 S2=>l7 (p:=p) o d calm X (qc (n:=n)) S2 ⟨0,Nat.zero_le _,rfl,rfl⟩ hf fin
end
theorem me(o:c.Ok)(n:Nat)(ih:∀ c:Fc,c.Ok->∀ e,ao c e (cE c.x n e)){elt tgt iter:Expr}{ifs:List Expr}{sc:Scope}{p pos:Pos}{use:Option (Value->Sem Unit)}{QQ:Value->Shared->Prop}{m:bd}{H:AH}{s:Shared}{Q:au}
 (S:St c m H s) (hw:wE c.T c.C m (cE c.x (n+1) (.ListComp elt [⟨tgt,iter,ifs,0⟩] sc p)) H Q) (fin:c.Def->Dx c m Q (Ex c) use QQ) :
 wpAny c.M c.A (comprehension (.ListComp elt [⟨tgt,iter,ifs,0⟩] sc p) sc c.env pos (newList []) false (eval iter c.env) use) QQ (Ex c) s:=by
 rw[sG] at hw
 refine cG (xC hw) λq ht hw=>?_
 refine(E8 hw).elim λhcs hw=>?_
 refine cG (xC hw) λcond hq hw=>?_
 have hs:=nb hcs
 have d:=o.def_ hs.top
 refine cG (q7 (sc:=sc) (env:=c.env) λq hq hf=>d.cellAt _ ((d.kindEq _).trans (hs.free q hq hf))) λcl hclos hcl=>?_
 have X:sZ c sc cl q.1 tgt elt ifs q.2 cond (cE (c.x.into sc q.1) n elt):=⟨hs,ht,λC ex mm lc=>ih _ (yF o hs) _,λC=>zj hq λe ex mm lc=>ih _ (yF o hs) e,hclos,hcl⟩
 unfold qG at hw
 induction hra:iL c.x iter with
 | none=>rw[hra] at hw;exact uF o d X (ih c o iter) S (Iq (q4 hw).2 c.env) hw (fin d)
 | some q2=>
  rw[hra] at hw
  refine pf (jO hra) λpr pc eq1_ hr=>?_
  subst eq1_
  obtain⟨hb,hw⟩:=E8 hw
  exact q5 o d X (ih c o q2.2) S hr hb hw (fin d)
theorem ix(n:Nat)(ih:∀ c:Fc,c.Ok->∀ e,ao c e (cE c.x n e)):jm n:=by
 intro c o elt tgt iter ifs sc p
 refine .noT (λm H s Q S h=>?_) (λm H Q h=>?_)
 ·refine ac (eval_ListComp ..) ?_
  refine me o n ih S h λd C oC mo D H' s' S' hN hC hq=>?_
  refine⟨mo,hN _ _ (S'.here _ (.head _)),λh' hs=>⟨H',?_,(λz=>nomatch z),hq⟩⟩
  refine St.turn (e:=[(C,oC)]) (e':=[]) (t:=s'.toks) d S' (List.nil_sublist _) (λp hp v=>by refine ac (List.mem_singleton.mp hp) ?_;exact hC v) (λp hp=>nomatch hp) (λb ob hb e=>(hs.2 b (λz=>hb (by refine ac z ?_;exact .head _))).trans e)
 ·rw[sG] at h
  replace h:wT c.T c.C m (im (eL tgt) λq=>lq (nc c.x sc q.1) (im (q3 (cE (c.x.into sc q.1) n) ifs) λcond=>qG c.x (cE c.x n) (eY c.x q.1) q.2 cond (cE (c.x.into sc q.1) n elt) iter)) H Q:=h
  exact xE (λq=>E9 (xE λcond=>Oh (λq=>E9 id) id)) h
theorem fB:∀ n,jm n
 | 0=>ix 0 λ_ _ _=>.bad
 | n+1=>ix (n+1) (all (n+1))
where
 all:∀ n (c:Fc),c.Ok->∀ e,ao c e (cE c.x n e)
 | 0,_,_,_=>.bad
 | n+1,c,o,e=>kv n (all n) (ix n (all n)) c o e
set_option tactic.hygienic true in
theorem j1:rm:=by
 intro c o e he m H s Q nm i p hl S h
 cases e<;>first|cases he|skip
 ·rename_i elt gens sc p'
  by_cases hg:∃ tgt iter ifs,gens=[⟨tgt,iter,ifs,0⟩]
  ·refine a7 λGg fin_=>?_
   refine Oi hg λtgt iter ifs eq1_=>?_
   subst eq1_
   refine fin_ ?_
   refine wpAny_bind (wpAny_mono (me (QQ:=λ_ s'=>PU c m i Q () s') o 29 (fB.all 29) S h λd C oC mo D H' s' S' hN hC hq=>?_) (λ_ s' z=>wpAny_pure z) λ_ _ z=>z)
   refine assign_Name (wpAny_mono (iJ (E:=Ex c) (o.wi _) (d.wi _) S' hl (v:=.ref D) (λz=>nomatch z)) (λ_ s2 S2=>?_) λ_ _ z=>z)
   refine⟨mo,hN _ _ (S2.here _ (.head _)),λh' hs=>⟨.ref D,H',?_,(λz=>nomatch z),hq⟩⟩
   exact St.turn (e:=[(C,oC)]) (e':=[]) (t:=s2.toks) d S2 (List.nil_sublist _) (λp hp v=>by refine(List.mem_singleton.mp hp).symm ▸ ?_;exact hC v) (λp hp=>nomatch hp) (λb ob hb e=>(hs.2 b (λz=>hb (by refine z ▸ ?_;exact .head _))).trans e)
  ·exfalso
   replace h:wE c.T c.C m (tM gens .bad λg=>lq (decide (g.is_async=0)) (sH c.x (λx e=>cE x 29 e) elt g.target g.iter g.ifs sc)) H Q:=h
   revert h
   refine iT (P:=λie=>wE c.T c.C m ie H Q->False) (λz=>z) λg hge h=>?_
   refine a7 λGg fin_=>?_
   obtain⟨tgt,iter,ifs,z⟩:=g
   refine fin_ ?_
   by_cases hz:z=0
   ·subst hz;exact hg ⟨_,_,_,hge⟩
   ·replace h:wE c.T c.C m (lq (decide (z=0)) (sH c.x (λx e=>cE x 29 e) elt tgt iter ifs sc)) H Q:=h
    rw[decide_eq_false hz] at h;exact h
 all_goals exact False.elim h
end
theorem jU:∀ (names:List (Str×NameKind)) (n:Nat) (acc:List (Str×Addr)),(∀ p∈acc,p.2<n)->(acc.map (·.2)).Nodup->((cellsFrom n names acc).map (·.2)).Nodup:=by
 intro z_
 induction z_ with
 | nil=>
  intro _ _ _ h
  exact h
 | cons z_2 r ihz=>
  obtain⟨nm,k⟩:=z_2
  intro n acc hlt h
  unfold cellsFrom
  split
  ·refine ihz (n+1) _ (λp hp=>?_) ?_
   ·rcases List.mem_cons.mp hp with rfl|hp
    ·exact Nat.lt_succ_self _
    ·exact Nat.lt_succ_of_lt (hlt p hp)
   ·refine ac List.map_cons ?_;rw[List.nodup_cons]
    exact⟨λhm=>by obtain⟨p,hp,e⟩:=List.mem_map.mp hm;exact absurd (hlt p hp) (by refine ac e ?_;exact Nat.lt_irrefl _),h⟩
  ·exact ihz n acc hlt h
theorem At:∀ (names:List (Str×NameKind)) (n:Nat) (acc:List (Str×Addr)),(∀ p∈cellsFrom n names acc,n<=p.2\/p∈acc):=by
 intro z_
 induction z_ with
 | nil=>
  intro _ _ p hp
  exact .inr hp
 | cons z_2 r ihz=>
  obtain⟨nm,k⟩:=z_2
  intro n acc p hp
  unfold cellsFrom at hp
  split at hp
  ·rcases ihz (n+1) _ p hp with z|z
   ·exact .inl (Nat.le_of_lt z)
   ·rcases List.mem_cons.mp z with rfl|z
    ·exact .inl (Nat.le_refl _)
    ·exact .inr z
  ·exact ihz n acc p hp
theorem BH{l:List (Str×Addr)}(h:(l.map (·.2)).Nodup){n n':Str}{a:Addr}(h1:l.lookup n=some a)(h2:l.lookup n'=some a):n=n':=by
 have m1:=aB h1
 have m2:=aB h2
 clear h1 h2
 induction l with
 | nil=>cases m1
 | cons q r ih=>
  rw[List.map_cons,List.nodup_cons] at h
  rcases List.mem_cons.mp m1 with e1|e1<;>rcases List.mem_cons.mp m2 with e2|e2
  ·rw[← e2] at e1;exact(Prod.mk.inj e1).1
  ·exact absurd (List.mem_map.mpr ⟨_,e2,by rw[← e1]⟩) h.1
  ·exact absurd (List.mem_map.mpr ⟨_,e1,by rw[← e2]⟩) h.1
  ·exact ih h.2 e1 e2
theorem lu{cm:Str->Option Value}{cs:List (Str×Addr)}{cells:List (Addr×Obj)}(X:CellsAre cm cs cells):cells.map (·.1)=cs.map (·.2):=by
 induction X with
 | nil=>rfl
 | cons _ _ ih=>simp[ih]
set_option tactic.hygienic true in
theorem jV{cm:Str->Option Value}{cs:List (Str×Addr)}{cells:List (Addr×Obj)}(X:CellsAre cm cs cells){n:Str}{a:Addr}(h:cs.lookup n=some a):∃ o,(a,o)∈cells/\o.data=.cell (cm n):=by
 induction X with
 | nil=>exfalso;cases h
 | cons hd X ih=>
  rename_i n' c o cs cells
  rw[List.lookup_cons] at h
  cases hx:n==n' with
  | true=>
   rw[hx] at h
   obtain rfl:=Option.some.inj h
   refine(eq_of_beq hx).symm ▸ ?_
   exact⟨o,.head _,hd⟩
  | false=>
   rw[hx] at h
   refine cG (ih h) λo' h1 h2=>?_
   exact⟨o',.tail _ h1,h2⟩
noncomputable def pE(x:ch)(kindOf:Str->Option NameKind)(m:bd)(ml mc:Str->Option Value):Prop:=∀ n i av,aL x n=some i->getL m i=some av->
 av≠.oth/\∃ v,er v=av/\((kindOf n=some .local/\ml n=some v)\/(kindOf n=some .cell/\mc n=some v))
theorem uJ{x:ch}{kindOf:Str->Option NameKind}(inj:∀ n n' i,aL x n=some i->aL x n'=some i->n=n'):∀ (binds:List (Str×Value)) (js:List Nat),binds.map (λp=>aL x p.1)=js.map some->(∀ p∈binds,er p.2≠.oth)->
 (∀ p∈binds,kindOf p.1=some .local\/kindOf p.1=some .cell)->∀ m ml mc,pE x kindOf m ml mc->
 pE x kindOf ((js.zip (binds.map λp=>er p.2)).foldl (λm p=>bT m p.1 p.2) m) (PySem.bindL kindOf binds ml) (PySem.bindC kindOf binds mc):=by
 intro z_
 induction z_ with
 | nil=>
  intro js h _ _ m ml mc B
  induction js with
  | nil=>exact B
  | cons _ _=>exfalso;cases h
 | cons z_2 r ihz=>
  obtain⟨n,v⟩:=z_2
  intro js h hv hk m ml mc B
  cases js with
  | nil=>exfalso;cases h
  | cons j js=>
   simp only[List.map_cons,List.cons.injEq] at h
   show pE x kindOf ((js.zip (r.map λp=>er p.2)).foldl (λm p=>bT m p.1 p.2) (bT m j (er v))) (PySem.bindL kindOf r _) (PySem.bindC kindOf r _)
   refine ihz js h.2 (λp hp=>hv p (.tail _ hp)) (λp hp=>hk p (.tail _ hp)) _ _ _ λn' i av hl hg=>?_
   have hv0:=hv _ (.head _)
   rcases cC hg with⟨rfl,rfl⟩|⟨hne,hg⟩
   ·obtain rfl:=inj _ _ _ hl h.1
    refine⟨hv0,v,rfl,?_⟩
    rcases hk _ (.head _) with k|k
    ·exact .inl ⟨k,by refine ac (if_pos k) ?_;exact if_pos rfl⟩
    ·refine .inr ⟨k,?_⟩
     refine ac (if_neg (by refine(show kindOf n'=_ from k).symm ▸ ?_;exact λz=>nomatch z)) ?_
     exact if_pos rfl
   ·have hnn:n'≠n:=λq=>hne (by subst q;rw[h.1] at hl;exact(Option.some.inj hl).symm)
    obtain⟨h1,w,h2,h3⟩:=B n' i av hl hg
    refine⟨h1,w,h2,?_⟩
    rcases h3 with⟨k,e⟩|⟨k,e⟩
    ·refine .inl ⟨k,?_⟩
     split
     ·show(if n'=n then some v else ml n')=some w
      refine ac (if_neg hnn) ?_;exact e
     ·exact e
    ·refine .inr ⟨k,?_⟩
     split
     ·exact e
     ·show(if n'=n then some v else mc n')=some w
      refine ac (if_neg hnn) ?_;exact e
theorem rf{x:ch}{kindOf:Str->Option NameKind}{n:Nat}{ml mc:Str->Option Value} : pE x kindOf (List.replicate n none) ml mc:=λn' i av _ hg=>by
 unfold getL at hg
 rw[List.getElem?_replicate] at hg
 split at hg
 ·rename_i h
  split at h<;>cases h
 ·exfalso;cases hg
structure Hl where
 name:Str
 qual:Str
 params:Arguments
 body:List Stmt
 scope:Scope
 dV:Value
 kV:Value
 doc:Value
 pm:Value
 cdv:Value
 ct:Value
 an:Option Addr
 oc:Value
 od:Option Addr
 osl:Array (Option Value)
 ps:List Str
noncomputable def Hl.fd(r:Hl):FuncData:=fnX r.name r.qual r.params r.body r.scope [] r.dV r.kV r.doc r.pm r.an r.cdv r.ct
inductive nI(d:ax)(fd:FuncData)(ps:List Str)(s:Shared)(vs:List Value):Prop
 | mk (dvs:List Value) (fill:d.fill (vs.map er)=(vs++dvs).map er) (val:∀ v∈dvs,er v≠.oth) (b:BindsTo s fd ⟨vs,[]⟩ (ps.zip (vs++dvs))):nI d fd ps s vs
structure gh(K:Frag)(glob:Str->Option GV)(aid:Str->Option Nat)(f:Nat)(d:ax)(r:Hl):Prop where
 obj:K.lookup f=some ⟨r.oc,r.od,.func r.fd,r.osl⟩
 code:codeIn K r.cdv r.qual=true
 kind:r.scope.kind=.function
 co:r.scope.isCoroutine=false
 gen:r.scope.isGenerator=false
 nodup:(r.scope.names.map (·.1)).Nodup
 noFree:∀ p∈r.scope.names,p.2≠.free
 par:∀ p∈r.ps,r.scope.names.lookup p=some .local\/r.scope.names.lookup p=some .cell
 slots:r.ps.map (λp=>aL (aF glob aid r.scope) p)=d.params.map some
 body_:d.body=r.body.map (cS (aF glob aid r.scope) 60)
 bind:∀ (s:Shared) (vs:List Value),K.In s.heap->d.params.length=(d.fill (vs.map er)).length->nI d r.fd r.ps s vs
noncomputable def AW(K:Frag)(glob:Str->Option GV)(aid:Str->Option Nat)(f:Nat)(d:ax):Prop:=∃ r,gh K glob aid f d r
structure uW(K0:Frag)(glob:Str->Option GV)(aid:Str->Option Nat)(F:Nat->Option ax)(c:Fc):Prop where
 K:c.K.In c.h₀
 top:eB c.w c.K c.T c.nm
 std:dg c.nm
 aidOk:∀ n k,aid n=some k->c.nm.at_ k=n
 gl:pC c
 xg:c.x.glob=glob
 xa:c.x.aid=aid
 below:Below { c.A with frames:=some c.outer } c.base c.outer c.h₀
 frame:c.fenv.frame=some c.L
 fkind:c.fenv.scope.kind=.function
 lim:c.h₀.NoLimit
 G:c.G₀.StaysIn c.h₀
 calm:c.T.calm->¬ c.X
 fns:∀ f d,F f=some d->AW c.K glob aid f d
 kis:c.K=K0
theorem jE:∀ (names:List (Str×NameKind)) (k:Nat) (acc:List (Str×Addr)) (n:Str),(names.lookup n=some .cell\/(acc.lookup n).isSome=true)->((cellsFrom k names acc).lookup n).isSome=true:=by
 intro z_
 induction z_ with
 | nil=>
  intro _ _ _ h
  rcases h with h|h;exfalso;cases h;exact h
 | cons z_2 r ihz=>
  obtain⟨nm,kd⟩:=z_2
  intro k acc n h
  unfold cellsFrom
  have hacc:∀ a:Addr,(acc.lookup n).isSome=true->(List.lookup n ((nm,a)::acc)).isSome=true:=λa h=>by
   refine ac List.lookup_cons ?_
   split<;>first|rfl|exact h
  cases hx:n==nm with
  | true=>
   split
   ·refine ihz _ _ n (.inr ?_)
    refine ac List.lookup_cons (ac hx ?_);rfl
   ·rename_i hk
    refine ihz _ _ n ?_
    rcases h with h|h
    ·rw[List.lookup_cons,hx] at h
     exfalso;cases h
     exact absurd rfl hk
    ·exact .inr h
  | false=>
   have h':r.lookup n=some .cell\/(acc.lookup n).isSome=true:=by
    rcases h with h|h
    ·rw[List.lookup_cons,hx] at h;exact .inl h
    ·exact .inr h
   split
   ·refine ihz _ _ n ?_
    rcases h' with h'|h'
    ·exact .inl h'
    ·exact .inr (hacc _ h')
   ·exact ihz _ _ n h'
theorem pq:∀ (names:List (Str×NameKind)) (k:Nat) (acc:List (Str×Addr)),(names.map (·.1)).Nodup->(acc.map (·.1)).Nodup->(∀ p∈acc,p.1 ∉ names.map (·.1))->((cellsFrom k names acc).map (·.1)).Nodup:=by
 intro z_
 induction z_ with
 | nil=>
  intro _ _ _ h _
  exact h
 | cons z_2 r ihz=>
  obtain⟨nm,kd⟩:=z_2
  intro k acc h1 h2 h3
  rw[List.map_cons,List.nodup_cons] at h1
  unfold cellsFrom
  split
  ·refine ihz _ _ h1.2 ?_ λp hp=>?_
   ·refine ac List.map_cons ?_;rw[List.nodup_cons]
    refine⟨λhm=>?_,h2⟩
    refine cG (List.mem_map.mp hm) λp hp e=>?_
    exact h3 p hp (by refine ac e ?_;exact .head _)
   ·rcases List.mem_cons.mp hp with rfl|hp
    ·exact h1.1
    ·exact λz=>h3 p hp (.tail _ z)
  ·exact ihz _ _ h1.2 h2 λp hp z=>h3 p hp (.tail _ z)
section
variable {c:Fc}
noncomputable abbrev Fc.callee(c:Fc)(C2:CS)(dp un:Nat)(env2:Env)(L':Addr)(g:Heap)(ex:List (Addr×Obj))(x2:ch):Fc:=
 { c with C:=C2,dp:=dp+1,un:=un+3,fenv:=env2,outer:=c.fenv::c.outer,L:=L',env:=env2,h₀:=g,ex:=ex,x:=x2,inv:=λ_ _=>True }
theorem pe{M:Model}{C2:CS}{dp un:Nat}{env2:Env}{L':Addr}{g:Heap}{ex:List (Addr×Obj)}{x2:ch}(hf:env2.frame=some L'){e:Value}{s:Shared}(h:Ex (c.callee C2 dp un env2 L' g ex x2) e s){E:Value->Shared->Prop}{A:Around}(hA:A.frames=some (env2::c.fenv::c.outer)) :
 wpAny M A (leaving env2 e) (λ_ s'=>Ex c e s') E s:=by
 obtain⟨hX,a,a0,rfl,hfh,hG,hg,hos⟩:=h
 rcases hfh with hfl|hh
 ·exact wpAny_leaves_onW hA hf hfl λh' hfl' hs=>⟨hX,a,a0,rfl,.inl hfl',hG.trans hs,hg,hos⟩
 ·unfold leaving
  refine wpAny_bind (wpAny_noteFrame_againW hf hh.2.2.2 ?_)
  refine wpAny_landsW hh λh' hfl hs=>?_
  refine zb hfl λk1 k2 g1_ k4=>?_
  refine C7 g1_ λ_ _ k3=>?_
  exact⟨hX,a,a0,rfl,.inl ⟨k1,k2,k3,k4⟩,hG.trans hs,hg,hos⟩
end
theorem jp{glob:Str->Option GV}{aid:Str->Option Nat}{sc:Scope}{n n':Str}{i:Nat}(h:aL (aF glob aid sc) n=some i)(h':aL (aF glob aid sc) n'=some i):n=n':=by
 have get:∀ {n:Str},aL (aF glob aid sc) n=some i->(n,i)∈(gv sc).zip (List.range (gv sc).length):=λ{n} h=>by
  unfold aL at h
  split at h
  ·exact aB h
  ·exact aB h
  ·exact aB h
  ·exfalso;cases h
 have key:∀ (l:List Str) (r:List Nat),r.Nodup->∀ a b k,(a,k)∈l.zip r->(b,k)∈l.zip r->a=b:=by
  intro l
  induction l with
  | nil=>intro r _ a b k h;exfalso;cases h
  | cons x l ih=>
   intro r hr a b k h1 h2
   induction r with
   | nil=>cases h1
   | cons y r=>
    rw[List.nodup_cons] at hr
    rw[List.zip_cons_cons] at h1 h2
    rcases List.mem_cons.mp h1 with e1|e1<;>rcases List.mem_cons.mp h2 with e2|e2
    ·exact ac ((Prod.mk.inj e1).1) (ac ((Prod.mk.inj e2).1) rfl)
    ·exact absurd ((Prod.mk.inj e1).2▸(List.of_mem_zip e2).2) hr.1
    ·exact absurd ((Prod.mk.inj e2).2▸(List.of_mem_zip e1).2) hr.1
    ·exact ih r hr.2 a b k e1 e2
 exact key _ _ List.nodup_range n n' i (get h) (get h')
theorem qy{β:Type}(y:Str)(v:β):∀ (l r:List (Str×β)),(l++r).lookup y=(match l.lookup y with|some v=>some v|none=>r.lookup y):=by
 intro z_
 induction z_ with
 | nil=>
  intro _
  exact rfl
 | cons z_2 l ihz=>
  obtain⟨n,u⟩:=z_2
  intro r
  refine ac List.cons_append (ac List.lookup_cons (ac List.lookup_cons ?_))
  split
  ·rfl
  ·exact ihz r
theorem nr{kindOf:Str->Option NameKind}{y:Str}{v:Value} : ∀ (binds:List (Str×Value)) (m:Str->Option Value),(∀ p∈binds,kindOf p.1=some .local)->PySem.bindL kindOf binds m y=some v->
 (match binds.reverse.lookup y with|some v=>some v|none=>m y)=some v:=by
 intro z_
 induction z_ with
 | nil=>
  intro m _ h
  exact h
 | cons z_2 r ihz=>
  obtain⟨n,u⟩:=z_2
  intro m hl h
  unfold PySem.bindL at h
  rw[if_pos (hl _ (.head _))] at h
  have ih:=ihz _ (λp hp=>hl p (.tail _ hp)) h
  refine ac List.reverse_cons ?_;rw[qy y v]
  induction q:r.reverse.lookup y with
  | some w=>rw[q] at ih;exact ih
  | none=>
   rw[q] at ih
   dsimp only at ih⊢
   refine ac List.lookup_cons ?_
   by_cases e:y=n
   ·rw[if_pos e] at ih;rw[beq_iff_eq.mpr e];exact ih
   ·rw[if_neg e] at ih;rw[beq_eq_false_iff_ne.mpr e];exact ih
section
variable {K:Frag} {glob:Str->Option GV} {aid:Str->Option Nat} {f:Nat} {d:ax} {r:Hl} {vs dvs:List Value}
theorem gh.len(R:gh K glob aid f d r)(hlen:d.params.length=(d.fill (vs.map er)).length)(hfill:d.fill (vs.map er)=(vs++dvs).map er):r.ps.length=(vs++dvs).length:=by
 have h1:=congrArg List.length R.slots
 rw[List.length_map,List.length_map] at h1
 exact ac (h1 ..) (ac (hlen ..) (ac (hfill ..) (ac (List.length_map ..) rfl)))
theorem gh.bound(R:gh K glob aid f d r)(hps:r.ps.length=(vs++dvs).length)(hfill:d.fill (vs.map er)=(vs++dvs).map er)(hv:∀ v∈vs,er v≠.oth)(hdv:∀ v∈dvs,er v≠.oth) :
 pE (aF glob aid r.scope) (λn=>r.scope.names.lookup n) (Mine.bindL d.n d.params (d.fill (vs.map er))) (PySem.bindL (λn=>r.scope.names.lookup n) (r.ps.zip (vs++dvs)) λ_=>none) (PySem.bindC (λn=>r.scope.names.lookup n) (r.ps.zip (vs++dvs)) λ_=>none):=by
 have B:=uJ (x:=aF glob aid r.scope) (kindOf:=λn=>r.scope.names.lookup n) (λ_ _ _ h1 h2=>jp h1 h2) (r.ps.zip (vs++dvs)) d.params (by
  have:(r.ps.zip (vs++dvs)).map (λp=>aL (aF glob aid r.scope) p.1)=((r.ps.zip (vs++dvs)).map (·.1)).map (aL (aF glob aid r.scope)):=by refine ac List.map_map ?_;rfl
  exact ac (R.slots ..).symm (ac (this ..) (ac (List.map_fst_zip (Nat.le_of_eq hps)) rfl))) (λp hp=>(List.mem_append.mp (List.of_mem_zip hp).2).elim (hv _) (hdv _))
  (λp hp=>R.par p.1 (List.of_mem_zip hp).1) (List.replicate d.n none) (λ_=>none) (λ_=>none) rf
 have e:(r.ps.zip (vs++dvs)).map (λp=>er p.2)=d.fill (vs.map er):=by
  have:(r.ps.zip (vs++dvs)).map (λp=>er p.2)=((r.ps.zip (vs++dvs)).map (·.2)).map er:=by refine ac List.map_map ?_;rfl
  exact ac (this ..) (ac (List.map_snd_zip (Nat.le_of_eq hps.symm)) (ac (hfill ..) rfl))
 rwa [e] at B
theorem jB{n:Str}{i:Nat}(h:(aF glob aid r.scope).slots.lookup n=some i):i<(aF glob aid r.scope).nx:=List.mem_range.mp (List.of_mem_zip (aB h)).2
theorem gh.plain(R:gh K glob aid f d r)(hnc:∀ p∈r.scope.names,p.2≠.cell):∀ p∈r.ps,r.scope.names.lookup p=some .local:=λp hp=>(R.par p hp).elim id λz=>absurd rfl (hnc _ (aB z))
theorem oi{c:Fc}(R:gh K glob aid f d r)(hnc:∀ p∈r.scope.names,p.2≠.cell)(hx:c.x=aF glob aid r.scope)(he:c.env=callEnv r.fd c.L f)(hi:∀ mm lc,c.inv mm lc)(hps:r.ps.length=(vs++dvs).length)(hfill:d.fill (vs.map er)=(vs++dvs).map er)(hv:∀ v∈vs,er v≠.oth)(hdv:∀ v∈dvs,er v≠.oth) :
 lb c (λy=>(r.ps.zip (vs++dvs)).reverse.lookup y) [] (Mine.bindL d.n d.params (d.fill (vs.map er))):=by
 refine⟨λnm i av hl hg=>?_,λ_ nm hk a ha=>?_,hi _ _⟩
 ·rw[hx] at hl
  obtain⟨h1,v,h2,h3⟩:=R.bound hps hfill hv hdv nm i av hl hg
  refine⟨h1,v,h2,?_⟩
  refine he.symm ▸ ?_
  rcases h3 with⟨k,z⟩|⟨k,z⟩
  ·refine .loc k rfl ?_
   have zz:=nr (r.ps.zip (vs++dvs)) _ (λp hp=>R.plain hnc p.1 (List.of_mem_zip hp).1) z
   induction q:(r.ps.zip (vs++dvs)).reverse.lookup nm with
   | some w=>rw[q] at zz;exact zz
   | none=>rw[q] at zz;exact fI zz
  ·exact absurd rfl (hnc _ (aB k))
 ·rw[he] at hk
  exact absurd rfl (hnc _ (aB (show r.scope.names.lookup nm=some .cell from hk)))
theorem lQ{c:Fc}(R:gh K glob aid f d r)(hnc:∀ p∈r.scope.names,p.2≠.cell)(hx:c.x=aF glob aid r.scope)(he:c.env=callEnv r.fd c.L f)(hf:c.env=c.fenv)(hi:∀ mm lc,c.inv mm lc):c.Def where
 same:=hf
 kindEq:=λ_=>by refine ac he ?_;rw[hx];rfl
 locals:=by refine he.symm ▸ ?_;rfl
 cellAt:=λnm hk=>absurd rfl (hnc _ (aB (show r.scope.names.lookup nm=some .cell from by rw[he] at hk;exact hk)))
 cellInj:=λa b k h1 h2=>by rw[he] at h1;exact fI h1
 noFree:=λnm hk=>R.noFree _ (aB (show r.scope.names.lookup nm=some .free from by rw[he] at hk;exact hk)) rfl
 free:=hi
 slotInj:=λ_ _ _ h1 h2=>by rw[hx] at h1 h2;exact jp h1 h2
theorem cv.fresh{A:cy}{h₀:Heap}{L:Addr}{mm:Str->Option Value}{s:Shared}{gens:Array GenState}{os:OsState}(F:Fr h₀ L s.heap mm)(hg:s.gens=gens)(ho:s.os=os):cv A gens os h₀ L mm [] (λ_=>none) s:=
 ⟨⟨[],F,λp hp=>(nomatch (show p∈([]:List (Addr×Obj)) from hp)),(show(([]:List (Addr×Obj)).map (·.1)).Nodup from List.nodup_nil),⟨.nil λ_ _ _ z=>(nomatch z),λ_ _ _ z=>(nomatch z)⟩⟩,hg,ho⟩
end
section
variable {K0:Frag} {glob:Str->Option GV} {aid:Str->Option Nat} {F:Nat->Option ax} {hd:Nat->Option gn}
noncomputable abbrev gM(c:Fc)(mm:Str->Option Value)(ex:List (Addr×Obj))(Q:au):Result->Shared->Prop:=λr s'=>match r with
 | .ok (.ret v)=>∃ H',cv c.nm c.gens c.os c.h₀ c.L mm ex H' s'/\er v≠.oth/\Q (er v) H'
 | .ok _=>False
 | .error e=>Ex c e s'
noncomputable abbrev AY(c:Fc)(Q:au):Flow->Shared->Prop:=Fl c (λ_ H=>Q .none H) Q
theorem ma{c:Fc}(P:uW K0 glob aid F c)(C2:CS){dp un:Nat}(hdp:dp+10<recursionLimit)(hun:un+200<cLine){f:Addr}{d:ax}{r:Hl}
 (R:gh c.K glob aid f d r) {vs:List Value} {mm:Str->Option Value} {ex:List (Addr×Obj)} {H:AH} {s:Shared} (hlen:d.params.length=(d.fill (vs.map er)).length)
 (M:cv c.nm c.gens c.os c.h₀ c.L mm ex H s) (hv:∀ v∈vs,er v≠.oth) {Q:au}
 (run:∀ (g:Heap) (L':Addr) (s2:Shared),uW K0 glob aid F (c.callee C2 dp un (envOfC r.qual r.scope L' f r.cdv) L' g ex (aF glob aid r.scope))->(c.callee C2 dp un (envOfC r.qual r.scope L' f r.cdv) L' g ex (aF glob aid r.scope)).Def->
  ((∀ dp' un',dp'<=dp+2->un'<=un+11->iD (c.callee C2 dp un (envOfC r.qual r.scope L' f r.cdv) L' g ex (aF glob aid r.scope)) dp' un')->(c.callee C2 dp un (envOfC r.qual r.scope L' f r.cdv) L' g ex (aF glob aid r.scope)).Ok)->
  St (c.callee C2 dp un (envOfC r.qual r.scope L' f r.cdv) L' g ex (aF glob aid r.scope)) (Mine.bindL d.n d.params (d.fill (vs.map er))) H s2->
  wpAny c.M (c.callee C2 dp un (envOfC r.qual r.scope L' f r.cdv) L' g ex (aF glob aid r.scope)).A (execs r.body (envOfC r.qual r.scope L' f r.cdv)) (AY (c.callee C2 dp un (envOfC r.qual r.scope L' f r.cdv) L' g ex (aF glob aid r.scope)) Q)
   (λe s'=>wpAny c.M (c.callee C2 dp un (envOfC r.qual r.scope L' f r.cdv) L' g ex (aF glob aid r.scope)).A (leaving (envOfC r.qual r.scope L' f r.cdv) e) (λ_ s''=>Ex c e s'') (λe' s''=>Ex c e' s'') s') s2) :
 codeAny c.M { c.A with depth:=dp,units:=un } (.call (.ref f) ⟨vs,[]⟩) (gM c mm ex Q) s:=by
 obtain⟨news,Fr',N,O,D⟩:=M.out
 have XK:c.K.In s.heap:=P.K.keeps Fr'.keep
 obtain⟨dvs,hfill,hdv,hb⟩:=R.bind s vs XK hlen
 have hps:=R.len hlen hfill
 refine callX_cells (A:={ c.A with depth:=dp,units:=un }) P.below Fr' N P.lim rfl P.frame P.fkind (XK _ _ R.obj) rfl (codeRec_of XK R.code) (show dp<recursionLimit from by lia) hb (λk x hx=>?_) (pq _ _ _ R.nodup .nil (λ_ z=>nomatch z))
  (λg L' h₁ tk cells FG FL NC CA BG SG hlt=>?_) R.co R.gen R.kind
 ·rcases R.par x.1 (List.of_mem_zip hx).1 with z|z
  ·exact .inl z
  ·exact .inr ⟨z,jE _ _ _ _ (.inl z)⟩
 let env2:=envOfC r.qual r.scope L' f r.cdv
 let c2:Fc:=c.callee (C2) dp un env2 L' g ex (aF glob aid r.scope)
 have gl2:pC c2:=by
  obtain⟨mg,mb,g1,g2,g3,g4,g5,g6⟩:=P.gl.g
  rw[P.xg] at g3 g4 g5 g6
  exact⟨mg,mb,g1.keeps SG,g2.keeps SG,g3,g4,g5,g6⟩
 have bel2:Below { c2.A with frames:=some c2.outer } c2.base c2.outer c2.h₀:=⟨rfl,BG.stays,BG.frames⟩
 have P2:uW K0 glob aid F c2:=⟨P.K.keeps SG,P.top,P.std,P.aidOk,gl2,rfl,rfl,bel2,rfl,R.kind,P.lim.keeps SG,λb o e=>SG b o (P.G b o e),P.calm,P.fns,P.kis⟩
 have d2:c2.Def:={
  same:=rfl
  kindEq:=λ_=>rfl
  locals:=rfl
  cellAt:=λnm hk=>Option.isSome_iff_exists.mp (jE r.scope.names (L'+1) [] nm (.inl hk))
  cellInj:=λa b k h1 h2=>BH (jU r.scope.names (L'+1) [] (λ_ z=>nomatch z) .nil) h1 h2
  noFree:=λnm hk=>R.noFree _ (aB hk) rfl
  free:=λ_ _=>trivial
  slotInj:=λ_ _ _ h1 h2=>jp h1 h2 }
 have o2:(∀ dp' un',dp'<=dp+2->un'<=un+11->iD c2 dp' un')->c2.Ok:=λcalls=>{
  K:=P2.K,top:=P.top,aid:=P.aidOk,std:=P.std,glob:=gl2,below:=bel2,frame:=rfl,fkind:=R.kind,ekind:=R.kind,eglob:=rfl,eblt:=rfl,lim:=P2.lim,G:=P2.G
  units:=by show un+3+100<cLine;lia
  depth:=by show dp+1+2<recursionLimit;lia
  calls:=λdp' un' h1 h2=>calls dp' un' h1 h2
  calm:=P.calm
  globk:=λ_ h=>h
  def_:=λ_=>d2
  slotsLt:=λnm i h=>jB h }
 have keys:=lu CA
 have above:∀ p∈cells,L'<p.1:=λp hp=>by
  have hm:p.1∈(cellsFrom (L'+1) r.scope.names []).map (·.2):=keys▸List.mem_map_of_mem hp
  refine cG (List.mem_map.mp hm) λq hq e=>?_
  rcases At r.scope.names (L'+1) [] q hq with z|z
  ·exact e▸z
  ·exfalso;cases z
 have once2:cg (news++(cells++ex)):=by
  have h1:cg (cells++(news++ex)):=by
   unfold cg at O⊢
   refine ac List.map_append ?_;rw[List.nodup_append]
   refine⟨keys▸jU r.scope.names (L'+1) [] (λ_ z=>nomatch z) .nil,O,λa ha b hb' e=>?_⟩
   refine cG (List.mem_map.mp ha) λp hp eq1_=>?_
   subst eq1_
   refine cG (List.mem_map.mp hb') λq hq eq1_=>?_
   subst eq1_
   have h1:=above p hp
   have h2:=hlt q hq
   rw[e] at h1
   exact absurd (Nat.lt_trans h1 h2) (Nat.lt_irrefl _)
  unfold cg at h1⊢
  refine(List.Perm.nodup_iff (List.Perm.map _ ?_)).mp h1
  refine ac (List.append_assoc ..).symm (ac (List.append_assoc ..).symm ?_)
  exact List.Perm.append_right _ List.perm_append_comm
 have S2:St c2 (Mine.bindL d.n d.params (d.fill (vs.map er))) H { s with heap:=h₁,toks:=tk }:=by
  refine⟨_,cells,⟨⟨news,FL,λp hp=>NC p ?_,once2,D⟩,M.gens,M.os⟩,⟨?_,λ_ nm hk a ha=>?_,trivial⟩⟩
  ·rcases List.mem_append.mp hp with z|z
   ·exact List.mem_append_right _ (List.mem_append_left _ z)
   ·rcases List.mem_append.mp z with z|z
    ·exact List.mem_append_left _ z
    ·exact List.mem_append_right _ (List.mem_append_right _ z)
  ·have B:=R.bound hps hfill hv hdv
   intro nm i av hl hg
   refine(B nm i av hl hg).elim λh1 h1_=>h1_.elim λv h2_=>h2_.elim λh2 h3=>?_
   refine⟨h1,v,h2,?_⟩
   rcases h3 with⟨k,z⟩|⟨k,z⟩
   ·exact .loc k rfl z
   ·refine(Option.isSome_iff_exists.mp (jE r.scope.names (L'+1) [] nm (.inl k))).elim λa ha=>?_
    refine cG (jV CA ha) λob hm hdat=>?_
    exact .cell k a ob ha (List.mem_append_left _ hm) (by refine ac hdat ?_;exact congrArg _ z)
  ·refine cG (jV CA ha) λob hm hdat=>?_
   exact⟨ob,_,hm,hdat⟩
 have leave:∀ (v:Value) (s':Shared) (m':bd) (H':AH),St c2 m' H' s'->er v≠.oth->Q (er v) H'->LeaveK c.h₀ c.L mm g (gM c mm ex Q) v s':=by
  intro v s' m' H' ⟨mm',lc',M',lo'⟩ ho hq
  obtain⟨news',F',N',O',D'⟩:=M'.out
  have sub:(news'++ex).Sublist (news'++(lc'++ex)):=List.Sublist.append_left (List.sublist_append_right _ _) _
  exact⟨L',mm',news'++ex,F',λp hp=>N' p (sub.subset hp),λF3 N3=>⟨H',⟨⟨news',F3,N3,List.Nodup.sublist (sub.map _) O',D'⟩,M'.gens,M'.os⟩,ho,hq⟩⟩
 refine wpAny_mono (run g L' _ P2 d2 o2 S2) (λfl s' hfl=>?_) λe s' he=>he
 induction fl with
 | next=>
  obtain⟨m',H',S',hq⟩:=hfl
  exact leave .none s' m' H' S' (λz=>nomatch z) hq
 | ret v=>
  obtain⟨m',H',S',ho,hq⟩:=hfl
  exact leave v s' m' H' S' ho hq
 | brk=>exact hfl.elim
 | cont=>exact hfl.elim
noncomputable def kg(K0:Frag)(glob:Str->Option GV)(aid:Str->Option Nat)(F:Nat->Option ax)(hd:Nat->Option gn)(X:Prop)(PE:Addr)(N n:Nat):Prop:=
 ∀ c:Fc,uW K0 glob aid F c->c.X=X->c.PE=PE->c.outer.length+n=N->c.C=bC c.T F hd n->∀ dp un,dp+3*n+10<recursionLimit->un+200+12*n<cLine->iD c dp un
noncomputable def sX(K0:Frag)(glob:Str->Option GV)(aid:Str->Option Nat)(F:Nat->Option ax)(hd:Nat->Option gn)(X:Prop)(PE:Addr)(N:Nat):Prop:=∀ f W,hd f=some W->∀ n,kg K0 glob aid F hd X PE N n->
 ∀ c:Fc,uW K0 glob aid F c->c.X=X->c.PE=PE->c.outer.length+(n+1)=N->c.C=bC c.T F hd (n+1)->∀ dp un,dp+3*(n+1)+10<recursionLimit->un+200+12*(n+1)<cLine->
 ∀ mm ex (vs:List Value) (H:AH) (s:Shared) (Q:au),cv c.nm c.gens c.os c.h₀ c.L mm ex H s->(∀ v∈vs,er v≠.oth)->W n c.T (bC c.T F hd n) (vs.map er) H Q->
 codeAny c.M { c.A with depth:=dp,units:=un } (.call (.ref f) ⟨vs,[]⟩) (gM c mm ex Q) s
theorem je{X:Prop}{PE:Addr}{N:Nat}(hh:sX K0 glob aid F hd X PE N):∀ n:Nat,kg K0 glob aid F hd X PE N n
 | 0=>λc P hX hPE hN hC dp un _ _ mm ex f vs H s Q M hv h=>by
  rw[hC,ra] at h;exact h.elim
 | n+1=>λc P hX hPE hN hC dp un hdp hun mm ex f vs H s Q M hv h=>by
  have ih:=je hh n
  rw[hC,fX] at h
  induction hf:hd f with
  | some W=>
   rw[hf] at h
   exact hh f W hf n ih c P hX hPE hN hC dp un hdp hun mm ex vs H s Q M hv h
  | none=>
   rw[hf] at h
   dsimp only at h
   cases hd':F f with
   | none=>rw[hd'] at h;exact h.elim
   | some d=>
    rw[hd'] at h
    dsimp only at h
    refine a7 λGg fin_=>?_
    refine C7 h λhlen _ hw=>?_
    refine fin_ ?_
    refine a7 λGg fin_=>?_
    refine(P.fns f d hd').elim λr R=>?_
    refine fin_ ?_
    refine ma P (bC c.T F hd n) (by lia) (by lia) R hlen M hv λg L' s2 P2 d2 o2 S2=>?_
    rw[R.body_] at hw
    have ok:=o2 λdp' un' h1 h2=>ih _ P2 hX hPE (by show c.outer.length+1+n=N;lia) rfl dp' un' (by lia) (by lia)
    have run:=mw (f:=cS (aF glob aid r.scope) 60) r.body (λst _=>fM fB j1 60 _ ok d2 st) _ _ _ _ _ S2 hw
    exact wpAny_mono run (λ_ _ z=>z) λe s' he=>pe (c:=c) rfl he rfl
end
end Mine
namespace Mine
open PySem PySem.W PySem.Calls PyProof.Rows
open Builtin Builtin.ObjectAttr
noncomputable def iP:List Value:=[.ref 763,.ref 750,.type "Exception",.type "BaseException",.type "object"]
noncomputable abbrev oj:Obj:=excClassObj (Str.ofString "ParseError") (Str.ofString "ParseError") 782 781 [.ref 763] iP true [] [] false none none (some (.ref 766)) none (some (.str (Str.ofString "ParseError") 1219)) (some (.str (Str.ofString "ParseError") 1227)) (some (.bool true)) "Exception.__new__"
noncomputable abbrev exBm:List Value:=[.type "Exception",.type "BaseException",.type "object"]
noncomputable abbrev iO:List Value:=.ref 782::iP
noncomputable abbrev LZ:ClassData:={ name:=Str.ofString "ParseError",bases:=[.ref 763],mro:=iO,ns:=781,qualname:=Str.ofString "ParseError",hasDict:=true,slotNames:=[],subclasses:=[],abstract:=false,collection:=none,hasDel:=false }
noncomputable def gW:Str:=Str.ofString "message"
noncomputable def qt:Str:=Str.ofString "place"
noncomputable def eZ:Str:=Str.ofString "self"
noncomputable def Pu:Arguments:=⟨[],[⟨eZ,none,⟨286,17,286,21⟩⟩,⟨gW,none,⟨286,23,286,30⟩⟩,⟨qt,none,⟨286,32,286,37⟩⟩],none,[],[],none,[]⟩
noncomputable def Qr:List Stmt:=[.Assign [.Attribute (.Name eZ ⟨287,8,287,12⟩) gW ⟨287,8,287,20⟩] (.Name gW ⟨287,23,287,30⟩) ⟨287,8,287,30⟩,.Assign [.Attribute (.Name eZ ⟨288,8,288,12⟩) qt ⟨288,8,288,18⟩] (.Name qt ⟨288,21,288,26⟩) ⟨288,8,288,26⟩]
noncomputable def yM:Scope:={ kind:=.function,names:=[(eZ,.local),(gW,.local),(qt,.local)],isGenerator:=false,isCoroutine:=false }
noncomputable def Pt:Str:=Str.ofString "ParseError.__init__"
noncomputable def qQ:FuncData:=fnX (Str.ofString "__init__") Pt Pu Qr yM [] .none .none .none (.str (Str.ofString "pagebase.errors") 1172) none (.ref 778) .none
noncomputable def Fw:Obj:={ cls:=.type "function",data:=.func qQ }
theorem KO:ExcBaseFacts "Exception" "Exception.__new__" "Exception.__init__" exBm:=PySem.F.excBase_Exception
theorem Ii:iP.contains (.type "Exception")=true:=by decide +kernel
theorem Ch:iO.contains (.type "Exception")=true:=by decide +kernel
theorem Ih:iO.contains (.type "AttributeError")=false:=by decide +kernel
theorem Ig:iO.contains (.type "NameError")=false:=by decide +kernel
theorem Ci:iO.contains (.type "BaseException")=true:=by decide +kernel
theorem Cg:iO.contains (.ref 782)=true:=by decide +kernel
theorem Qg:iO.contains (.type "object")=true:=by decide +kernel
structure ly(K:Frag):Prop where
 cls:K.lookup 782=some oj
 ini:findIn K (.ref 782) "__init__" = some (some (.ref 779))
 fn:K.lookup 779=some Fw
 code:codeIn K (.ref 778) Pt=true
 keep:keepIn K (.ref 782)=true
 cd:clsIn K 782=some LZ
 sa:findIn K (.ref 782) "__setattr__" = some (some (.builtin "object.__setattr__"))
 t1:takerIn K 782 gW=some none
 t2:takerIn K 782 qt=some none
section
variable {prog:Program} {w:World} {A:Around} {E:Value->Shared->Prop} {R:Result->Shared->Prop} {h:Heap} {g:Array GenState} {d:Drawn} {t:Nat} {os:OsState} {K:Frag}
noncomputable abbrev A4(a:Addr):Obj:={ cls:=.ref 782,data:=.fields #[.ref a,.none,.none,.none,.bool false,.none] }
theorem C5{rest:List Value}(hC:h.get? 782=some oj)
 (hq:R (.ok (.ret (.ref (h.objs.size+1)))) ⟨(h.push { cls:=.type "tuple",data:=.seq rest.toArray }).push (A4 h.objs.size),g,d,t,os⟩) (hrest:rest.length<=sizeLine) :
 codeAny (model prog w) A (.builtin "Exception.__new__" ⟨.ref 782::rest,[]⟩) R ⟨h,g,d,t,os⟩:=by
 have hends:=KO.ends
 refine codeAny_builtinAt KO.entry ?_
 unfold Builtin.«BaseException.__new__»
 refine PySem.wpAt_bind ?_
 refine PySem.wpAt_bind (PySem.wpAt_stack λp below=>PySem.wpAt_of_wpAny ?_)
 wp_walk
 refine PySem.wpAt_of_wpAny ?_
 refine KO.owner.symm ▸ ?_
 repeat (first|with_reducible refine wpAny_madeHere_exc KO.canon hC ?_|with_reducible refine wpAny_loadPart_at hC ?_|(with_reducible refine wpAny_isSubtype_exc hC ?_;first|rw[Ch]|rw[Ih]|rw[Ig])|wp_step)
 show R _ _
 refine ac (Heap.size_push ..) ?_
 exact hq
theorem m8(PE:ly K)(X:K.In h){rest:List Value}{Q:Fin->Shared->Prop}(hrest:rest.length<=sizeLine)
 (hq:∀ h' e,Heap.MadeExcOf h h' e (.ref 782) rest->
  wpAny (model prog w) A (call (.ref 779) (.ref e::rest)) (λr s'=>r=.none/\Q (.done (.ret (.ref e))) s') E ⟨h',g,d,t,os⟩) :
 wpAny (model prog w) A (Builtin.«type.__call__» ⟨.ref 782::rest,[]⟩) Q E ⟨h,g,d,t,os⟩:=by
 have hC:=X _ _ PE.cls
 repeat (first|with_reducible refine wpAny_loadPart_at hC ?_|with_reducible refine wpAny_madeBy_exc hC ?_|wp_step)
 refine codeAny_call_builtin_code (Code.quiet_builtin _ KO.quiet) (wpAny_check_new_subU (bmB:=iP) KO Ii .base hC ?_)
 refine C5 hC ?_ hrest
 have hk:∀ b o,h.get? b=some o->((h.push { cls:=.type "tuple",data:=.seq rest.toArray }).push (A4 h.objs.size)).get? b=some o:=λb o e=>Heap.get?_push_of_some _ (Heap.get?_push_of_some _ e)
 have hget:((h.push { cls:=.type "tuple",data:=.seq rest.toArray }).push (A4 h.objs.size)).get? (h.objs.size+1)=some (A4 h.objs.size):=by heap_get
 have htup:((h.push { cls:=.type "tuple",data:=.seq rest.toArray }).push (A4 h.objs.size)).get? h.objs.size=some { cls:=.type "tuple",data:=.seq rest.toArray }:=Heap.get?_push_of_some _ (Heap.get?_push_at rfl rfl)
 have hm:Heap.MadeExcOf h ((h.push { cls:=.type "tuple",data:=.seq rest.toArray }).push (A4 h.objs.size)) (h.objs.size+1) (.ref 782) rest:=⟨hk,Heap.get?_none_of_le (Nat.le_succ _),h.objs.size,hget,Heap.get?_none_of_le (Nat.le_refl _),htup⟩
 replace hq:=hq _ _ hm
 have X₁:=X.keeps hk
 clear hk hm htup
 generalize(h.push { cls:=.type "tuple",data:=.seq rest.toArray }).push (A4 h.objs.size)=h₁ at *
 have hC₁:=X₁ _ _ PE.cls
 unfold isInstance
 repeat (first|with_reducible refine wpAny_loadPart_at hget ?_|(with_reducible refine wpAny_isSubtype_exc hC₁ ?_;rw[Cg])|wp_step)
 refine(looks_findIn X₁ PE.ini).here (wpAny_holding (wpAny_bind ?_))
 unfold bindSpecial
 refine wpAny_bind (wpAny_typeOf (T:="function") ⟨_,X₁ _ _ PE.fn,rfl⟩ ?_)
 refine ac (if_pos (by decide)) ?_
 refine wpAny_pure (wpAny_bind (wpAny_mono hq (λr s' hr=>?_) λ_ _ x=>x))
 obtain⟨rfl,hQ⟩:=hr
 wp_walk
 exact hQ
theorem y5(PE:ly K)(X:K.In h){rest:List Value}{Q:Value->Shared->Prop}(hrest:rest.length<=sizeLine)
 (hq:∀ h' e,Heap.MadeExcOf h h' e (.ref 782) rest->
  wpAny (model prog w) (A.under (.builtin "type.__call__" ⟨.ref 782::rest,[]⟩)) (call (.ref 779) (.ref e::rest)) (λr s'=>r=.none/\Q (.ref e) s') E ⟨h',g,d,t,os⟩) :
 wpAny (model prog w) A (call (.ref 782) rest) Q E ⟨h,g,d,t,os⟩:=by
 have hC:=X _ _ PE.cls
 have f1:=tc_lookup
 have f2:=tc_bind (.ref 782)
 have hT:(⟨h,g,d,t,os⟩:Shared).TypeIs (.ref 782) "type":=⟨_,hC,rfl⟩
 refine wpAny_call (codeAny_of_tree ?_)
 show wpAny _ _ (callAny (.ref 782) _) _ _ _
 repeat (any_goals (first|assumption|with_reducible refine wpAny_loadPart_at hC ?_|wp_step))
 refine⟨rfl,?_⟩
 exact codeAny_call_builtin_at (Code.quiet_builtin _ (by decide +kernel)) entry_typeCall (wpAny_check_type_call_sub hC (m8 PE X hrest hq))
end
section
variable {prog:Program} {w:World} {A:Around} {E:Value->Shared->Prop} {R:Result->Shared->Prop} {K:Frag} {h:Heap} {g:Array GenState} {d:Drawn} {t:Nat} {os:OsState} {x a:Addr} {name:Str} {v:Value}
set_option backward.match.sparseCases true
noncomputable abbrev OB(Q:Unit->Shared->Prop)(E:Value->Shared->Prop):Result->Shared->Prop:=λr s'=>match r with|.ok (.ret _)=>Q () s'|.ok _=>False|.error e=>E e s'
noncomputable abbrev Qa(prog:Program)(w:World)(A:Around)(R:Result->Shared->Prop):Fin->Shared->Prop:=λfin s'=>match fin with|.done f=>R (.ok f) s'|.again c'=>c'.quiet=true/\codeAny (model prog w) A c' R s'
noncomputable abbrev Qc(R:Result->Shared->Prop):Value->Shared->Prop:=λe s'=>R (.error e) s'
theorem pP{M:Model}(X:K.In h){attr:Option Value}(hr:(match attr with|some a=>(takesIn K a).map λb=>if b then some a else none|none=>some none)=some none):Looks M h (storeTaker? attr) none:=by
 induction attr with
 | none=>exact .now
 | some a=>
  refine cG (Option.map_eq_some_iff.mp hr) λb hb hbn=>?_
  refine(looks_takesIn X hb).andThen ?_
  induction b<;>first|exact .now|exfalso;cases hbn
theorem Ic{self:Value} : refuseLoop self "__setattr__" iO=pure ():=by
 show refuseLoop self "__setattr__" (.ref 782::.ref 763::.ref 750::exBm)=_
 refine ac (refuseLoop_ref ..) (ac (refuseLoop_ref ..) (ac (refuseLoop_ref ..) ?_))
 exact PySem.F.store_Exception.passes self
theorem rB(PE:ly K)(X:K.In h)(ht:takerIn K 782 name=some none){ox:Obj}{od:Option Obj}(IA:InstAt h x ox 782 od){Q:Unit->Shared->Prop}
 (k:∀ b t' tk,wpAny (model prog w) A.in1 (storeInOwnDict (.ref x) (.ref 782) (.str name tk) name v b) (Qa prog w A (OB Q E)) (Qc (OB Q E)) ⟨h,g,d,t',os⟩):wpAny (model prog w) A (setAttr (.ref x) name v) Q E ⟨h,g,d,t,os⟩:=by
 refine set_plain X IA PE.sa ?_
 have SF:=PySem.F.store_object
 have sub:Looks (model prog w) h (isInstance (.ref x) (.type "object")) true:=IA.type.andThen (looks_mroIn X (by unfold mroIn;refine PE.cd.symm ▸ ?_;rfl))
 refine codeAny_call_builtin SF.slot.plain SF.entry (@check_slot (model prog w) _ _ _ "object.__setattr__" "object" "__setattr__" (.ref x) [.str name t,v] [] _ SF.kind SF.split sub (SF.args (.ref x) (.str name t) v) ?_)
 refine a7 λG fin_=>?_
 refine cG (Option.bind_eq_some_iff.mp ht) λattr ha hr=>?_
 refine fin_ ?_
 have hm:Looks (model prog w) h (mroOf (.ref 782)) iO:=(looks_clsIn X PE.cd).andThen .now
 refine ac (osa_eq ..) (ac (refuse_eq ..) ?_)
 refine wpAny_bind (wpAny_bind (IA.type.here (wpAny_bind (hm.here ?_))))
 refine Ic.symm ▸ ?_
 refine wpAny_pure (wpAny_bind (IA.type.here (wpAny_bind ((looks_findIn X ha).here (wpAny_bind ((pP X hr).here ?_))))))
 exact k _ _ _
set_option backward.match.sparseCases false
theorem nP{M:Model}{Ar:Around}{P:Fin->Shared->Prop}{E':Value->Shared->Prop}{dx:Addr}{m:Str->Option Value}{ns:List Str}{tk:Tok}(hn:h.Ns1 dx m)(hw:Within m ns)(hsz:ns.length<=100)
 (hq:∀ h' tk',h'.Ns1 dx (λy=>if y=name then some v else m y)->Heap.SameBut dx h h'->P (.done (.ret .none)) ⟨h',g,d,tk',os⟩):wpAny M Ar (storeInDict dx (.str name tk) name v) P E' ⟨h,g,d,t,os⟩:=by
 unfold storeInDict newKeyGuard
 refine wpAny_bind (wpAny_pure (wpAny_bind (wpAny_nsSet1 hn λh' hn' hs'=>?_)))
 refine a7 λG fin_=>?_
 refine na (hn'.count (Within.cons name v hw)) λoD esD epD hoD hdD hcD=>?_
 refine fin_ ?_
 exact wpAny_bind (wpAny_lookBehind hoD (by refine hdD.symm ▸ ?_;exact pastItsLine_dict (Nat.le_trans hcD (by refine ac List.length_cons (ac sizeLine_eq ?_);omega))) (wpAny_pure (hq h' _ hn' hs')))
noncomputable abbrev Og(a dx:Addr):Obj:={ cls:=.ref 782,dict:=some dx,data:=.fields #[.ref a,.none,.none,.none,.bool false,.none] }
theorem tq(PE:ly K)(X:K.In h)(ht:takerIn K 782 name=some none)(he:h.get? x=some (A4 a)){Q:Unit->Shared->Prop}
 (hq:∀ h' tk dx,h'.get? x=some (Og a dx)->dx≠x->h'.Ns1 dx (λy=>if y=name then some v else none)->(∀ b o,b≠x->h.get? b=some o->h'.get? b=some o)->h.get? dx=none->Q () ⟨h',g,d,tk,os⟩) :
 wpAny (model prog w) A (setAttr (.ref x) name v) Q E ⟨h,g,d,t,os⟩:=by
 refine rB PE X ht (od:=none) ⟨he,rfl,rfl,trivial⟩ λb t' tk=>?_
 refine wpAny_bind (wpAny_pure (wpAny_bind (wpAny_bind (wpAny_loadPart he (wpAny_bind ((looks_clsIn X PE.cd).here ?_))))))
 rw[if_neg (by simp[typeHasDict])]
 have hxs:x≠h.objs.size:=Nat.ne_of_lt (Heap.lt_size he)
 have he₁:(h.push { cls:=.type "dict",data:=.dict #[] }).get? x=some (A4 a):=Heap.get?_push_of_some _ he
 have hx1:((h.push { cls:=.type "dict",data:=.dict #[] }).update x λo=>{ cls:=o.cls,dict:=some h.objs.size,data:=o.data,slots:=o.slots }).get? x=some (Og a h.objs.size):=Heap.get?_update_self _ he₁ rfl
 have hgd:((h.push { cls:=.type "dict",data:=.dict #[] }).update x λo=>{ cls:=o.cls,dict:=some h.objs.size,data:=o.data,slots:=o.slots }).get? h.objs.size=some { cls:=.type "dict",data:=.dict #[] }:=
  (Heap.get?_update_ne _ _ _ _ hxs.symm).trans (Heap.get?_push_at rfl rfl)
 have hk:∀ b o,b≠x->h.get? b=some o->((h.push { cls:=.type "dict",data:=.dict #[] }).update x λo=>{ cls:=o.cls,dict:=some h.objs.size,data:=o.data,slots:=o.slots }).get? b=some o:=
  λb o hb e=>(Heap.get?_update_ne _ _ _ _ hb).trans (Heap.get?_push_of_some _ e)
 refine wpAny_bind (wpAny_alloc' (wpAny_bind (wpAny_update' he₁ (wpAny_pure ?_))))
 have hnd:((h.push { cls:=.type "dict",data:=.dict #[] }).update x λo=>{ cls:=o.cls,dict:=some h.objs.size,data:=o.data,slots:=o.slots }).Ns h.objs.size (λ_=>none):=
  ⟨_,#[],_,hgd,rfl,λe he=>absurd he (by simp),λ_=>rfl⟩
 refine nP (Heap.Ns1.of_empty hnd) Within.nil (by decide) λh' tk' hn' hs'=>?_
 exact hq h' tk' h.objs.size ((hs'.2 x hxs).trans hx1) hxs.symm hn' (λb o hb e=>(hs'.2 b (Nat.ne_of_lt (Heap.lt_size e))).trans (hk b o hb e)) (Heap.get?_none_of_le (Nat.le_refl _))
theorem vp(PE:ly K)(X:K.In h)(ht:takerIn K 782 name=some none){dx:Addr}(he:h.get? x=some (Og a dx)){m:Str->Option Value}(hn:h.Ns1 dx m){ns:List Str}(hw:Within m ns)(hsz:ns.length<=100){Q:Unit->Shared->Prop}
 (hq:∀ h' tk,Heap.SameBut dx h h'->Q () ⟨h',g,d,tk,os⟩) :
 wpAny (model prog w) A (setAttr (.ref x) name v) Q E ⟨h,g,d,t,os⟩:=by
 refine a7 λG fin_=>?_
 refine GZ (id hn) λod es ep hod _=>?_
 refine fin_ ?_
 refine rB PE X ht (od:=some od) ⟨he,rfl,rfl,hod⟩ λb t' tk=>?_
 refine wpAny_bind (wpAny_pure (wpAny_bind (wpAny_bind (wpAny_loadPart he (wpAny_bind ((looks_clsIn X PE.cd).here ?_))))))
 refine wpAny_pure (a:=some dx) ?_
 exact nP hn hw hsz λh' tk' _ hs'=>hq h' tk' hs'
end
end Mine
namespace Mine
open PySem PySem.W PySem.Calls PyProof.Rows
inductive AS(h h':Heap)(e:Addr):Prop
 | mk (keeps:∀ b o,h.get? b=some o->h'.get? b=some o) (new:h.get? e=none) (a dx:Addr) (he:h'.get? e=some (Og a dx)):AS h h' e
theorem CU:∀ a b c,bindArgs qQ ⟨[a,b,c],[]⟩=pure [(eZ,a),(gW,b),(qt,c)]:=λa b c=>by kernel_rfl
theorem yK:yM.kind=.function:=rfl
theorem CT:∀ x∈yM.names,x.2≠.cell:=by decide +kernel
theorem qP:∀ n∈[eZ,gW,qt],yM.names.lookup n=some .local:=by decide +kernel
theorem yL:∀ n∈[eZ,gW,qt],(n==("__debug__" : Str))=false:=by decide +kernel
section
variable {prog:Program} {w:World} {A:Around} {E:Value->Shared->Prop} {R:Result->Shared->Prop} {K:Frag}
theorem CV{a b c:Value} : ∀ x∈[(eZ,a),(gW,b),(qt,c)],yM.names.lookup x.1=some .local:=λx hx=>qP _ (List.mem_map_of_mem (f:=(·.1)) hx)
noncomputable def KM(e:Addr)(v1 v2:Value):Str->Option Value:=λx=>([(eZ,Value.ref e),(gW,v1),(qt,v2)].reverse).lookup x
theorem NV:∀ e v1 v2,KM e v1 v2 eZ=some (.ref e):=λe v1 v2=>by kernel_rfl
theorem NU:∀ e v1 v2,KM e v1 v2 gW=some v1:=λe v1 v2=>by kernel_rfl
theorem NT:∀ e v1 v2,KM e v1 v2 qt=some v2:=λe v1 v2=>by kernel_rfl
theorem JB:Qr=[.Assign [.Attribute (.Name eZ ⟨287,8,287,12⟩) gW ⟨287,8,287,20⟩] (.Name gW ⟨287,23,287,30⟩) ⟨287,8,287,30⟩,.Assign [.Attribute (.Name eZ ⟨288,8,288,12⟩) qt ⟨288,8,288,18⟩] (.Name qt ⟨288,21,288,26⟩) ⟨288,8,288,26⟩]:=rfl
theorem sn{Ar:Around}{h:Heap}{g:Array GenState}{d:Drawn}{t:Nat}{os:OsState}{L e:Addr}{v1 v2 v:Value}{n:Str}{p1 p2 p3 p4:Pos}{rest:List Stmt}{Q:Flow->Shared->Prop}{E':Value->Shared->Prop}(hn:n∈[eZ,gW,qt])(hns:h.Ns L (KM e v1 v2))(hr:KM e v1 v2 n=some v)
 (k:wpAny (model prog w) Ar (setAttr (.ref e) n v) (λ_ s=>wpAny (model prog w) Ar (execs rest (callEnv qQ L 779)) Q E' s) E' ⟨h,g,d,t,os⟩) :
 wpAny (model prog w) Ar (execs (.Assign [.Attribute (.Name eZ p1) n p2] (.Name n p3) p4::rest) (callEnv qQ L 779)) Q E' ⟨h,g,d,t,os⟩:=
 wpAny_execs_cons (plainObj_wpAny_Assign_Attribute (ldc (fd:=qQ) yK (qP _ hn) hns hr (ldc (fd:=qQ) yK (qP _ (.head _)) hns (NV _ _ _) k (yL _ (.head _))) (yL _ hn)) rfl)
theorem y6(PE:ly K){h:Heap}(X:K.In h){h':Heap}(hlim:h'.NoLimit){e:Addr}{args:List Value}(hm:Heap.MadeExcOf h h' e (.ref 782) args){v1 v2:Value}{g:Array GenState}{d:Drawn}{t:Nat}{os:OsState}
 (hroom:A.depth<recursionLimit) {Q:Value->Shared->Prop} (hq:∀ h'' tk,AS h h'' e->Q .none ⟨h'',g,d,tk,os⟩):wpAny (model prog w) A (call (.ref 779) [.ref e,v1,v2]) Q E ⟨h',g,d,t,os⟩:=by
 refine a7 λGg fin_=>?_
 obtain⟨keeps,new,tt,hget,_,_⟩:=hm
 refine fin_ ?_
 have X':K.In h':=X.keeps keeps
 refine wpAny_call (codeAny_call_def (s:=⟨h',g,d,t,os⟩) (fd:=qQ) hroom (X' _ _ PE.fn) rfl hlim (codeRec_of X' PE.code) rfl (BindsTo.of_eq (CU _ _ _)) CT CV (λh₀ hns hk₀=>?_) rfl rfl yK)
 replace hns:h₀.Ns h'.objs.size (KM e v1 v2):=hns
 have he₀:h₀.get? e=some (A4 tt):=hk₀ _ _ hget
 have hLe:h'.objs.size≠e:=Nat.ne_of_gt (Heap.lt_size hget)
 have X₀:K.In h₀:=X'.keeps hk₀
 have k0:∀ b o,h.get? b=some o->h₀.get? b=some o:=λb o q=>hk₀ _ _ (keeps _ _ q)
 have ne:∀ b o,h.get? b=some o->b≠e:=λb o q z=>by rw[z,new] at q;cases q
 clear hk₀ hlim hget X' keeps
 refine ac JB ?_
 refine sn (.tail _ (.head _)) hns (NU _ _ _) (tq PE X₀ PE.t1 he₀ λh₁ tk₁ dx he₁ hdx hn₁ k₁ hd=>?_)
 have X₁:K.In h₁:=λb o q=>k₁ b o (ne b o (X _ _ q)) (X₀ _ _ q)
 refine sn (.tail _ (.tail _ (.head _))) (let ⟨o,es,ep,q,r⟩:=hns;⟨o,es,ep,k₁ _ _ hLe q,r⟩) (NT _ _ _) (vp PE X₁ PE.t2 he₁ hn₁ (Within.cons gW v1 Within.nil) (by simp) λh₂ tk₂ hs=>?_)
 refine wpAny_execs_nil (hq _ _ ⟨λb o q=>?_,new,tt,dx,(hs.2 e hdx.symm).trans he₁⟩)
 exact(hs.2 b (λz=>by have:=k0 b o q;rw[z,hd] at this;cases this)).trans (k₁ b o (ne b o q) (k0 b o q))
end
end Mine
namespace Mine
open PySem PySem.W
section
variable {prog:Program} {w:World} {A:Around} {E:Value->Shared->Prop} {K:Frag} {env:Env}
inductive Hi(E:Value->Shared->Prop)(v:Value)(s:Shared):Prop
 | mk (e a dx:Addr) (hv:v=.ref e) (hC:s.heap.get? 782=some oj) (he:s.heap.get? e=some (Og a dx)) (hE:E (.ref e) s):Hi E v s
theorem qe{s:Shared}{x:Sem Value}{Q:Flow->Shared->Prop}{M:Model}(hh:A.handled=none)(h:wpAny M A x (Hi E) E s):wpAny M A (raiseStmt env (some x) none) Q E s:=by
 unfold raiseStmt
 refine wpAny_bind (wpAny_mono h (λv s₁ h₁=>?_) λ_ _ x=>x)
 obtain⟨e,a,dx,rfl,hC,he,hE⟩:=h₁
 obtain⟨hp,g,d,tk,os⟩:=s₁
 repeat (first|with_reducible refine wpAny_loadPart_at he ?_|with_reducible refine wpAny_loadPart_at hC ?_|(with_reducible refine wpAny_isSubtype_exc hC ?_;refine ac (Ci ..) ?_)|wp_step)
 exact wpAny_raiseNew_none hh hE
inductive Hm(K:Frag)(E:Value->Shared->Prop)(vs:List Value)(s:Shared):Prop
 | mk (X:K.In s.heap) (hl:s.heap.NoLimit) (v1 v2:Value) (e:vs=[v1,v2]) (k:∀ h' tk e,AS s.heap h' e->E (.ref e) { s with heap:=h',toks:=tk }):Hm K E vs s
theorem qg(PE:ly K){x:Str}{np cpos pos:Pos}{args:List Expr}{Q:Flow->Shared->Prop}{s:Shared}(hh:A.handled=none)(hn:args.all bU=true)(hroom:A.depth+1<recursionLimit)
 (h:wpAny (model prog w) A (eval (.Name x np) env) (λf s₁=>f=.ref 782/\wpAny (model prog w) A (spliced (backTo cpos (starEach args env))) (Hm K E) E s₁) E s) :
 wpAny (model prog w) A (exec (.Raise (some (.Call (.Name x np) args [] cpos)) none pos) env) Q E s:=by
 refine ac (arm_exec_Raise ..) ?_
 refine wpAny_bind (wpAny_standAt (qe hh (wpAny_bind (wpAny_mono (wpAny_Call_ofName (wpAny_mono h (λf s₁ h₁=>?_) λ_ _ x=>x)) (λv s₃ h₃=>wpAny_bind (wpAny_standAt (wpAny_pure h₃))) λ_ _ x=>x))))
 obtain⟨rfl,h₁⟩:=h₁
 refine iy hn PE.keep (wpAny_mono h₁ (λvs s₂ hk=>?_) λ_ _ z=>z)
 obtain⟨X,hl,v1,v2,e,k⟩:=hk
 refine⟨X,?_⟩
 subst e
 obtain⟨hp,g,d,tk,os⟩:=s₂
 refine y5 PE X (by simp[sizeLine_eq]) λh' e hm=>?_
 refine y6 PE X (hl.keeps hm.keeps) hm hroom λh'' tk' M=>⟨rfl,?_⟩
 refine a7 λGg fin_=>?_
 obtain⟨kp,nw,a,dx,he⟩:=id M
 refine fin_ ?_
 exact⟨e,a,dx,rfl,kp _ _ (X _ _ PE.cls),he,k _ _ _ M⟩
end
end Mine
namespace Mine
open PySem PySem.W PySem.Calls PyProof.Rows
section
variable {K0:Frag} {glob:Str->Option GV} {aid:Str->Option Nat} {F:Nat->Option ax} {hd:Nat->Option gn} {X:Prop}
theorem qf{f:Nat}{d:ax}{r:Hl}{x:Str}{np cpos pos:Pos}{e1 e2:Expr}
 (hb:r.body=[.Raise (some (.Call (.Name x np) [e1,e2] [] cpos)) none pos]) (hR:∀ c:Fc,uW K0 glob aid F c->c.PE=782->gh c.K glob aid f d r/\ly c.K)
 (hx:bj (aF glob aid r.scope) x=some (.cls 782)) (hdb:(x==("__debug__" : Str))=false) (hn:[e1,e2].all bU=true) (N n:Nat) (ih:kg K0 glob aid F hd X 782 N n)
 (c:Fc) (P:uW K0 glob aid F c) (hX:c.X=X) (hPE:c.PE=782) (hN:c.outer.length+(n+1)=N) (dp un:Nat) (hdp:dp+3*(n+1)+10<recursionLimit) (hun:un+200+12*(n+1)<cLine)
 (mm:Str->Option Value) (ex:List (Addr×Obj)) (vs:List Value) (H:AH) (s:Shared) (Q:au) (M:cv c.nm c.gens c.os c.h₀ c.L mm ex H s) (hv:∀ v∈vs,er v≠.oth)
 (hw:jA X d [cE (aF glob aid r.scope) 30 e1,cE (aF glob aid r.scope) 30 e2] n c.T (bC c.T F hd n) (vs.map er) H Q) :
 codeAny c.M { c.A with depth:=dp,units:=un } (.call (.ref f) ⟨vs,[]⟩) (gM c mm ex Q) s:=by
 obtain⟨R,PX⟩:=hR c P hPE
 obtain⟨hX0,hlen,hw⟩:=hw
 refine ma P (bC c.T F hd n) (by lia) (by lia) R hlen M hv λg L' s2 P2 d2 o2 S2=>?_
 have ok:=o2 λdp' un' h1 h2=>ih _ P2 hX hPE (by show c.outer.length+1+n=N;lia) rfl dp' un' (by lia) (by lia)
 refine ac hb ?_
 have all:=λe=>(lJ fB 30 _ ok e).E
 refine wpAny_execs_cons (wpAny_mono (qg PX (Q:=λ_ _=>False) rfl hn (show dp+1+1<recursionLimit from by lia) ?_) (λ_ _ z=>z.elim) λ_ _ z=>z)
 refine kK ok S2 hx hdb ⟨rfl,?_⟩
 refine wpAny_mono (dD [e1,e2] (λe _=>all e) hn cpos _ H s2 _ S2 hw) (λws s3 z=>?_) λe s' he=>pe (c:=c) rfl he rfl
 refine a7 λGg fin_=>?_
 obtain⟨H3,⟨mm3,lc3,M3,lo3⟩,hv3,hl3,_⟩:=z
 refine fin_ ?_
 refine a7 λGg fin_=>?_
 obtain⟨news3,F3,N3,O3,D3⟩:=M3.out
 refine fin_ ?_
 clear N3 O3 D3 lo3 hv3
 refine a7 λGg fin_=>?_
 obtain⟨v1,v2,hws⟩:∃ v1 v2,ws=[v1,v2]:=rW hl3
 refine fin_ ?_
 refine⟨P2.K.keeps F3.keep,P2.lim.keeps F3.keep,v1,v2,hws,λh' tk e ME=>?_⟩
 refine a7 λGg fin_=>?_
 obtain⟨keeps,new,a,dx,he⟩:=ME
 refine fin_ ?_
 have B₁:=pushX P2.below F3 P2.frame P2.fkind
 have hkb:c.base.StaysIn s3.heap:=B₁.stays
 have hen:c.base.get? e=none:=by
  induction q:c.base.get? e with
  | none=>rfl
  | some o=>have:=hkb e o q;rw[new] at this;cases this
 refine wpAny_leaving_firstW (base:=c.base) (outer:=c.fenv::c.outer) (a0:=.ref a) rfl (B₁.frames.of_keeps λb o hb _=>⟨o,keeps b o hb,rfl⟩) rfl he (λb o hb=>keeps b o (hkb b o hb)) hen rfl rfl rfl λh'' hL=>?_
 refine a7 λGg fin_=>?_
 obtain⟨k1,⟨_,_,k2⟩,k3,k4⟩:=hL
 refine fin_ ?_
 have hG:c.G₀.UpToSlots s3.heap:=Heap.UpToSlots.of_keeps λb o q=>F3.keep b o (P2.G b o q)
 refine⟨by refine ac hX ?_;exact hX0,e,.ref a,rfl,.inl ⟨k1,hen,k2,?_⟩,(hG.trans (Heap.UpToSlots.of_keeps keeps)).trans k4,M3.gens,M3.os⟩
 refine ac hPE ?_;exact k3
end
theorem xZ{A:cy}{gens:Array GenState}{os:OsState}{h₀:Heap}{L L':Addr}{mm mm':Str->Option Value}{ex lc:List (Addr×Obj)}{H H':AH}{s s':Shared}
 (M:cv A gens os h₀ L mm ex H s) (M':cv A gens os s.heap L' mm' lc H' s'):cv A gens os h₀ L mm ex (H'.over H) s':=by
 obtain⟨news,F,N,O,D⟩:=M.out
 obtain⟨news',F',N',O',D'⟩:=M'.out
 have hL:∃ o,s.heap.get? L=some o:=by obtain⟨o,es,ep,e,_⟩:=F.ns;exact⟨o,e⟩
 have out:∀ p∈news',s.heap.get? p.1=none:=λp hp=>(N' p (List.mem_append_left _ hp)).2.2
 have inn:∀ p∈news++ex,∃ o,s.heap.get? p.1=some o:=λp hp=>⟨_,(N p hp).1⟩
 have apart:∀ p∈news',∀ q∈news++ex,p.1≠q.1:=λp hp q hq e=>by
  obtain⟨o,ho⟩:=inn q hq
  rw[← e,out p hp] at ho
  cases ho
 refine⟨⟨news'++news,⟨?_,λb o e=>F'.keep _ _ (F.keep _ _ e),F.above⟩,λp hp=>?_,?_,⟨⟨λa o e=>?_,λa b C E dx h1 h2=>?_,λa C dx h=>?_⟩,λa C dx h=>?_⟩⟩,M'.gens,M'.os⟩
 ·exact F.ns.keeps F'.keep
 ·rw[List.append_assoc] at hp
  rcases List.mem_append.mp hp with z|z
  ·obtain⟨n1,n2,n3⟩:=N' p (List.mem_append_left _ z)
   refine⟨n1,λe=>?_,?_⟩
   ·obtain⟨o,ho⟩:=hL
    rw[← e,n3] at ho
    cases ho
   ·induction q:h₀.get? p.1 with
    | none=>rfl
    | some o=>rw[F.keep _ _ q] at n3;cases n3
  ·obtain⟨n1,n2,n3⟩:=N p z
   exact⟨F'.keep _ _ n1,n2,n3⟩
 ·unfold cg at O O'⊢
  rw[List.append_assoc,List.map_append,List.nodup_append]
  refine⟨?_,O,λa ha b hb e=>?_⟩
  ·rw[List.map_append,List.nodup_append] at O'
   exact O'.1
  ·obtain⟨p,hp,rfl⟩:=List.mem_map.mp ha
   obtain⟨q,hq,rfl⟩:=List.mem_map.mp hb
   exact apart p hp q hq e
 ·unfold AH.over at e
  induction h:H' a with
  | some o'=>
   rw[h] at e
   cases e
   exact(D'.ob a _ h).mono λp hp=>List.mem_append_left _ hp
  | none=>
   rw[h] at e
   exact(D.ob a o e).mono λp hp=>List.mem_append_right _ hp
 ·rcases List.mem_append.mp h1 with h1|h1<;>rcases List.mem_append.mp h2 with h2|h2
  ·exact D'.one _ _ _ _ _ h1 h2
  ·obtain⟨o1,z1⟩:=D'.dxin _ _ _ h1
   obtain⟨o2,z2⟩:=D.dxin _ _ _ h2
   exact(apart _ z1 _ (List.mem_append_left _ z2) rfl).elim
  ·obtain⟨o1,z1⟩:=D.dxin _ _ _ h1
   obtain⟨o2,z2⟩:=D'.dxin _ _ _ h2
   exact(apart _ z2 _ (List.mem_append_left _ z1) rfl).elim
  ·exact D.one _ _ _ _ _ h1 h2
 ·unfold AH.over
  rcases List.mem_append.mp h with h|h
  ·refine ac (D'.hid _ _ _ h) ?_
   match q:H dx with
   | none=>rfl
   | some o=>
    obtain⟨x,hx⟩:=(D.ob _ _ q).mem
    obtain⟨y,hy⟩:=D'.dxin _ _ _ h
    exact(apart _ hy _ (List.mem_append_left _ hx) rfl).elim
  ·match q:H' dx with
   | none=>exact D.hid _ _ _ h
   | some o=>
    obtain⟨x,hx⟩:=(D'.ob _ _ q).mem
    obtain⟨y,hy⟩:=D.dxin _ _ _ h
    exact(apart _ hx _ (List.mem_append_left _ hy) rfl).elim
 ·rcases List.mem_append.mp h with h|h
  ·obtain⟨o,z⟩:=D'.dxin _ _ _ h;exact⟨o,List.mem_append_left _ z⟩
  ·obtain⟨o,z⟩:=D.dxin _ _ _ h;exact⟨o,List.mem_append_right _ z⟩
theorem x0{A:cy}{gens:Array GenState}{os:OsState}{h₀:Heap}{L L':Addr}{mm mm':Str->Option Value}{ex lc:List (Addr×Obj)}{H H':AH}{s s':Shared}
 (M:cv A gens os h₀ L mm ex H s) (M':cv A gens os s.heap L' mm' lc H' s'):∀ a,H a≠none->H' a=none:=λa ha=>by
 obtain⟨news,F,N,O,D⟩:=M.out
 obtain⟨news',F',N',O',D'⟩:=M'.out
 cases h:H a with
 | none=>exact absurd h ha
 | some o=>
  cases h':H' a with
  | none=>rfl
  | some o'=>
   obtain⟨x,hx⟩:=(D.ob _ _ h).mem
   obtain⟨y,hy⟩:=(D'.ob _ _ h').mem
   have h1:=(N' _ (List.mem_append_left _ hy)).2.2
   have h2:=(N _ (List.mem_append_left _ hx)).1
   rw[h2] at h1;cases h1
noncomputable abbrev Fc.ground(c:Fc)(T2:aT)(C2:CS)(X2:Prop)(dp un:Nat)(env2:Env)(L':Addr)(g base':Heap)(x2:ch):Fc:=
 { c with T:=T2,C:=C2,X:=X2,dp:=dp+1,un:=un+3,fenv:=env2,outer:=c.fenv::c.outer,L:=L',env:=env2,h₀:=g,base:=base',G₀:=g,ex:=[],x:=x2,inv:=λ_ _=>True }
theorem xv:iP.contains (.type "BaseException")=true:=by decide +kernel
section
variable {glob:Str->Option GV} {aid:Str->Option Nat} {F:Nat->Option ax} {hd:Nat->Option gn} {hdP:Prop->Nat->Option gn} {N0:Nat}
theorem Ke{c:Fc}{env2:Env}{L':Addr}{e:Addr}{a0:Value}{base':Heap}{Q:Flow->Shared->Prop}{E:Value->Shared->Prop}{A:Around}{M:Model}{s:Shared}{prog:Program}{w:World}(hM:M=model prog w)
 (hA:A.frames=some (env2::c.fenv::c.outer)) (hf:env2.frame=some L') {x:Str} {np rp hpos cp:Pos} {ck:Nat}
 (hfh:Heap.FlyingW base' (env2::c.fenv::c.outer) e (.ref 782) a0 s.heap\/Heap.HeldW base' (env2::c.fenv::c.outer) e (.ref 782) a0 L' s.heap)
 (hC:base'.get? 782=some oj)
 (ld:∀ (A:Around) (s₁:Shared) (Q:Value->Shared->Prop) (E:Value->Shared->Prop),s.heap.UpToSlots s₁.heap->Q (.ref 782) s₁->wpAny M A (eval (.Name x np) env2) Q E s₁)
 (k:∀ h',base'.StaysIn h'->s.heap.UpToSlots h'->Q (.ret .none) { s with heap:=h' }) :
 wpAny M A (noteFrame (.ref e) env2) (λ_ s₂=>wpAny M A (setFlight (.ref e) none) (λ_ s₃=>
  wpAny M A (handleBy (.ref e) env2 [.ExceptHandler (some (.Name x np)) none [.Return (some (.Constant .none ck cp)) rp] hpos]) Q E s₃) E s₂) E s:=by
 subst hM
 have held:∀ h',Heap.HeldW base' (env2::c.fenv::c.outer) e (.ref 782) a0 L' h'->s.heap.UpToSlots h'->wpAny (model prog w) A (setFlight (.ref e) none) (λ_ s₃=>
  wpAny (model prog w) A (handleBy (.ref e) env2 [.ExceptHandler (some (.Name x np)) none [.Return (some (.Constant .none ck cp)) rp] hpos]) Q E s₃) E { s with heap:=h' }:=by
  intro h' hh hsm
  refine wpAny_landsW hh λh₅ hfl hsm5=>?_
  obtain⟨ob,hob,hobc⟩:=hfl.there
  refine wpAny_handleBy_cons (codeAny_handlers_test (ld _ _ _ _ (hsm.trans hsm5) ?_)) (by intro q;cases q)
  obtain⟨f1,f2,f3,f4⟩:=id hfl
  refine wpAny_excMatches_sub_self (f1 _ _ hC) hob hobc xv (codeAny_handlers_suite ?_)
  refine lands_againW hfl λh₆ hfl6 hsm6=>?_
  refine wpAny_execs_cons ?_
  refine wpAny_Return_some ?_
  refine Constant_none ?_
  exact k h₆ hfl6.1 ((hsm.trans hsm5).trans hsm6)
 rcases hfh with hfl|hh
 ·exact wpAny_looks_onW hA hf hfl λh' hh hs=>held h' hh hs
 ·exact wpAny_noteFrame_againW hf hh.2.2.2 (held _ hh (.refl _))
end
section
variable {K0:Frag} {glob:Str->Option GV} {aid:Str->Option Nat} {F:Nat->Option ax} {hd:Nat->Option gn} {hdP:Prop->Nat->Option gn} {N0:Nat}
theorem tH{f:Nat}{d:ax}{r:Hl}{x:Str}{np rp hpos cp tpos rp2:Pos}{ck:Nat}{s1 s2:Stmt}{re:Expr}
 (hb:r.body=[.Try [s1,s2] [.ExceptHandler (some (.Name x np)) none [.Return (some (.Constant .none ck cp)) rp] hpos] [] [] tpos,.Return (some re) rp2]) (hR:∀ c:Fc,uW K0 glob aid F c->c.PE=782->gh c.K glob aid f d r/\ly c.K)
 (hx:bj (aF glob aid r.scope) x=some (.cls 782)) (hdb:(x==("__debug__" : Str))=false) (hnc:∀ p∈r.scope.names,p.2≠.cell)
 (hP:∀ X' N',sX K0 glob aid F (hdP X') X' 782 N') (n:Nat) (ih:kg K0 glob aid F hd False 782 N0 n)
 (c:Fc) (P:uW K0 glob aid F c) (hX:c.X=False) (hPE:c.PE=782) (hN:c.outer.length+(n+1)=N0) (dp un:Nat) (hdp:dp+3*(n+1)+10<recursionLimit) (hun:un+200+12*(n+1)<cLine)
 (mm:Str->Option Value) (ex:List (Addr×Obj)) (vs:List Value) (H:AH) (s:Shared) (Q:au) (M:cv c.nm c.gens c.os c.h₀ c.L mm ex H s) (hv:∀ v∈vs,er v≠.oth)
 (hw:kP F hdP N0 d [cS (aF glob aid r.scope) 60 s1,cS (aF glob aid r.scope) 60 s2] (cS (aF glob aid r.scope) 60 (.Return (some re) rp2)) n c.T (bC c.T F hd n) (vs.map er) H Q) :
 codeAny c.M { c.A with depth:=dp,units:=un } (.call (.ref f) ⟨vs,[]⟩) (gM c mm ex Q) s:=by
 refine(hR c P hPE).elim λR PX=>?_
 refine a7 λGg fin_=>?_
 refine hw.elim λhn h1_=>h1_.elim λhlen h2_=>h2_.elim λX' h3_=>h3_.elim λhX' hw=>?_
 refine fin_ ?_
 have hout:c.outer=[]:=List.eq_nil_of_length_eq_zero (by lia)
 refine a7 λGg fin_=>?_
 obtain⟨news,Fr',N,O,D⟩:=M.out
 refine fin_ ?_
 have XK:c.K.In s.heap:=P.K.keeps Fr'.keep
 refine a7 λGg fin_=>?_
 obtain⟨dvs,hfill,hdv,hbd⟩:=R.bind s vs XK hlen
 refine fin_ ?_
 have hps:=R.len hlen hfill
 have parL:=R.plain hnc
 refine codeAny_call_def (fd:=r.fd) (A:={ c.A with depth:=dp,units:=un }) (show dp<recursionLimit from by lia) (XK _ _ R.obj) rfl (P.lim.keeps Fr'.keep) (codeRec_of XK R.code) (congrArg FuncBody.stmts hb) hbd hnc (λp hp=>parL p.1 (List.of_mem_zip hp).1) (λh₁ hns hk₁=>?_) R.co R.gen R.kind
 let L':=s.heap.objs.size
 let env2:=callEnv r.fd L' f
 let base':=hideAll s.heap [c.L]
 let cc:aT->CS->Prop->Fc:=λT2 C2 X2=>c.ground T2 C2 X2 dp un env2 L' s.heap base' (aF glob aid r.scope)
 have B₁:=pushX P.below Fr' P.frame P.fkind
 have inL:∀ env∈(c.fenv::c.outer),∀ a,env.frame=some a->a∈[c.L]:=λenv he a ha=>by
  rw[hout,List.mem_singleton] at he
  subst he
  rw[P.frame] at ha
  obtain rfl:=Option.some.inj ha
  exact List.mem_singleton.mpr rfl
 have bel2:∀ T2 C2 X2,Below { (cc T2 C2 X2).A with frames:=some (cc T2 C2 X2).outer } base' (c.fenv::c.outer) s.heap:=λT2 C2 X2=>by
  refine⟨rfl,λb o e=>of_hideAll _ e,?_⟩
  have key:∀ {l:List Env},s.heap.FunFrames c.base l->(∀ env∈l,∀ a,env.frame=some a->a∈[c.L])->s.heap.FunFrames base' l:=by
   intro l
   induction l with
   | nil=>intro _ _;trivial
   | cons env r ih=>
    intro⟨hk,⟨L,o,hf,_,ho,hd⟩,hr⟩ hin
    exact⟨hk,⟨L,o,hf,hideAll_none _ (hin env (.head _) L hf),ho,hd⟩,ih hr λe he=>hin e (.tail _ he)⟩
  exact key B₁.frames inL
 have gl2:∀ T2 C2 X2,pC (cc T2 C2 X2):=λT2 C2 X2=>by
  refine a7 λGg fin_=>?_
  obtain⟨mg,mb,g1,g2,g3,g4,g5,g6⟩:=P.gl.g
  refine fin_ ?_
  rw[P.xg] at g3 g4 g5 g6
  exact⟨mg,mb,g1.keeps Fr'.keep,g2.keeps Fr'.keep,g3,g4,g5,g6⟩
 have pre2:∀ T2 C2 X2,eB c.w c.K T2 c.nm->(T2.calm->¬ X2)->uW K0 glob aid F (cc T2 C2 X2):=λT2 C2 X2 tp hc=>
  ⟨XK,tp,P.std,P.aidOk,gl2 T2 C2 X2,rfl,rfl,bel2 T2 C2 X2,rfl,R.kind,P.lim.keeps Fr'.keep,λb o e=>e,hc,P.fns,P.kis⟩
 have d2:∀ T2 C2 X2,(cc T2 C2 X2).Def:=λT2 C2 X2=>lQ R hnc rfl rfl rfl λ_ _=>trivial
 have ok2:∀ T2 C2 X2,uW K0 glob aid F (cc T2 C2 X2)->(∀ dp' un',dp'<=dp+2->un'<=un+11->iD (cc T2 C2 X2) dp' un')->(cc T2 C2 X2).Ok:=λT2 C2 X2 P2 calls=>{
  K:=P2.K,top:=P2.top,aid:=P.aidOk,std:=P.std,glob:=gl2 T2 C2 X2,below:=bel2 T2 C2 X2,frame:=rfl,fkind:=R.kind,ekind:=R.kind,eglob:=rfl,eblt:=rfl,lim:=P2.lim,G:=P2.G
  units:=by show un+3+100<cLine;lia
  depth:=by show dp+1+2<recursionLimit;lia
  calls:=λdp' un' h1 h2=>calls dp' un' h1 h2
  calm:=P2.calm
  globk:=λ_ h=>h
  def_:=λ_=>d2 T2 C2 X2
  slotsLt:=λnm i h=>jB h }
 let T1:aT:={ c.T with calm:=False }
 let C1:=bC T1 F (hdP X') n
 have tp1:eB c.w c.K T1 c.nm:=⟨P.top.data,P.top.meth,P.top.init,P.top.tstrs,P.top.tdict,P.top.isi,P.top.tints⟩
 have P1:=pre2 T1 C1 X' tp1 (λz=>z.elim)
 have o1:(cc T1 C1 X').Ok:=ok2 T1 C1 X' P1 λdp' un' h1 h2=>je (hP X' ((c.fenv::c.outer).length+n)) n _ P1 rfl hPE rfl rfl dp' un' (by lia) (by lia)
 let C3:=bC c.T F hd n
 have P3:=pre2 c.T C3 False P.top (λ_ z=>z)
 have o3:(cc c.T C3 False).Ok:=ok2 c.T C3 False P3 λdp' un' h1 h2=>ih _ P3 rfl hPE (by refine List.length_cons.symm ▸ ?_;lia) rfl dp' un' (by lia) (by lia)
 have S1:St (cc T1 C1 X') (Mine.bindL d.n d.params (d.fill (vs.map er))) (λ_=>none) { s with heap:=h₁,toks:=s.toks+(r.ps.zip (vs++dvs)).length }:=
  ⟨_,[],cv.fresh (s:={ s with heap:=h₁,toks:=s.toks+(r.ps.zip (vs++dvs)).length }) ⟨hns,hk₁,Nat.le_refl _⟩ M.gens M.os,oi R hnc rfl rfl (λ_ _=>trivial) hps hfill hv hdv⟩
 have run1:=mw (f:=cS (aF glob aid r.scope) 60) [s1,s2] (λst _=>fM fB j1 60 _ o1 (d2 T1 C1 X') st) _ _ _ _ _ S1 hw
 refine wpAny_execs_cons (wpAny_Try_except (wpAny_mono run1 (λfl s' hfl=>?_) λe s' he=>?_))
 ·induction fl with
  | next=>
   refine a7 λGg fin_=>?_
   obtain⟨m',H',S',hq⟩:=hfl
   refine fin_ ?_
   refine wpAny_execs_nil ?_
   have S3:St (cc c.T C3 False) m' H' s':=S'.casesOn λmm' lc' M' lo'=>⟨mm',lc',M',⟨lo'.reads,lo'.cells,lo'.inv⟩⟩
   have run3:=fM fB j1 60 _ o3 (d2 c.T C3 False) (.Return (some re) rp2) m' H' s' _ _ S3 hq
   refine wpAny_execs_cons (wpAny_mono run3 (λfl s3 hfl3=>?_) λe s3 he=>?_)
   ·induction fl with
    | ret v=>
     refine a7 λGg fin_=>?_
     obtain⟨m3,H3,⟨mm3,lc3,M3,lo3⟩,ho,hq3⟩:=hfl3
     refine fin_ ?_
     exact⟨_,xZ M M3,ho,hq3 (x0 M M3)⟩
    | next=>obtain⟨_,_,_,z⟩:=hfl3;exact z.elim
    | brk=>exact hfl3.elim
    | cont=>exact hfl3.elim
   ·exact he.1.elim
  | ret v=>obtain⟨_,_,_,_,z⟩:=hfl;exact z.elim
  | brk=>exact hfl.elim
  | cont=>exact hfl.elim
 ·refine a7 λGg fin_=>?_
  obtain⟨hX1,a,a0,rfl,hfh,hG,hg,hos⟩:=he
  refine fin_ ?_
  have hK:=PX.cls
  have hL0:c.h₀.get? c.L=none:=by
   induction z:c.h₀.get? c.L with
   | none=>rfl
   | some o=>exact absurd (Nat.lt_of_lt_of_le (Heap.lt_size z) Fr'.above) (Nat.lt_irrefl _)
  have hCb:base'.get? 782=some _:=hideAll_get [c.L] (XK _ _ hK) (λz=>by
   rw[List.mem_singleton] at z
   have:=P.K _ _ hK
   rw[z,hL0] at this
   exact fI this)
  rw[show(cc T1 C1 X').PE=782 from hPE] at hfh
  refine Ke (c:=c) (base':=base') rfl rfl rfl hfh hCb (λA s₁ Q' E' hsm hq=>?_) λh' hst hsm=>?_
  ·refine a7 λGg fin_=>?_
   obtain⟨mg,mb,g1,g2,g3,g4,_⟩:=P.gl.g
   refine fin_ ?_
   rw[P.xg] at g4
   refine(ek hx).elim λhk hgx=>?_
   refine Name_function_global R.kind hk (loadGlobal_global ?_ (g4 x 782 hgx) hq) hdb
   exact(hG.trans hsm).ns (g1.keeps Fr'.keep)
  ·refine⟨H,⟨⟨news,⟨(hG.trans hsm).ns Fr'.ns,λb o e=>?_,Fr'.above⟩,λp hp=>?_,O,D⟩,hg,hos⟩,(λz=>nomatch z),hX' hX1⟩
   ·refine hst b o (hideAll_get [c.L] (Fr'.keep _ _ e) λz=>?_)
    rw[List.mem_singleton] at z
    rw[z,hL0] at e
    exact fI e
   ·refine a7 λGg fin_=>?_
    refine C7 (N p hp) λz1 z2 z3=>?_
    refine fin_ ?_
    exact⟨hst _ _ (hideAll_get [c.L] z1 λz=>z2 (List.mem_singleton.mp z)),z2,z3⟩
end
end Mine
namespace Mine
open PySem PySem.W
noncomputable def P0:Program:=PySem.Challenge.pw_pb0466_01
noncomputable def G1:Stmt->Option (Str×Arguments×List Stmt×Scope)
 | .FunctionDef n ps b _ _ _ sc _ _ _=>some (n,ps,b,sc)
 | _=>none
noncomputable def vi(i:Nat):Stmt:=(P0.main.body[i]?).getD (.Pass ⟨0,0,0,0⟩)
noncomputable def ak(i j:Nat):Option (Str×Arguments×List Stmt×Scope):=match vi i with
 | .ClassDef _ _ _ b _ _ _ _ _ _ _=>b[j]?.bind G1
 | s=>G1 s
noncomputable def Qw(P:Params)(k:Str)(t:Nat)(v:Value):DictEntry:=⟨PyData.keyHash P k,.str k t,v⟩
noncomputable def ux(d:Option (Str×Arguments×List Stmt×Scope))(qual:Str)(dfl mod:Value)(code:Nat):Obj:=match d with
 | some (n,ps,b,sc)=>{ cls:=.type "function",data:=.func { name:=n,qualname:=qual,params:=ps,body:=.stmts b,scope:=sc,globals:=3,closure:=[],defaults:=dfl,kwdefaults:=.none,doc:=.none,pyModule:=mod,annotations:=none,code:=.ref code,closureTuple:=.none,builtins:=0 } }
 | none=>default
noncomputable def Aq(cls:Value)(d:Option Addr)(name:Str)(bases mro:List Value)(ns:Addr)(qual:Str)(hasDict:Bool)(sl:List Str)(sub:List Value)(ab del:Bool)(slots:List (Option Value)):Obj:=
 { cls,dict:=d,data:=.cls { name,bases,mro,ns,qualname:=qual,hasDict,slotNames:=sl,subclasses:=sub,abstract:=ab,hasDel:=del },slots:=slots.toArray }
noncomputable def fh(cls:Value)(es:List DictEntry)(n:Nat):Obj:={ cls,data:=.dict es.toArray n }
noncomputable def fe(cls:Value)(vs:List Value)(n:Nat):Obj:={ cls,data:=.seq vs.toArray n }
noncomputable def nL(cls:Value)(vs:List Value):Obj:={ cls,data:=.fields vs.toArray }
noncomputable def O5(cls:Value)(d:Option Addr)(slots:List (Option Value)):Obj:={ cls,dict:=d,slots:=slots.toArray }
noncomputable def GY:Str:=Str.ofString "/claim/cut.py"
noncomputable def A5(name qual:Str)(t line argc kw flags a b:Nat)(c d:Value)(e t':Nat):Obj:=nL (.type "code") [.str name t,.str qual (t+1),.str GY (t+2),.int (Int.ofNat line) 0,.int (Int.ofNat argc) 0,.int 0 0,.int (Int.ofNat kw) 0,.int (Int.ofNat flags) 0,
 .ref a,.bool true,.int 181 0,.ref b,.none,c,d,.ref e,.int (Int.ofNat t') 0,.int (Int.ofNat line) 0,.str GY (t'+1)]
noncomputable def m9:Env:={ scope:=P0.main.scope,locals:=mainNs,globals:=mainNs,cells:=[],code:=.ref 13,frame:=some 14 }
noncomputable def zg:PySem.Ctx:=PySem.Ctx.of (.builtin "claim.caller" {}) []
noncomputable def Da:PySem.Ctx:=zg.enter (.body (behindTheImports P0) m9) none default
noncomputable def lY{α:Type}(as:List (Addr×Obj))(r:Option (α×Pos×SX)):Option (α×Pos×Nat×Nat×List (Option Obj)):=
 r.map λr=>(r.1,r.2.1,r.2.2.n,r.2.2.toks,as.map λp=>lk p.1 r.2.2.objs)
noncomputable abbrev zc:Code->Sem Fin:=Fast.tw11892475500146522536 Fast.tw14364793385576792824
noncomputable abbrev HM(P:Params){α:Type}(Γ:PySem.Ctx)(t:Sem α)(p:Pos)(x:SX):Option (α×Pos×SX):=lg zc ⟨P0,P⟩ 2000 Γ t p x
structure bK where
 i:Nat
 p:Pos
 p':Pos
 x:Params->SX
 hot':Params->List (Addr×Obj)
 cold:Params->List (Addr×Obj)
 n':Nat
 t':Nat
noncomputable def bK.OkAt(r:bK)(P:Params):Prop:=lY (r.hot' P++r.cold P) (HM P Da (Fast.tw12563942051412417395 [vi r.i] m9) r.p (r.x P))=some (.next,r.p',r.n',r.t',(r.hot' P++r.cold P).map λp=>some p.2)
noncomputable def bK.Ok(r:bK):Prop:=∀ P:Params,r.OkAt P
noncomputable def wf(P:Params)(b:Bool):Params:={ P with followText:=λr=>if r = "special-get-raises" then b else P.followText r }
theorem A9(P:Params):wf P (P.followText "special-get-raises")=P:=by
 have h:(λr=>if r = "special-get-raises" then P.followText "special-get-raises" else P.followText r)=P.followText:=by
  funext r
  by_cases e:r = "special-get-raises"
  ·rw[if_pos e,e]
  ·rw[if_neg e]
 unfold wf
 rw[h]
theorem kE{r:bK}(h1:∀ P,r.OkAt (wf P true))(h2:∀ P,r.OkAt (wf P false)):r.Ok:=λP=>by
 rw[← A9 P]
 cases P.followText "special-get-raises" with
 | true=>exact h1 P
 | false=>exact h2 P
end Mine
namespace Mine
open PySem PySem.W PySem.Sem
noncomputable def pB:List Addr:=[0,2,3,4,12,13,49,50,63,64,749,750,762,763]
noncomputable def cool(l:List (Addr×Obj)):Bool:=l.all λp=>!pB.contains p.1
noncomputable def warm(l:List (Addr×Obj)):Bool:=l.all λp=>pB.contains p.1
theorem jt{a:Addr}{o:Obj} : ∀ {l:List (Addr×Obj)},lk a l=some o->(a,o)∈l:=by
 intro z_
 induction z_ with
 | nil=>
  intro h
  exact fI h
 | cons p r ihz=>
  intro h
  rw[eE] at h
  split at h
  ·rename_i e;obtain rfl:=Option.some.inj h;exact e▸(.head _)
  ·exact .tail _ (ihz h)
structure KS(x:SX)(K:List (Addr×Obj))(s₀ s:Shared):Prop where
 b:dB x s
 warm:warm x.objs=true
 cold:∀ p∈K,s.heap.get? p.1=some p.2
 cool:∀ p∈K,pB.contains p.1=false
 base:∀ b o,pB.contains b=false->s₀.heap.get? b=some o->s.heap.get? b=some o
 life:s.heap.life=s₀.heap.life
 gens:s.gens=s₀.gens
 os:s.os=s₀.os
theorem C8:zc=denote table:=by
 unfold zc
 exact ac (Fast.te11892475500146522536 ..).symm (ac (Fast.te14364793385576792824 ..).symm (ac (table_eq_tree ..) rfl))
theorem uy:Fast.tw12563942051412417395=execs:=Fast.te12563942051412417395.symm
theorem j2{α:Type}{P:Params}{prog:Program}{w:World}(hP:w.params=P){n:Nat}{Γ:PySem.Ctx}{t:Sem α}{p:Pos}{x:SX}{as:List (Addr×Obj)}{a:α}{p':Pos}{n' t':Nat}
 (h:lY as (lg zc ⟨prog,P⟩ n Γ t p x)=some (a,p',n',t',as.map λq=>some q.2)) {s:Shared} (B:dB x s) {Q:α->Pos->Shared->Prop} {E:Value->Pos->Shared->Prop}
 (k:∀ x' s',dB x' s'->fG x x' s s'->x'.n=n'->x'.toks=t'->(∀ q∈as,lk q.1 x'.objs=some q.2)->Q a p' s'):wp (model prog w) Γ t Q E p s:=by
 subst hP
 unfold lY at h
 refine cG (Option.map_eq_some_iff.mp h) λr hs e=>?_
 obtain⟨a1,p1,x1⟩:=r
 simp only[Prod.mk.injEq] at e
 obtain⟨rfl,rfl,e1,e2,e3⟩:=e
 refine tm (M:=model prog w) n Γ t p x _ _ x1 s Q E (by rw[C8] at hs;exact hs) B λs' B' K'=>?_
 refine k x1 s' B' K' e1 e2 λq hq=>?_
 have:∀ l:List (Addr×Obj),(l.map λp=>lk p.1 x1.objs)=(l.map λp=>some p.2)->∀ q∈l,lk q.1 x1.objs=some q.2:=by
  intro l
  induction l with
  | nil=>intro _ q hq;exfalso;cases hq
  | cons y r ih=>
   intro e q hq
   rw[List.map_cons,List.map_cons] at e
   refine(List.cons.inj e).elim λe1 e2=>?_
   rcases List.mem_cons.mp hq with rfl|hq
   ·exact e1
   ·exact ih e2 q hq
 exact this as e3 q hq
theorem KS.next{x:SX}{K:List (Addr×Obj)}{s₀ s:Shared}(I:KS x K s₀ s){hot cold:List (Addr×Obj)}{n t:Nat}(hw:Mine.warm hot=true)(hc:Mine.cool cold=true){x':SX}{s':Shared}(B:dB x' s')(k:fG x x' s s')
 (e1:x'.n=n) (e2:x'.toks=t) (l:∀ q∈hot++cold,lk q.1 x'.objs=some q.2):KS ⟨hot,n,t⟩ (cold++K) s₀ s':=by
 have off:∀ b,pB.contains b=false->lk b x.objs=none:=λb hb=>by
  cases e:lk b x.objs with
  | none=>rfl
  | some o=>
   have:=List.all_eq_true.mp I.warm (b,o) (jt e)
   dsimp only at this
   rw[hb] at this
   exfalso;cases this
 refine⟨⟨λa o e=>B.objs a o (l (a,o) (List.mem_append_left _ (jt e))),by exact ac (B.n ..) (ac (e1 ..) rfl),by exact ac (B.toks ..) (ac (e2 ..) rfl),λa o e=>e1▸B.below a o (l (a,o) (List.mem_append_left _ (jt e)))⟩,hw,λp hp=>?_,λp hp=>?_,λb o hb e=>?_,k.life.trans I.life,k.gens.trans I.gens,k.os.trans I.os⟩
 ·rcases List.mem_append.mp hp with h|h
  ·exact B.objs _ _ (l p (List.mem_append_right _ h))
  ·exact k.rest _ _ (off _ (I.cool p h)) (I.cold p h)
 ·rcases List.mem_append.mp hp with h|h
  ·have:=List.all_eq_true.mp hc p h
   simpa using this
  ·exact I.cool p h
 ·exact k.rest _ _ (off _ hb) (I.base b o hb e)
noncomputable def AX(x:Params->SX)(p:Pos):List bK->Prop
 | []=>True
 | r::rs=>(r.x=x/\r.p=p/\r.Ok/\(∀ P,warm (r.hot' P)=true)/\∀ P,cool (r.cold P)=true)/\AX (λP=>⟨r.hot' P,r.n',r.t'⟩) r.p' rs
noncomputable def Fn(x:Params->SX):List bK->Params->SX
 | []=>x
 | r::rs=>Fn (λP=>⟨r.hot' P,r.n',r.t'⟩) rs
noncomputable def ng(P:Params):List bK->List (Addr×Obj)->List (Addr×Obj)
 | [],K=>K
 | r::rs,K=>ng P rs (r.cold P++K)
set_option backward.match.sparseCases true in
theorem mn{M:Model}{Γ:PySem.Ctx}{st:Stmt}{rest:List Stmt}{env:Env}{Q:Flow->Pos->Shared->Prop}{E:Value->Pos->Shared->Prop}{p:Pos}{s:Shared}
 (h:wp M Γ (execs [st] env) (λf p' s'=>f=.next/\wp M Γ (execs rest env) Q E p' s') E p s):wp M Γ (execs (st::rest) env) Q E p s:=by
 have e:∀ r:List Stmt,execs (st::r) env=(do match ← exec st env with
  | .next=>execs r env
  | f=>Pure.pure f):=λr=>by rw[execs];rfl
 rw[e] at h⊢
 rw[wp_bind'] at h⊢
 refine wp_mono _ _ _ ?_ ?_ _ _ h
 ·intro f p' s' z
  induction f with
  | next=>
   dsimp only at z⊢
   have e0:execs [] env=Pure.pure Flow.next:=by rw[execs]
   rw[e0,wp_pure'] at z
   exact z.2
  | _=>dsimp only at z;rw[wp_pure'] at z;exact absurd z.1 (by intro e;cases e)
 ·exact λ_ _ _ z=>z
theorem vC{w:World}{s₀:Shared} : ∀ (rs:List bK) (x:Params->SX) (p:Pos) (K:List (Addr×Obj)) (s:Shared) (Q:Flow->Pos->Shared->Prop) (E:Value->Pos->Shared->Prop),AX x p rs->KS (x w.params) K s₀ s->
 (∀ p' s',KS (Fn x rs w.params) (ng w.params rs K) s₀ s'->Q .next p' s')->wp (model P0 w) Da (execs (rs.map λr=>vi r.i) m9) Q E p s:=by
 intro z_
 induction z_ with
 | nil=>
  intro x p K s Q E _ I k
  show wp _ _ (execs [] m9) Q E p s
  have e0:execs [] m9=Pure.pure Flow.next:=by rw[execs]
  refine ac (e0 ..) (ac (wp_pure' ..) ?_)
  exact k p s I
 | cons r rs ihz=>
  intro x p K s Q E c I k
  refine a7 λGg fin_=>?_
  obtain⟨⟨rfl,rfl,ok,hw,hc⟩,c⟩:=c
  refine fin_ ?_
  refine List.map_cons.symm ▸ ?_
  refine mn ?_
  have h:=ok w.params
  unfold bK.OkAt at h
  rw[uy] at h
  refine j2 rfl h I.b λx' s' B k' e1 e2 l=>⟨rfl,?_⟩
  exact ihz _ r.p' _ s' Q E c (I.next (hw _) (hc _) B k' e1 e2 l) k
theorem nQ{M:Model}{c:Code}{t:Sem Fin}{Q:Fin->Pos->Shared->Prop}{p:Pos}{s:Shared}(hr:s.asleep)(h:wp M (PySem.Ctx.of c []) t Q (λ_ _ _=>False) p s)
 (hQ:∀ a p' s',Q a p' s'->∃ f,a=.done f/\s'.gens=#[]) :
 ∃ n p' s' f,schedN M.den M.prog M.w n (.single s ⟨t,c,p,[]⟩)=.running (.single s' ⟨.pure (.done f),c,p',[]⟩)/\Q (.done f) p' s':=by
 refine GZ (wp_comes (PySem.Ctx.fits_of c []) t Q _ p s h) λs' p' leaf g1_ hl=>?_
 obtain⟨n,hn⟩:=g1_
 rcases hl with⟨a,rfl,hq⟩|⟨e,_,hF⟩
 ·refine cG (hQ _ _ _ hq) λf eq1_ hg=>?_
  subst eq1_
  have hn':runNI M.den M.prog M.w n s ⟨t,c,p,[]⟩=.running s' ⟨.pure (.done f),c,p',[]⟩:=hn
  have hstop:∃ o,runNI M.den M.prog M.w (n+1) s ⟨t,c,p,[]⟩=.halted o s'/\o.ends=true:=by
   have go:∀ (n:Nat) (s:Shared) (t:Thread),runNI M.den M.prog M.w n s t=.running s' ⟨.pure (.done f),c,p',[]⟩->runNI M.den M.prog M.w (n+1) s t=runNI M.den M.prog M.w 1 s' ⟨.pure (.done f),c,p',[]⟩:=by
    intro n
    induction n with
    | zero=>intro s t h;cases h;rfl
    | succ n ih=>
     intro s t h
     simp only[runNI] at h
     rw[runNI]
     cases hs:stepI M.den M.prog M.w s t with
     | go s₂ t₂=>rw[hs] at h;exact ih s₂ t₂ h
     | halt o s₂=>rw[hs] at h;exfalso;cases h
   refine(go n s _ hn').symm ▸ ?_
   refine⟨.done f,?_,rfl⟩
   obtain⟨h1,h2,h3,h4,h5⟩:=s'
   have hg:h2=#[]:=hg
   subst hg
   simp[runNI,stepI,Thread.loud,Thread.atCollectorCode,Thread.yieldsInsideHandler,stepK,step,PySem.finish,leftWithCleanup]
  refine cG hstop λo hh ho=>?_
  refine fW (runNI_real M.den M.prog M.w hh ho) λs'' hrun hf hc=>?_
  have hne:∀ k s₂,runN M.den M.prog M.w k s ⟨t,c,p,[]⟩≠.halted (.unsupported "lifetime:generator-with-cleanup-left-suspended") s₂:=by
   intro k s₂ hk
   have a:=runN_mono M.den M.prog M.w (n+1) k s _ o s'' hrun
   have b:=runN_mono M.den M.prog M.w k (n+1) s _ _ s₂ hk
   rw[Nat.add_comm,b] at a
   injection a with a1 _
   subst a1;exact absurd ho (by simp[Outcome.ends])
  refine gf (runNI_running_real hn') λσ tau hrn hσ htau=>?_
  obtain⟨cur,code,pos,stack⟩:=tau
  simp only[Thread.forget,Thread.mk.injEq,forgetAll] at htau
  refine a7 λGg fin_=>?_
  obtain⟨rfl,rfl,rfl,e5⟩:=htau
  have hst:stack=[]:=by induction stack with|nil=>rfl|cons x xs=>simp at e5
  subst hst
  refine fin_ ?_
  obtain rfl:=Shared.eq_of_forget_eq hσ hg
  exact⟨n,_,_,f,(schedN_eq_runN M.den M.prog M.w s _ hr ⟨hc,hne⟩ n).trans (congrArg Run.lift hrn),hq⟩
 ·exact hF.elim
end Mine
namespace Mine
open PySem PySem.W
noncomputable def oS(s:String):Str:=Str.ofString s
noncomputable def sv(s:String)(t:Nat):Value:=.str (Str.ofString s) t
noncomputable def iv(n:Int)(t:Nat):Value:=.int n t
noncomputable def en(P:Params)(k:String)(t:Nat)(v:Value):DictEntry:=Qw P (Str.ofString k) t v
noncomputable def eb(P:Params)(k:String)(t:Nat):DictEntry:=Qw P (Str.ofString k) t (.builtin k)
noncomputable abbrev HL:=Params->List (Addr×Obj)
noncomputable def tO:Value:=.type "object"
noncomputable def kI:Value:=.str (oS "__main__") 164
noncomputable def aq:Value:=.str (oS "pagebase.nodes") 194
noncomputable def iu:Value:=.str (oS "pagebase.read_types") 1145
noncomputable def fR:Value:=.str (oS "pagebase.errors") 1172
noncomputable def aN:Value:=.str (oS "pagebase.words") 1246
noncomputable def bw:Value:=.str (oS "pagebase.expressions") 1601
noncomputable def cr:Value:=.str (oS "pagebase.read_selects") 1874
noncomputable def ca:Value:=.str (oS "pagebase.stream") 2048
noncomputable def aZ:Value:=.str (oS "law_pb0466_01") 2206
noncomputable def o0(P:Params):Obj:=fh (.type "dict") [en P "__name__" 1 (sv "builtins" 160),en P "__doc__" 2 (.builtin "builtins.__doc__:str#opaque"),en P "__package__" 3 (.builtin "builtins.__package__:str#opaque"),en P "__loader__" 4 (.builtin "builtins.__loader__:shared#opaque"),en P "__spec__" 5 (.builtin "builtins.__spec__#opaque"),eb P "__build_class__" 6,eb P "__import__" 7,eb P "abs" 8,eb P "all" 9,eb P "any" 10,eb P "ascii" 11,eb P "bin" 12,eb P "breakpoint" 13,eb P "callable" 14,eb P "chr" 15,eb P "compile" 16,eb P "delattr" 17,eb P "dir" 18,eb P "divmod" 19,eb P "eval" 20,eb P "exec" 21,eb P "format" 22,eb P "getattr" 23,eb P "globals" 24,eb P "hasattr" 25,eb P "hash" 26,eb P "hex" 27,eb P "id" 28,eb P "input" 29,eb P "isinstance" 30,eb P "issubclass" 31,eb P "iter" 32,eb P "aiter" 33,eb P "len" 34,eb P "locals" 35,eb P "max" 36,eb P "min" 37,eb P "next" 38,eb P "anext" 39,eb P "oct" 40,eb P "ord" 41,eb P "pow" 42,eb P "print" 43,eb P "repr" 44,eb P "round" 45,eb P "setattr" 46,eb P "sorted" 47,eb P "sum" 48,eb P "vars" 49,en P "None" 50 .none,en P "Ellipsis" 51 .ellipsis,en P "NotImplemented" 52 .notImplemented,en P "False" 53 (.bool false),en P "True" 54 (.bool true),en P "bool" 55 (.type "bool"),en P "memoryview" 56 (.type "memoryview"),en P "bytearray" 57 (.type "bytearray"),en P "bytes" 58 (.type "bytes"),en P "classmethod" 59 (.type "classmethod"),en P "complex" 60 (.type "complex"),en P "dict" 61 (.type "dict"),en P "enumerate" 62 (.type "enumerate"),en P "filter" 63 (.type "filter"),en P "float" 64 (.type "float"),en P "frozenset" 65 (.type "frozenset"),en P "property" 66 (.type "property"),en P "int" 67 (.type "int"),en P "list" 68 (.type "list"),en P "map" 69 (.type "map"),en P "object" 70 tO,en P "range" 71 (.type "range"),en P "reversed" 72 (.type "reversed"),en P "set" 73 (.type "set"),en P "slice" 74 (.type "slice"),en P "staticmethod" 75 (.type "staticmethod"),en P "str" 76 (.type "str"),en P "super" 77 (.type "super"),en P "tuple" 78 (.type "tuple"),en P "type" 79 (.type "type"),en P "zip" 80 (.type "zip"),en P "__debug__" 81 (.bool true),en P "BaseException" 82 (.type "BaseException"),en P "BaseExceptionGroup" 83 (.type "BaseExceptionGroup"),en P "Exception" 84 (.type "Exception"),en P "GeneratorExit" 85 (.type "GeneratorExit"),en P "KeyboardInterrupt" 86 (.type "KeyboardInterrupt"),en P "SystemExit" 87 (.type "SystemExit"),en P "ArithmeticError" 88 (.type "ArithmeticError"),en P "AssertionError" 89 (.type "AssertionError"),en P "AttributeError" 90 (.type "AttributeError"),en P "BufferError" 91 (.type "BufferError"),en P "EOFError" 92 (.type "EOFError"),en P "ImportError" 93 (.type "ImportError"),en P "LookupError" 94 (.type "LookupError"),en P "MemoryError" 95 (.type "MemoryError"),en P "NameError" 96 (.type "NameError"),en P "OSError" 97 (.type "OSError"),en P "ReferenceError" 98 (.type "ReferenceError"),en P "RuntimeError" 99 (.type "RuntimeError"),en P "StopAsyncIteration" 100 (.type "StopAsyncIteration"),en P "StopIteration" 101 (.type "StopIteration"),en P "SyntaxError" 102 (.type "SyntaxError"),en P "SystemError" 103 (.type "SystemError"),en P "TypeError" 104 (.type "TypeError"),en P "ValueError" 105 (.type "ValueError"),en P "Warning" 106 (.type "Warning"),en P "FloatingPointError" 107 (.type "FloatingPointError"),en P "OverflowError" 108 (.type "OverflowError"),en P "ZeroDivisionError" 109 (.type "ZeroDivisionError"),en P "BytesWarning" 110 (.type "BytesWarning"),en P "DeprecationWarning" 111 (.type "DeprecationWarning"),en P "EncodingWarning" 112 (.type "EncodingWarning"),en P "FutureWarning" 113 (.type "FutureWarning"),en P "ImportWarning" 114 (.type "ImportWarning"),en P "PendingDeprecationWarning" 115 (.type "PendingDeprecationWarning"),en P "ResourceWarning" 116 (.type "ResourceWarning"),en P "RuntimeWarning" 117 (.type "RuntimeWarning"),en P "SyntaxWarning" 118 (.type "SyntaxWarning"),en P "UnicodeWarning" 119 (.type "UnicodeWarning"),en P "UserWarning" 120 (.type "UserWarning"),en P "BlockingIOError" 121 (.type "BlockingIOError"),en P "ChildProcessError" 122 (.type "ChildProcessError"),en P "ConnectionError" 123 (.type "ConnectionError"),en P "FileExistsError" 124 (.type "FileExistsError"),en P "FileNotFoundError" 125 (.type "FileNotFoundError"),en P "InterruptedError" 126 (.type "InterruptedError"),en P "IsADirectoryError" 127 (.type "IsADirectoryError"),en P "NotADirectoryError" 128 (.type "NotADirectoryError"),en P "PermissionError" 129 (.type "PermissionError"),en P "ProcessLookupError" 130 (.type "ProcessLookupError"),en P "TimeoutError" 131 (.type "TimeoutError"),en P "IndentationError" 132 (.type "IndentationError"),en P "_IncompleteInputError" 133 (.type "_IncompleteInputError"),en P "IndexError" 134 (.type "IndexError"),en P "KeyError" 135 (.type "KeyError"),en P "ModuleNotFoundError" 136 (.type "ModuleNotFoundError"),en P "NotImplementedError" 137 (.type "NotImplementedError"),en P "PythonFinalizationError" 138 (.type "PythonFinalizationError"),en P "RecursionError" 139 (.type "RecursionError"),en P "UnboundLocalError" 140 (.type "UnboundLocalError"),en P "UnicodeError" 141 (.type "UnicodeError"),en P "BrokenPipeError" 142 (.type "BrokenPipeError"),en P "ConnectionAbortedError" 143 (.type "ConnectionAbortedError"),en P "ConnectionRefusedError" 144 (.type "ConnectionRefusedError"),en P "ConnectionResetError" 145 (.type "ConnectionResetError"),en P "TabError" 146 (.type "TabError"),en P "UnicodeDecodeError" 147 (.type "UnicodeDecodeError"),en P "UnicodeEncodeError" 148 (.type "UnicodeEncodeError"),en P "UnicodeTranslateError" 149 (.type "UnicodeTranslateError"),en P "ExceptionGroup" 150 (.type "ExceptionGroup"),en P "EnvironmentError" 151 (.type "OSError"),en P "IOError" 152 (.type "OSError"),eb P "open" 153,en P "quit" 154 (.builtin "builtins.quit#opaque"),en P "exit" 155 (.builtin "builtins.exit#opaque"),en P "copyright" 156 (.builtin "builtins.copyright#opaque"),en P "credits" 157 (.builtin "builtins.credits#opaque"),en P "license" 158 (.builtin "builtins.license#opaque"),en P "help" 159 (.builtin "builtins.help#opaque")] 159
noncomputable def Mk(P:Params):List DictEntry:=[en P "__doc__" 166 .none,en P "__package__" 167 .none,en P "__loader__" 168 (.builtin "__main__.__loader__#opaque"),en P "__spec__" 169 .none,en P "__annotations__" 170 (.ref 6),en P "__builtins__" 171 (.ref 4),en P "__file__" 173 (sv "/claim/cut.py" 172),en P "__cached__" 174 .none,en P "_wall" 193 (.ref 21),en P "row_of" 202 (.ref 28),en P "rows_of" 208 (.ref 33),en P "Node" 235 (.ref 50),en P "Expr" 251 (.ref 64),en P "Literal" 283 (.ref 90),en P "Name" 320 (.ref 116),en P "Variable" 352 (.ref 142),en P "Unary" 386 (.ref 168),en P "Binary" 422 (.ref 194),en P "Between" 460 (.ref 220),en P "InList" 496 (.ref 246),en P "InSelect" 532 (.ref 272),en P "Exists" 566 (.ref 298),en P "Scalar" 598 (.ref 324),en P "Case" 633 (.ref 348),en P "Call" 671 (.ref 374),en P "Cast" 705 (.ref 400),en P "Collate" 739 (.ref 426),en P "IsNull" 773 (.ref 452),en P "Match" 814 (.ref 478),en P "ResultColumn" 850 (.ref 504),en P "TableSource" 886 (.ref 530),en P "SelectSource" 920 (.ref 556),en P "Join" 961 (.ref 582),en P "Core" 1004 (.ref 608),en P "Values" 1035 (.ref 632),en P "Compound" 1071 (.ref 658),en P "OrderTerm" 1105 (.ref 684),en P "Select" 1144 (.ref 710),en P "read_type" 1155 (.ref 719),en P "read_size" 1163 (.ref 726),en P "read_names" 1171 (.ref 733),en P "PagebaseError" 1202 (.ref 750),en P "SqlError" 1218 (.ref 763),en P "ParseError" 1245 (.ref 782),en P "QUOTES" 1249 (.str (Str.ofString "'\"`[") 1248),en P "BLANKS" 1251 (sv " \t\n\x0d\x0c" 1250),en P "FIGURES" 1253 (sv "0123456789" 1252),en P "HEX_FIGURES" 1255 (sv "0123456789abcdefABCDEF" 1254),en P "LETTERS" 1257 (sv "abcdefghijklmnopqrstuvwxyzABCDEFGHIJKLMNOPQRSTUVWXYZ_" 1256),en P "NAME_SIGNS" 1261 (sv "abcdefghijklmnopqrstuvwxyzABCDEFGHIJKLMNOPQRSTUVWXYZ_0123456789$" 1260),en P "SIGNS_OF_TWO" 1270 (.ref 785),en P "SIGNS_OF_ONE" 1272 (sv "(),.;+-*/%=<>&|~" 1271),en P "LIKE_SIGNS" 1279 (.ref 786),en P "MOST_VARIABLE" 1281 (iv 999 1280),en P "GREATEST" 1285 (iv 9223372036854775808 1284),en P "RESERVED" 1344 (.ref 787),en P "JOINING" 1353 (.ref 788),en P "folded" 1359 (.ref 793),en P "goes_on_name" 1366 (.ref 800),en P "Word" 1438 (.ref 852),en P "Scanner" 1593 (.ref 957),en P "read_words" 1600 (.ref 968),en P "LOWEST" 1604 (iv 1 1603),en P "EQUAL_LEVEL" 1606 (iv 4 1605),en P "LESS_LEVEL" 1608 (iv 5 1607),en P "SIGN_LEVELS" 1657 (.ref 969),en P "KEY_LEVELS" 1691 (.ref 970),en P "BEHIND_NOT" 1697 (.ref 971),en P "AHEAD_SIGNS" 1701 (.ref 972),en P "ExpressionReader" 1873 (.ref 1095),en P "SelectReader" 2047 (.ref 1228),en P "MOST_DEPTH" 2051 (iv 50 2050),en P "WordStream" 2205 (.ref 1361),en P "_law_pool" 2218 (.ref 1372),en P "_law_take" 2227 (.ref 1379),en P "_law_one" 2235 (.ref 1386),en P "_law_key" 2243 (.ref 1393),en P "_law_called" 2251 (.ref 1400),en P "_law_expr" 2268 (.ref 1407),en P "_law_exprs" 2274 (.ref 1412),en P "_law_alias" 2285 (.ref 1419),en P "_law_column" 2299 (.ref 1426),en P "_law_source" 2316 (.ref 1433),en P "_law_sources" 2322 (.ref 1438),en P "_law_core" 2328 (.ref 1443),en P "_law_values" 2334 (.ref 1448),en P "_law_limits" 2347 (.ref 1455),en P "_law_select" 2369 (.ref 1462),en P "_law_read" 2378 (.ref 1469),en P "law" 2384 (.ref 1474)]
noncomputable def MH(P:Params):Value->DictEntry:=λv=>en P "__name__" 165 v
noncomputable def Py:List Value:=[(iv 1 0),(iv 0 0),(.ref 20),(iv 5 0),(iv 0 0),(.ref 27),(iv 7 0),(iv 0 0),(.ref 32),(iv 9 0),(iv 0 0),(.ref 39),(iv 13 0),(iv 0 0),(.ref 60),(iv 15 0),(iv 0 0),(.ref 72),(iv 26 0),(iv 0 0),(.ref 98),(iv 37 0),(iv 0 0),(.ref 124),(iv 44 0),(iv 0 0),(.ref 150),(iv 52 0),(iv 0 0),(.ref 176),(iv 61 0),(iv 0 0),(.ref 202),(iv 71 0),(iv 0 0),(.ref 228),(iv 80 0),(iv 0 0),(.ref 254),(iv 89 0),(iv 0 0),(.ref 280),(iv 97 0),(iv 0 0),(.ref 306),(iv 104 0),(iv 0 0),(.ref 332),(iv 114 0),(iv 0 0),(.ref 356),(iv 124 0),(iv 0 0),(.ref 382),(iv 132 0),(iv 0 0),(.ref 408),(iv 140 0),(iv 0 0),(.ref 434),(iv 148 0),(iv 0 0),(.ref 460),(iv 160 0),(iv 0 0),(.ref 486),(iv 169 0),(iv 0 0),(.ref 512),(iv 178 0),(iv 0 0),(.ref 538),(iv 186 0),(iv 0 0),(.ref 564),(iv 198 0),(iv 0 0),(.ref 590),(iv 211 0),(iv 0 0),(.ref 616),(iv 218 0),(iv 0 0),(.ref 640),(iv 227 0),(iv 0 0),(.ref 666),(iv 235 0),(iv 0 0),(.ref 692),(iv 247 0),(iv 0 0),(.ref 718),(iv 261 0),(iv 0 0),(.ref 725),(iv 270 0),(iv 0 0),(.ref 732),(iv 278 0),(iv 0 0),(.ref 739),(iv 282 0),(iv 0 0),(.ref 759),(iv 284 0),(iv 0 0),(.ref 771),(iv 303 0),(iv 0 0),(.ref 792),(iv 307 0),(iv 0 0),(.ref 799),(iv 309 0),(iv 0 0),(.ref 806),(iv 331 0),(iv 0 0),(.ref 862),(iv 464 0),(iv 0 0),(.ref 967),(iv 474 0),(iv 0 0),(.ref 978),(iv 664 0),(iv 0 0),(.ref 1105),(iv 828 0),(iv 0 0),(.ref 1238),(iv 899 0),(iv 0 0),(.ref 1371),(iv 904 0),(iv 0 0),(.ref 1378),(iv 911 0),(iv 0 0),(.ref 1385),(iv 913 0),(iv 0 0),(.ref 1392),(iv 915 0),(iv 0 0),(.ref 1399),(iv 918 0),(iv 0 0),(.ref 1406),(iv 942 0),(iv 0 0),(.ref 1411),(iv 945 0),(iv 0 0),(.ref 1418),(iv 953 0),(iv 0 0),(.ref 1425),(iv 963 0),(iv 0 0),(.ref 1432),(iv 976 0),(iv 0 0),(.ref 1437),(iv 991 0),(iv 0 0),(.ref 1442),(iv 1010 0),(iv 0 0),(.ref 1447),(iv 1015 0),(iv 0 0),(.ref 1454),(iv 1027 0),(iv 0 0),(.ref 1461),(iv 1045 0),(iv 0 0),(.ref 1468),(iv 1052 0),(iv 0 0),(.ref 1473)]
noncomputable def o4:Obj:=O5 (.type "module") (some 0) []
noncomputable def QO:Obj:=nL (.type "code") [(sv "<module>" 182),(sv "<module>" 183),(sv "/claim/cut.py" 184),(iv 1 0),(iv 0 0),(iv 0 0),(iv 0 0),(iv 0 0),(.ref 11),(.bool false),(iv 181 0),(.ref 12),.none,.none,.none,.none,(iv 185 0),(iv 1 0),(sv "/claim/cut.py" 186)]
noncomputable def L9(P:Params):Obj:=fh (.type "dict") [en P "__module__" 216 aq,en P "__firstlineno__" 220 (iv 9 219),en P "row" 227 (.ref 47),en P "__static_attributes__" 228 (.ref 48),en P "__dict__" 230 (.ref 51),en P "__weakref__" 232 (.ref 52),en P "__doc__" 233 .none] 4
noncomputable def OM(P:Params):Obj:=fh (.type "dict") [en P "__module__" 243 aq,en P "__firstlineno__" 247 (iv 13 246),en P "__static_attributes__" 248 (.ref 62),en P "__doc__" 249 .none] 2
noncomputable def Io(P:Params):Obj:=fh (.type "dict") [en P "__module__" 1181 fR,en P "__firstlineno__" 1185 (iv 278 1184),en P "__init__" 1193 (.ref 747),en P "__static_attributes__" 1195 (.ref 748),en P "__weakref__" 1197 (.ref 751),en P "__doc__" 1198 .none] 3
noncomputable def L7(P:Params):Obj:=fh (.type "dict") [en P "__module__" 1210 fR,en P "__firstlineno__" 1214 (iv 282 1213),en P "__static_attributes__" 1215 (.ref 761),en P "__doc__" 1216 .none] 2
noncomputable def L8(k:Nat):Obj:=Aq (.type "type") none (oS "Node") [tO] [(.ref 50),tO] 49 (oS "Node") true [] (([(.ref 64),(.ref 504),(.ref 530),(.ref 556),(.ref 582),(.ref 608),(.ref 632),(.ref 658),(.ref 684),(.ref 710)]:List Value).take k) false false [none,none,some (sv "Node" 209),some (sv "Node" 217),some (.builtin "object.__new__"),some (.bool true)]
noncomputable def OL(k:Nat):Obj:=Aq (.type "type") none (oS "Expr") [(.ref 50)] [(.ref 64),(.ref 50),tO] 63 (oS "Expr") true [] (([(.ref 90),(.ref 116),(.ref 142),(.ref 168),(.ref 194),(.ref 220),(.ref 246),(.ref 272),(.ref 298),(.ref 324),(.ref 348),(.ref 374),(.ref 400),(.ref 426),(.ref 452),(.ref 478)]:List Value).take k) false false [some (.ref 55),none,some (sv "Expr" 236),some (sv "Expr" 244),some (.builtin "object.__new__"),some (.bool true)]
noncomputable def Im(k:Nat):Obj:=Aq (.type "type") none (oS "PagebaseError") [(.type "Exception")] [(.ref 750),(.type "Exception"),(.type "BaseException"),tO] 749 (oS "PagebaseError") true [] (([(.ref 763)]:List Value).take k) false false [some (.ref 734),none,some (sv "PagebaseError" 1174),some (sv "PagebaseError" 1182),some (.builtin "Exception.__new__"),some (.bool true)]
noncomputable def L6(k:Nat):Obj:=Aq (.type "type") none (oS "SqlError") [(.ref 750)] [(.ref 763),(.ref 750),(.type "Exception"),(.type "BaseException"),tO] 762 (oS "SqlError") true [] (([(.ref 782)]:List Value).take k) false false [some (.ref 754),none,some (sv "SqlError" 1203),some (sv "SqlError" 1211),some (.builtin "Exception.__new__"),some (.bool true)]
noncomputable def o2(P:Params)(k:Nat):Obj:=fh .none (([en P "type.__subclasses__.Exception.0" 1199 (iv 750 0),en P "type.__subclasses__.Exception.n" 1200 (iv 1 0)]:List DictEntry).take k) k
noncomputable def o3(P:Params)(nm:Value)(k:Nat):Obj:=fh (.type "dict") (MH P nm::(Mk P).take (k-1)) k
noncomputable def QP(m:Nat):Obj:=nL .none (Py.take m)
noncomputable def mD(a i j:Nat)(nm q:String)(t line argc kw fl t':Nat)(dfl mod:Value):List (Addr×Obj):=
 [(a,A5 (oS nm) (oS q) t line argc kw fl (a-5) (a-4) (.ref (a-3)) (.ref (a-2)) (a-1) t'),(a+1,ux (ak i j) (oS q) dfl mod a)]
noncomputable def cN(a:Nat)(s:String)(bs ms:List Nat)(d t1 t2:Nat):List (Addr×Obj):=
 [(a,Aq (.type "type") none (oS s) (bs.map .ref) (.ref a::(ms.map .ref++[tO])) (a-1) (oS s) true [] [] false false [some (.ref d),none,some (sv s t1),some (sv s t2),some (.builtin "object.__new__"),some (.bool true)])]
noncomputable def hM:HL:=λP=>[(49,L9 P),(50,L8 10),(63,OM P),(64,OL 16),(749,Io P),(750,Im 1),(762,L7 P),(763,L6 1)]
noncomputable def hN(P:Params)(a b:Nat):List (Addr×Obj):=[(49,L9 P),(50,L8 a),(63,OM P),(64,OL b)]
noncomputable def aI(P:Params)(nm:Value)(k m c2:Nat)(more:List (Addr×Obj)):List (Addr×Obj):=(0,o0 P)::(2,o2 P c2)::(3,o3 P nm k)::(4,o4)::(12,QP m)::(13,QO)::more
noncomputable def sJ:HL:=λP=>[(0,o0 P),(1,fh (.type "dict") [en P "builtins" 162 (.ref 4),en P "__main__" 163 (.ref 5)] 2),(2,o2 P 0),(3,o3 P kI 9),(4,o4),(5,O5 (.type "module") (some 3) []),(6,fh (.type "dict") [] 0),(7,fe (.type "tuple") [] 0),(8,nL .none []),(9,nL (.type "code") [(sv "<module>" 176),(sv "<module>" 177),(sv "/claim/cut.py" 178),(iv 1 0),(iv 0 0),(iv 0 0),(iv 0 0),(iv 0 0),(.ref 7),(.bool false),(iv 175 0),(.ref 8),.none,.none,.none,.none,(iv 179 0),(iv 1 0),(sv "/claim/cut.py" 180)]),(10,O5 (.type "frame") none [some (.ref 9),some (.ref 3),some (.ref 3),none,some kI,none,some (.ref 0)])]
noncomputable def ku:HL:=λP=>[(0,o0 P),(2,o2 P 0),(3,o3 P kI 9),(4,o4)]
noncomputable def mX:HL:=λP=>aI P kI 9 0 0 []
noncomputable def Qy:HL:=λP=>[]
noncomputable def Ob:HL:=λP=>aI P kI 10 3 0 []
noncomputable def Hb:HL:=λP=>mD 20 0 0 "_wall" "_wall" 187 1 1 0 3 191 .none kI
noncomputable def Oa:HL:=λP=>aI P aq 10 3 0 []
noncomputable def Oo:HL:=λP=>[]
noncomputable def N9:HL:=λP=>aI P aq 11 6 0 []
noncomputable def Ha:HL:=λP=>mD 27 2 0 "row_of" "row_of" 196 5 1 0 3 200 .none aq
noncomputable def N8:HL:=λP=>aI P aq 12 9 0 []
noncomputable def G9:HL:=λP=>[(32,A5 (oS "rows_of") (oS "rows_of") 203 7 1 0 3 29 30 .none .none 31 206),(33,ux (ak 3 0) (oS "rows_of") .none aq 32)]
noncomputable def N7:HL:=λP=>aI P aq 13 12 0 [(49,L9 P),(50,L8 0)]
noncomputable def G8:HL:=λP=>mD 46 4 0 "row" "Node.row" 221 11 1 0 3 225 .none aq++[(48,fe (.type "tuple") [] 0),(51,nL (.type "getset_descriptor") [(sv "__dict__" 229),(.ref 50),(.builtin "function.__dict__"),(.builtin "function.__dict__#set")]),(52,nL (.type "getset_descriptor") [(sv "__weakref__" 231),(.ref 50),(.builtin "ExceptionGroup.__weakref__"),.none])]
noncomputable def N6:HL:=λP=>aI P aq 14 15 0 (hN P 1 0)
noncomputable def G7:HL:=λP=>[(62,fe (.type "tuple") [] 0)]
noncomputable def N5:HL:=λP=>aI P aq 15 18 0 (hN P 1 1)
noncomputable def G6:HL:=λP=>mD 79 6 0 "__init__" "Literal.__init__" 264 17 2 0 3 269 .none aq++mD 86 6 1 "row" "Literal.row" 272 20 1 0 3 276 .none aq++[(88,fe (.type "tuple") [(sv "value" 279)] 0),(89,fh (.type "dict") [en P "__module__" 259 aq,en P "__firstlineno__" 263 (iv 15 262),en P "__init__" 271 (.ref 80),en P "row" 278 (.ref 87),en P "__static_attributes__" 280 (.ref 88),en P "__doc__" 281 .none] 2)]++cN 90 "Literal" [64] [64,50] 67 252 260
noncomputable def N4:HL:=λP=>aI P aq 16 21 0 (hN P 1 2)
noncomputable def G5:HL:=λP=>mD 105 7 0 "__init__" "Name.__init__" 296 28 3 0 3 302 .none aq++mD 112 7 1 "row" "Name.row" 305 35 1 0 3 309 .none aq++[(114,fe (.type "tuple") [(sv "column" 312),(sv "depth" 313),(sv "place" 314),(sv "source" 315),(sv "table" 316)] 0),(115,fh (.type "dict") [en P "__module__" 291 aq,en P "__firstlineno__" 295 (iv 26 294),en P "__init__" 304 (.ref 106),en P "row" 311 (.ref 113),en P "__static_attributes__" 317 (.ref 114),en P "__doc__" 318 .none] 2)]++cN 116 "Name" [64] [64,50] 93 284 292
noncomputable def N2:HL:=λP=>aI P aq 17 24 0 (hN P 1 3)
noncomputable def G4:HL:=λP=>mD 131 8 0 "__init__" "Variable.__init__" 333 39 2 0 3 338 .none aq++mD 138 8 1 "row" "Variable.row" 341 42 1 0 3 345 .none aq++[(140,fe (.type "tuple") [(sv "number" 348)] 0),(141,fh (.type "dict") [en P "__module__" 328 aq,en P "__firstlineno__" 332 (iv 37 331),en P "__init__" 340 (.ref 132),en P "row" 347 (.ref 139),en P "__static_attributes__" 349 (.ref 140),en P "__doc__" 350 .none] 2)]++cN 142 "Variable" [64] [64,50] 119 321 329
noncomputable def GW:HL:=λP=>aI P aq 18 27 0 (hN P 1 4)
noncomputable def Ao:HL:=λP=>mD 157 9 0 "__init__" "Unary.__init__" 365 46 3 0 3 371 .none aq++mD 164 9 1 "row" "Unary.row" 374 50 1 0 3 378 .none aq++[(166,fe (.type "tuple") [(sv "op" 381),(sv "operand" 382)] 0),(167,fh (.type "dict") [en P "__module__" 360 aq,en P "__firstlineno__" 364 (iv 44 363),en P "__init__" 373 (.ref 158),en P "row" 380 (.ref 165),en P "__static_attributes__" 383 (.ref 166),en P "__doc__" 384 .none] 2)]++cN 168 "Unary" [64] [64,50] 145 353 361
noncomputable def GU:HL:=λP=>aI P aq 19 30 0 (hN P 1 5)
noncomputable def An:HL:=λP=>mD 183 10 0 "__init__" "Binary.__init__" 399 54 4 0 3 406 .none aq++mD 190 10 1 "row" "Binary.row" 409 59 1 0 3 413 .none aq++[(192,fe (.type "tuple") [(sv "left" 416),(sv "op" 417),(sv "right" 418)] 0),(193,fh (.type "dict") [en P "__module__" 394 aq,en P "__firstlineno__" 398 (iv 52 397),en P "__init__" 408 (.ref 184),en P "row" 415 (.ref 191),en P "__static_attributes__" 419 (.ref 192),en P "__doc__" 420 .none] 2)]++cN 194 "Binary" [64] [64,50] 171 387 395
noncomputable def GT:HL:=λP=>aI P aq 20 33 0 (hN P 1 6)
noncomputable def Am:HL:=λP=>mD 209 11 0 "__init__" "Between.__init__" 435 63 5 0 3 443 .none aq++mD 216 11 1 "row" "Between.row" 446 69 1 0 3 450 .none aq++[(218,fe (.type "tuple") [(sv "high" 453),(sv "low" 454),(sv "negated" 455),(sv "value" 456)] 0),(219,fh (.type "dict") [en P "__module__" 430 aq,en P "__firstlineno__" 434 (iv 61 433),en P "__init__" 445 (.ref 210),en P "row" 452 (.ref 217),en P "__static_attributes__" 457 (.ref 218),en P "__doc__" 458 .none] 2)]++cN 220 "Between" [64] [64,50] 197 423 431
noncomputable def GS:HL:=λP=>aI P aq 21 36 0 (hN P 1 7)
noncomputable def Ak:HL:=λP=>mD 235 12 0 "__init__" "InList.__init__" 473 73 4 0 3 480 .none aq++mD 242 12 1 "row" "InList.row" 483 78 1 0 3 487 .none aq++[(244,fe (.type "tuple") [(sv "items" 490),(sv "negated" 491),(sv "value" 492)] 0),(245,fh (.type "dict") [en P "__module__" 468 aq,en P "__firstlineno__" 472 (iv 71 471),en P "__init__" 482 (.ref 236),en P "row" 489 (.ref 243),en P "__static_attributes__" 493 (.ref 244),en P "__doc__" 494 .none] 2)]++cN 246 "InList" [64] [64,50] 223 461 469
noncomputable def GR:HL:=λP=>aI P aq 22 39 0 (hN P 1 8)
noncomputable def Aj:HL:=λP=>mD 261 13 0 "__init__" "InSelect.__init__" 509 82 4 0 3 516 .none aq++mD 268 13 1 "row" "InSelect.row" 519 87 1 0 3 523 .none aq++[(270,fe (.type "tuple") [(sv "negated" 526),(sv "select" 527),(sv "value" 528)] 0),(271,fh (.type "dict") [en P "__module__" 504 aq,en P "__firstlineno__" 508 (iv 80 507),en P "__init__" 518 (.ref 262),en P "row" 525 (.ref 269),en P "__static_attributes__" 529 (.ref 270),en P "__doc__" 530 .none] 2)]++cN 272 "InSelect" [64] [64,50] 249 497 505
noncomputable def GQ:HL:=λP=>aI P aq 23 42 0 (hN P 1 9)
noncomputable def Ai:HL:=λP=>mD 287 14 0 "__init__" "Exists.__init__" 545 91 3 0 3 551 .none aq++mD 294 14 1 "row" "Exists.row" 554 95 1 0 3 558 .none aq++[(296,fe (.type "tuple") [(sv "negated" 561),(sv "select" 562)] 0),(297,fh (.type "dict") [en P "__module__" 540 aq,en P "__firstlineno__" 544 (iv 89 543),en P "__init__" 553 (.ref 288),en P "row" 560 (.ref 295),en P "__static_attributes__" 563 (.ref 296),en P "__doc__" 564 .none] 2)]++cN 298 "Exists" [64] [64,50] 275 533 541
noncomputable def GP:HL:=λP=>aI P aq 24 45 0 (hN P 1 10)
noncomputable def Ah:HL:=λP=>mD 313 15 0 "__init__" "Scalar.__init__" 579 99 2 0 3 584 .none aq++mD 320 15 1 "row" "Scalar.row" 587 102 1 0 3 591 .none aq++[(322,fe (.type "tuple") [(sv "select" 594)] 0),(323,fh (.type "dict") [en P "__module__" 574 aq,en P "__firstlineno__" 578 (iv 97 577),en P "__init__" 586 (.ref 314),en P "row" 593 (.ref 321),en P "__static_attributes__" 595 (.ref 322),en P "__doc__" 596 .none] 2)]++cN 324 "Scalar" [64] [64,50] 301 567 575
noncomputable def GO:HL:=λP=>aI P aq 25 48 0 (hN P 1 11)
noncomputable def Ag:HL:=λP=>mD 339 16 0 "__init__" "Case.__init__" 611 106 4 0 3 618 .none aq++[(344,A5 (oS "row") (oS "Case.row") 621 111 1 0 3 341 342 .none .none 343 624),(345,ux (ak 16 1) (oS "Case.row") .none aq 344),(346,fe (.type "tuple") [(sv "base" 627),(sv "other" 628),(sv "whens" 629)] 0),(347,fh (.type "dict") [en P "__module__" 606 aq,en P "__firstlineno__" 610 (iv 104 609),en P "__init__" 620 (.ref 340),en P "row" 626 (.ref 345),en P "__static_attributes__" 630 (.ref 346),en P "__doc__" 631 .none] 2)]++cN 348 "Case" [64] [64,50] 327 599 607
noncomputable def GN:HL:=λP=>aI P aq 26 51 0 (hN P 1 12)
noncomputable def Af:HL:=λP=>mD 363 17 0 "__init__" "Call.__init__" 646 116 5 0 3 654 .none aq++mD 370 17 1 "row" "Call.row" 657 122 1 0 3 661 .none aq++[(372,fe (.type "tuple") [(sv "arguments" 664),(sv "distinct" 665),(sv "name" 666),(sv "star" 667)] 0),(373,fh (.type "dict") [en P "__module__" 641 aq,en P "__firstlineno__" 645 (iv 114 644),en P "__init__" 656 (.ref 364),en P "row" 663 (.ref 371),en P "__static_attributes__" 668 (.ref 372),en P "__doc__" 669 .none] 2)]++cN 374 "Call" [64] [64,50] 351 634 642
noncomputable def GL:HL:=λP=>aI P aq 27 54 0 (hN P 1 13)
noncomputable def Ae:HL:=λP=>mD 389 18 0 "__init__" "Cast.__init__" 684 126 3 0 3 690 .none aq++mD 396 18 1 "row" "Cast.row" 693 130 1 0 3 697 .none aq++[(398,fe (.type "tuple") [(sv "type_name" 700),(sv "value" 701)] 0),(399,fh (.type "dict") [en P "__module__" 679 aq,en P "__firstlineno__" 683 (iv 124 682),en P "__init__" 692 (.ref 390),en P "row" 699 (.ref 397),en P "__static_attributes__" 702 (.ref 398),en P "__doc__" 703 .none] 2)]++cN 400 "Cast" [64] [64,50] 377 672 680
noncomputable def GK:HL:=λP=>aI P aq 28 57 0 (hN P 1 14)
noncomputable def Ad:HL:=λP=>mD 415 19 0 "__init__" "Collate.__init__" 718 134 3 0 3 724 .none aq++mD 422 19 1 "row" "Collate.row" 727 138 1 0 3 731 .none aq++[(424,fe (.type "tuple") [(sv "collation" 734),(sv "value" 735)] 0),(425,fh (.type "dict") [en P "__module__" 713 aq,en P "__firstlineno__" 717 (iv 132 716),en P "__init__" 726 (.ref 416),en P "row" 733 (.ref 423),en P "__static_attributes__" 736 (.ref 424),en P "__doc__" 737 .none] 2)]++cN 426 "Collate" [64] [64,50] 403 706 714
noncomputable def GJ:HL:=λP=>aI P aq 29 60 0 (hN P 1 15)
noncomputable def Ac:HL:=λP=>mD 441 20 0 "__init__" "IsNull.__init__" 752 142 3 0 3 758 .none aq++mD 448 20 1 "row" "IsNull.row" 761 146 1 0 3 765 .none aq++[(450,fe (.type "tuple") [(sv "negated" 768),(sv "value" 769)] 0),(451,fh (.type "dict") [en P "__module__" 747 aq,en P "__firstlineno__" 751 (iv 140 750),en P "__init__" 760 (.ref 442),en P "row" 767 (.ref 449),en P "__static_attributes__" 770 (.ref 450),en P "__doc__" 771 .none] 2)]++cN 452 "IsNull" [64] [64,50] 429 740 748
noncomputable def GI:HL:=λP=>aI P aq 30 63 0 (hN P 1 16)
noncomputable def Ab:HL:=λP=>mD 467 21 0 "__init__" "Match.__init__" 786 150 6 0 3 795 .none aq++mD 474 21 1 "row" "Match.row" 798 157 1 0 3 803 .none aq++[(476,fe (.type "tuple") [(sv "escape" 806),(sv "negated" 807),(sv "pattern" 808),(sv "value" 809),(sv "word" 810)] 0),(477,fh (.type "dict") [en P "__module__" 781 aq,en P "__firstlineno__" 785 (iv 148 784),en P "__init__" 797 (.ref 468),en P "row" 805 (.ref 475),en P "__static_attributes__" 811 (.ref 476),en P "__doc__" 812 .none] 2)]++cN 478 "Match" [64] [64,50] 455 774 782
noncomputable def GH:HL:=λP=>aI P aq 31 66 0 (hN P 2 16)
noncomputable def Aa:HL:=λP=>mD 493 22 0 "__init__" "ResultColumn.__init__" 827 162 4 0 3 834 .none aq++mD 500 22 1 "row" "ResultColumn.row" 837 167 1 0 3 841 .none aq++[(502,fe (.type "tuple") [(sv "alias" 844),(sv "star_table" 845),(sv "value" 846)] 0),(503,fh (.type "dict") [en P "__module__" 822 aq,en P "__firstlineno__" 826 (iv 160 825),en P "__init__" 836 (.ref 494),en P "row" 843 (.ref 501),en P "__static_attributes__" 847 (.ref 502),en P "__doc__" 848 .none] 2)]++cN 504 "ResultColumn" [50] [50] 481 815 823
noncomputable def GG:HL:=λP=>aI P aq 32 69 0 (hN P 3 16)
noncomputable def z9:HL:=λP=>mD 519 23 0 "__init__" "TableSource.__init__" 863 171 4 0 3 870 .none aq++mD 526 23 1 "row" "TableSource.row" 873 176 1 0 3 877 .none aq++[(528,fe (.type "tuple") [(sv "alias" 880),(sv "hint" 881),(sv "name" 882)] 0),(529,fh (.type "dict") [en P "__module__" 858 aq,en P "__firstlineno__" 862 (iv 169 861),en P "__init__" 872 (.ref 520),en P "row" 879 (.ref 527),en P "__static_attributes__" 883 (.ref 528),en P "__doc__" 884 .none] 2)]++cN 530 "TableSource" [50] [50] 507 851 859
noncomputable def GF:HL:=λP=>aI P aq 33 72 0 (hN P 4 16)
noncomputable def z8:HL:=λP=>mD 545 24 0 "__init__" "SelectSource.__init__" 899 180 3 0 3 905 .none aq++mD 552 24 1 "row" "SelectSource.row" 908 184 1 0 3 912 .none aq++[(554,fe (.type "tuple") [(sv "alias" 915),(sv "select" 916)] 0),(555,fh (.type "dict") [en P "__module__" 894 aq,en P "__firstlineno__" 898 (iv 178 897),en P "__init__" 907 (.ref 546),en P "row" 914 (.ref 553),en P "__static_attributes__" 917 (.ref 554),en P "__doc__" 918 .none] 2)]++cN 556 "SelectSource" [50] [50] 533 887 895
noncomputable def GE:HL:=λP=>aI P aq 34 75 0 (hN P 5 16)
noncomputable def z7:HL:=λP=>mD 571 25 0 "__init__" "Join.__init__" 933 188 6 0 3 942 .none aq++mD 578 25 1 "row" "Join.row" 945 195 1 0 3 950 .none aq++[(580,fe (.type "tuple") [(sv "kind" 953),(sv "left" 954),(sv "on" 955),(sv "right" 956),(sv "using" 957)] 0),(581,fh (.type "dict") [en P "__module__" 928 aq,en P "__firstlineno__" 932 (iv 186 931),en P "__init__" 944 (.ref 572),en P "row" 952 (.ref 579),en P "__static_attributes__" 958 (.ref 580),en P "__doc__" 959 .none] 2)]++cN 582 "Join" [50] [50] 559 921 929
noncomputable def GD:HL:=λP=>aI P aq 35 78 0 (hN P 6 16)
noncomputable def z6:HL:=λP=>mD 597 26 0 "__init__" "Core.__init__" 974 200 7 0 3 984 .none aq++mD 604 26 1 "row" "Core.row" 987 208 1 0 3 992 .none aq++[(606,fe (.type "tuple") [(sv "columns" 995),(sv "distinct" 996),(sv "groups" 997),(sv "having" 998),(sv "source" 999),(sv "where" 1000)] 0),(607,fh (.type "dict") [en P "__module__" 969 aq,en P "__firstlineno__" 973 (iv 198 972),en P "__init__" 986 (.ref 598),en P "row" 994 (.ref 605),en P "__static_attributes__" 1001 (.ref 606),en P "__doc__" 1002 .none] 2)]++cN 608 "Core" [50] [50] 585 962 970
noncomputable def GC:HL:=λP=>aI P aq 36 81 0 (hN P 7 16)
noncomputable def z5:HL:=λP=>mD 623 27 0 "__init__" "Values.__init__" 1017 213 2 0 3 1022 .none aq++[(628,A5 (oS "row") (oS "Values.row") 1025 216 1 0 3 625 626 .none .none 627 1028),(629,ux (ak 27 1) (oS "Values.row") .none aq 628),(630,fe (.type "tuple") [(sv "rows" 1031)] 0),(631,fh (.type "dict") [en P "__module__" 1012 aq,en P "__firstlineno__" 1016 (iv 211 1015),en P "__init__" 1024 (.ref 624),en P "row" 1030 (.ref 629),en P "__static_attributes__" 1032 (.ref 630),en P "__doc__" 1033 .none] 2)]++cN 632 "Values" [50] [50] 611 1005 1013
noncomputable def GB:HL:=λP=>aI P aq 37 84 0 (hN P 8 16)
noncomputable def z4:HL:=λP=>mD 647 28 0 "__init__" "Compound.__init__" 1048 220 4 0 3 1055 .none aq++mD 654 28 1 "row" "Compound.row" 1058 225 1 0 3 1062 .none aq++[(656,fe (.type "tuple") [(sv "left" 1065),(sv "op" 1066),(sv "right" 1067)] 0),(657,fh (.type "dict") [en P "__module__" 1043 aq,en P "__firstlineno__" 1047 (iv 218 1046),en P "__init__" 1057 (.ref 648),en P "row" 1064 (.ref 655),en P "__static_attributes__" 1068 (.ref 656),en P "__doc__" 1069 .none] 2)]++cN 658 "Compound" [50] [50] 635 1036 1044
noncomputable def GA:HL:=λP=>aI P aq 38 87 0 (hN P 9 16)
noncomputable def z0:HL:=λP=>mD 673 29 0 "__init__" "OrderTerm.__init__" 1084 229 3 0 3 1090 .none aq++mD 680 29 1 "row" "OrderTerm.row" 1093 233 1 0 3 1097 .none aq++[(682,fe (.type "tuple") [(sv "descending" 1100),(sv "value" 1101)] 0),(683,fh (.type "dict") [en P "__module__" 1079 aq,en P "__firstlineno__" 1083 (iv 227 1082),en P "__init__" 1092 (.ref 674),en P "row" 1099 (.ref 681),en P "__static_attributes__" 1102 (.ref 682),en P "__doc__" 1103 .none] 2)]++cN 684 "OrderTerm" [50] [50] 661 1072 1080
noncomputable def Gz:HL:=λP=>aI P aq 39 90 0 (hN P 10 16)
noncomputable def zZ:HL:=λP=>mD 699 30 0 "__init__" "Select.__init__" 1118 237 5 0 3 1126 .none aq++mD 706 30 1 "row" "Select.row" 1129 243 1 0 3 1134 .none aq++[(708,fe (.type "tuple") [(sv "body" 1137),(sv "limit" 1138),(sv "offset" 1139),(sv "order" 1140)] 0),(709,fh (.type "dict") [en P "__module__" 1113 aq,en P "__firstlineno__" 1117 (iv 235 1116),en P "__init__" 1128 (.ref 700),en P "row" 1136 (.ref 707),en P "__static_attributes__" 1141 (.ref 708),en P "__doc__" 1142 .none] 2)]++cN 710 "Select" [50] [50] 687 1106 1114
noncomputable def Gy:HL:=λP=>aI P iu 39 90 0 (hN P 10 16)
noncomputable def Kb:HL:=λP=>[]
noncomputable def Gx:HL:=λP=>aI P iu 40 93 0 (hN P 10 16)
noncomputable def zY:HL:=λP=>mD 718 32 0 "read_type" "read_type" 1147 247 1 0 3 1153 .none iu
noncomputable def Gw:HL:=λP=>aI P iu 41 96 0 (hN P 10 16)
noncomputable def zX:HL:=λP=>mD 725 33 0 "read_size" "read_size" 1156 261 1 0 3 1161 .none iu
noncomputable def Gv:HL:=λP=>aI P iu 42 99 0 (hN P 10 16)
noncomputable def zW:HL:=λP=>mD 732 34 0 "read_names" "read_names" 1164 270 1 0 3 1169 .none iu
noncomputable def Gu:HL:=λP=>aI P fR 42 99 0 (hN P 10 16)
noncomputable def Ka:HL:=λP=>[]
noncomputable def Gs:HL:=λP=>aI P fR 43 102 2 [(49,L9 P),(50,L8 10),(63,OM P),(64,OL 16),(749,Io P),(750,Im 0)]
noncomputable def zV:HL:=λP=>mD 746 36 0 "__init__" "PagebaseError.__init__" 1186 280 2 0 3 1191 .none fR++[(748,fe (.type "tuple") [(sv "message" 1194)] 0),(751,nL (.type "getset_descriptor") [(sv "__weakref__" 1196),(.ref 750),(.builtin "ExceptionGroup.__weakref__"),.none])]
noncomputable def Gr:HL:=λP=>aI P fR 44 105 2 [(49,L9 P),(50,L8 10),(63,OM P),(64,OL 16),(749,Io P),(750,Im 1),(762,L7 P),(763,L6 0)]
noncomputable def zU:HL:=λP=>[(761,fe (.type "tuple") [] 0)]
noncomputable def Gq:HL:=λP=>aI P fR 45 108 2 (hM P)
noncomputable def zT:HL:=λP=>mD 778 38 0 "__init__" "ParseError.__init__" 1231 286 3 0 3 1237 .none fR++[(780,fe (.type "tuple") [(sv "message" 1240),(sv "place" 1241)] 0),(781,fh (.type "dict") [en P "__module__" 1226 fR,en P "__firstlineno__" 1230 (iv 284 1229),en P "__init__" 1239 (.ref 779),en P "__static_attributes__" 1242 (.ref 780),en P "__doc__" 1243 .none] 2),(782,Aq (.type "type") none (oS "ParseError") [(.ref 763)] [(.ref 782),(.ref 763),(.ref 750),(.type "Exception"),(.type "BaseException"),tO] 781 (oS "ParseError") true [] [] false false [some (.ref 766),none,some (sv "ParseError" 1219),some (sv "ParseError" 1227),some (.builtin "Exception.__new__"),some (.bool true)])]
noncomputable def Gp:HL:=λP=>aI P aN 45 108 2 (hM P)
noncomputable def J9:HL:=λP=>[]
noncomputable def Go:HL:=λP=>aI P aN 46 108 2 (hM P)
noncomputable def J8:HL:=λP=>[]
noncomputable def Gn:HL:=λP=>aI P aN 47 108 2 (hM P)
noncomputable def J7:HL:=λP=>[]
noncomputable def Gm:HL:=λP=>aI P aN 48 108 2 (hM P)
noncomputable def J6:HL:=λP=>[]
noncomputable def Gl:HL:=λP=>aI P aN 49 108 2 (hM P)
noncomputable def J5:HL:=λP=>[]
noncomputable def Gk:HL:=λP=>aI P aN 50 108 2 (hM P)
noncomputable def J4:HL:=λP=>[]
noncomputable def Gj:HL:=λP=>aI P aN 51 108 2 (hM P)
noncomputable def J3:HL:=λP=>[]
noncomputable def Gi:HL:=λP=>aI P aN 52 108 2 (hM P)
noncomputable def zS:HL:=λP=>[(785,fe (.type "tuple") [(sv "<=" 1262),(sv ">=" 1263),(sv "<>" 1264),(sv "!=" 1265),(sv "==" 1266),(sv "||" 1267),(sv "<<" 1268),(sv ">>" 1269)] 0)]
noncomputable def Gh:HL:=λP=>aI P aN 53 108 2 (hM P)
noncomputable def J2:HL:=λP=>[]
noncomputable def Gf:HL:=λP=>aI P aN 54 108 2 (hM P)
noncomputable def zR:HL:=λP=>[(786,fh (.type "dict") [en P "==" 1273 (sv "=" 1274),en P "!=" 1275 (sv "<>" 1276)] 2)]
noncomputable def Ge:HL:=λP=>aI P aN 55 108 2 (hM P)
noncomputable def J1:HL:=λP=>[]
noncomputable def Gd:HL:=λP=>aI P aN 56 108 2 (hM P)
noncomputable def J0:HL:=λP=>[]
noncomputable def Gc:HL:=λP=>aI P aN 57 108 2 (hM P)
noncomputable def zQ:HL:=λP=>[(787,fe (.type "tuple") [(sv "ADD" 1286),(sv "ALL" 1287),(sv "ALTER" 1288),(sv "AND" 1289),(sv "AS" 1290),(sv "AUTOINCREMENT" 1291),(sv "BETWEEN" 1292),(sv "CASE" 1293),(sv "CHECK" 1294),(sv "COLLATE" 1295),(sv "COMMIT" 1296),(sv "CONSTRAINT" 1297),(sv "CREATE" 1298),(sv "DEFAULT" 1299),(sv "DEFERRABLE" 1300),(sv "DELETE" 1301),(sv "DISTINCT" 1302),(sv "DROP" 1303),(sv "ELSE" 1304),(sv "ESCAPE" 1305),(sv "EXCEPT" 1306),(sv "EXISTS" 1307),(sv "FOREIGN" 1308),(sv "FROM" 1309),(sv "GROUP" 1310),(sv "HAVING" 1311),(sv "IN" 1312),(sv "INDEX" 1313),(sv "INSERT" 1314),(sv "INTERSECT" 1315),(sv "INTO" 1316),(sv "IS" 1317),(sv "ISNULL" 1318),(sv "JOIN" 1319),(sv "LIMIT" 1320),(sv "NOT" 1321),(sv "NOTHING" 1322),(sv "NOTNULL" 1323),(sv "NULL" 1324),(sv "ON" 1325),(sv "OR" 1326),(sv "ORDER" 1327),(sv "PRIMARY" 1328),(sv "REFERENCES" 1329),(sv "RETURNING" 1330),(sv "SELECT" 1331),(sv "SET" 1332),(sv "TABLE" 1333),(sv "THEN" 1334),(sv "TO" 1335),(sv "TRANSACTION" 1336),(sv "UNION" 1337),(sv "UNIQUE" 1338),(sv "UPDATE" 1339),(sv "USING" 1340),(sv "VALUES" 1341),(sv "WHEN" 1342),(sv "WHERE" 1343)] 0)]
noncomputable def Gb:HL:=λP=>aI P aN 58 108 2 (hM P)
noncomputable def zP:HL:=λP=>[(788,fe (.type "tuple") [(sv "CROSS" 1345),(sv "FULL" 1346),(sv "INDEXED" 1347),(sv "INNER" 1348),(sv "LEFT" 1349),(sv "NATURAL" 1350),(sv "OUTER" 1351),(sv "RIGHT" 1352)] 0)]
noncomputable def Ga:HL:=λP=>aI P aN 59 111 2 (hM P)
noncomputable def zO:HL:=λP=>[(792,A5 (oS "folded") (oS "folded") 1354 303 1 0 3 789 790 .none .none 791 1357),(793,ux (ak 53 0) (oS "folded") .none aN 792)]
noncomputable def F9:HL:=λP=>aI P aN 60 114 2 (hM P)
noncomputable def zN:HL:=λP=>mD 799 54 0 "goes_on_name" "goes_on_name" 1360 307 1 0 3 1364 .none aN
noncomputable def F8:HL:=λP=>aI P aN 61 117 2 (hM P)
noncomputable def zM:HL:=λP=>mD 813 55 0 "__init__" "Word.__init__" 1379 311 5 0 3 1387 .none aN++mD 820 55 1 "is_sign" "Word.is_sign" 1390 317 2 0 3 1395 .none aN++mD 827 55 2 "is_key" "Word.is_key" 1398 320 2 0 3 1403 .none aN++mD 834 55 3 "is_free" "Word.is_free" 1406 323 1 0 3 1410 .none aN++mD 841 55 4 "is_plain" "Word.is_plain" 1413 326 1 0 3 1417 .none aN++mD 848 55 5 "row" "Word.row" 1420 329 1 0 3 1424 .none aN++[(850,fe (.type "tuple") [(sv "kind" 1427),(sv "place" 1428),(sv "text" 1429),(sv "value" 1430)] 0),(851,fh (.type "dict") [en P "__module__" 1374 aN,en P "__firstlineno__" 1378 (iv 309 1377),en P "__init__" 1389 (.ref 814),en P "is_sign" 1397 (.ref 821),en P "is_key" 1405 (.ref 828),en P "is_free" 1412 (.ref 835),en P "is_plain" 1419 (.ref 842),en P "row" 1426 (.ref 849),en P "__static_attributes__" 1431 (.ref 850),en P "__dict__" 1433 (.ref 853),en P "__weakref__" 1435 (.ref 854),en P "__doc__" 1436 .none] 4),(852,Aq (.type "type") none (oS "Word") [tO] [(.ref 852),tO] 851 (oS "Word") true [] [] false false [none,none,some (sv "Word" 1367),some (sv "Word" 1375),some (.builtin "object.__new__"),some (.bool true)]),(853,nL (.type "getset_descriptor") [(sv "__dict__" 1432),(.ref 852),(.builtin "function.__dict__"),(.builtin "function.__dict__#set")]),(854,nL (.type "getset_descriptor") [(sv "__weakref__" 1434),(.ref 852),(.builtin "ExceptionGroup.__weakref__"),.none])]
noncomputable def F7:HL:=λP=>aI P aN 62 120 2 (hM P)
noncomputable def zL:HL:=λP=>mD 869 56 0 "__init__" "Scanner.__init__" 1451 333 2 0 3 1456 .none aN++mD 876 56 1 "gather" "Scanner.gather" 1459 339 5 0 3 1467 .none aN++mD 883 56 2 "refuse" "Scanner.refuse" 1470 343 2 0 3 1475 .none aN++mD 890 56 3 "run" "Scanner.run" 1478 346 1 0 3 1484 .none aN++mD 897 56 4 "end_of" "Scanner.end_of" 1487 363 3 0 3 1494 .none aN++mD 904 56 5 "bare" "Scanner.bare" 1497 369 2 0 3 1505 .none aN++mD 911 56 6 "closing" "Scanner.closing" 1508 380 3 0 3 1516 .none aN++mD 918 56 7 "quoted_word" "Scanner.quoted_word" 1519 392 2 0 3 1526 .none aN++mD 925 56 8 "blob" "Scanner.blob" 1529 402 1 0 3 1536 .none aN++mD 932 56 9 "number" "Scanner.number" 1539 411 1 0 3 1547 .none aN++mD 939 56 10 "value_of" "Scanner.value_of" 1550 430 4 0 3 1558 .none aN++mD 946 56 11 "mark" "Scanner.mark" 1561 438 2 0 3 1569 .none aN++mD 953 56 12 "variable" "Scanner.variable" 1572 456 1 0 3 1579 .none aN++[(955,fe (.type "tuple") [(sv "found" 1582),(sv "greatest" 1583),(sv "place" 1584),(sv "text" 1585)] 0),(956,fh (.type "dict") [en P "__module__" 1446 aN,en P "__firstlineno__" 1450 (iv 331 1449),en P "__init__" 1458 (.ref 870),en P "gather" 1469 (.ref 877),en P "refuse" 1477 (.ref 884),en P "run" 1486 (.ref 891),en P "end_of" 1496 (.ref 898),en P "bare" 1507 (.ref 905),en P "closing" 1518 (.ref 912),en P "quoted_word" 1528 (.ref 919),en P "blob" 1538 (.ref 926),en P "number" 1549 (.ref 933),en P "value_of" 1560 (.ref 940),en P "mark" 1571 (.ref 947),en P "variable" 1581 (.ref 954),en P "__static_attributes__" 1586 (.ref 955),en P "__dict__" 1588 (.ref 958),en P "__weakref__" 1590 (.ref 959),en P "__doc__" 1591 .none] 4),(957,Aq (.type "type") none (oS "Scanner") [tO] [(.ref 957),tO] 956 (oS "Scanner") true [] [] false false [none,none,some (sv "Scanner" 1439),some (sv "Scanner" 1447),some (.builtin "object.__new__"),some (.bool true)]),(958,nL (.type "getset_descriptor") [(sv "__dict__" 1587),(.ref 957),(.builtin "function.__dict__"),(.builtin "function.__dict__#set")]),(959,nL (.type "getset_descriptor") [(sv "__weakref__" 1589),(.ref 957),(.builtin "ExceptionGroup.__weakref__"),.none])]
noncomputable def F6:HL:=λP=>aI P aN 63 123 2 (hM P)
noncomputable def zK:HL:=λP=>mD 967 57 0 "read_words" "read_words" 1594 464 1 0 3 1598 .none aN
noncomputable def F5:HL:=λP=>aI P bw 63 123 2 (hM P)
noncomputable def JZ:HL:=λP=>[]
noncomputable def F4:HL:=λP=>aI P bw 64 123 2 (hM P)
noncomputable def JY:HL:=λP=>[]
noncomputable def F2:HL:=λP=>aI P bw 65 123 2 (hM P)
noncomputable def JX:HL:=λP=>[]
noncomputable def F0:HL:=λP=>aI P bw 66 123 2 (hM P)
noncomputable def JW:HL:=λP=>[]
noncomputable def FZ:HL:=λP=>aI P bw 67 123 2 (hM P)
noncomputable def zJ:HL:=λP=>[(969,fh (.type "dict") [en P "=" 1609 (iv 4 1610),en P "<>" 1612 (iv 4 1613),en P "<" 1615 (iv 5 1616),en P "<=" 1618 (iv 5 1619),en P ">" 1621 (iv 5 1622),en P ">=" 1624 (iv 5 1625),en P "&" 1627 (iv 6 1628),en P "|" 1630 (iv 6 1631),en P "<<" 1633 (iv 6 1634),en P ">>" 1636 (iv 6 1637),en P "+" 1639 (iv 7 1640),en P "-" 1642 (iv 7 1643),en P "*" 1645 (iv 8 1646),en P "/" 1648 (iv 8 1649),en P "%" 1651 (iv 8 1652),en P "||" 1654 (iv 9 1655)] 16)]
noncomputable def FY:HL:=λP=>aI P bw 68 123 2 (hM P)
noncomputable def zI:HL:=λP=>[(970,fh (.type "dict") [en P "OR" 1658 (iv 1 1659),en P "AND" 1660 (iv 2 1661),en P "IS" 1662 (iv 4 1663),en P "IN" 1664 (iv 4 1665),en P "LIKE" 1666 (iv 4 1667),en P "GLOB" 1668 (iv 4 1669),en P "BETWEEN" 1670 (iv 4 1671),en P "ISNULL" 1672 (iv 4 1673),en P "NOTNULL" 1674 (iv 4 1675),en P "NOT" 1676 (iv 4 1677),en P "COLLATE" 1678 (iv 10 1679)] 11)]
noncomputable def FX:HL:=λP=>aI P bw 69 123 2 (hM P)
noncomputable def zH:HL:=λP=>[(971,fe (.type "tuple") [(sv "IN" 1692),(sv "LIKE" 1693),(sv "GLOB" 1694),(sv "BETWEEN" 1695),(sv "NULL" 1696)] 0)]
noncomputable def FW:HL:=λP=>aI P bw 70 123 2 (hM P)
noncomputable def zG:HL:=λP=>[(972,fe (.type "tuple") [(sv "-" 1698),(sv "+" 1699),(sv "~" 1700)] 0)]
noncomputable def FV:HL:=λP=>aI P bw 71 126 2 (hM P)
noncomputable def zF:HL:=λP=>mD 985 66 0 "__init__" "ExpressionReader.__init__" 1714 476 3 0 3 1720 .none bw++[(987,fe (.type "tuple") [(iv 1 1603)] 0)]++mD 993 66 1 "expression" "ExpressionReader.expression" 1723 480 2 0 3 1730 (.ref 987) bw++mD 1000 66 2 "level" "ExpressionReader.level" 1733 490 1 0 3 1739 .none bw++mD 1007 66 3 "operated" "ExpressionReader.operated" 1742 502 3 0 3 1749 .none bw++mD 1014 66 4 "told_is" "ExpressionReader.told_is" 1752 520 2 0 3 1759 .none bw++mD 1021 66 5 "tested" "ExpressionReader.tested" 1762 527 4 0 3 1772 .none bw++mD 1028 66 6 "member" "ExpressionReader.member" 1775 542 3 0 3 1783 .none bw++mD 1035 66 7 "expressions" "ExpressionReader.expressions" 1786 555 1 0 3 1791 .none bw++mD 1042 66 8 "prefix" "ExpressionReader.prefix" 1794 561 1 0 3 1800 .none bw++mD 1049 66 9 "primary" "ExpressionReader.primary" 1803 579 1 0 3 1808 .none bw++mD 1056 66 10 "bracketed" "ExpressionReader.bracketed" 1811 601 1 0 3 1816 .none bw++mD 1063 66 11 "bracketed_select" "ExpressionReader.bracketed_select" 1819 610 1 0 3 1824 .none bw++mD 1070 66 12 "case" "ExpressionReader.case" 1827 616 1 0 3 1835 .none bw++mD 1077 66 13 "cast" "ExpressionReader.cast" 1838 634 1 0 3 1844 .none bw++mD 1084 66 14 "named" "ExpressionReader.named" 1847 645 1 0 3 1854 .none bw++mD 1091 66 15 "between_brackets" "ExpressionReader.between_brackets" 1857 661 1 0 3 1861 .none bw++[(1093,fe (.type "tuple") [(sv "selects" 1864),(sv "stream" 1865)] 0),(1094,fh (.type "dict") [en P "__module__" 1709 bw,en P "__firstlineno__" 1713 (iv 474 1712),en P "__init__" 1722 (.ref 986),en P "expression" 1732 (.ref 994),en P "level" 1741 (.ref 1001),en P "operated" 1751 (.ref 1008),en P "told_is" 1761 (.ref 1015),en P "tested" 1774 (.ref 1022),en P "member" 1785 (.ref 1029),en P "expressions" 1793 (.ref 1036),en P "prefix" 1802 (.ref 1043),en P "primary" 1810 (.ref 1050),en P "bracketed" 1818 (.ref 1057),en P "bracketed_select" 1826 (.ref 1064),en P "case" 1837 (.ref 1071),en P "cast" 1846 (.ref 1078),en P "named" 1856 (.ref 1085),en P "between_brackets" 1863 (.ref 1092),en P "__static_attributes__" 1866 (.ref 1093),en P "__dict__" 1868 (.ref 1096),en P "__weakref__" 1870 (.ref 1097),en P "__doc__" 1871 .none] 4),(1095,Aq (.type "type") none (oS "ExpressionReader") [tO] [(.ref 1095),tO] 1094 (oS "ExpressionReader") true [] [] false false [none,none,some (sv "ExpressionReader" 1702),some (sv "ExpressionReader" 1710),some (.builtin "object.__new__"),some (.bool true)]),(1096,nL (.type "getset_descriptor") [(sv "__dict__" 1867),(.ref 1095),(.builtin "function.__dict__"),(.builtin "function.__dict__#set")]),(1097,nL (.type "getset_descriptor") [(sv "__weakref__" 1869),(.ref 1095),(.builtin "ExceptionGroup.__weakref__"),.none])]
noncomputable def FU:HL:=λP=>aI P cr 71 126 2 (hM P)
noncomputable def JV:HL:=λP=>[]
noncomputable def FT:HL:=λP=>aI P cr 72 129 2 (hM P)
noncomputable def zE:HL:=λP=>mD 1112 68 0 "__init__" "SelectReader.__init__" 1888 666 2 0 3 1893 .none cr++mD 1119 68 1 "whole_table" "SelectReader.whole_table" 1896 670 2 0 3 1902 .none cr++mD 1126 68 2 "select" "SelectReader.select" 1905 674 1 0 3 1915 .none cr++mD 1133 68 3 "compound_op" "SelectReader.compound_op" 1918 690 1 0 3 1922 .none cr++mD 1140 68 4 "order_terms" "SelectReader.order_terms" 1925 697 1 0 3 1930 .none cr++mD 1147 68 5 "order_term" "SelectReader.order_term" 1933 703 1 0 3 1938 .none cr++mD 1154 68 6 "is_descending" "SelectReader.is_descending" 1941 707 1 0 3 1945 .none cr++mD 1161 68 7 "limits" "SelectReader.limits" 1948 713 1 0 3 1953 .none cr++mD 1168 68 8 "body" "SelectReader.body" 1956 723 1 0 3 1966 .none cr++mD 1175 68 9 "value_rows" "SelectReader.value_rows" 1969 747 1 0 3 1974 .none cr++mD 1182 68 10 "value_row" "SelectReader.value_row" 1977 755 1 0 3 1982 .none cr++mD 1189 68 11 "result_column" "SelectReader.result_column" 1985 761 1 0 3 1991 .none cr++mD 1196 68 12 "alias" "SelectReader.alias" 1994 772 1 0 3 1998 .none cr++mD 1203 68 13 "sources" "SelectReader.sources" 2001 779 1 0 3 2010 .none cr++mD 1210 68 14 "join_kind" "SelectReader.join_kind" 2013 794 1 0 3 2018 .none cr++mD 1217 68 15 "source" "SelectReader.source" 2021 809 1 0 3 2028 .none cr++mD 1224 68 16 "hint" "SelectReader.hint" 2031 817 1 0 3 2035 .none cr++[(1226,fe (.type "tuple") [(sv "expressions" 2038),(sv "stream" 2039)] 0),(1227,fh (.type "dict") [en P "__module__" 1883 cr,en P "__firstlineno__" 1887 (iv 664 1886),en P "__init__" 1895 (.ref 1113),en P "whole_table" 1904 (.ref 1120),en P "select" 1917 (.ref 1127),en P "compound_op" 1924 (.ref 1134),en P "order_terms" 1932 (.ref 1141),en P "order_term" 1940 (.ref 1148),en P "is_descending" 1947 (.ref 1155),en P "limits" 1955 (.ref 1162),en P "body" 1968 (.ref 1169),en P "value_rows" 1976 (.ref 1176),en P "value_row" 1984 (.ref 1183),en P "result_column" 1993 (.ref 1190),en P "alias" 2000 (.ref 1197),en P "sources" 2012 (.ref 1204),en P "join_kind" 2020 (.ref 1211),en P "source" 2030 (.ref 1218),en P "hint" 2037 (.ref 1225),en P "__static_attributes__" 2040 (.ref 1226),en P "__dict__" 2042 (.ref 1229),en P "__weakref__" 2044 (.ref 1230),en P "__doc__" 2045 .none] 4),(1228,Aq (.type "type") none (oS "SelectReader") [tO] [(.ref 1228),tO] 1227 (oS "SelectReader") true [] [] false false [none,none,some (sv "SelectReader" 1876),some (sv "SelectReader" 1884),some (.builtin "object.__new__"),some (.bool true)]),(1229,nL (.type "getset_descriptor") [(sv "__dict__" 2041),(.ref 1228),(.builtin "function.__dict__"),(.builtin "function.__dict__#set")]),(1230,nL (.type "getset_descriptor") [(sv "__weakref__" 2043),(.ref 1228),(.builtin "ExceptionGroup.__weakref__"),.none])]
noncomputable def FS:HL:=λP=>aI P ca 72 129 2 (hM P)
noncomputable def JU:HL:=λP=>[]
noncomputable def FR:HL:=λP=>aI P ca 73 129 2 (hM P)
noncomputable def JT:HL:=λP=>[]
noncomputable def FQ:HL:=λP=>aI P ca 74 132 2 (hM P)
noncomputable def zD:HL:=λP=>mD 1245 71 0 "__init__" "WordStream.__init__" 2064 830 2 0 3 2069 .none ca++mD 1252 71 1 "here" "WordStream.here" 2072 836 1 0 3 2076 .none ca++mD 1259 71 2 "ahead" "WordStream.ahead" 2079 839 2 0 3 2084 .none ca++mD 1266 71 3 "go" "WordStream.go" 2087 842 1 0 3 2092 .none ca++mD 1273 71 4 "refuse" "WordStream.refuse" 2095 848 2 0 3 2100 .none ca++mD 1280 71 5 "is_over" "WordStream.is_over" 2103 851 1 0 3 2107 .none ca++mD 1287 71 6 "is_key" "WordStream.is_key" 2110 854 2 0 3 2115 .none ca++mD 1294 71 7 "is_sign" "WordStream.is_sign" 2118 857 2 0 3 2123 .none ca++mD 1301 71 8 "is_one_of" "WordStream.is_one_of" 2126 860 2 0 3 2131 .none ca++mD 1308 71 9 "is_select" "WordStream.is_select" 2134 863 1 0 3 2138 .none ca++mD 1315 71 10 "take_key" "WordStream.take_key" 2141 866 2 0 3 2146 .none ca++mD 1322 71 11 "take_sign" "WordStream.take_sign" 2149 872 2 0 3 2154 .none ca++mD 1329 71 12 "need_key" "WordStream.need_key" 2157 878 2 0 3 2162 .none ca++mD 1336 71 13 "need_sign" "WordStream.need_sign" 2165 882 2 0 3 2170 .none ca++mD 1343 71 14 "need_name" "WordStream.need_name" 2173 886 1 0 3 2177 .none ca++mD 1350 71 15 "deeper" "WordStream.deeper" 2180 891 1 0 3 2184 .none ca++mD 1357 71 16 "higher" "WordStream.higher" 2187 896 1 0 3 2191 .none ca++[(1359,fe (.type "tuple") [(sv "at" 2194),(sv "depth" 2195),(sv "text" 2196),(sv "words" 2197)] 0),(1360,fh (.type "dict") [en P "__module__" 2059 ca,en P "__firstlineno__" 2063 (iv 828 2062),en P "__init__" 2071 (.ref 1246),en P "here" 2078 (.ref 1253),en P "ahead" 2086 (.ref 1260),en P "go" 2094 (.ref 1267),en P "refuse" 2102 (.ref 1274),en P "is_over" 2109 (.ref 1281),en P "is_key" 2117 (.ref 1288),en P "is_sign" 2125 (.ref 1295),en P "is_one_of" 2133 (.ref 1302),en P "is_select" 2140 (.ref 1309),en P "take_key" 2148 (.ref 1316),en P "take_sign" 2156 (.ref 1323),en P "need_key" 2164 (.ref 1330),en P "need_sign" 2172 (.ref 1337),en P "need_name" 2179 (.ref 1344),en P "deeper" 2186 (.ref 1351),en P "higher" 2193 (.ref 1358),en P "__static_attributes__" 2198 (.ref 1359),en P "__dict__" 2200 (.ref 1362),en P "__weakref__" 2202 (.ref 1363),en P "__doc__" 2203 .none] 4),(1361,Aq (.type "type") none (oS "WordStream") [tO] [(.ref 1361),tO] 1360 (oS "WordStream") true [] [] false false [none,none,some (sv "WordStream" 2052),some (sv "WordStream" 2060),some (.builtin "object.__new__"),some (.bool true)]),(1362,nL (.type "getset_descriptor") [(sv "__dict__" 2199),(.ref 1361),(.builtin "function.__dict__"),(.builtin "function.__dict__#set")]),(1363,nL (.type "getset_descriptor") [(sv "__weakref__" 2201),(.ref 1361),(.builtin "ExceptionGroup.__weakref__"),.none])]
noncomputable def FP:HL:=λP=>aI P aZ 74 132 2 (hM P)
noncomputable def JS:HL:=λP=>[]
noncomputable def FO:HL:=λP=>aI P aZ 75 135 2 (hM P)
noncomputable def zC:HL:=λP=>mD 1371 73 0 "_law_pool" "_law_pool" 2208 899 2 0 3 2216 .none aZ
noncomputable def FN:HL:=λP=>aI P aZ 76 138 2 (hM P)
noncomputable def zB:HL:=λP=>mD 1378 74 0 "_law_take" "_law_take" 2219 904 2 0 3 2225 .none aZ
noncomputable def FM:HL:=λP=>aI P aZ 77 141 2 (hM P)
noncomputable def zA:HL:=λP=>mD 1385 75 0 "_law_one" "_law_one" 2228 911 2 0 3 2233 .none aZ
noncomputable def FK:HL:=λP=>aI P aZ 78 144 2 (hM P)
noncomputable def zy:HL:=λP=>mD 1392 76 0 "_law_key" "_law_key" 2236 913 2 0 3 2241 .none aZ
noncomputable def FJ:HL:=λP=>aI P aZ 79 147 2 (hM P)
noncomputable def zx:HL:=λP=>mD 1399 77 0 "_law_called" "_law_called" 2244 915 1 0 3 2249 .none aZ
noncomputable def FI:HL:=λP=>aI P aZ 80 150 2 (hM P)
noncomputable def zw:HL:=λP=>mD 1406 78 0 "_law_expr" "_law_expr" 2252 918 2 0 3 2266 .none aZ
noncomputable def FH:HL:=λP=>aI P aZ 81 153 2 (hM P)
noncomputable def zv:HL:=λP=>[(1411,A5 (oS "_law_exprs") (oS "_law_exprs") 2269 942 2 0 3 1408 1409 .none .none 1410 2272),(1412,ux (ak 79 0) (oS "_law_exprs") .none aZ 1411)]
noncomputable def FF:HL:=λP=>aI P aZ 82 156 2 (hM P)
noncomputable def zu:HL:=λP=>mD 1418 80 0 "_law_alias" "_law_alias" 2275 945 2 0 3 2283 .none aZ
noncomputable def FE:HL:=λP=>aI P aZ 83 159 2 (hM P)
noncomputable def zt:HL:=λP=>mD 1425 81 0 "_law_column" "_law_column" 2286 953 2 0 3 2297 .none aZ
noncomputable def FD:HL:=λP=>aI P aZ 84 162 2 (hM P)
noncomputable def zs:HL:=λP=>mD 1432 82 0 "_law_source" "_law_source" 2300 963 2 0 3 2314 .none aZ
noncomputable def FC:HL:=λP=>aI P aZ 85 165 2 (hM P)
noncomputable def zr:HL:=λP=>[(1437,A5 (oS "_law_sources") (oS "_law_sources") 2317 976 2 0 3 1434 1435 .none .none 1436 2320),(1438,ux (ak 83 0) (oS "_law_sources") .none aZ 1437)]
noncomputable def FB:HL:=λP=>aI P aZ 86 168 2 (hM P)
noncomputable def zq:HL:=λP=>[(1442,A5 (oS "_law_core") (oS "_law_core") 2323 991 2 0 3 1439 1440 .none .none 1441 2326),(1443,ux (ak 84 0) (oS "_law_core") .none aZ 1442)]
noncomputable def FA:HL:=λP=>aI P aZ 87 171 2 (hM P)
noncomputable def zp:HL:=λP=>[(1447,A5 (oS "_law_values") (oS "_law_values") 2329 1010 1 0 3 1444 1445 .none .none 1446 2332),(1448,ux (ak 85 0) (oS "_law_values") .none aZ 1447)]
noncomputable def Fz:HL:=λP=>aI P aZ 88 174 2 (hM P)
noncomputable def zo:HL:=λP=>mD 1454 86 0 "_law_limits" "_law_limits" 2335 1015 1 0 3 2345 .none aZ
noncomputable def Fy:HL:=λP=>aI P aZ 89 177 2 (hM P)
noncomputable def zn:HL:=λP=>mD 1461 87 0 "_law_select" "_law_select" 2348 1027 2 0 3 2367 .none aZ
noncomputable def Fx:HL:=λP=>aI P aZ 90 180 2 (hM P)
noncomputable def zm:HL:=λP=>mD 1468 88 0 "_law_read" "_law_read" 2370 1045 1 0 3 2376 .none aZ
noncomputable def l8:HL:=λP=>aI P aZ 91 183 2 (hM P)
noncomputable def zl:HL:=λP=>[(1473,A5 (oS "law") (oS "law") 2379 1052 1 0 3 1470 1471 .none .none 1472 2382),(1474,ux (ak 89 0) (oS "law") .none aZ 1473)]
noncomputable def LR:bK:=⟨0,⟨0,0,0,0⟩,⟨1,0,3,12⟩,λP=>⟨mX P,15,187⟩,Ob,Hb,22,194⟩
noncomputable def LQ:bK:=⟨1,⟨1,0,3,12⟩,⟨4,0,4,8⟩,λP=>⟨Ob P,22,194⟩,Oa,Oo,22,196⟩
noncomputable def LM:bK:=⟨2,⟨4,0,4,8⟩,⟨5,0,6,47⟩,λP=>⟨Oa P,22,196⟩,N9,Ha,29,203⟩
noncomputable def LK:bK:=⟨3,⟨5,0,6,47⟩,⟨7,0,8,50⟩,λP=>⟨N9 P,29,203⟩,N8,G9,34,209⟩
noncomputable def LJ:bK:=⟨4,⟨7,0,8,50⟩,⟨9,0,12,24⟩,λP=>⟨N8 P,34,209⟩,N7,G8,55,236⟩
noncomputable def LI:bK:=⟨5,⟨9,0,12,24⟩,⟨13,0,14,8⟩,λP=>⟨N7 P,55,236⟩,N6,G7,67,252⟩
noncomputable def LG:bK:=⟨6,⟨13,0,14,8⟩,⟨15,0,25,89⟩,λP=>⟨N6 P,67,252⟩,N5,G6,93,284⟩
noncomputable def LF:bK:=⟨7,⟨15,0,25,89⟩,⟨26,0,36,48⟩,λP=>⟨N5 P,93,284⟩,N4,G5,119,321⟩
noncomputable def LD:bK:=⟨8,⟨26,0,36,48⟩,⟨37,0,43,40⟩,λP=>⟨N4 P,119,321⟩,N2,G4,145,353⟩
noncomputable def Lz:bK:=⟨9,⟨37,0,43,40⟩,⟨44,0,51,53⟩,λP=>⟨N2 P,145,353⟩,GW,Ao,171,387⟩
noncomputable def E7:bK:=⟨10,⟨44,0,51,53⟩,⟨52,0,60,69⟩,λP=>⟨GW P,171,387⟩,GU,An,197,423⟩
noncomputable def E6:bK:=⟨11,⟨52,0,60,69⟩,⟨61,0,70,91⟩,λP=>⟨GU P,197,423⟩,GT,Am,223,461⟩
noncomputable def E5:bK:=⟨12,⟨61,0,70,91⟩,⟨71,0,79,74⟩,λP=>⟨GT P,223,461⟩,GS,Ak,249,497⟩
noncomputable def E4:bK:=⟨13,⟨71,0,79,74⟩,⟨80,0,88,78⟩,λP=>⟨GS P,249,497⟩,GR,Aj,275,533⟩
noncomputable def E3:bK:=⟨14,⟨80,0,88,78⟩,⟨89,0,96,58⟩,λP=>⟨GR P,275,533⟩,GQ,Ai,301,567⟩
noncomputable def E2:bK:=⟨15,⟨89,0,96,58⟩,⟨97,0,103,44⟩,λP=>⟨GQ P,301,567⟩,GP,Ah,327,599⟩
noncomputable def E1:bK:=⟨16,⟨97,0,103,44⟩,⟨104,0,113,69⟩,λP=>⟨GP P,327,599⟩,GO,Ag,351,634⟩
noncomputable def E0:bK:=⟨17,⟨104,0,113,69⟩,⟨114,0,123,85⟩,λP=>⟨GO P,351,634⟩,GN,Af,377,672⟩
noncomputable def EZ:bK:=⟨18,⟨114,0,123,85⟩,⟨124,0,131,57⟩,λP=>⟨GN P,377,672⟩,GL,Ae,403,706⟩
noncomputable def EY:bK:=⟨19,⟨124,0,131,57⟩,⟨132,0,139,60⟩,λP=>⟨GL P,403,706⟩,GK,Ad,429,740⟩
noncomputable def EX:bK:=⟨20,⟨132,0,139,60⟩,⟨140,0,147,57⟩,λP=>⟨GK P,429,740⟩,GJ,Ac,455,774⟩
noncomputable def EW:bK:=⟨21,⟨140,0,147,57⟩,⟨148,0,159,65⟩,λP=>⟨GJ P,455,774⟩,GI,Ab,481,815⟩
noncomputable def EU:bK:=⟨22,⟨148,0,159,65⟩,⟨160,0,168,74⟩,λP=>⟨GI P,481,815⟩,GH,Aa,507,851⟩
noncomputable def ET:bK:=⟨23,⟨160,0,168,74⟩,⟨169,0,177,58⟩,λP=>⟨GH P,507,851⟩,GG,z9,533,887⟩
noncomputable def ES:bK:=⟨24,⟨169,0,177,58⟩,⟨178,0,185,54⟩,λP=>⟨GG P,533,887⟩,GF,z8,559,921⟩
noncomputable def ER:bK:=⟨25,⟨178,0,185,54⟩,⟨186,0,197,65⟩,λP=>⟨GF P,559,921⟩,GE,z7,585,962⟩
noncomputable def EQ:bK:=⟨26,⟨186,0,197,65⟩,⟨198,0,210,92⟩,λP=>⟨GE P,585,962⟩,GD,z6,611,1005⟩
noncomputable def EP:bK:=⟨27,⟨198,0,210,92⟩,⟨211,0,217,69⟩,λP=>⟨GD P,611,1005⟩,GC,z5,635,1036⟩
noncomputable def EO:bK:=⟨28,⟨211,0,217,69⟩,⟨218,0,226,71⟩,λP=>⟨GC P,635,1036⟩,GB,z4,661,1072⟩
noncomputable def EN:bK:=⟨29,⟨218,0,226,71⟩,⟨227,0,234,58⟩,λP=>⟨GB P,661,1072⟩,GA,z0,687,1106⟩
noncomputable def EM:bK:=⟨30,⟨227,0,234,58⟩,⟨235,0,245,72⟩,λP=>⟨GA P,687,1106⟩,Gz,zZ,713,1145⟩
noncomputable def EL:bK:=⟨31,⟨235,0,245,72⟩,⟨246,0,246,8⟩,λP=>⟨Gz P,713,1145⟩,Gy,Kb,713,1147⟩
noncomputable def EK:bK:=⟨32,⟨246,0,246,8⟩,⟨247,0,260,15⟩,λP=>⟨Gy P,713,1147⟩,Gx,zY,720,1156⟩
noncomputable def EJ:bK:=⟨33,⟨247,0,260,15⟩,⟨261,0,269,41⟩,λP=>⟨Gx P,720,1156⟩,Gw,zX,727,1164⟩
noncomputable def EI:bK:=⟨34,⟨261,0,269,41⟩,⟨270,0,276,16⟩,λP=>⟨Gw P,727,1164⟩,Gv,zW,734,1172⟩
noncomputable def EH:bK:=⟨35,⟨270,0,276,16⟩,⟨277,0,277,8⟩,λP=>⟨Gv P,734,1172⟩,Gu,Ka,734,1174⟩
noncomputable def EG:bK:=⟨36,⟨277,0,277,8⟩,⟨278,0,281,30⟩,λP=>⟨Gu P,734,1174⟩,Gs,zV,754,1203⟩
noncomputable def EF:bK:=⟨37,⟨278,0,281,30⟩,⟨282,0,283,8⟩,λP=>⟨Gs P,754,1203⟩,Gr,zU,766,1219⟩
noncomputable def EE:bK:=⟨38,⟨282,0,283,8⟩,⟨284,0,288,26⟩,λP=>⟨Gr P,766,1219⟩,Gq,zT,785,1246⟩
noncomputable def ED:bK:=⟨39,⟨284,0,288,26⟩,⟨289,0,289,8⟩,λP=>⟨Gq P,785,1246⟩,Gp,J9,785,1248⟩
noncomputable def EC:bK:=⟨40,⟨289,0,289,8⟩,⟨290,0,290,6⟩,λP=>⟨Gp P,785,1248⟩,Go,J8,785,1250⟩
noncomputable def EB:bK:=⟨41,⟨290,0,290,6⟩,⟨291,0,291,6⟩,λP=>⟨Go P,785,1250⟩,Gn,J7,785,1252⟩
noncomputable def EA:bK:=⟨42,⟨291,0,291,6⟩,⟨292,0,292,7⟩,λP=>⟨Gn P,785,1252⟩,Gm,J6,785,1254⟩
noncomputable def Ez:bK:=⟨43,⟨292,0,292,7⟩,⟨293,0,293,11⟩,λP=>⟨Gm P,785,1254⟩,Gl,J5,785,1256⟩
noncomputable def Ey:bK:=⟨44,⟨293,0,293,11⟩,⟨294,0,294,7⟩,λP=>⟨Gl P,785,1256⟩,Gk,J4,785,1258⟩
noncomputable def Ew:bK:=⟨45,⟨294,0,294,7⟩,⟨295,0,295,10⟩,λP=>⟨Gk P,785,1258⟩,Gj,J3,785,1262⟩
noncomputable def Ev:bK:=⟨46,⟨295,0,295,10⟩,⟨296,0,296,12⟩,λP=>⟨Gj P,785,1262⟩,Gi,zS,786,1271⟩
noncomputable def Eu:bK:=⟨47,⟨296,0,296,12⟩,⟨297,0,297,12⟩,λP=>⟨Gi P,786,1271⟩,Gh,J2,786,1273⟩
noncomputable def Et:bK:=⟨48,⟨297,0,297,12⟩,⟨298,0,298,10⟩,λP=>⟨Gh P,786,1273⟩,Gf,zR,787,1280⟩
noncomputable def Es:bK:=⟨49,⟨298,0,298,10⟩,⟨299,0,299,13⟩,λP=>⟨Gf P,787,1280⟩,Ge,J1,787,1282⟩
noncomputable def Er:bK:=⟨50,⟨299,0,299,13⟩,⟨300,0,300,8⟩,λP=>⟨Ge P,787,1282⟩,Gd,J0,787,1286⟩
noncomputable def Ep:bK:=⟨51,⟨300,0,300,8⟩,⟨301,0,301,8⟩,λP=>⟨Gd P,787,1286⟩,Gc,zQ,788,1345⟩
noncomputable def Eo:bK:=⟨52,⟨301,0,301,8⟩,⟨302,0,302,7⟩,λP=>⟨Gc P,788,1345⟩,Gb,zP,789,1354⟩
noncomputable def En:bK:=⟨53,⟨302,0,302,7⟩,⟨303,0,306,83⟩,λP=>⟨Gb P,789,1354⟩,Ga,zO,794,1360⟩
noncomputable def Em:bK:=⟨54,⟨303,0,306,83⟩,⟨307,0,308,48⟩,λP=>⟨Ga P,794,1360⟩,F9,zN,801,1367⟩
noncomputable def El:bK:=⟨55,⟨307,0,308,48⟩,⟨309,0,330,49⟩,λP=>⟨F9 P,801,1367⟩,F8,zM,857,1439⟩
noncomputable def Ek:bK:=⟨56,⟨309,0,330,49⟩,⟨331,0,463,48⟩,λP=>⟨F8 P,857,1439⟩,F7,zL,962,1594⟩
noncomputable def Ej:bK:=⟨57,⟨331,0,463,48⟩,⟨464,0,465,30⟩,λP=>⟨F7 P,962,1594⟩,F6,zK,969,1601⟩
noncomputable def Ei:bK:=⟨58,⟨464,0,465,30⟩,⟨466,0,466,8⟩,λP=>⟨F6 P,969,1601⟩,F5,JZ,969,1603⟩
noncomputable def Eh:bK:=⟨59,⟨466,0,466,8⟩,⟨467,0,467,6⟩,λP=>⟨F5 P,969,1603⟩,F4,JY,969,1605⟩
noncomputable def Eg:bK:=⟨60,⟨467,0,467,6⟩,⟨468,0,468,11⟩,λP=>⟨F4 P,969,1605⟩,F2,JX,969,1607⟩
noncomputable def Ef:bK:=⟨61,⟨468,0,468,11⟩,⟨469,0,469,10⟩,λP=>⟨F2 P,969,1607⟩,F0,JW,969,1609⟩
noncomputable def Ee:bK:=⟨62,⟨469,0,469,10⟩,⟨470,0,470,11⟩,λP=>⟨F0 P,969,1609⟩,FZ,zJ,970,1658⟩
noncomputable def Ed:bK:=⟨63,⟨470,0,470,11⟩,⟨471,0,471,10⟩,λP=>⟨FZ P,970,1658⟩,FY,zI,971,1692⟩
noncomputable def Ec:bK:=⟨64,⟨471,0,471,10⟩,⟨472,0,472,10⟩,λP=>⟨FY P,971,1692⟩,FX,zH,972,1698⟩
noncomputable def Eb:bK:=⟨65,⟨472,0,472,10⟩,⟨473,0,473,11⟩,λP=>⟨FX P,972,1698⟩,FW,zG,973,1702⟩
noncomputable def Ea:bK:=⟨66,⟨473,0,473,11⟩,⟨474,0,662,16⟩,λP=>⟨FW P,973,1702⟩,FV,zF,1100,1874⟩
noncomputable def D9:bK:=⟨67,⟨474,0,662,16⟩,⟨663,0,663,8⟩,λP=>⟨FV P,1100,1874⟩,FU,JV,1100,1876⟩
noncomputable def D8:bK:=⟨68,⟨663,0,663,8⟩,⟨664,0,825,19⟩,λP=>⟨FU P,1100,1876⟩,FT,zE,1233,2048⟩
noncomputable def D7:bK:=⟨69,⟨664,0,825,19⟩,⟨826,0,826,8⟩,λP=>⟨FT P,1233,2048⟩,FS,JU,1233,2050⟩
noncomputable def D6:bK:=⟨70,⟨826,0,826,8⟩,⟨827,0,827,10⟩,λP=>⟨FS P,1233,2050⟩,FR,JT,1233,2052⟩
noncomputable def D5:bK:=⟨71,⟨827,0,827,10⟩,⟨828,0,897,35⟩,λP=>⟨FR P,1233,2052⟩,FQ,zD,1366,2206⟩
noncomputable def D4:bK:=⟨72,⟨828,0,897,35⟩,⟨898,0,898,8⟩,λP=>⟨FQ P,1366,2206⟩,FP,JS,1366,2208⟩
noncomputable def D2:bK:=⟨73,⟨898,0,898,8⟩,⟨899,0,903,49⟩,λP=>⟨FP P,1366,2208⟩,FO,zC,1373,2219⟩
noncomputable def D0:bK:=⟨74,⟨899,0,903,49⟩,⟨904,0,910,57⟩,λP=>⟨FO P,1373,2219⟩,FN,zB,1380,2228⟩
noncomputable def DZ:bK:=⟨75,⟨904,0,910,57⟩,⟨911,0,912,49⟩,λP=>⟨FN P,1380,2228⟩,FM,zA,1387,2236⟩
noncomputable def DY:bK:=⟨76,⟨911,0,912,49⟩,⟨913,0,914,46⟩,λP=>⟨FM P,1387,2236⟩,FK,zy,1394,2244⟩
noncomputable def DX:bK:=⟨77,⟨913,0,914,46⟩,⟨915,0,917,34⟩,λP=>⟨FK P,1394,2244⟩,FJ,zx,1401,2252⟩
noncomputable def DW:bK:=⟨78,⟨915,0,917,34⟩,⟨918,0,941,48⟩,λP=>⟨FJ P,1401,2252⟩,FI,zw,1408,2269⟩
noncomputable def DV:bK:=⟨79,⟨918,0,941,48⟩,⟨942,0,944,90⟩,λP=>⟨FI P,1408,2269⟩,FH,zv,1413,2275⟩
noncomputable def DU:bK:=⟨80,⟨942,0,944,90⟩,⟨945,0,952,89⟩,λP=>⟨FH P,1413,2275⟩,FF,zu,1420,2286⟩
noncomputable def DS:bK:=⟨81,⟨945,0,952,89⟩,⟨953,0,962,54⟩,λP=>⟨FF P,1420,2286⟩,FE,zt,1427,2300⟩
noncomputable def DR:bK:=⟨82,⟨953,0,962,54⟩,⟨963,0,975,89⟩,λP=>⟨FE P,1427,2300⟩,FD,zs,1434,2317⟩
noncomputable def DQ:bK:=⟨83,⟨963,0,975,89⟩,⟨976,0,990,22⟩,λP=>⟨FD P,1434,2317⟩,FC,zr,1439,2323⟩
noncomputable def DP:bK:=⟨84,⟨976,0,990,22⟩,⟨991,0,1009,56⟩,λP=>⟨FC P,1439,2323⟩,FB,zq,1444,2329⟩
noncomputable def DO:bK:=⟨85,⟨991,0,1009,56⟩,⟨1010,0,1014,64⟩,λP=>⟨FB P,1444,2329⟩,FA,zp,1449,2335⟩
noncomputable def DN:bK:=⟨86,⟨1010,0,1014,64⟩,⟨1015,0,1026,89⟩,λP=>⟨FA P,1449,2335⟩,Fz,zo,1456,2348⟩
noncomputable def DM:bK:=⟨87,⟨1015,0,1026,89⟩,⟨1027,0,1044,65⟩,λP=>⟨Fz P,1456,2348⟩,Fy,zn,1463,2370⟩
noncomputable def DL:bK:=⟨88,⟨1027,0,1044,65⟩,⟨1045,0,1051,52⟩,λP=>⟨Fy P,1463,2370⟩,Fx,zm,1470,2379⟩
noncomputable def DK:bK:=⟨89,⟨1045,0,1051,52⟩,⟨1052,0,1060,72⟩,λP=>⟨Fx P,1470,2379⟩,l8,zl,1475,2385⟩
noncomputable def lL:List bK:=[LR,LQ,LM,LK,LJ,LI,LG,LF,LD,Lz,E7,E6,E5,E4,E3,E2,E1,E0,EZ,EY,EX,EW,EU,ET,ES,ER,EQ,EP,EO,EN,EM,EL,EK,EJ,EI,EH,EG,EF,EE,ED,EC,EB,EA,Ez,Ey,Ew,Ev,Eu,Et,Es,Er,Ep,Eo,En,Em,El,Ek,Ej,Ei,Eh,Eg,Ef,Ee,Ed,Ec,Eb,Ea,D9,D8,D7,D6,D5,D4,D2,D0,DZ,DY,DX,DW,DV,DU,DS,DR,DQ,DP,DO,DN,DM,DL,DK]
noncomputable def QU:HL:=λP=>l8 P++(Hb P++Ha P++G9 P++G8 P++G7 P++G6 P++G5 P++G4 P++Ao P++An P++Am P++Ak P++Aj P++Ai P++Ah P++Ag P++Af P++Ae P++Ad P++Ac P++Ab P++Aa P++z9 P++z8 P++z7 P++z6 P++z5 P++z4 P++z0 P++zZ P++zY P++zX P++zW P++zV P++zU P++zT P++zS P++zR P++zQ P++zP P++zO P++zN P++zM P++zL P++zK P++zJ P++zI P++zH P++zG P++zF P++zE P++zD P++zC P++zB P++zA P++zy P++zx P++zw P++zv P++zu P++zt P++zs P++zr P++zq P++zp P++zo P++zn P++zm P++zl P)
set_option maxHeartbeats 0
theorem B9:LR.Ok:=λP=>by change _=_;kernel_rfl
theorem B8:LQ.Ok:=λP=>by change _=_;kernel_rfl
theorem B7:LM.Ok:=λP=>by change _=_;kernel_rfl
theorem B6:LK.Ok:=λP=>by change _=_;kernel_rfl
theorem B5:LJ.Ok:=λP=>by change _=_;kernel_rfl
theorem B4:LI.Ok:=λP=>by change _=_;kernel_rfl
theorem B3:LG.Ok:=λP=>by change _=_;kernel_rfl
theorem BZ:LF.Ok:=λP=>by change _=_;kernel_rfl
theorem BY:LD.Ok:=λP=>by change _=_;kernel_rfl
theorem BX:Lz.Ok:=λP=>by change _=_;kernel_rfl
theorem xj:E7.Ok:=λP=>by change _=_;kernel_rfl
theorem xi:E6.Ok:=λP=>by change _=_;kernel_rfl
theorem xh:E5.Ok:=λP=>by change _=_;kernel_rfl
theorem xf:E4.Ok:=λP=>by change _=_;kernel_rfl
theorem xe:E3.Ok:=λP=>by change _=_;kernel_rfl
theorem xd:E2.Ok:=λP=>by change _=_;kernel_rfl
theorem xc:E1.Ok:=λP=>by change _=_;kernel_rfl
theorem xb:E0.Ok:=λP=>by change _=_;kernel_rfl
theorem w9:EZ.Ok:=λP=>by change _=_;kernel_rfl
theorem w8:EY.Ok:=λP=>by change _=_;kernel_rfl
theorem w7:EX.Ok:=λP=>by change _=_;kernel_rfl
theorem w6:EW.Ok:=λP=>by change _=_;kernel_rfl
theorem w5:EU.Ok:=λP=>by change _=_;kernel_rfl
theorem w4:ET.Ok:=λP=>by change _=_;kernel_rfl
theorem w0:ES.Ok:=λP=>by change _=_;kernel_rfl
theorem wZ:ER.Ok:=λP=>by change _=_;kernel_rfl
theorem wY:EQ.Ok:=λP=>by change _=_;kernel_rfl
theorem wX:EP.Ok:=λP=>by change _=_;kernel_rfl
theorem wW:EO.Ok:=λP=>by change _=_;kernel_rfl
theorem wV:EN.Ok:=λP=>by change _=_;kernel_rfl
theorem wU:EM.Ok:=λP=>by change _=_;kernel_rfl
theorem wR:EL.Ok:=λP=>by change _=_;kernel_rfl
theorem wQ:EK.Ok:=λP=>by change _=_;kernel_rfl
theorem wP:EJ.Ok:=λP=>by change _=_;kernel_rfl
theorem wO:EI.Ok:=λP=>by change _=_;kernel_rfl
theorem wN:EH.Ok:=λP=>by change _=_;kernel_rfl
theorem wM:EG.Ok:=λP=>by change _=_;kernel_rfl
theorem wL:EF.Ok:=λP=>by change _=_;kernel_rfl
theorem wK:EE.Ok:=λP=>by change _=_;kernel_rfl
theorem wJ:ED.Ok:=λP=>by change _=_;kernel_rfl
theorem wI:EC.Ok:=λP=>by change _=_;kernel_rfl
theorem wH:EB.Ok:=λP=>by change _=_;kernel_rfl
theorem wG:EA.Ok:=λP=>by change _=_;kernel_rfl
theorem wF:Ez.Ok:=λP=>by change _=_;kernel_rfl
theorem wD:Ey.Ok:=λP=>by change _=_;kernel_rfl
theorem wC:Ew.Ok:=λP=>by change _=_;kernel_rfl
theorem wB:Ev.Ok:=λP=>by change _=_;kernel_rfl
theorem wA:Eu.Ok:=λP=>by change _=_;kernel_rfl
theorem wz:Et.Ok:=kE (λP=>by change _=_;kernel_rfl) (λP=>by change _=_;kernel_rfl)
theorem wy:Es.Ok:=λP=>by change _=_;kernel_rfl
theorem wx:Er.Ok:=λP=>by change _=_;kernel_rfl
theorem ww:Ep.Ok:=λP=>by change _=_;kernel_rfl
theorem wv:Eo.Ok:=λP=>by change _=_;kernel_rfl
theorem wu:En.Ok:=λP=>by change _=_;kernel_rfl
theorem wt:Em.Ok:=λP=>by change _=_;kernel_rfl
theorem wr:El.Ok:=λP=>by change _=_;kernel_rfl
theorem wq:Ek.Ok:=λP=>by change _=_;kernel_rfl
theorem wo:Ej.Ok:=λP=>by change _=_;kernel_rfl
theorem wn:Ei.Ok:=λP=>by change _=_;kernel_rfl
theorem wm:Eh.Ok:=λP=>by change _=_;kernel_rfl
theorem wk:Eg.Ok:=λP=>by change _=_;kernel_rfl
theorem wj:Ef.Ok:=λP=>by change _=_;kernel_rfl
theorem wg:Ee.Ok:=kE (λP=>by change _=_;kernel_rfl) (λP=>by change _=_;kernel_rfl)
theorem we:Ed.Ok:=kE (λP=>by change _=_;kernel_rfl) (λP=>by change _=_;kernel_rfl)
theorem wc:Ec.Ok:=λP=>by change _=_;kernel_rfl
theorem wb:Eb.Ok:=λP=>by change _=_;kernel_rfl
theorem wa:Ea.Ok:=λP=>by change _=_;kernel_rfl
theorem v9:D9.Ok:=λP=>by change _=_;kernel_rfl
theorem vZ:D8.Ok:=λP=>by change _=_;kernel_rfl
theorem vY:D7.Ok:=λP=>by change _=_;kernel_rfl
theorem vX:D6.Ok:=λP=>by change _=_;kernel_rfl
theorem vW:D5.Ok:=λP=>by change _=_;kernel_rfl
theorem vV:D4.Ok:=λP=>by change _=_;kernel_rfl
theorem vU:D2.Ok:=λP=>by change _=_;kernel_rfl
theorem vT:D0.Ok:=λP=>by change _=_;kernel_rfl
theorem vS:DZ.Ok:=λP=>by change _=_;kernel_rfl
theorem vR:DY.Ok:=λP=>by change _=_;kernel_rfl
theorem vQ:DX.Ok:=λP=>by change _=_;kernel_rfl
theorem vP:DW.Ok:=λP=>by change _=_;kernel_rfl
theorem vO:DV.Ok:=λP=>by change _=_;kernel_rfl
theorem vN:DU.Ok:=λP=>by change _=_;kernel_rfl
theorem vM:DS.Ok:=λP=>by change _=_;kernel_rfl
theorem vL:DR.Ok:=λP=>by change _=_;kernel_rfl
theorem vK:DQ.Ok:=λP=>by change _=_;kernel_rfl
theorem vJ:DP.Ok:=λP=>by change _=_;kernel_rfl
theorem vI:DO.Ok:=λP=>by change _=_;kernel_rfl
theorem vH:DN.Ok:=λP=>by change _=_;kernel_rfl
theorem vG:DM.Ok:=λP=>by change _=_;kernel_rfl
theorem vF:DL.Ok:=λP=>by change _=_;kernel_rfl
theorem vE:DK.Ok:=λP=>by change _=_;kernel_rfl
theorem pX:AX (λP=>⟨mX P,15,187⟩) ⟨0,0,0,0⟩ lL:=⟨⟨rfl,rfl,B9,λ_=>rfl,λ_=>rfl⟩,⟨rfl,rfl,B8,λ_=>rfl,λ_=>rfl⟩,⟨rfl,rfl,B7,λ_=>rfl,λ_=>rfl⟩,⟨rfl,rfl,B6,λ_=>rfl,λ_=>rfl⟩,⟨rfl,rfl,B5,λ_=>rfl,λ_=>rfl⟩,⟨rfl,rfl,B4,λ_=>rfl,λ_=>rfl⟩,⟨rfl,rfl,B3,λ_=>rfl,λ_=>rfl⟩,⟨rfl,rfl,BZ,λ_=>rfl,λ_=>rfl⟩,⟨rfl,rfl,BY,λ_=>rfl,λ_=>rfl⟩,⟨rfl,rfl,BX,λ_=>rfl,λ_=>rfl⟩,⟨rfl,rfl,xj,λ_=>rfl,λ_=>rfl⟩,⟨rfl,rfl,xi,λ_=>rfl,λ_=>rfl⟩,⟨rfl,rfl,xh,λ_=>rfl,λ_=>rfl⟩,⟨rfl,rfl,xf,λ_=>rfl,λ_=>rfl⟩,⟨rfl,rfl,xe,λ_=>rfl,λ_=>rfl⟩,⟨rfl,rfl,xd,λ_=>rfl,λ_=>rfl⟩,⟨rfl,rfl,xc,λ_=>rfl,λ_=>rfl⟩,⟨rfl,rfl,xb,λ_=>rfl,λ_=>rfl⟩,⟨rfl,rfl,w9,λ_=>rfl,λ_=>rfl⟩,⟨rfl,rfl,w8,λ_=>rfl,λ_=>rfl⟩,⟨rfl,rfl,w7,λ_=>rfl,λ_=>rfl⟩,⟨rfl,rfl,w6,λ_=>rfl,λ_=>rfl⟩,⟨rfl,rfl,w5,λ_=>rfl,λ_=>rfl⟩,⟨rfl,rfl,w4,λ_=>rfl,λ_=>rfl⟩,⟨rfl,rfl,w0,λ_=>rfl,λ_=>rfl⟩,⟨rfl,rfl,wZ,λ_=>rfl,λ_=>rfl⟩,⟨rfl,rfl,wY,λ_=>rfl,λ_=>rfl⟩,⟨rfl,rfl,wX,λ_=>rfl,λ_=>rfl⟩,⟨rfl,rfl,wW,λ_=>rfl,λ_=>rfl⟩,⟨rfl,rfl,wV,λ_=>rfl,λ_=>rfl⟩,⟨rfl,rfl,wU,λ_=>rfl,λ_=>rfl⟩,⟨rfl,rfl,wR,λ_=>rfl,λ_=>rfl⟩,⟨rfl,rfl,wQ,λ_=>rfl,λ_=>rfl⟩,⟨rfl,rfl,wP,λ_=>rfl,λ_=>rfl⟩,⟨rfl,rfl,wO,λ_=>rfl,λ_=>rfl⟩,⟨rfl,rfl,wN,λ_=>rfl,λ_=>rfl⟩,⟨rfl,rfl,wM,λ_=>rfl,λ_=>rfl⟩,⟨rfl,rfl,wL,λ_=>rfl,λ_=>rfl⟩,⟨rfl,rfl,wK,λ_=>rfl,λ_=>rfl⟩,⟨rfl,rfl,wJ,λ_=>rfl,λ_=>rfl⟩,⟨rfl,rfl,wI,λ_=>rfl,λ_=>rfl⟩,⟨rfl,rfl,wH,λ_=>rfl,λ_=>rfl⟩,⟨rfl,rfl,wG,λ_=>rfl,λ_=>rfl⟩,⟨rfl,rfl,wF,λ_=>rfl,λ_=>rfl⟩,⟨rfl,rfl,wD,λ_=>rfl,λ_=>rfl⟩,⟨rfl,rfl,wC,λ_=>rfl,λ_=>rfl⟩,⟨rfl,rfl,wB,λ_=>rfl,λ_=>rfl⟩,⟨rfl,rfl,wA,λ_=>rfl,λ_=>rfl⟩,⟨rfl,rfl,wz,λ_=>rfl,λ_=>rfl⟩,⟨rfl,rfl,wy,λ_=>rfl,λ_=>rfl⟩,⟨rfl,rfl,wx,λ_=>rfl,λ_=>rfl⟩,⟨rfl,rfl,ww,λ_=>rfl,λ_=>rfl⟩,⟨rfl,rfl,wv,λ_=>rfl,λ_=>rfl⟩,⟨rfl,rfl,wu,λ_=>rfl,λ_=>rfl⟩,⟨rfl,rfl,wt,λ_=>rfl,λ_=>rfl⟩,⟨rfl,rfl,wr,λ_=>rfl,λ_=>rfl⟩,⟨rfl,rfl,wq,λ_=>rfl,λ_=>rfl⟩,⟨rfl,rfl,wo,λ_=>rfl,λ_=>rfl⟩,⟨rfl,rfl,wn,λ_=>rfl,λ_=>rfl⟩,⟨rfl,rfl,wm,λ_=>rfl,λ_=>rfl⟩,⟨rfl,rfl,wk,λ_=>rfl,λ_=>rfl⟩,⟨rfl,rfl,wj,λ_=>rfl,λ_=>rfl⟩,⟨rfl,rfl,wg,λ_=>rfl,λ_=>rfl⟩,⟨rfl,rfl,we,λ_=>rfl,λ_=>rfl⟩,⟨rfl,rfl,wc,λ_=>rfl,λ_=>rfl⟩,⟨rfl,rfl,wb,λ_=>rfl,λ_=>rfl⟩,⟨rfl,rfl,wa,λ_=>rfl,λ_=>rfl⟩,⟨rfl,rfl,v9,λ_=>rfl,λ_=>rfl⟩,⟨rfl,rfl,vZ,λ_=>rfl,λ_=>rfl⟩,⟨rfl,rfl,vY,λ_=>rfl,λ_=>rfl⟩,⟨rfl,rfl,vX,λ_=>rfl,λ_=>rfl⟩,⟨rfl,rfl,vW,λ_=>rfl,λ_=>rfl⟩,⟨rfl,rfl,vV,λ_=>rfl,λ_=>rfl⟩,⟨rfl,rfl,vU,λ_=>rfl,λ_=>rfl⟩,⟨rfl,rfl,vT,λ_=>rfl,λ_=>rfl⟩,⟨rfl,rfl,vS,λ_=>rfl,λ_=>rfl⟩,⟨rfl,rfl,vR,λ_=>rfl,λ_=>rfl⟩,⟨rfl,rfl,vQ,λ_=>rfl,λ_=>rfl⟩,⟨rfl,rfl,vP,λ_=>rfl,λ_=>rfl⟩,⟨rfl,rfl,vO,λ_=>rfl,λ_=>rfl⟩,⟨rfl,rfl,vN,λ_=>rfl,λ_=>rfl⟩,⟨rfl,rfl,vM,λ_=>rfl,λ_=>rfl⟩,⟨rfl,rfl,vL,λ_=>rfl,λ_=>rfl⟩,⟨rfl,rfl,vK,λ_=>rfl,λ_=>rfl⟩,⟨rfl,rfl,vJ,λ_=>rfl,λ_=>rfl⟩,⟨rfl,rfl,vI,λ_=>rfl,λ_=>rfl⟩,⟨rfl,rfl,vH,λ_=>rfl,λ_=>rfl⟩,⟨rfl,rfl,vG,λ_=>rfl,λ_=>rfl⟩,⟨rfl,rfl,vF,λ_=>rfl,λ_=>rfl⟩,⟨rfl,rfl,vE,λ_=>rfl,λ_=>rfl⟩,trivial⟩
end Mine
namespace Mine
open PySem PySem.W PySem.Sem
set_option maxHeartbeats 0
theorem Ay:∀ P:Params,lY (sJ P) (lg zc ⟨opening P0,P⟩ 3000 (PySem.Ctx.of (.builtin "boot" {}) []) (boot (opening P0)) default ⟨[],0,1⟩)=some (.again (.builtin "proto.exit.begin" ⟨[rawInt mainGlobals],[]⟩),default,11,181,(sJ P).map λp=>some p.2):=λP=>by kernel_rfl
noncomputable def pre:Sem (Value×Addr):=do
 let code ← moduleCode P0.main
 let frame ← newBodyFrame code mainNs mainNs
 Pure.pure (code,frame)
theorem Ce:∀ P:Params,lY (mX P) (HM P zg pre default ⟨ku P,11,181⟩)=some ((.ref 13,14),default,15,187,(mX P).map λp=>some p.2):=λP=>by kernel_rfl
theorem uK:∀ P:Params,lY (mX P) (HM P Da (blockStart (behindTheImports P0) m9) default ⟨mX P,15,187⟩)=some ((),default,15,187,(mX P).map λp=>some p.2):=λP=>by kernel_rfl
theorem tD:lL.map (λr=>vi r.i)=behindTheImports P0:=by kernel_rfl
theorem qU(s:Shared):fenceModules? P0 s=some s:=by
 unfold fenceModules?
 rw[importedModules_nil _ (by kernel_rfl)]
 have e:P0.main.body.any namesNumpy=false:=by kernel_rfl
 simp only[fenceAll?,Option.bind_some,e,Bool.false_eq_true,if_false]
structure nJ(P:Params)(s:Shared):Prop where
 b:dB ⟨sJ P,11,181⟩ s
 gens:s.gens=#[]
theorem sM(w:World):(∃ s,AfterRun (opening P0) w s)/\∀ s,AfterRun (opening P0) w s->nJ w.params s:=by
 refine AfterImport.of_wp (j2 (P:=w.params) rfl (Ay w.params) ⟨λa o e=>(by cases e),rfl,rfl,λa o e=>(by cases e)⟩ λx' s' B K e1 e2 l=>⟨rfl,⟨⟨?_,?_,?_,?_⟩,?_⟩,?_⟩)
 ·exact λa o e=>B.objs a o (l (a,o) (jt e))
 ·rw[B.n,e1]
 ·rw[B.toks,e2]
 ·exact λa o e=>e1▸B.below a o (l (a,o) (jt e))
 ·exact K.gens
 ·exact K.gens
structure iB(P:Params)(s₀ s₁:Shared):Prop where
 b:dB ⟨l8 P,1475,2385⟩ s₁
 cold:∀ p∈ng P lL [],s₁.heap.get? p.1=some p.2
 base:∀ b o,pB.contains b=false->s₀.heap.get? b=some o->s₁.heap.get? b=some o
 life:s₁.heap.life=s₀.heap.life
 gens:s₁.gens=#[]
 os:s₁.os=s₀.os
theorem u5{w:World}{s₀:Shared}(h:nJ w.params s₀)(hz:s₀.asleep) :
 ∃ n t s₁,schedN (denote table) P0 w n (.single s₀ (topStub P0))=.running (.single s₁ t)/\through t=true/\iB w.params s₀ s₁:=by
 have B0:dB ⟨ku w.params,11,181⟩ s₀:=by
  have sub:∀ a o,lk a (ku w.params)=some o->lk a (sJ w.params)=some o:=by
   intro a o e
   have hm:=jt e
   simp only[ku,List.mem_cons,List.not_mem_nil,or_false,Prod.mk.injEq] at hm
   rcases hm with⟨rfl,rfl⟩|⟨rfl,rfl⟩|⟨rfl,rfl⟩|⟨rfl,rfl⟩<;>rfl
  exact⟨λa o e=>h.b.objs a o (sub a o e),h.b.n,h.b.toks,λa o e=>h.b.below a o (sub a o e)⟩
 have I0:KS ⟨ku w.params,11,181⟩ [] s₀ s₀:=⟨B0,rfl,λ_ z=>(by cases z),λ_ z=>(by cases z),λ_ _ _ e=>e,rfl,rfl,rfl⟩
 have key:wp (model P0 w) (PySem.Ctx.of (.builtin "claim.caller" {}) []) (topStub P0).cur (λa _ s'=>a=.done (.ret .none)/\iB w.params s₀ s') (λ_ _ _=>False) default s₀:=by
  show wp (model P0 w) zg (do
   let code ← moduleCode P0.main
   let frame ← newBodyFrame code mainNs mainNs
   let _ ← run (.body (behindTheImports P0) { scope:=P0.main.scope,locals:=mainNs,globals:=mainNs,cells:=[],code,frame:=some frame })
   ret .none) _ _ default s₀
  have hp:wp (model P0 w) zg pre (λa p s'=>wp (model P0 w) zg (do
   let _ ← run (.body (behindTheImports P0) { scope:=P0.main.scope,locals:=mainNs,globals:=mainNs,cells:=[],code:=a.1,frame:=some a.2 })
   ret .none) (λa _ s'=>a=.done (.ret .none)/\iB w.params s₀ s') (λ_ _ _=>False) p s') (λ_ _ _=>False) default s₀:=by
   refine j2 rfl (Ce w.params) B0 λx' s1 B K e1 e2 l=>?_
   have I1:=I0.next (hot:=mX w.params) (cold:=[]) rfl rfl B K e1 e2 (λq hq=>l q (by rwa [List.append_nil] at hq))
   rw[wp_bind',wp_run,wpCode_iff_wp]
   show wp (model P0 w) Da (do blockStart (behindTheImports P0) m9;return Fin.done (← (execs (behindTheImports P0) m9).onRaise (leaving m9))) _ _ default s1
   rw[wp_bind']
   refine j2 rfl (uK w.params) I1.b λx2 s2 B2 K2 e1 e2 l=>?_
   have I2:=I1.next (hot:=mX w.params) (cold:=[]) rfl rfl B2 K2 e1 e2 (λq hq=>l q (by rwa [List.append_nil] at hq))
   rw[wp_bind',wp_onRaise,← tD]
   refine vC lL _ _ _ s2 _ _ pX I2 λp' s' I=>?_
   rw[wp_pure']
   exact⟨rfl,I.b,I.cold,I.base,I.life,I.gens.trans h.gens,I.os⟩
  unfold pre at hp
  simp only[wp_bind',wp_pure'] at hp⊢
  exact hp
 obtain⟨n,p',s',f,hs,hf,T⟩:=nQ hz key (λa p' s' z=>⟨_,z.1,z.2.gens⟩)
 exact⟨n,_,s',hs,rfl,T⟩
end Mine
namespace Mine
open PySem PySem.W
noncomputable def hp(a c d e:Obj):Heap:={ objs:=#[a,{ cls:=.none },c,d,e] }
noncomputable def NY(P:Params):Heap:=hp (o0 P) (o2 P 0) (o3 P kI 9) o4
noncomputable def gi(P:Params):Heap:=hp (o0 P) (o2 P 2) (o3 P aZ 91) o4
noncomputable def uT(h h':Heap):Prop:=∀ a,(a=0\/a=2\/a=3\/a=4)->h.get? a=h'.get? a
section
variable {h h':Heap} (e:uT h h') {a:Addr} (ha:a=0\/a=2\/a=3\/a=4)
include e ha
theorem uT.nsMap(n:Str):h.nsMap a n=h'.nsMap a n:=by simp only[Heap.nsMap,e a ha]
theorem uT.isNs:h.isNs a=h'.isNs a:=by simp only[Heap.isNs,e a ha]
theorem uT.nsKeys:h.nsKeys a=h'.nsKeys a:=by simp only[Heap.nsKeys,e a ha]
end
theorem Li{P:Params}{s:Shared}(h:nJ P s):uT s.heap (NY P):=by
 intro a ha
 rcases ha with rfl|rfl|rfl|rfl
 ·exact h.b.objs 0 _ rfl
 ·exact h.b.objs 2 _ rfl
 ·exact h.b.objs 3 _ rfl
 ·exact h.b.objs 4 _ rfl
theorem DG{P:Params}{s₀ s:Shared}(h:iB P s₀ s):uT s.heap (gi P):=by
 intro a ha
 rcases ha with rfl|rfl|rfl|rfl
 ·exact h.b.objs 0 _ rfl
 ·exact h.b.objs 2 _ rfl
 ·exact h.b.objs 3 _ rfl
 ·exact h.b.objs 4 _ rfl
theorem K8:∀ P,staticsOk [] (NY P) (gi P)=true:=λP=>by kernel_rfl
theorem Kw:∀ P,(gi P).accountedOkI []=true:=λP=>by kernel_rfl
theorem Mj:∀ P,namesBound P0 (gi P)=true:=λP=>by kernel_rfl
theorem Fj:∀ P,laidKept (NY P) (gi P)=true:=λP=>by kernel_rfl
theorem Kl:∀ P,(gi P).bltView=bltViewBooted:=λP=>by kernel_rfl
theorem AC:∀ P,(gi P).isNs builtinsNs=true:=λP=>by kernel_rfl
theorem xW:∀ P,(gi P).isNs mainGlobals=true:=λP=>by kernel_rfl
theorem Qz:∀ P,(gi P).bmainOk=true:=λP=>by kernel_rfl
end Mine
namespace Mine
open PySem PySem.W
theorem Q8:∀ P,(gi P).nsMap mainGlobals "__builtins__" = some (.ref 4):=λP=>by kernel_rfl
theorem NZ:∀ b,b<11->pB.contains b=true->b=0\/b=2\/b=3\/b=4:=by decide
theorem Ff:importedModules P0.main.body=[]:=importedModules_nil _ (by kernel_rfl)
theorem Bk{w:World}{s₀ s₁:Shared}(B:nJ w.params s₀)(T:iB w.params s₀ s₁){n:Nat}{t:Thread}(hs:schedN (denote table) P0 w n (.single s₀ (topStub P0))=.running (.single s₁ t))(ht:through t=true):TopRan P0 w s₀ s₁:=by
 have S0:=Li B
 have S1:=DG T
 have c2:cStatics=0\/cStatics=2\/cStatics=3\/cStatics=4:=by decide
 have c3:mainGlobals=0\/mainGlobals=2\/mainGlobals=3\/mainGlobals=4:=by decide
 have c0:builtinsNs=0\/builtinsNs=2\/builtinsNs=3\/builtinsNs=4:=by decide
 have h0:s₀.heap.isNs mainGlobals=true:=(S0.isNs c3).trans ((Bool.and_eq_true_iff.mp (Bool.and_eq_true_iff.mp (Fj w.params)).1).1)
 have h1:s₁.heap.isNs mainGlobals=true:=(S1.isNs c3).trans (xW _)
 have hb:s₁.heap.isNs builtinsNs=true:=(S1.isNs c0).trans (AC _)
 refine⟨⟨n,t,hs,ht⟩,T.life,Shared.rest_eq T.os,λb o e hn=>?_,?_,?_,Pin.keysAreStrs_of h1,λx hx=>?_,⟨4,o4,?_,T.b.objs 4 _ rfl,rfl,rfl⟩,?_,?_,?_⟩
 ·cases hc:pB.contains b with
  | false=>exact T.base b o hc e
  | true=>
   have hlt:b<11:=by have:=Heap.lt_size e;rw[B.b.n] at this;exact this
   rcases NZ b hlt hc with rfl|rfl|rfl|rfl
   ·rw[B.b.objs 0 _ rfl] at e;rw[T.b.objs 0 _ rfl];exact e
   ·exact absurd (.inr (.inl rfl)) hn
   ·exact absurd (.inl rfl) hn
   ·rw[B.b.objs 4 _ rfl] at e;rw[T.b.objs 4 _ rfl];exact e
 ·rw[Ff]
  refine Heap.accountedI_of_ok ?_
  have:s₁.heap.accountedOkI []=(gi w.params).accountedOkI []:=by
   simp only[Heap.accountedOkI,S1.isNs c2,S1.nsKeys c2,S1.nsMap c2]
  rw[this];exact Kw _
 ·rw[Ff]
  refine statics_of_ok ?_
  have:staticsOk [] s₀.heap s₁.heap=staticsOk [] (NY w.params) (gi w.params):=by
   simp only[staticsOk,S1.isNs c2,S1.nsKeys c2,S1.nsMap c2,S0.isNs c2,S0.nsKeys c2,S0.nsMap c2]
  rw[this];exact K8 _
 ·have:s₁.heap.bltView=(gi w.params).bltView:=by
   simp only[Heap.bltView,Heap.nsPairs,S1 builtinsNs c0]
  exact(Pin.builtinOf_eq hb x).trans (Heap.of_bltView hb (this.trans (Kl _)) x hx)
 ·rw[Pin.globalOf_eq h1,S1.nsMap c3];exact Q8 _
 ·rw[T.gens];exact λg hg=>by simp at hg
 ·refine names_of_bound ?_
  have:namesBound P0 s₁.heap=namesBound P0 (gi w.params):=by simp only[namesBound,S1.isNs c3,S1.nsKeys c3]
  rw[this];exact Mj _
 ·refine laid_of_kept ?_
  have:laidKept s₀.heap s₁.heap=laidKept (NY w.params) (gi w.params):=by simp only[laidKept,S1.isNs c3,S1.nsMap c3,S0.isNs c3,S0.nsMap c3]
  rw[this];exact Fj _
theorem tY{K:Frag}{a:Addr}{o:Obj}(h:K.lookup a=some o):(a,o)∈K:=by
 induction K with
 | nil=>exact fI h
 | cons p r ih=>
  obtain⟨b,x⟩:=p
  rw[List.lookup_cons] at h
  split at h
  ·rename_i e;obtain rfl:=Option.some.inj h;exact(beq_iff_eq.mp e)▸(.head _)
  ·exact .tail _ (ih h)
noncomputable def nh(P:Params):List bK->Frag
 | []=>[]
 | r::rs=>r.cold P++nh P rs
theorem zk{P:Params}{p:Addr×Obj} : ∀ (rs:List bK) (K:List (Addr×Obj)),p∈nh P rs\/p∈K->p∈ng P rs K:=by
 intro z_
 induction z_ with
 | nil=>
  intro K h
  rcases h with h|h
  ·exfalso;cases h
  ·exact h
 | cons r rs ihz=>
  intro K h
  refine ihz _ ?_
  rcases h with h|h
  ·rcases List.mem_append.mp h with h|h
   ·exact .inr (List.mem_append_left _ h)
   ·exact .inl h
  ·exact .inr (List.mem_append_right _ h)
noncomputable def KT(P:Params):Frag:=l8 P++nh P lL
theorem Hj{P:Params}{s₀ s₁:Shared}(T:iB P s₀ s₁):(KT P).In s₁.heap:=λa o e=>by
 have nd:∀ p∈l8 P,s₁.heap.get? p.1=some p.2:=by
  intro p hp
  simp only[l8,aI,hM,List.mem_cons,List.not_mem_nil,or_false] at hp
  rcases hp with rfl|rfl|rfl|rfl|rfl|rfl|rfl|rfl|rfl|rfl|rfl|rfl|rfl|rfl<;>exact T.b.objs _ _ rfl
 rcases List.mem_append.mp (tY e) with h|h
 ·exact nd _ h
 ·exact T.cold _ (zk lL [] (.inl h))
end Mine
namespace Mine
open PySem PySem.W PyProof.Rows PySem.Calls
set_option maxHeartbeats 0
structure AZ(w:World)(s:Shared)(a:Addr)(o:Obj)(vs:List Value)(xs:List Int):Prop where
 K:(KT w.params).In s.heap
 mg:s.heap.Ns mainGlobals ((gi w.params).nsMap mainGlobals)
 mb:s.heap.Ns builtinsNs ((gi w.params).nsMap builtinsNs)
 lim:s.heap.NoLimit
 gens:s.gens=#[]
 obj:s.heap.get? a=some o
 cls:o.cls=.type "list"
 data:∃ n,o.data=.seq vs.toArray n
 its:vs.map (λv=>match v with|.int i _=>some i|_=>none)=xs.map some
 few:xs.length<=63
 fresh:1475<=a
 low:sysModules<s.heap.objs.size
noncomputable def nG:Prop:=∀ (w:World) (s:Shared) (a:Addr) (o:Obj) (vs:List Value) (xs:List Int),AZ w s a o vs xs->
 codeAny (model P0 w) callerA (.call (.ref 1474) ⟨[.ref a],[]⟩) (λr s'=>r=.ok (.ret (.bool true))/\(∀ b o,s.heap.get? b=some o->s'.heap.get? b=some o)/\s'.os=s.os/\s'.gens=#[]) s
noncomputable abbrev cZ:OpenRow:=PySem.Challenge.rw_pb0466_01.row
theorem CB:∀ P,(KT P).lookup 1474=some (ux (ak 89 0) (Str.ofString "law") .none aZ 1473):=λP=>by kernel_rfl
theorem oN:∀ P,(gi P).nsMap mainGlobals (Str.ofString "law")=some (.ref 1474):=λP=>by kernel_rfl
theorem IB:∀ P,((gi P).isNs cStatics&&((gi P).nsMap cStatics "sys.recursionlimit").isNone)=true:=λP=>by kernel_rfl
theorem Bl:P0.theDef (Str.ofString "law")=(match vi 89 with|.FunctionDef _ ps b _ _ _ sc _ _ _=>some (ps,b,sc)|_=>none):=by kernel_rfl
theorem nW:cZ.toRowW.promised:=by
 refine⟨[.list []],?_,?_⟩<;>decide +kernel
theorem vD:P0.bare:=⟨rfl,rfl,rfl,rfl,rfl,by decide +kernel⟩
theorem tE:opensWell P0=true:=by kernel_rfl
theorem uu:(frees cZ.toRowW&&cZ.toRowW.within.isEmpty)=true:=by rfl
theorem xT:cZ.name=Str.ofString "law":=rfl
theorem Cf{w:World}{s₀ s:Shared}(T:iB w.params s₀ s)(h1:s.heap.isNs mainGlobals=true)(hm:s.heap.nsMap mainGlobals (Str.ofString "law")=some (.ref 1474)):isTheDefsW P0 s.heap (Str.ofString "law"):=by
 have ho:=Hj T 1474 _ (CB _)
 have hd:∃ ps b sc,ak 89 0=some (Str.ofString "law",ps,b,sc)/\P0.theDef (Str.ofString "law")=some (ps,b,sc)/\ps.defaults=[]/\kwWritten? ps.kwonlyargs ps.kw_defaults=some []:=by
  refine Bl.symm ▸ ?_
  exact⟨_,_,_,rfl,rfl,rfl,rfl⟩
 refine hd.elim λps h1_=>h1_.elim λb h2_=>h2_.elim λsc h3_=>h3_.elim λe1 h4_=>h4_.elim λe2 h5_=>h5_.elim λe3 e4=>?_
 rw[e1] at ho
 exact⟨1474,_,_,ps,b,sc,(Pin.globalOf_eq h1 _).trans hm,ho,rfl,e2,rfl,rfl,rfl,rfl,rfl,rfl,rfl,rfl,.inl ⟨e3,rfl⟩,[],e4,.inl ⟨rfl,rfl⟩⟩
theorem t9:∀ {ys:List WData},WShape.hasItems [] ys .int=true->∃ xs:List Int,ys=xs.map WData.int:=by
 intro z_
 induction z_ with
 | nil=>
  intro _
  exact⟨[],rfl⟩
 | cons y r ihz=>
  intro h
  have h':WShape.has [] y .int=true/\WShape.hasItems [] r .int=true:=by simpa [WShape.hasItems] using h
  refine(hasW_int h'.1).elim λi eq1_=>?_
  subst eq1_
  refine(ihz h'.2).elim λxs eq1_=>?_
  subst eq1_
  exact⟨i::xs,rfl⟩
theorem pZ{cl:Str->Option Addr}{h:Heap}{xs:List Int} : ∀ {vs:List Value} {as:List Addr},ReadsAllW [] cl h vs (xs.map WData.int) as->vs.map (λv=>match v with|.int i _=>some i|_=>none)=xs.map some:=by
 induction xs with
 | nil=>intro vs as r;cases r;rfl
 | cons i xs ih=>
  intro vs as r
  rw[List.map_cons] at r
  cases r with
  | cons r1 r2=>
   cases r1
   refine ac List.map_cons ?_;exact ac (List.map_cons ..) (ac (ih r2) rfl)
set_option backward.match.sparseCases true in
theorem JG{xs:List Int}(h:cZ.toRowW.pre.holds cZ.toRowW.records { args:=[.list (xs.map WData.int)] } = true):xs.length<=63:=by
 have h:(match(WTm.and (.not (.lt (.lit (.int 63)) (.len (.arg 0)))) (.lit (.bool true))).value [] { args:=[.list (xs.map WData.int)] } with|some (.bool true)=>true|_=>false)=true:=h
 simp only[WTm.value,less?] at h
 by_cases hc:xs.length<=63
 ·exact hc
 ·have:(63:Int)<(xs.length:Int):=by omega
  simp[less?,Num.less?,this] at h
inductive AR(h:Heap)(args:List WData)(vs:List Value):Prop
 | mk (a:Addr) (o:Obj) (xs:List Int) (hv:vs=[.ref a]) (ha:args=[.list (xs.map WData.int)]) (ho:h.get? a=some o) (hc:o.cls=.type "list") (ws:Array Value) (n:Nat) (hd:o.data=.seq ws n)
  (hi:ws.toList.map (λv=>match v with|.int i _=>some i|_=>none)=xs.map some) (hf:xs.length<=63) (hb:1475<=a):AR h args vs
theorem tv{args:List WData}{cl:Str->Option Addr}{h:Heap}{vs:List Value}{as:List Addr}(hpre:cZ.toRowW.claim.pre args)(hrd:ReadsAllW [] cl h vs args as)(hin:∀ a∈as,1475<=a):AR h args vs:=by
 obtain⟨p1,p2⟩:=pre_splitW (r:=cZ.toRowW) hpre
 obtain⟨d,r,rfl,h1,h2⟩:=hasAllW_cons p1
 obtain rfl:=hasAllW_nil h2
 obtain⟨ys,rfl,h3⟩:=hasW_list h1
 obtain⟨xs,rfl⟩:=t9 h3
 cases hrd with
 | cons r1 r2=>
  cases r2
  cases r1 with
  | list e1 e2 e3 e4=>exact⟨_,_,xs,rfl,rfl,e1,e2,_,_,e3,pZ e4,JG p2,hin _ (List.mem_append_left _ (.head _))⟩
theorem mM(walk:nG):cZ.toRowW.claim.HoldsOpenBy (callStub cZ.name) [Str.ofString "law"] cZ.keeps false:=by
 refine(Bool.and_eq_true_iff.mp uu).elim λk5 k6=>?_
 refine kS (frees_parts k5) λhsame hu ha hap hmk=>?_
 refine⟨⟨vD,tE,rfl⟩,nW.witness,λw=>⟨(sM w).1,λs hs=>?_⟩⟩
 have B:=(sM w).2 s hs
 have hz:s.asleep:=AfterImport.life hs
 refine na (u5 B hz) λn t s₁ hsched hth T=>?_
 have S1:=DG T
 have c3:mainGlobals=0\/mainGlobals=2\/mainGlobals=3\/mainGlobals=4:=by decide
 have c0:builtinsNs=0\/builtinsNs=2\/builtinsNs=3\/builtinsNs=4:=by decide
 have c2:cStatics=0\/cStatics=2\/cStatics=3\/cStatics=4:=by decide
 have h1:s₁.heap.isNs mainGlobals=true:=(S1.isNs c3).trans (xW _)
 have hb:s₁.heap.isNs builtinsNs=true:=(S1.isNs c0).trans (AC _)
 have hmg:s₁.heap.nsMap mainGlobals=(gi w.params).nsMap mainGlobals:=funext (S1.nsMap c3)
 have hmb:s₁.heap.nsMap builtinsNs=(gi w.params).nsMap builtinsNs:=funext (S1.nsMap c0)
 have hm:s₁.heap.nsMap mainGlobals (Str.ofString "law")=some (.ref 1474):=by exact hmg▸(oN _)
 refine⟨s,qU s,B.gens,s₁,Bk B T hsched hth,λn hn=>?_,λx hx=>(nomatch hx),λx hx=>(nomatch hx),?_⟩
 ·rw[List.mem_singleton] at hn
  subst hn
  exact Cf T h1 hm
 have hz1:s₁.asleep:=Shared.asleep_of_life T.life hz
 refine ClaimW.callFrom_of_specG (c:=cZ.toRowW.claim) (tree:=λvs=>(callStub cZ.name vs).cur) hz1 T.gens λargs hpre hlay ord hord=>?_
 have hR:∀ c,(WRecords.fields? [] c).isSome=true->(classAt s₁.heap c).isSome=true:=λc hc=>by exfalso;cases hc
 obtain⟨⟨vs,s₂⟩,hlaid⟩:=Option.isSome_iff_exists.mp (layAllW_isSome (P:=w.params) (ord:=ord) hR args [.list .int] s₁ (pre_splitW (r:=cZ.toRowW) hpre).1)
 have keeps:=layAllW_keeps _ _ _ hlaid
 have hal:=layAllW_rest _ _ _ hlaid
 refine fW (reads_layAllW hord _ _ _ hlaid hlay s₂.heap (λ_ _ e=>e)) λas hrd hin hold=>?_
 have L:Laid [] w s₁ s₂ args vs as:=⟨⟨ord,hord,hlaid⟩,hrd,hin,hold,keeps,hal.1.trans T.gens,hal.2.2.1⟩
 have hi:=ident_freeW hu ha hap
 have hg2:s₂.heap.Ns mainGlobals ((gi w.params).nsMap mainGlobals):=(hmg▸Heap.Ns.of_isNs h1:s₁.heap.Ns mainGlobals _).keeps keeps
 have hb2:s₂.heap.Ns builtinsNs ((gi w.params).nsMap builtinsNs):=(hmb▸Heap.Ns.of_isNs hb:s₁.heap.Ns builtinsNs _).keeps keeps
 have hl2:s₂.heap.NoLimit:=by
  refine(Bool.and_eq_true_iff.mp (IB w.params)).elim λl1 l2=>?_
  have:s₁.heap.NoLimit:=⟨_,Heap.Ns.of_isNs ((S1.isNs c2).trans l1),by rw[S1.nsMap c2];simpa using l2⟩
  exact this.keeps keeps
 refine a7 λGg fin_=>?_
 obtain⟨a,o,xs,rfl,rfl,ho,hc,ws,m,hd,hits,hfew,hfresh⟩:=tv hpre hrd (λa ha=>Nat.le_trans (Nat.le_of_eq (Eq.symm T.b.n)) (hin.2.2 a ha).1)
 refine fin_ ?_
 have Bf:AZ w s₂ a o ws.toList xs:=⟨(Hj T).keeps keeps,hg2,hb2,hl2,hal.1.trans T.gens,ho,hc,⟨m,hd⟩,hits,hfew,hfresh,by
  have h11:s₁.heap.objs.size=1475:=T.b.n
  have:s₁.heap.get? 0=some (o0 w.params):=T.b.objs 0 _ rfl
  have h2:=Heap.lt_size (keeps _ _ (T.b.objs 13 _ rfl))
  exact Nat.lt_trans (by decide) h2⟩
 refine⟨[.ref a],s₂,hlaid,?_⟩
 have key:=walk w s₂ a o ws.toList xs Bf
 refine wpAny_bind (wpAny_nsGet hg2 ?_)
 refine ac (xT ..) (ac (oN ..) ?_)
 refine wpAny_bind (wpAny_mono (wpAny_call (Q:=λv s'=>v=.bool true/\(∀ b o,s₂.heap.get? b=some o->s'.heap.get? b=some o)/\s'.os=s₂.os/\s'.gens=#[]) (E:=λ_ _=>False) (codeAny_mono key λr s' z=>?_)) (λv s' z=>wpAny_pure ⟨_,rfl,?_⟩) λ_ _ z=>z.elim)
 ·obtain⟨rfl,z⟩:=z
  exact⟨rfl,z⟩
 ·refine zb z λeq1_ k hos hg=>?_
  subst eq1_
  have g:GoodW cZ.toRowW.claim (classAt s₁.heap) (ExcName.means s₁.heap) [.list (xs.map WData.int)] s₂ (.ok (.ret (.bool true))) s':=
   ⟨.inl ⟨.bool true,.bool true,[],rfl,λ_=>rfl,.bool true,?_,λ_=>⟨.nil,λ_ z=>nomatch z⟩⟩,k,hos,hg⟩
  ·have z:=(g.toG).laid (c:=cZ.toRowW.claim) hsame (List.isEmpty_iff.mp k6) hi L
   exact⟨z.1,z.2.1,z.2.2,λq=>by exfalso;cases q⟩
  ·show(WShape.has [] (.bool true) .bool&&(WTm.eq .res (.lit (.bool true))).holds [] _)=true
   simp[WShape.has,WShape.arms,WTm.holds,WTm.value,PySem.W.same]
theorem law_holds(walk:nG)(said:PySem.Challenge.rw_pb0466_01.wellSaid=true):PySem.Challenge.rw_pb0466_01.Holds:=
 holds_law said λsaid=>⟨said,nW,mM walk⟩
end Mine
namespace Mine
open PySem
set_option maxHeartbeats 0
noncomputable def tS(s:String):Str:=Str.ofString s
noncomputable def eN:List Str:=[tS "append",tS "get",tS "join",tS "lower",tS "upper",tS "isascii",tS "find",tS "lstrip",tS "row",tS "value",tS "column",tS "depth",tS "place",tS "source",tS "table",tS "number",tS "op",tS "operand",tS "left",tS "right",tS "high",tS "low",tS "negated",tS "items",tS "select",tS "base",tS "other",tS "whens",tS "arguments",tS "distinct",tS "name",tS "star",tS "type_name",tS "collation",tS "escape",tS "pattern",tS "word",tS "alias",tS "star_table",tS "hint",tS "kind",tS "on",tS "using",tS "columns",tS "groups",tS "having",tS "where",tS "rows",tS "descending",tS "body",tS "limit",tS "offset",tS "order",tS "is_sign",tS "is_key",tS "is_free",tS "is_plain",tS "text",tS "gather",tS "refuse",tS "run",tS "end_of",tS "bare",tS "closing",tS "quoted_word",tS "blob",tS "value_of",tS "mark",tS "variable",tS "found",tS "greatest",tS "expression",tS "level",tS "operated",tS "told_is",tS "tested",tS "member",tS "expressions",tS "prefix",tS "primary",tS "bracketed",tS "bracketed_select",tS "case",tS "cast",tS "named",tS "between_brackets",tS "selects",tS "stream",tS "whole_table",tS "compound_op",tS "order_terms",tS "order_term",tS "is_descending",tS "limits",tS "value_rows",tS "value_row",tS "result_column",tS "sources",tS "join_kind",tS "here",tS "ahead",tS "go",tS "is_over",tS "is_one_of",tS "is_select",tS "take_key",tS "take_sign",tS "need_key",tS "need_sign",tS "need_name",tS "deeper",tS "higher",tS "at",tS "words"]
noncomputable def yR:List (Str×GV):=[(tS "_wall",.fn 21),(tS "row_of",.fn 28),(tS "rows_of",.fn 33),(tS "Node",.cls 50),(tS "Expr",.cls 64),(tS "Literal",.cls 90),(tS "Name",.cls 116),(tS "Variable",.cls 142),(tS "Unary",.cls 168),(tS "Binary",.cls 194),(tS "Between",.cls 220),(tS "InList",.cls 246),(tS "InSelect",.cls 272),(tS "Exists",.cls 298),(tS "Scalar",.cls 324),(tS "Case",.cls 348),(tS "Call",.cls 374),(tS "Cast",.cls 400),(tS "Collate",.cls 426),(tS "IsNull",.cls 452),(tS "Match",.cls 478),(tS "ResultColumn",.cls 504),(tS "TableSource",.cls 530),(tS "SelectSource",.cls 556),(tS "Join",.cls 582),(tS "Core",.cls 608),(tS "Values",.cls 632),(tS "Compound",.cls 658),(tS "OrderTerm",.cls 684),(tS "Select",.cls 710),(tS "read_type",.fn 719),(tS "read_size",.fn 726),(tS "read_names",.fn 733),(tS "PagebaseError",.cls 750),(tS "SqlError",.cls 763),(tS "ParseError",.cls 782),(tS "QUOTES",.val (.str [39,34,96,91])),(tS "BLANKS",.val (.str [32,9,10,13,12])),(tS "FIGURES",.val (.str [48,49,50,51,52,53,54,55,56,57])),(tS "HEX_FIGURES",.val (.str [48,49,50,51,52,53,54,55,56,57,97,98,99,100,101,102,65,66,67,68,69,70])),(tS "LETTERS",.val (.str [97,98,99,100,101,102,103,104,105,106,107,108,109,110,111,112,113,114,115,116,117,118,119,120,121,122,65,66,67,68,69,70,71,72,73,74,75,76,77,78,79,80,81,82,83,84,85,86,87,88,89,90,95])),(tS "NAME_SIGNS",.val (.str [97,98,99,100,101,102,103,104,105,106,107,108,109,110,111,112,113,114,115,116,117,118,119,120,121,122,65,66,67,68,69,70,71,72,73,74,75,76,77,78,79,80,81,82,83,84,85,86,87,88,89,90,95,48,49,50,51,52,53,54,55,56,57,36])),(tS "SIGNS_OF_TWO",.val (.ref 785)),(tS "SIGNS_OF_ONE",.val (.str [40,41,44,46,59,43,45,42,47,37,61,60,62,38,124,126])),(tS "LIKE_SIGNS",.val (.ref 786)),(tS "MOST_VARIABLE",.val (.int 999)),(tS "GREATEST",.val (.int 9223372036854775808)),(tS "RESERVED",.val (.ref 787)),(tS "JOINING",.val (.ref 788)),(tS "folded",.fn 793),(tS "goes_on_name",.fn 800),(tS "Word",.cls 852),(tS "Scanner",.cls 957),(tS "read_words",.fn 968),(tS "LOWEST",.val (.int 1)),(tS "EQUAL_LEVEL",.val (.int 4)),(tS "LESS_LEVEL",.val (.int 5)),(tS "SIGN_LEVELS",.val (.ref 969)),(tS "KEY_LEVELS",.val (.ref 970)),(tS "BEHIND_NOT",.val (.ref 971)),(tS "AHEAD_SIGNS",.val (.ref 972)),(tS "ExpressionReader",.cls 1095),(tS "SelectReader",.cls 1228),(tS "MOST_DEPTH",.val (.int 50)),(tS "WordStream",.cls 1361),(tS "_law_pool",.fn 1372),(tS "_law_take",.fn 1379),(tS "_law_one",.fn 1386),(tS "_law_key",.fn 1393),(tS "_law_called",.fn 1400),(tS "_law_expr",.fn 1407),(tS "_law_exprs",.fn 1412),(tS "_law_alias",.fn 1419),(tS "_law_column",.fn 1426),(tS "_law_source",.fn 1433),(tS "_law_sources",.fn 1438),(tS "_law_core",.fn 1443),(tS "_law_values",.fn 1448),(tS "_law_limits",.fn 1455),(tS "_law_select",.fn 1462),(tS "_law_read",.fn 1469),(tS "law",.fn 1474),(tS "ord",.blt .ord),(tS "len",.blt .len),(tS "max",.blt .max),(tS "min",.blt .min),(tS "isinstance",.blt .isinstance),(tS "tuple",.blt .tuple),(tS "str",.blt .str),(tS "int",.blt .int),(tS "range",.blt .range)]
noncomputable def b8:Str->Option GV:=λn=>yR.lookup n
noncomputable def eu:Str->Option Nat:=λn=>(eN.zip (List.range eN.length)).lookup n
noncomputable def sC:List (Nat×Nat):=[(90,9),(116,10),(116,11),(116,12),(116,13),(116,14),(142,15),(168,16),(168,17),(194,18),(194,16),(194,19),(220,20),(220,21),(220,22),(220,9),(246,23),(246,22),(246,9),(272,22),(272,24),(272,9),(298,22),(298,24),(324,24),(348,25),(348,26),(348,27),(374,28),(374,29),(374,30),(374,31),(400,32),(400,9),(426,33),(426,9),(452,22),(452,9),(478,34),(478,22),(478,35),(478,9),(478,36),(504,37),(504,38),(504,9),(530,37),(530,39),(530,30),(556,37),(556,24),(582,40),(582,18),(582,41),(582,19),(582,42),(608,43),(608,29),(608,44),(608,45),(608,13),(608,46),(632,47),(658,18),(658,16),(658,19),(684,48),(684,9),(710,49),(710,50),(710,51),(710,52),(852,40),(852,12),(852,57),(852,9),(957,69),(957,70),(957,12),(957,57),(1095,86),(1095,87),(1228,77),(1228,87),(1361,112),(1361,11),(1361,57),(1361,113)]
noncomputable def xY:List (Nat×Nat×Nat):=[(90,8,87),(116,8,113),(194,8,191),(324,8,321),(374,8,371),(504,8,501),(530,8,527),(556,8,553),(582,8,579),(608,8,605),(632,8,629),(658,8,655),(684,8,681),(710,8,707),(852,53,821),(852,54,828),(852,55,835),(852,56,842),(852,8,849),(957,58,877),(957,60,891),(957,61,898),(957,62,905),(957,63,912),(957,64,919),(957,15,933),(957,66,940),(957,67,947),(1095,71,994),(1095,72,1001),(1095,73,1008),(1095,77,1036),(1095,78,1043),(1095,79,1050),(1095,80,1057),(1095,81,1064),(1095,84,1085),(1228,24,1127),(1228,89,1134),(1228,90,1141),(1228,91,1148),(1228,92,1155),(1228,93,1162),(1228,49,1169),(1228,94,1176),(1228,95,1183),(1228,96,1190),(1228,37,1197),(1228,97,1204),(1228,98,1211),(1228,13,1218),(1228,39,1225),(1361,99,1253),(1361,100,1260),(1361,101,1267),(1361,59,1274),(1361,102,1281),(1361,54,1288),(1361,53,1295),(1361,104,1309),(1361,105,1316),(1361,106,1323),(1361,107,1330),(1361,108,1337),(1361,109,1344),(1361,110,1351),(1361,111,1358)]
noncomputable def yI:List (Nat×Nat):=[(90,80),(116,106),(194,184),(324,314),(374,364),(504,494),(530,520),(556,546),(582,572),(608,598),(632,624),(658,648),(684,674),(710,700),(852,814),(957,870),(1095,986),(1228,1113),(1361,1246)]
noncomputable def kr:List (Nat×uS):=[(785,.tStrs [[60,61],[62,61],[60,62],[33,61],[61,61],[124,124],[60,60],[62,62]]),(786,.tDict [([61,61],.str [61]),([33,61],.str [60,62])]),(787,.tStrs [[65,68,68],[65,76,76],[65,76,84,69,82],[65,78,68],[65,83],[65,85,84,79,73,78,67,82,69,77,69,78,84],[66,69,84,87,69,69,78],[67,65,83,69],[67,72,69,67,75],[67,79,76,76,65,84,69],[67,79,77,77,73,84],[67,79,78,83,84,82,65,73,78,84],[67,82,69,65,84,69],[68,69,70,65,85,76,84],[68,69,70,69,82,82,65,66,76,69],[68,69,76,69,84,69],[68,73,83,84,73,78,67,84],[68,82,79,80],[69,76,83,69],[69,83,67,65,80,69],[69,88,67,69,80,84],[69,88,73,83,84,83],[70,79,82,69,73,71,78],[70,82,79,77],[71,82,79,85,80],[72,65,86,73,78,71],[73,78],[73,78,68,69,88],[73,78,83,69,82,84],[73,78,84,69,82,83,69,67,84],[73,78,84,79],[73,83],[73,83,78,85,76,76],[74,79,73,78],[76,73,77,73,84],[78,79,84],[78,79,84,72,73,78,71],[78,79,84,78,85,76,76],[78,85,76,76],[79,78],[79,82],[79,82,68,69,82],[80,82,73,77,65,82,89],[82,69,70,69,82,69,78,67,69,83],[82,69,84,85,82,78,73,78,71],[83,69,76,69,67,84],[83,69,84],[84,65,66,76,69],[84,72,69,78],[84,79],[84,82,65,78,83,65,67,84,73,79,78],[85,78,73,79,78],[85,78,73,81,85,69],[85,80,68,65,84,69],[85,83,73,78,71],[86,65,76,85,69,83],[87,72,69,78],[87,72,69,82,69]]),(788,.tStrs [[67,82,79,83,83],[70,85,76,76],[73,78,68,69,88,69,68],[73,78,78,69,82],[76,69,70,84],[78,65,84,85,82,65,76],[79,85,84,69,82],[82,73,71,72,84]]),(969,.tDict [([61],.int 4),([60,62],.int 4),([60],.int 5),([60,61],.int 5),([62],.int 5),([62,61],.int 5),([38],.int 6),([124],.int 6),([60,60],.int 6),([62,62],.int 6),([43],.int 7),([45],.int 7),([42],.int 8),([47],.int 8),([37],.int 8),([124,124],.int 9)]),(970,.tDict [([79,82],.int 1),([65,78,68],.int 2),([73,83],.int 4),([73,78],.int 4),([76,73,75,69],.int 4),([71,76,79,66],.int 4),([66,69,84,87,69,69,78],.int 4),([73,83,78,85,76,76],.int 4),([78,79,84,78,85,76,76],.int 4),([78,79,84],.int 4),([67,79,76,76,65,84,69],.int 10)]),(971,.tStrs [[73,78],[76,73,75,69],[71,76,79,66],[66,69,84,87,69,69,78],[78,85,76,76]]),(972,.tStrs [[45],[43],[126]])]
theorem Q2:Int.negSucc 0 = -1:=rfl
noncomputable def am(dfl:List AV)(d:Option (Str×Arguments×List Stmt×Scope)):Option ax:=match d with
 | some (_,ps,b,sc)=>Dk b8 eu ps dfl b sc
 | none=>none
noncomputable def OU:Option ax->ax
 | some d=>d
 | none=>⟨0,[],[],[]⟩
noncomputable def bF(_:Option ax):Type:=ax
local macro_rules | `(tactic| walk_at "ir")=>`(tactic| (refine (?f : (OU ?t = ?v)->bF ?t) ?p;(case p=>conv=>{ lhs;conv=>{ arg 1;arg 2;whnf };reduce;try dsimp only [Int.ofNat_eq_natCast,Int.cast_ofNat_Int,Q2] });(case f=>exact fun _=>?v)))
noncomputable def Ps:ax:=(by walk_at "ir" : bF (am [] (ak 2 0)))
noncomputable def Pq:ax:=(by walk_at "ir" : bF (am [] (ak 3 0)))
noncomputable def Pp:ax:=(by walk_at "ir" : bF (am [] (ak 6 0)))
noncomputable def Po:ax:=(by walk_at "ir" : bF (am [] (ak 6 1)))
noncomputable def NR:ax:=(by walk_at "ir" : bF (am [] (ak 7 0)))
noncomputable def NQ:ax:=(by walk_at "ir" : bF (am [] (ak 7 1)))
noncomputable def NO:ax:=(by walk_at "ir" : bF (am [] (ak 10 0)))
noncomputable def NN:ax:=(by walk_at "ir" : bF (am [] (ak 10 1)))
noncomputable def NM:ax:=(by walk_at "ir" : bF (am [] (ak 15 0)))
noncomputable def NL:ax:=(by walk_at "ir" : bF (am [] (ak 15 1)))
noncomputable def NK:ax:=(by walk_at "ir" : bF (am [] (ak 17 0)))
noncomputable def NJ:ax:=(by walk_at "ir" : bF (am [] (ak 17 1)))
noncomputable def NI:ax:=(by walk_at "ir" : bF (am [] (ak 22 0)))
noncomputable def NH:ax:=(by walk_at "ir" : bF (am [] (ak 22 1)))
noncomputable def NG:ax:=(by walk_at "ir" : bF (am [] (ak 23 0)))
noncomputable def NF:ax:=(by walk_at "ir" : bF (am [] (ak 23 1)))
noncomputable def NE:ax:=(by walk_at "ir" : bF (am [] (ak 24 0)))
noncomputable def ND:ax:=(by walk_at "ir" : bF (am [] (ak 24 1)))
noncomputable def NB:ax:=(by walk_at "ir" : bF (am [] (ak 25 0)))
noncomputable def NA:ax:=(by walk_at "ir" : bF (am [] (ak 25 1)))
noncomputable def Nz:ax:=(by walk_at "ir" : bF (am [] (ak 26 0)))
noncomputable def Ny:ax:=(by walk_at "ir" : bF (am [] (ak 26 1)))
noncomputable def Nx:ax:=(by walk_at "ir" : bF (am [] (ak 27 0)))
noncomputable def Nw:ax:=(by walk_at "ir" : bF (am [] (ak 27 1)))
noncomputable def Nv:ax:=(by walk_at "ir" : bF (am [] (ak 28 0)))
noncomputable def Nu:ax:=(by walk_at "ir" : bF (am [] (ak 28 1)))
noncomputable def Nt:ax:=(by walk_at "ir" : bF (am [] (ak 29 0)))
noncomputable def Nr:ax:=(by walk_at "ir" : bF (am [] (ak 29 1)))
noncomputable def Nq:ax:=(by walk_at "ir" : bF (am [] (ak 30 0)))
noncomputable def Np:ax:=(by walk_at "ir" : bF (am [] (ak 30 1)))
noncomputable def Nm:ax:=(by walk_at "ir" : bF (am [] (ak 34 0)))
noncomputable def Nl:ax:=(by walk_at "ir" : bF (am [] (ak 53 0)))
noncomputable def Nk:ax:=(by walk_at "ir" : bF (am [] (ak 54 0)))
noncomputable def Nj:ax:=(by walk_at "ir" : bF (am [] (ak 55 0)))
noncomputable def Ni:ax:=(by walk_at "ir" : bF (am [] (ak 55 1)))
noncomputable def Nh:ax:=(by walk_at "ir" : bF (am [] (ak 55 2)))
noncomputable def Ng:ax:=(by walk_at "ir" : bF (am [] (ak 55 3)))
noncomputable def Nf:ax:=(by walk_at "ir" : bF (am [] (ak 55 4)))
noncomputable def Nd:ax:=(by walk_at "ir" : bF (am [] (ak 55 5)))
noncomputable def Nc:ax:=(by walk_at "ir" : bF (am [] (ak 56 0)))
noncomputable def Nb:ax:=(by walk_at "ir" : bF (am [] (ak 56 1)))
noncomputable def Fv:ax:=(by walk_at "ir" : bF (am [] (ak 56 3)))
noncomputable def Na:ax:=(by walk_at "ir" : bF (am [] (ak 56 4)))
noncomputable def Fu:ax:=(by walk_at "ir" : bF (am [] (ak 56 5)))
noncomputable def M9:ax:=(by walk_at "ir" : bF (am [] (ak 56 6)))
noncomputable def M8:ax:=(by walk_at "ir" : bF (am [] (ak 56 7)))
noncomputable def M7:ax:=(by walk_at "ir" : bF (am [] (ak 56 9)))
noncomputable def M6:ax:=(by walk_at "ir" : bF (am [] (ak 56 10)))
noncomputable def M5:ax:=(by walk_at "ir" : bF (am [] (ak 56 11)))
noncomputable def M1:ax:=(by walk_at "ir" : bF (am [] (ak 57 0)))
noncomputable def M0:ax:=(by walk_at "ir" : bF (am [] (ak 66 0)))
noncomputable def Ft:ax:=(by walk_at "ir" : bF (am [.int 1] (ak 66 1)))
noncomputable def Jz:ax:=(by walk_at "ir" : bF (am [] (ak 66 2)))
noncomputable def Jy:ax:=(by walk_at "ir" : bF (am [] (ak 66 3)))
noncomputable def Jx:ax:=(by walk_at "ir" : bF (am [] (ak 66 7)))
noncomputable def Jw:ax:=(by walk_at "ir" : bF (am [] (ak 66 8)))
noncomputable def qO:ax:=(by walk_at "ir" : bF (am [] (ak 66 9)))
noncomputable def Jv:ax:=(by walk_at "ir" : bF (am [] (ak 66 10)))
noncomputable def Ju:ax:=(by walk_at "ir" : bF (am [] (ak 66 11)))
noncomputable def qN:ax:=(by walk_at "ir" : bF (am [] (ak 66 14)))
noncomputable def Jt:ax:=(by walk_at "ir" : bF (am [] (ak 68 0)))
noncomputable def mV:ax:=(by walk_at "ir" : bF (am [] (ak 68 2)))
noncomputable def Js:ax:=(by walk_at "ir" : bF (am [] (ak 68 3)))
noncomputable def Jr:ax:=(by walk_at "ir" : bF (am [] (ak 68 4)))
noncomputable def Jq:ax:=(by walk_at "ir" : bF (am [] (ak 68 5)))
noncomputable def Jp:ax:=(by walk_at "ir" : bF (am [] (ak 68 6)))
noncomputable def Jo:ax:=(by walk_at "ir" : bF (am [] (ak 68 7)))
noncomputable def iw:ax:=(by walk_at "ir" : bF (am [] (ak 68 8)))
noncomputable def Jn:ax:=(by walk_at "ir" : bF (am [] (ak 68 9)))
noncomputable def Jm:ax:=(by walk_at "ir" : bF (am [] (ak 68 10)))
noncomputable def yC:ax:=(by walk_at "ir" : bF (am [] (ak 68 11)))
noncomputable def Jl:ax:=(by walk_at "ir" : bF (am [] (ak 68 12)))
noncomputable def Jk:ax:=(by walk_at "ir" : bF (am [] (ak 68 13)))
noncomputable def Jj:ax:=(by walk_at "ir" : bF (am [] (ak 68 14)))
noncomputable def Ji:ax:=(by walk_at "ir" : bF (am [] (ak 68 15)))
noncomputable def Jh:ax:=(by walk_at "ir" : bF (am [] (ak 68 16)))
noncomputable def Jg:ax:=(by walk_at "ir" : bF (am [] (ak 71 0)))
noncomputable def Jf:ax:=(by walk_at "ir" : bF (am [] (ak 71 1)))
noncomputable def Je:ax:=(by walk_at "ir" : bF (am [] (ak 71 2)))
noncomputable def Jd:ax:=(by walk_at "ir" : bF (am [] (ak 71 3)))
noncomputable def Jc:ax:=(by walk_at "ir" : bF (am [] (ak 71 5)))
noncomputable def Jb:ax:=(by walk_at "ir" : bF (am [] (ak 71 6)))
noncomputable def Ja:ax:=(by walk_at "ir" : bF (am [] (ak 71 7)))
noncomputable def I9:ax:=(by walk_at "ir" : bF (am [] (ak 71 9)))
noncomputable def I8:ax:=(by walk_at "ir" : bF (am [] (ak 71 10)))
noncomputable def I7:ax:=(by walk_at "ir" : bF (am [] (ak 71 11)))
noncomputable def I6:ax:=(by walk_at "ir" : bF (am [] (ak 71 12)))
noncomputable def I5:ax:=(by walk_at "ir" : bF (am [] (ak 71 13)))
noncomputable def I4:ax:=(by walk_at "ir" : bF (am [] (ak 71 14)))
noncomputable def I3:ax:=(by walk_at "ir" : bF (am [] (ak 71 15)))
noncomputable def IZ:ax:=(by walk_at "ir" : bF (am [] (ak 71 16)))
noncomputable def kO:ax:=(by walk_at "ir" : bF (am [] (ak 73 0)))
noncomputable def IY:ax:=(by walk_at "ir" : bF (am [] (ak 74 0)))
noncomputable def IX:ax:=(by walk_at "ir" : bF (am [] (ak 75 0)))
noncomputable def IW:ax:=(by walk_at "ir" : bF (am [] (ak 76 0)))
noncomputable def IV:ax:=(by walk_at "ir" : bF (am [] (ak 77 0)))
noncomputable def qM:ax:=(by walk_at "ir" : bF (am [] (ak 78 0)))
noncomputable def IU:ax:=(by walk_at "ir" : bF (am [] (ak 79 0)))
noncomputable def yB:ax:=(by walk_at "ir" : bF (am [] (ak 80 0)))
noncomputable def yA:ax:=(by walk_at "ir" : bF (am [] (ak 81 0)))
noncomputable def yz:ax:=(by walk_at "ir" : bF (am [] (ak 82 0)))
noncomputable def yy:ax:=(by walk_at "ir" : bF (am [] (ak 83 0)))
noncomputable def fU:ax:=(by walk_at "ir" : bF (am [] (ak 84 0)))
noncomputable def IR:ax:=(by walk_at "ir" : bF (am [] (ak 85 0)))
noncomputable def yx:ax:=(by walk_at "ir" : bF (am [] (ak 86 0)))
noncomputable def gF:ax:=(by walk_at "ir" : bF (am [] (ak 87 0)))
noncomputable def cF:ax:=(by walk_at "ir" : bF (am [] (ak 89 0)))
noncomputable def mT:ax:=(by walk_at "ir" : bF (am [] (ak 88 0)))
noncomputable def mU:ax:=(by walk_at "ir" : bF (am [] (ak 71 4)))
noncomputable def rJ(d:Option (Str×Arguments×List Stmt×Scope)):List IE:=match d with
 | some (_,ps,[.Raise (some (.Call _ es _ _)) _ _],sc)=>es.map (cE (aF b8 eu sc) 30)
 | _=>[]
noncomputable def iM:List IE:=by
 refine(?f:(rJ (ak 71 4) = ?v)->List IE) ?p
 case p=>conv=>{ lhs;conv=>{ arg 1;whnf };reduce }
 case f=>exact λ_=>?v
noncomputable def K4(d:Option (Str×Arguments×List Stmt×Scope)):List IS×IS:=match d with
 | some (_,ps,[.Try b _ _ _ _,r],sc)=>(b.map (cS (aF b8 eu sc) 60),cS (aF b8 eu sc) 60 r)
 | _=>([],.bad)
noncomputable def tryIS:List IS×IS:=by
 refine(?f:(K4 (ak 88 0) = ?v)->List IS×IS) ?p
 case p=>conv=>{ lhs;conv=>{ arg 1;whnf };reduce }
 case f=>exact λ_=>?v
noncomputable def kT:List (Nat×ax):=[(28,Ps),(33,Pq),(80,Pp),(87,Po),(106,NR),(113,NQ),(184,NO),(191,NN),(314,NM),(321,NL),(364,NK),(371,NJ),(494,NI),(501,NH),(520,NG),(527,NF),(546,NE),(553,ND),(572,NB),(579,NA),(598,Nz),(605,Ny),(624,Nx),(629,Nw),(648,Nv),(655,Nu),(674,Nt),(681,Nr),(700,Nq),(707,Np),(733,Nm),(793,Nl),(800,Nk),(814,Nj),(821,Ni),(828,Nh),(835,Ng),(842,Nf),(849,Nd),(870,Nc),(877,Nb),(891,Fv),(898,Na),(905,Fu),(912,M9),(919,M8),(933,M7),(940,M6),(947,M5),(968,M1),(986,M0),(994,Ft),(1001,Jz),(1008,Jy),(1036,Jx),(1043,Jw),(1050,qO),(1057,Jv),(1064,Ju),(1085,qN),(1113,Jt),(1127,mV),(1134,Js),(1141,Jr),(1148,Jq),(1155,Jp),(1162,Jo),(1169,iw),(1176,Jn),(1183,Jm),(1190,yC),(1197,Jl),(1204,Jk),(1211,Jj),(1218,Ji),(1225,Jh),(1246,Jg),(1253,Jf),(1260,Je),(1267,Jd),(1281,Jc),(1288,Jb),(1295,Ja),(1309,I9),(1316,I8),(1323,I7),(1330,I6),(1337,I5),(1344,I4),(1351,I3),(1358,IZ),(1372,kO),(1379,IY),(1386,IX),(1393,IW),(1400,IV),(1407,qM),(1412,IU),(1419,yB),(1426,yA),(1433,yz),(1438,yy),(1443,fU),(1448,IR),(1455,yx),(1462,gF),(1474,cF)]
end Mine
namespace Mine
noncomputable def az(calm:Prop):aT where
 meth:=λC k=>(xY.find? λp=>Nat.beq p.1 C&&Nat.beq p.2.1 k).map (·.2.2)
 init:=λC=>yI.lookup C
 stat:=λa=>kr.lookup a
 data:=λC k=>sC.any λp=>Nat.beq p.1 C&&Nat.beq p.2 k
 isi:=λD C=>(Nat.beq C 632&&(Nat.beq D 608||Nat.beq D 632))
 calm:=calm
noncomputable def bY:Nat->Option ax:=λf=>kT.lookup f
section
variable {T:aT} {F:Nat->Option ax} {hd:Nat->Option gn} {C:CS} {H:AH} {Q:au}
theorem ae{n f:Nat}{vs:List AV}{d:ax}(hr:hd f=none)(hF:F f=some d)(hl:d.params.length=(d.fill vs).length)(hv:∀ v∈vs,v≠.oth)
 (h:wSs T (bC T F hd n) d.body (bindL d.n d.params (d.fill vs)) H (λ_ H=>Q .none H) Q):bC T F hd (n+1) f vs H Q:=by
 refine ac (fX ..) (ac (hr ..) ?_)
 dsimp only
 refine hF.symm ▸ ?_
 exact⟨hl,hv,h⟩
theorem kJ{m:bd}{i:Nat}{v:AV}{Q:au}(h:getL m i=some v)(q:Q v H):wE T C m (.loc i) H Q:=by
 show(match getL m i with|some v=>Q v H|none=>False)
 refine ac h ?_;exact q
theorem aa{a k D:Nat}{fs:List (Nat×AV)}{x:AV}{Q:AV->Prop}(h:H a=some (.inst D fs))(hd:T.data D k=true)(hl:pF k fs=some x)(q:Q x):sV T H (.ref a) k Q:=by
 exact⟨a,D,fs,x,rfl,h,hd,hl,q⟩
theorem aM{a k D:Nat}{fs:List (Nat×AV)}{x:AV}{Q:AH->Prop}(h:H a=some (.inst D fs))(hd:T.data D k=true)(hl:fs.length<=20)(hx:x≠.oth)(q:Q (H.put a (.inst D (xq k x fs)))):sR T H (.ref a) k x Q:=by
 exact⟨a,D,fs,rfl,h,hd,hl,hx,q⟩
theorem dQ{a:Nat}{k:Int}{vs:List AV}{x:AV}{Q:AV->Prop}(h:H a=some (.list vs))(h0:tN k)(hx:vs[k.toNat]?=some x)(q:Q x):j0 T H (.ref a) (.int k) Q:=by
 exact .i1 a k vs x rfl rfl (.inl h) (.inl ⟨h0,hx⟩) q
theorem aC{H₁:AH}{a D k f:Nat}{fs:List (Nat×AV)}{args:(List AV->AH->Prop)->Prop}(h:H₁ a=some (.inst D fs))(hk:pF k fs=none)(hf:T.meth D k=some f)
 (q:args λvs H₂=>C f (.ref a::vs) H₂ Q):eT T C H₁ (.ref a) k args Q:=by
 exact .i1 a D fs f rfl h hk hf q
end
noncomputable abbrev ar:List Nat:=[110,97,109,101]
noncomputable abbrev bp:List Nat:=[115,105,103,110]
noncomputable abbrev b7:List Nat:=[110,117,109,98,101,114]
noncomputable abbrev da:List Nat:=[116,101,120,116]
noncomputable abbrev eH:List Nat:=[101,110,100]
structure Tok where
 k:List Nat
 t:List Nat
 v:AV
 deriving DecidableEq
noncomputable def aA(s:List Nat)(w:Tok):Bool:=decide (w.k=ar)&&decide (w.t=s)
noncomputable def aE(s:List Nat)(w:Tok):Bool:=decide (w.k=bp)&&decide (w.t=s)
noncomputable def hdP(X:Prop):Nat->Option gn:=λf=>match Nat.beq f 1274 with
 | true=>some (jA X mU iM)
 | false=>none
noncomputable def iK(a:Nat):List (List Nat):=match(az True).stat a with
 | some (.tStrs l)=>l
 | _=>[]
noncomputable def xk:List (List Nat):=iK 787
noncomputable def CK:List (List Nat):=iK 788
noncomputable def bN(w:Tok):Bool:=decide (w.k=ar)&&!decide (w.t∈xk)
noncomputable def dU(w:Tok):Bool:=bN w&&!decide (w.t∈CK)
section
variable {T:aT} {C:CS} {H:AH}
theorem aK{s:List Nat}{a:Nat}{l:List (List Nat)}{Q:Bool->Prop}(h:T.stat a=some (.tStrs l))(q:Q (decide (s∈l))):AN T H (.str s) (.ref a) Q:=by
 exact .i3 s a l rfl rfl h q
end
noncomputable def bk(H:AH)(r:Nat)(w:Tok):Prop:=∃ p,H r=some (.inst 852 [(40,.str w.k),(57,.str w.t),(9,w.v),(12,.int p)])
section
variable {cm:Prop} {X:Prop} {H:AH} {Q:au} {n r:Nat} {s:List Nat} {w:Tok}
theorem eh(hw:bk H r w)(q:Q (.bool (aA s w)) H):bC (az cm) bY (hdP X) (n+1) 828 [.ref r,.str s] H Q:=by
 refine hw.elim λp hr=>?_
 refine ae rfl rfl rfl (by simp) ?_
 ((conv=>whnf);repeat (first|(refine aa (by assumption) rfl rfl ?_;conv=>whnf)|(refine aK rfl ?_;conv=>whnf)))
 unfold aA at q
 match h:decide (w.k=ar) with
 | true=>rw[h] at q;((conv=>whnf);repeat (first|(refine aa (by assumption) rfl rfl ?_;conv=>whnf)|(refine aK rfl ?_;conv=>whnf)));exact q
 | false=>rw[h] at q;exact q
theorem fA(hw:bk H r w)(q:Q (.bool (aE s w)) H):bC (az cm) bY (hdP X) (n+1) 821 [.ref r,.str s] H Q:=by
 refine hw.elim λp hr=>?_
 refine ae rfl rfl rfl (by simp) ?_
 ((conv=>whnf);repeat (first|(refine aa (by assumption) rfl rfl ?_;conv=>whnf)|(refine aK rfl ?_;conv=>whnf)))
 unfold aE at q
 match h:decide (w.k=bp) with
 | true=>rw[h] at q;((conv=>whnf);repeat (first|(refine aa (by assumption) rfl rfl ?_;conv=>whnf)|(refine aK rfl ?_;conv=>whnf)));exact q
 | false=>rw[h] at q;exact q
theorem jy(hw:bk H r w)(q:Q (.bool (bN w)) H):bC (az cm) bY (hdP X) (n+1) 835 [.ref r] H Q:=by
 refine hw.elim λp hr=>?_
 refine ae rfl rfl rfl (by simp) ?_
 ((conv=>whnf);repeat (first|(refine aa (by assumption) rfl rfl ?_;conv=>whnf)|(refine aK rfl ?_;conv=>whnf)))
 unfold bN at q
 match h:decide (w.k=ar) with
 | true=>rw[h] at q;((conv=>whnf);repeat (first|(refine aa (by assumption) rfl rfl ?_;conv=>whnf)|(refine aK rfl ?_;conv=>whnf)));exact q
 | false=>rw[h] at q;exact q
theorem qH(hw:bk H r w)(q:Q (.bool (dU w)) H):bC (az cm) bY (hdP X) (n+2) 842 [.ref r] H Q:=by
 refine(id hw).elim λp hr=>?_
 refine ae rfl rfl rfl (by simp) ?_
 conv=>whnf
 refine aC hr rfl rfl ?_
 refine jy hw ?_
 unfold dU at q
 match h:bN w with
 | true=>rw[h] at q;((conv=>whnf);repeat (first|(refine aa (by assumption) rfl rfl ?_;conv=>whnf)|(refine aK rfl ?_;conv=>whnf)));exact q
 | false=>rw[h] at q;exact q
end
section
variable {T:aT} {C:CS} {H:AH}
theorem rj{a:Nat}{vs:List AV}{Q:Nat->Prop}(h:H a=some (.list vs))(hl:vs.length<=ah)(q:Q vs.length):lv T H (.ref a) Q:=by
 exact .i2 a vs rfl hl (.inl h) q
end
structure dM where
 st:Nat
 wl:Nat
 rd:Nat
 er:Nat
 toks:List Tok
 refs:List Nat
 txt:List Nat
 mu:List Nat
noncomputable def rz(e:dM)(i d:Nat):AO:=.inst 1361 [(57,.str e.txt),(113,.ref e.wl),(112,.int i),(11,.int d)]
noncomputable def AO.noTup:AO->Prop
 | .tup _=>False
 | _=>True
noncomputable def bW(M:List Nat)(H:AH):Prop:=∀ a∈M,∃ o,H a=some o/\o.noTup
theorem bW.fresh{M:List Nat}{H:AH}(m:bW M H){a:Nat}(h:H a=none):a ∉ M:=λz=>by
 obtain⟨o,e,_⟩:=m a z
 rw[h] at e;cases e
structure PS(e:dM)(H:AH)(i d:Nat):Prop where
 st:H e.st=some (rz e i d)
 wl:H e.wl=some (.list (e.refs.map .ref))
 rd:H e.rd=some (.inst 1228 [(87,.ref e.st),(77,.ref e.er)])
 er:H e.er=some (.inst 1095 [(87,.ref e.st),(86,.ref e.rd)])
 len:e.refs.length=e.toks.length
 lt:i<e.toks.length
 small:e.toks.length<=1000000
 words:∀ (j:Nat) (w:Tok),e.toks[j]?=some w->∃ r,e.refs[j]?=some r/\bk H r w
 ends:∀ (j:Nat) (w:Tok),e.toks[j]?=some w->w.k≠eH->j+1<e.toks.length
 vals:∀ (j:Nat) (w:Tok),e.toks[j]?=some w->w.v=.none\/(∃ i,w.v=.int i)\/∃ s,w.v=.str s
 mem:e.st∈e.mu
 mok:bW e.mu H
noncomputable def ai(M:List Nat)(H H':AH):Prop:=∀ a o,a ∉ M->H a=some o->H' a=some o
theorem ai.refl(M:List Nat)(H:AH):ai M H H:=λ_ _ _ h=>h
theorem ai.trans{M:List Nat}{H H' H'':AH}(a:ai M H H')(b:ai M H' H''):ai M H H'':=λc o n h=>b c o n (a c o n h)
theorem ai.put{M:List Nat}{H:AH}{a:Nat}{o:AO}(h:a∈M):ai M H (H.put a o):=λb o' n hb=>by
 refine ac (put_ne' λz=>by rw[z] at n;exact n h) ?_;exact hb
 where put_ne' {H:AH} {a b:Nat} {o:AO} (h:b≠a):H.put a o b=H b:=by unfold AH.put;exact ac (if_neg h) rfl
theorem ai.sub{M M':List Nat}{H H':AH}(s:∀ a∈M,a∈M')(k:ai M H H'):ai M' H H':=λa o n h=>k a o (λz=>n (s a z)) h
theorem af{H:AH}{a:Nat}{o:AO} : H.put a o a=some o:=by unfold AH.put;exact ac (if_pos rfl) rfl
theorem aO{H:AH}{a b:Nat}{o:AO}(h:b≠a):H.put a o b=H b:=by unfold AH.put;rw[if_neg h]
theorem ai.new{M:List Nat}{a:Nat}{H:AH}{o:AO}(h:H a=none):ai M H (H.put a o):=λb o' _ hb=>by
 refine ac (aO (λe=>by rw[e,h] at hb;exact fI hb)) ?_;exact hb
theorem lT{a b:Nat}(h:a≠b):a ∉ [b]:=λz=>h (List.mem_singleton.mp z)
theorem PS.wneq{e:dM}{H:AH}{i d:Nat}(P:PS e H i d){r:Nat}{w:Tok}(hw:bk H r w):r≠e.st:=λz=>by
 refine hw.elim λp h=>?_
 rw[z,P.st] at h
 simp[rz] at h
theorem bk.keep{st:Nat}{H H':AH}{r:Nat}{w:Tok}(h:bk H r w)(n:r≠st)(k:ai [st] H H'):bk H' r w:=let ⟨p,e⟩:=h;⟨p,k _ _ (lT n) e⟩
theorem PS.step{e:dM}{H H':AH}{i d i' d':Nat}(P:PS e H i d)(k:ai [e.st] H H')(h:H' e.st=some (rz e i' d'))(hl:i'<e.toks.length):PS e H' i' d' where
 st:=h
 wl:=k _ _ (lT λz=>by have:=P.wl;rw[z,P.st] at this;simp[rz] at this) P.wl
 rd:=k _ _ (lT λz=>by have:=P.rd;rw[z,P.st] at this;simp[rz] at this) P.rd
 er:=k _ _ (lT λz=>by have:=P.er;rw[z,P.st] at this;simp[rz] at this) P.er
 len:=P.len
 lt:=hl
 small:=P.small
 words:=λj w hj=>let ⟨r,h1,h2⟩:=P.words j w hj;⟨r,h1,h2.keep (P.wneq h2) k⟩
 ends:=P.ends
 vals:=P.vals
 mem:=P.mem
 mok:=λa ha=>by
  by_cases z:a=e.st
  ·exact⟨rz e i' d',by refine ac z ?_;exact h,trivial⟩
  ·refine cG (P.mok a ha) λo h1 h2=>?_
   exact⟨o,k _ _ (lT z) h1,h2⟩
theorem ai.put1{a:Nat}{H:AH}{o:AO} : ai [a] H (H.put a o):=ai.put (.head _)
theorem PS.same{e:dM}{H H':AH}{i d:Nat}(P:PS e H i d)(k:ai [e.st] H H')(h:H' e.st=H e.st):PS e H' i d:=P.step k (h.trans P.st) P.lt
theorem PS.new{e:dM}{H:AH}{i d a:Nat}(P:PS e H i d){o:AO}(h:H a=none):PS e (H.put a o) i d:=
 P.same (ai.new h) (aO λz=>by rw[← z,P.st] at h;exact uU h)
section
variable {cm:Prop} {X:Prop} {e:dM} {H:AH} {Q:au} {n i d:Nat} {s:List Nat} {w:Tok}
theorem PS.at_(P:PS e H i d)(hw:e.toks[i]?=some w):∃ r,(e.refs.map AV.ref)[(i:Int).toNat]?=some (.ref r)/\bk H r w:=by
 refine cG (P.words i w hw) λr h1 h2=>?_
 refine⟨r,?_,h2⟩
 refine ac (show(i:Int).toNat=i from by omega) (ac (List.getElem?_map) (ac h1 ?_))
 rfl
theorem PS.ok(P:PS e H i d):tN (i:Int):=⟨Int.natCast_nonneg _,by have:=P.lt;have:=P.small;omega⟩
theorem yO(P:PS e H i d)(hw:e.toks[i]?=some w)(q:∀ r,bk H r w->Q (.ref r) H):bC (az cm) bY (hdP X) (n+1) 1253 [.ref e.st] H Q:=by
 refine cG (P.at_ hw) λr hr hwr=>?_
 have h1:=P.st;have h2:=P.wl
 refine ae rfl rfl rfl (by simp) ?_
 ((conv=>whnf);repeat (first|(refine aa (by assumption) rfl rfl ?_;conv=>whnf)|(refine aK rfl ?_;conv=>whnf)))
 refine dQ h2 P.ok hr ?_
 exact q r hwr
theorem pR(P:PS e H i d)(hw:e.toks[i]?=some w)(q1:aA s w=true->∀ H',ai [e.st] H H'->PS e H' (i+1) d->Q (.bool true) H')(q0:aA s w=false->Q (.bool false) H) :
 bC (az cm) bY (hdP X) (n+2) 1316 [.ref e.st,.str s] H Q:=by
 refine cG (P.at_ hw) λr hr hwr=>?_
 refine(id hwr).elim λp hrr=>?_
 have h1:=P.st;have h2:=P.wl
 refine ae rfl rfl rfl (by simp) ?_
 ((conv=>whnf);repeat (first|(refine aa (by assumption) rfl rfl ?_;conv=>whnf)|(refine aK rfl ?_;conv=>whnf)))
 refine dQ h2 P.ok hr ?_
 conv=>whnf
 refine aC hrr rfl rfl ?_
 refine eh hwr ?_
 induction h:aA s w with
 | false=>exact q0 h
 | true=>
  ((conv=>whnf);repeat (first|(refine aa (by assumption) rfl rfl ?_;conv=>whnf)|(refine aK rfl ?_;conv=>whnf)))
  refine aM h1 rfl (Nat.le_of_ble_eq_true rfl) (λz=>nomatch z) ?_
  have hk:w.k≠eH:=by
   unfold aA at h
   simp only[Bool.and_eq_true,decide_eq_true_eq] at h
   refine h.1.symm ▸ ?_;decide
  exact q1 h _ ai.put1 (P.step ai.put1 af (P.ends i w hw hk))
theorem jL(P:PS e H i d)(hw:e.toks[i]?=some w)(q1:aE s w=true->∀ H',ai [e.st] H H'->PS e H' (i+1) d->Q (.bool true) H')(q0:aE s w=false->Q (.bool false) H) :
 bC (az cm) bY (hdP X) (n+2) 1323 [.ref e.st,.str s] H Q:=by
 refine cG (P.at_ hw) λr hr hwr=>?_
 refine(id hwr).elim λp hrr=>?_
 have h1:=P.st;have h2:=P.wl
 refine ae rfl rfl rfl (by simp) ?_
 ((conv=>whnf);repeat (first|(refine aa (by assumption) rfl rfl ?_;conv=>whnf)|(refine aK rfl ?_;conv=>whnf)))
 refine dQ h2 P.ok hr ?_
 conv=>whnf
 refine aC hrr rfl rfl ?_
 refine fA hwr ?_
 match h:aE s w with
 | false=>exact q0 h
 | true=>
  ((conv=>whnf);repeat (first|(refine aa (by assumption) rfl rfl ?_;conv=>whnf)|(refine aK rfl ?_;conv=>whnf)))
  refine aM h1 rfl (Nat.le_of_ble_eq_true rfl) (λz=>nomatch z) ?_
  have hk:w.k≠eH:=by
   unfold aE at h
   simp only[Bool.and_eq_true,decide_eq_true_eq] at h
   refine ac h.1 ?_;decide
  exact q1 h _ ai.put1 (P.step ai.put1 af (P.ends i w hw hk))
theorem Pv(P:PS e H i d)(hw:e.toks[i]?=some w)(hk:w.k≠eH)(q:∀ r H',bk H' r w->ai [e.st] H H'->PS e H' (i+1) d->Q (.ref r) H'):bC (az cm) bY (hdP X) (n+1) 1267 [.ref e.st] H Q:=by
 refine cG (P.at_ hw) λr hr hwr=>?_
 obtain⟨p,hrr⟩:=id hwr
 have h1:=P.st;have h2:=P.wl
 refine ae rfl rfl rfl (by simp) ?_
 ((conv=>whnf);repeat (first|(refine aa (by assumption) rfl rfl ?_;conv=>whnf)|(refine aK rfl ?_;conv=>whnf)))
 refine dQ h2 P.ok hr ?_
 ((conv=>whnf);repeat (first|(refine aa (by assumption) rfl rfl ?_;conv=>whnf)|(refine aK rfl ?_;conv=>whnf)))
 have:decide (w.k=[101,110,100])=false:=decide_eq_false hk
 refine this.symm ▸ ?_
 ((conv=>whnf);repeat (first|(refine aa (by assumption) rfl rfl ?_;conv=>whnf)|(refine aK rfl ?_;conv=>whnf)))
 refine aM h1 rfl (Nat.le_of_ble_eq_true rfl) (λz=>nomatch z) ?_
 exact q r _ (hwr.keep (P.wneq hwr) ai.put1) ai.put1 (P.step ai.put1 af (P.ends i w hw hk))
theorem Oe(P:PS e H i d)(hw:e.toks[i]?=some w)(hk:w.k=eH)(q:∀ r,bk H r w->Q (.ref r) H):bC (az cm) bY (hdP X) (n+1) 1267 [.ref e.st] H Q:=by
 obtain⟨r,hr,hwr⟩:=P.at_ hw
 obtain⟨p,hrr⟩:=id hwr
 have h1:=P.st;have h2:=P.wl
 refine ae rfl rfl rfl (by simp) ?_
 ((conv=>whnf);repeat (first|(refine aa (by assumption) rfl rfl ?_;conv=>whnf)|(refine aK rfl ?_;conv=>whnf)))
 refine dQ h2 P.ok hr ?_
 ((conv=>whnf);repeat (first|(refine aa (by assumption) rfl rfl ?_;conv=>whnf)|(refine aK rfl ?_;conv=>whnf)))
 have:decide (w.k=[101,110,100])=true:=decide_eq_true hk
 refine ac this ?_
 exact q r hwr
theorem KK(P:PS e H i d)(hw:e.toks[i]?=some w)(q:Q (.bool (decide (w.k=eH))) H):bC (az cm) bY (hdP X) (n+1) 1281 [.ref e.st] H Q:=by
 refine cG (P.at_ hw) λr hr hwr=>?_
 refine a7 λGg fin_=>?_
 refine(id hwr).elim λp hrr=>?_
 have h1:=P.st;have h2:=P.wl
 refine fin_ ?_
 refine ae rfl rfl rfl (by simp) ?_
 ((conv=>whnf);repeat (first|(refine aa (by assumption) rfl rfl ?_;conv=>whnf)|(refine aK rfl ?_;conv=>whnf)))
 refine dQ h2 P.ok hr ?_
 ((conv=>whnf);repeat (first|(refine aa (by assumption) rfl rfl ?_;conv=>whnf)|(refine aK rfl ?_;conv=>whnf)))
 exact q
theorem gq(P:PS e H i d)(hw:e.toks[i]?=some w)(q:Q (.bool (aA s w)) H):bC (az cm) bY (hdP X) (n+2) 1288 [.ref e.st,.str s] H Q:=by
 refine cG (P.at_ hw) λr hr hwr=>?_
 obtain⟨p,hrr⟩:=id hwr
 have h1:=P.st;have h2:=P.wl
 refine ae rfl rfl rfl (by simp) ?_
 ((conv=>whnf);repeat (first|(refine aa (by assumption) rfl rfl ?_;conv=>whnf)|(refine aK rfl ?_;conv=>whnf)))
 refine dQ h2 P.ok hr ?_
 conv=>whnf
 refine aC hrr rfl rfl ?_
 exact eh hwr q
theorem mv(P:PS e H i d)(hw:e.toks[i]?=some w)(q:Q (.bool (aE s w)) H):bC (az cm) bY (hdP X) (n+2) 1295 [.ref e.st,.str s] H Q:=by
 refine cG (P.at_ hw) λr hr hwr=>?_
 refine(id hwr).elim λp hrr=>?_
 have h1:=P.st;have h2:=P.wl
 refine ae rfl rfl rfl (by simp) ?_
 ((conv=>whnf);repeat (first|(refine aa (by assumption) rfl rfl ?_;conv=>whnf)|(refine aK rfl ?_;conv=>whnf)))
 refine dQ h2 P.ok hr ?_
 conv=>whnf
 refine aC hrr rfl rfl ?_
 exact fA hwr q
noncomputable def aW:List Nat:=[83,69,76,69,67,84]
noncomputable def bM:List Nat:=[86,65,76,85,69,83]
theorem oU(P:PS e H i d)(hw:e.toks[i]?=some w)(q:Q (.bool (aA aW w||aA bM w)) H):bC (az cm) bY (hdP X) (n+3) 1309 [.ref e.st] H Q:=by
 have h1:=P.st
 refine ae rfl rfl rfl (by simp) ?_
 conv=>whnf
 refine aC h1 rfl rfl ?_
 refine gq (s:=aW) P hw ?_
 induction h:aA aW w with
 | true=>rw[h] at q;exact q
 | false=>
  rw[h] at q
  conv=>whnf
  refine aC h1 rfl rfl ?_
  exact gq (s:=bM) P hw q
noncomputable def dM.on(e:dM)(i k:Nat):Option Tok:=e.toks[min (i+k) (e.toks.length-1)]?
theorem Dq{k:Nat}(P:PS e H i d)(hw:e.on i k=some w)(q:∀ r,bk H r w->Q (.ref r) H):bC (az cm) bY (hdP X) (n+1) 1260 [.ref e.st,.int k] H Q:=by
 refine cG (P.words _ w hw) λr h hwr=>?_
 have h1:=P.st;have h2:=P.wl
 have hlen:(e.refs.map AV.ref).length=e.toks.length:=by exact ac (List.length_map ..) (ac (P.len ..) rfl)
 have hpos:=P.lt
 have hsm:=P.small
 refine ae rfl rfl rfl (by simp) ?_
 ((conv=>whnf);repeat (first|(refine aa (by assumption) rfl rfl ?_;conv=>whnf)|(refine aK rfl ?_;conv=>whnf)))
 refine rj h2 (by refine hlen.symm ▸ ?_;exact hsm) ?_
 conv=>whnf
 refine ac hlen ?_
 have e1:(min ((i:Int)+(k:Int)) (((e.toks.length:Nat):Int)-1)).toNat=min (i+k) (e.toks.length-1):=by omega
 refine dQ h2 ⟨by omega,by omega⟩ (x:=.ref r) ?_ ?_
 ·refine ac e1 (ac (List.getElem?_map) (ac h ?_));rfl
 ·exact q r hwr
theorem zd(P:PS e H i d)(hd:d+1<=50)(q:∀ H',ai [e.st] H H'->PS e H' i (d+1)->Q .none H'):bC (az cm) bY (hdP X) (n+1) 1351 [.ref e.st] H Q:=by
 have h1:=P.st
 refine ae rfl rfl rfl (by simp) ?_
 ((conv=>whnf);repeat (first|(refine aa (by assumption) rfl rfl ?_;conv=>whnf)|(refine aK rfl ?_;conv=>whnf)))
 refine aM h1 rfl (Nat.le_of_ble_eq_true rfl) (λz=>nomatch z) ?_
 have h3:(H.put e.st (rz e i (d+1))) e.st=some (rz e i (d+1)):=af
 conv=>whnf
 refine aa h3 rfl rfl ?_
 conv=>whnf
 have:decide ((((d+1:Nat)):Int)>50)=false:=decide_eq_false (by omega)
 refine this.symm ▸ ?_
 exact q _ ai.put1 (P.step ai.put1 h3 P.lt)
theorem yN(P:PS e H i (d+1))(q:∀ H',ai [e.st] H H'->PS e H' i d->Q .none H'):bC (az cm) bY (hdP X) (n+1) 1358 [.ref e.st] H Q:=by
 have h1:=P.st
 refine ae rfl rfl rfl (by simp) ?_
 ((conv=>whnf);repeat (first|(refine aa (by assumption) rfl rfl ?_;conv=>whnf)|(refine aK rfl ?_;conv=>whnf)))
 refine aM h1 rfl (Nat.le_of_ble_eq_true rfl) (λz=>nomatch z) ?_
 have e1:(((d+1:Nat)):Int)-1=((d:Nat):Int):=by omega
 exact q _ ai.put1 (P.step ai.put1 (af.trans (by refine ac e1 ?_;rfl)) P.lt)
theorem xm(P:PS e H i d)(hw:e.toks[i]?=some w)(hX:X):bC (az cm) bY (hdP X) (n+2) 1274 [.ref e.st,.str s] H Q:=by
 refine ac (fX ..) ?_
 refine⟨hX,rfl,?_⟩
 conv=>whnf
 refine aC P.st rfl rfl ?_
 refine yO P hw λr hr=>?_
 refine hr.elim λp hrr=>?_
 conv=>whnf
 refine aa hrr rfl rfl ?_
 trivial
end
theorem DT.dep_mem{d:DT} : ∀ {l:List DT},d∈l->d.dep<=DT.depL l
 | x::r,h=>by
  unfold DT.depL
  rcases List.mem_cons.mp h with rfl|h
  ·lia
  ·have:=DT.dep_mem h;lia
noncomputable def aR(H H':AH):Prop:=∀ a o,H a=some o->H' a=some o
theorem aR.refl(H:AH):aR H H:=λ_ _ h=>h
theorem aR.trans{H H' H'':AH}(a:aR H H')(b:aR H' H''):aR H H'':=λc o h=>b c o (a c o h)
theorem aR.new{a:Nat}{H:AH}{o:AO}(h:H a=none):aR H (H.put a o):=λb o' hb=>by
 refine ac (aO (λe=>by rw[e,h] at hb;exact fI hb)) ?_;exact hb
theorem aR.keep{st:List Nat}{H H':AH}(e:aR H H'):ai st H H':=λa o _ h=>e a o h
theorem bS.ext{H H':AH}(e:aR H H'){v d}(h:bS H v d):bS H' v d:=
 bS.rec (motive_1:=λv d _=>bS H' v d) (motive_2:=λv d _=>Dats H' v d) .none .bool .int .str (λha _ ih=>.tup (e _ _ ha) ih) .nil (λ_ _ a b=>.cons a b) h
theorem Dats.ext{H H':AH}(e:aR H H'){v d}(h:Dats H v d):Dats H' v d:=
 Dats.rec (motive_1:=λv d _=>bS H' v d) (motive_2:=λv d _=>Dats H' v d) .none .bool .int .str (λha _ ih=>.tup (e _ _ ha) ih) .nil (λ_ _ a b=>.cons a b) h
theorem bS.keep{st:List Nat}{H H':AH}(hs:bW st H)(e:ai st H H'):∀ {v d},bS H v d->bS H' v d:=by
 intro v d h
 refine bS.rec (motive_1:=λv d _=>bS H' v d) (motive_2:=λv d _=>Dats H' v d) .none .bool .int .str (λ{a vs ds} ha _ ih=>.tup (e a _ (λz=>by obtain⟨o,h1,h2⟩:=hs a z;rw[ha] at h1;obtain rfl:=Option.some.inj h1;exact h2) ha) ih) .nil (λ_ _ a b=>.cons a b) h
theorem bS.ne{H:AH}{v:AV}{d:DT}(h:bS H v d):v≠.oth:=by cases h<;>exact λz=>nomatch z
noncomputable def Od:Nat->Option gn:=λf=>match Nat.beq f 1469 with
 | true=>some (kP bY hdP 200 mT tryIS.1 tryIS.2)
 | false=>none
noncomputable abbrev CL(n:Nat):CS:=bC (az True) bY Od n
inductive bB(st:List Nat)(H:AH)(v:AV)(d:DT):Prop
 | mk (a C:Nat) (fs:List (Nat×AV)) (f:Nat) (e:v=.ref a) (ne:a ∉ st) (ha:H a=some (.inst C fs)) (hl:pF 8 fs=none) (hm:(az True).meth C 8=some f)
  (sp:∀ H',ai st H H'->∀ n,3*d.dep+3<=n->∀ Q:au,(∀ H'' v',aR H' H''->bS H'' v' d->Q v' H'')->CL n f [.ref a] H' Q):bB st H v d
theorem bB.keep{st:List Nat}{H H':AH}{v:AV}{d:DT}(h:bB st H v d)(k:ai st H H'):bB st H' v d:=by
 obtain⟨a,C,fs,f,e,ne,ha,hl,hm,sp⟩:=h
 exact⟨a,C,fs,f,e,ne,k _ _ ne ha,hl,hm,λH'' k'=>sp H'' (k.trans k')⟩
theorem bB.ne{st:List Nat}{H:AH}{v:AV}{d:DT}(h:bB st H v d):v≠.oth:=by obtain⟨a,C,fs,f,rfl,_⟩:=h;exact λz=>nomatch z
theorem bB.call{st:List Nat}{H:AH}{v:AV}{d:DT}(h:bB st H v d){n:Nat}(hn:3*d.dep+3<=n){Q:au}(q:∀ H'' v',aR H H''->bS H'' v' d->Q v' H'') :
 eT (az True) (CL n) H v 8 (λK=>K [] H) Q:=by
 refine a7 λGg fin_=>?_
 obtain⟨a,C,fs,f,rfl,ne,ha,hl,hm,sp⟩:=h
 refine fin_ ?_
 exact aC ha hl hm (sp H (.refl _ _) n hn Q q)
noncomputable def dR(st:List Nat)(H:AH)(v:AV)(d:DT):Prop:=(v=.none/\d=.none)\/bB st H v d
theorem dR.keep{st:List Nat}{H H':AH}{v:AV}{d:DT}(h:dR st H v d)(k:ai st H H'):dR st H' v d:=h.imp id λh=>h.keep k
theorem dR.ne{st:List Nat}{H:AH}{v:AV}{d:DT}(h:dR st H v d):v≠.oth:=by
 rcases h with⟨rfl,_⟩|h
 ·exact λz=>nomatch z
 ·exact h.ne
inductive cY(st:List Nat)(H:AH):List AV->List DT->Prop
 | nil:cY st H [] []
 | cons {v vs d ds} : bB st H v d->cY st H vs ds->cY st H (v::vs) (d::ds)
theorem cY.keep{st:List Nat}{H H':AH}(k:ai st H H') {vs ds}(h:cY st H vs ds):cY st H' vs ds:=by
 induction h with
 | nil=>exact .nil
 | cons h _ ih=>exact .cons (h.keep k) ih
theorem cY.len{st:List Nat}{H:AH}{vs ds}(h:cY st H vs ds):vs.length=ds.length:=by
 induction h with
 | nil=>rfl
 | cons _ _ ih=>exact congrArg (· + 1) ih
theorem cY.app{st:List Nat}{H:AH}{v:AV}{d:DT}(h:bB st H v d){vs ds}(r:cY st H vs ds):cY st H (vs++[v]) (ds++[d]):=by
 induction r with
 | nil=>exact .cons h .nil
 | cons a _ ih=>exact .cons a ih
inductive cw(st:List Nat)(H:AH)(v:AV)(ds:List DT):Prop
 | mk (a:Nat) (vs:List AV) (e:v=.ref a) (ne:a ∉ st) (ha:H a=some (.list vs)) (hl:vs.length<=1000) (r:cY st H vs ds):cw st H v ds
theorem cw.keep{st:List Nat}{H H':AH}{v:AV}{ds:List DT}(h:cw st H v ds)(k:ai st H H'):cw st H' v ds:=by
 obtain⟨a,vs,e,ne,ha,hl,r⟩:=h
 exact⟨a,vs,e,ne,k _ _ ne ha,hl,r.keep k⟩
theorem cw.ne{st:List Nat}{H:AH}{v:AV}{ds:List DT}(h:cw st H v ds):v≠.oth:=by obtain⟨a,vs,rfl,_⟩:=h;exact λz=>nomatch z
theorem aw{H:AH}{o:AO}{Q:Nat->AH->Prop}(q:∀ a,H a=none->Q a (H.put a o)):dm H o Q:=by unfold dm;exact q
theorem fC{H:AH}{a:Nat}{vs:List AV}{Q:Nat->List AV->Prop}(h:H a=some (.list vs))(hl:vs.length<=ah)(q:Q a vs):rk H (.ref a) Q:=by
 exact⟨a,vs,rfl,h,hl,q⟩
theorem gK{H:AH}{a:Nat}{vs:List AV}{Q:AV->AH->Prop}(h:H a=some (.list vs))(hl:vs.length<=ah)(q:∀ b,H b=none->Q (.ref b) (H.put b (.tup vs))):jG H (.ref a) Q:=by
 exact⟨a,vs,rfl,h,hl,aw q⟩
theorem dk{l:List DT}{d:DT}(h:d∈l):d.dep+1<=(DT.tup l).dep:=by
 have:=DT.dep_mem h
 show d.dep+1<=DT.depL l+1
 lia
theorem ec{st:List Nat}{n:Nat}{H:AH}{v:AV}{d:DT}(h:dR st H v d)(hn:3*d.dep+4<=n){Q:au}(q:∀ H'' v',aR H H''->bS H'' v' d->Q v' H''):CL n 28 [v] H Q:=by
 obtain⟨n,rfl⟩:∃ k,n=k+1:=⟨n-1,aG hn rfl⟩
 refine ae rfl rfl rfl (by simpa using h.ne) ?_
 rcases h with⟨rfl,rfl⟩|h
 ·conv=>whnf
  exact q _ _ (.refl _) .none
 ·refine a7 λGg fin_=>?_
  obtain⟨a,C,fs,f,rfl,ne,ha,hl,hm,sp⟩:=id h
  refine fin_ ?_
  conv=>whnf
  exact h.call (KI hn rfl) q
theorem Dats.app{H:AH}{v:AV}{d:DT}(h:bS H v d){vs ds}(r:Dats H vs ds):Dats H (vs++[v]) (ds++[d]):=
 Dats.rec (motive_1:=λ_ _ _=>True) (motive_2:=λvs ds _=>Dats H (vs++[v]) (ds++[d])) trivial trivial trivial trivial (λ_ _ _=>trivial) (.cons h .nil) (λa _ _ ih=>.cons a ih) r
theorem Dats.len{H:AH}{vs ds}(r:Dats H vs ds):vs.length=ds.length:=
 Dats.rec (motive_1:=λ_ _ _=>True) (motive_2:=λvs ds _=>vs.length=ds.length) trivial trivial trivial trivial (λ_ _ _=>trivial) rfl (λ_ _ _ ih=>congrArg (· + 1) ih) r
theorem lF{ok:AH->Prop}{turn:AV->AH->(Option AV->AH->Prop)->Prop}{G:AH->AV->DT->Prop}(gk:∀ {H H':AH} {v:AV} {d:DT},aR H H'->G H v d->G H' v d)
 {Q:List AV->AH->Prop} : ∀ (xs:List AV) (ds:List DT) (H:AH) (acc:List AV) (accd:List DT),(∀ H',aR H H'->ok H')->
 (∀ x d,d∈ds->∀ H' K,aR H H'->G H' x d->(∀ H'' y,aR H' H''->bS H'' y d->K (some y) H'')->turn x H' K)->
 (xs.length=ds.length/\∀ (i:Nat) (x:AV) (d:DT),xs[i]?=some x->ds[i]?=some d->G H x d)->Dats H acc accd->acc.length+xs.length<=ah->(∀ H' ws,aR H H'->Dats H' ws (accd++ds)->Q ws H')->eJ ok turn xs H acc Q:=by
 intro z_
 induction z_ with
 | nil=>
  intro ds H acc accd hok ht hg ha hl q
  obtain rfl:ds=[]:=by induction ds with|nil=>rfl|cons _ _=>exact absurd hg.1 (by simp)
  exact⟨hok _ (.refl _),by simpa using hl,q H acc (.refl _) (by simpa using ha)⟩
 | cons x xs ihz=>
  intro ds H acc accd hok ht hg ha hl q
  induction ds with
  | nil=>exact absurd hg.1 (by simp)
  | cons d ds=>
   refine⟨hok _ (.refl _),by simp at hl;lia,ht x d (.head _) H _ (.refl _) (hg.2 0 x d rfl rfl) λH'' y e dy=>⟨dy.ne,?_⟩⟩
   have hg2:xs.length=ds.length/\∀ (i:Nat) (x':AV) (d':DT),xs[i]?=some x'->ds[i]?=some d'->G H'' x' d':=
    ⟨by have:=hg.1;simpa using this,λi x' d' h1 h2=>gk e (hg.2 (i+1) x' d' (by simpa using h1) (by simpa using h2))⟩
   exact ihz ds H'' (acc++[y]) (accd++[d]) (λH' e'=>hok _ (e.trans e')) (λx' d' hd' H' K e'=>ht x' d' (.tail _ hd') H' K (e.trans e')) hg2 (Dats.app dy (ha.ext e)) (by simp at hl ⊢;lia) λH' ws e' hw=>q H' ws (e.trans e') (by simpa using hw)
theorem cY.at_{st:List Nat}{H:AH}{vs ds}(r:cY st H vs ds):∀ (i:Nat) x d,vs[i]?=some x->ds[i]?=some d->bB st H x d:=by
 induction r with
 | nil=>exact λi x d h _=>fI h
 | cons a _ ih=>exact λi x d h1 h2=>match i,h1,h2 with
  | 0,h1,h2=>Option.some.inj h1▸Option.some.inj h2▸a
  | i+1,h1,h2=>ih i x d h1 h2
theorem fm{st:List Nat}{n:Nat}{H:AH}{v:AV}{ds:List DT}(h:cw st H v ds)(hn:3*(DT.tup ds).dep+2<=n){Q:au}(q:∀ H'' v',aR H H''->bS H'' v' (.tup ds)->Q v' H''):CL n 33 [v] H Q:=by
 refine a7 λGg fin_=>?_
 obtain⟨n,rfl⟩:∃ k,n=k+1:=⟨n-1,aG hn rfl⟩
 obtain⟨a,vs,rfl,ne,ha,hl,hr⟩:=h
 refine fin_ ?_
 refine ae rfl rfl rfl (by simp) ?_
 conv=>whnf
 refine⟨trivial,?_⟩
 conv=>whnf
 refine fC ha (by unfold ah;exact iX hl rfl) ?_
 refine lF (G:=bB st) (λe h=>h.keep e.keep) vs ds H [] [] (λH' e=>e _ _ ha) (λx d hd H' K e g k=>?_) ⟨hr.len,hr.at_⟩ .nil (by unfold ah;simp;exact iX hl rfl) λH' ws e hw=>?_
 ·conv=>whnf
  refine ec (.inr g) (by have:=dk hd;lia) λH'' y e' dy=>?_
  exact k H'' y e' dy
 ·refine aw λb hb=>?_
  conv=>whnf
  have hlen:ws.length<=ah:=by refine(Dats.len hw).symm ▸ ?_;have:=hr.len;unfold ah;simp;lia
  refine gK af hlen λb2 hb2=>?_
  exact q _ _ ((e.trans (aR.new hb)).trans (aR.new hb2)) (.tup af ((hw.ext (aR.new hb)).ext (aR.new hb2)))
theorem bv{H:AH}{a:Nat}{o o':AO} : (H.put a o).put a o'=H.put a o':=by
 funext b;unfold AH.put;split<;>rfl
noncomputable abbrev CP(X:Prop)(n:Nat):CS:=bC (az False) bY (hdP X) n
structure lh(st:List Nat)(H:AH)(a:Nat)(o:AO)(H':AH):Prop where
 fresh:H a=none
 is:H'=H.put a o
 ne:a ∉ st
theorem lh.keep{st:List Nat}{H:AH}{a:Nat}{o:AO}{H':AH}(N:lh st H a o H'):ai st H H':=N.is▸ai.new N.fresh
theorem lh.ps{e:dM}{H:AH}{a:Nat}{o:AO}{H':AH}{i d:Nat}{M:List Nat}(N:lh M H a o H')(P:PS e H i d):PS e H' i d:=N.is▸P.new N.fresh
section
variable {X:Prop} {st:List Nat} {n:Nat} {H:AH} {Q:au}
theorem ay(hs:bW st H){a:Nat}(ha:H a=none):a ∉ st:=hs.fresh ha
noncomputable def eP:AV->DT
 | .none=>.tup [.str [108,105,116,101,114,97,108],.str [110,117,108,108],.none]
 | .int i=>.tup [.str [108,105,116,101,114,97,108],.str [105,110,116,101,103,101,114],.int i]
 | .str s=>.tup [.str [108,105,116,101,114,97,108],.str [116,101,120,116],.str s]
 | _=>.none
noncomputable def rT:AV->Bool
 | .none|.int _|.str _=>true
 | _=>false
theorem rM(hs:bW st H){v:AV}(hv:rT v=true)(q:∀ a H',lh st H a (.inst 90 [(9,v)]) H'->bB st H' (.ref a) (eP v)->Q (.ref a) H'):el (az False) (CP X (n+1)) 90 [v] H Q:=by
 have hvo:v≠.oth:=by intro z;rw[z] at hv;exfalso;cases hv
 refine⟨80,rfl,aw λa ha=>ae rfl rfl rfl (by simp[hvo]) ?_⟩
 (repeat ((conv=>whnf);refine aM af rfl (Nat.le_of_ble_eq_true rfl) (by first|assumption|exact λz=>nomatch z) ?_;rw[bv]))
 refine⟨rfl,q a _ ⟨ha,rfl,ay hs ha⟩ ⟨a,90,_,87,rfl,ay hs ha,af,rfl,rfl,λH' k m hm Q' q'=>?_⟩⟩
 refine a7 λGg fin_=>?_
 obtain⟨m,rfl⟩:∃ j,m=j+1:=⟨m-1,aG hm rfl⟩
 have ha':H' a=some (.inst 90 [(9,v)]):=k _ _ (ay hs ha) af
 refine fin_ ?_
 refine ae rfl rfl rfl (by simp) ?_
 ((conv=>whnf);repeat (first|(refine aa (by assumption) rfl rfl ?_;conv=>whnf)|(refine aK rfl ?_;conv=>whnf)))
 induction v with
 | none=>
  conv=>whnf
  refine aw λb hb=>q' _ _ (aR.new hb) (.tup af (.cons .str (.cons .str (.cons .none .nil))))
 | int i=>
  conv=>whnf
  refine aa ha' rfl rfl ?_
  conv=>whnf
  refine aa ha' rfl rfl ?_
  conv=>whnf
  refine aw λb hb=>q' _ _ (aR.new hb) (.tup af (.cons .str (.cons .str (.cons .int .nil))))
 | str s=>
  conv=>whnf
  refine aa ha' rfl rfl ?_
  conv=>whnf
  refine aa ha' rfl rfl ?_
  conv=>whnf
  refine aa ha' rfl rfl ?_
  conv=>whnf
  refine aw λb hb=>q' _ _ (aR.new hb) (.tup af (.cons .str (.cons .str (.cons .str .nil))))
 | _=>exfalso;cases hv
theorem oB(hs:bW st H){t c:AV}{td cd:DT}(ht:bS H t td)(hc:bS H c cd)
 (q:∀ a H',lh st H a (.inst 116 [(14,t),(10,c),(13,.none),(12,.none),(11,.int 0)]) H'->bB st H' (.ref a) (.tup [.str [110,97,109,101],td,cd])->Q (.ref a) H'):el (az False) (CP X (n+1)) 116 [t,c] H Q:=by
 have h1:=ht.ne;have h2:=hc.ne
 refine⟨106,rfl,aw λa ha=>ae rfl rfl rfl (by simp[h1,h2]) ?_⟩
 (repeat ((conv=>whnf);refine aM af rfl (Nat.le_of_ble_eq_true rfl) (by first|assumption|exact λz=>nomatch z) ?_;rw[bv]))
 refine⟨rfl,q a _ ⟨ha,rfl,ay hs ha⟩ ⟨a,116,_,113,rfl,ay hs ha,af,rfl,rfl,λH' k m hm Q' q'=>?_⟩⟩
 obtain⟨m,rfl⟩:∃ j,m=j+1:=⟨m-1,aG hm rfl⟩
 have ha':H' a=some (.inst 116 [(14,t),(10,c),(13,.none),(12,.none),(11,.int 0)]):=k _ _ (ay hs ha) af
 have kk:ai st H H':=(ai.new ha).trans k
 refine ae rfl rfl rfl (by simp) ?_
 ((conv=>whnf);repeat (first|(refine aa (by assumption) rfl rfl ?_;conv=>whnf)|(refine aK rfl ?_;conv=>whnf)))
 refine aw λb hb=>q' _ _ (aR.new hb) (.tup af (.cons .str (.cons ((ht.keep hs kk).ext (aR.new hb)) (.cons ((hc.keep hs kk).ext (aR.new hb)) .nil))))
theorem qq(hs:bW st H){op:List Nat}{l r:AV}{ld rd:DT}(hl:bB st H l ld)(hr:bB st H r rd)
 (q:∀ a H',lh st H a (.inst 194 [(16,.str op),(18,l),(19,r)]) H'->bB st H' (.ref a) (.tup [.str [98,105,110,97,114,121],.str op,ld,rd])->Q (.ref a) H'):el (az False) (CP X (n+1)) 194 [.str op,l,r] H Q:=by
 have h1:=hl.ne;have h2:=hr.ne
 refine⟨184,rfl,aw λa ha=>ae rfl rfl rfl (by simp[h1,h2]) ?_⟩
 (repeat ((conv=>whnf);refine aM af rfl (Nat.le_of_ble_eq_true rfl) (by first|assumption|exact λz=>nomatch z) ?_;rw[bv]))
 refine⟨rfl,q a _ ⟨ha,rfl,ay hs ha⟩ ⟨a,194,_,191,rfl,ay hs ha,af,rfl,rfl,λH' k m hm Q' q'=>?_⟩⟩
 obtain⟨m,rfl⟩:∃ j,m=j+1:=⟨m-1,aG hm rfl⟩
 have ha':H' a=some (.inst 194 [(16,.str op),(18,l),(19,r)]):=k _ _ (ay hs ha) af
 have kk:ai st H H':=(ai.new ha).trans k
 have e1:=dk (show ld∈[.str [98,105,110,97,114,121],.str op,ld,rd] from by simp)
 have e2:=dk (show rd∈[.str [98,105,110,97,114,121],.str op,ld,rd] from by simp)
 refine ae rfl rfl rfl (by simp) ?_
 ((conv=>whnf);repeat (first|(refine aa (by assumption) rfl rfl ?_;conv=>whnf)|(refine aK rfl ?_;conv=>whnf)))
 refine(hl.keep kk).call (by lia) λH1 v1 x1 d1=>?_
 have ha1:=x1 _ _ ha'
 ((conv=>whnf);repeat (first|(refine aa (by assumption) rfl rfl ?_;conv=>whnf)|(refine aK rfl ?_;conv=>whnf)))
 refine((hr.keep kk).keep x1.keep).call (by lia) λH2 v2 x2 d2=>?_
 conv=>whnf
 refine aw λb hb=>q' _ _ ((x1.trans x2).trans (aR.new hb)) (.tup af (.cons .str (.cons .str (.cons ((d1.ext x2).ext (aR.new hb)) (.cons (d2.ext (aR.new hb)) .nil)))))
end
theorem Ol{l:List DT}{d:DT}{m:Nat}(h:d∈l)(hm:3*(DT.tup l).dep+3<=m+1):3*d.dep+3<=m:=by have:=dk h;lia
theorem KP{l:List DT}{d:DT}{m:Nat}(h:d∈l)(hm:3*(DT.tup l).dep+3<=m+1):3*d.dep+4<=m:=by have:=dk h;lia
theorem Qx{l:List DT}{d:DT}{m:Nat}(h:d∈l)(hm:3*(DT.tup l).dep+3<=m+1):3*d.dep+2<=m:=by have:=dk h;lia
theorem PD{l l2:List DT}{d:DT}{m:Nat}(h:DT.tup l2∈l)(h2:d∈l2)(hm:3*(DT.tup l).dep+3<=m+1):3*d.dep+3<=m:=by have:=dk h;have:=dk h2;lia
theorem Q3{l l2:List DT}{d:DT}{m:Nat}(h:DT.tup l2∈l)(h2:d∈l2)(hm:3*(DT.tup l).dep+3<=m+1):3*d.dep+4<=m:=by have:=dk h;have:=dk h2;lia
theorem KQ{l l2:List DT}{d:DT}{m:Nat}(h:DT.tup l2∈l)(h2:d∈l2)(hm:3*(DT.tup l).dep+3<=m+1):3*d.dep+2<=m:=by have:=dk h;have:=dk h2;lia
noncomputable def jI(st:List Nat)(H:AH)(v:AV)(l:List (List Nat)):Prop:=∃ a,v=.ref a/\a ∉ st/\H a=some (.list (l.map AV.str))/\l.length<=1000
theorem jI.keep{st:List Nat}{H H':AH}{v:AV}{l:List (List Nat)}(h:jI st H v l)(k:ai st H H'):jI st H' v l:=let ⟨a,e,n,ha,hl⟩:=h;⟨a,e,n,k _ _ n ha,hl⟩
theorem jI.ne{st:List Nat}{H:AH}{v:AV}{l:List (List Nat)}(h:jI st H v l):v≠.oth:=by obtain⟨a,rfl,_⟩:=h;exact λz=>nomatch z
theorem ze{H:AH} : ∀ l:List (List Nat),Dats H (l.map AV.str) (l.map DT.str):=by
 intro z_
 induction z_ with
 | nil=>
  exact .nil
 | cons _ r ihz=>
  exact .cons .str (ihz)
theorem jI.tuple{st:List Nat}{H:AH}{v:AV}{l:List (List Nat)}(h:jI st H v l){Q:AV->AH->Prop}(q:∀ H' v',aR H H'->bS H' v' (.tup (l.map DT.str))->Q v' H'):jG H v Q:=by
 refine sy h λa eq1_ n ha hl=>?_
 subst eq1_
 exact gK ha (by refine ac (List.length_map ..) ?_;unfold ah;exact iX hl rfl) λb hb=>q _ _ (aR.new hb) (.tup af (ze l))
section
variable {X:Prop} {st:List Nat} {n:Nat} {H:AH} {Q:au}
theorem qp(hs:bW st H){x:AV}{xD:DT}(xH:bB st H x xD)
 (q:∀ a H',lh st H a (.inst 324 [(24,x)]) H'->bB st H' (.ref a) (.tup [.str [115,99,97,108,97,114],xD])->Q (.ref a) H'):el (az False) (CP X (n+1)) 324 [x] H Q:=by
 have xN:=xH.ne
 refine⟨314,rfl,aw λa ha=>ae rfl rfl rfl (by simp[xN]) ?_⟩
 (repeat (refine aM af rfl (Nat.le_of_ble_eq_true rfl) (by first|assumption|exact λz=>nomatch z) ?_;rw[bv]))
 refine⟨rfl,q a _ ⟨ha,rfl,ay hs ha⟩ ⟨a,324,_,321,rfl,ay hs ha,af,rfl,rfl,λH0 k m hm Q' q'=>?_⟩⟩
 obtain⟨m,rfl⟩:∃ j,m=j+1:=⟨m-1,aG hm rfl⟩
 have h0:H0 a=some (.inst 324 [(24,x)]):=k _ _ (ay hs ha) af
 have kk:ai st H H0:=(ai.new ha).trans k
 refine ae rfl rfl rfl (by simp) ?_
 refine aa h0 rfl rfl ?_
 refine(xH.keep kk).call (Ol (.tail _ (.head _)) hm) λH1 v1 x1 d1=>?_
 have h1:=x1 _ _ h0
 exact aw λb hb=>q' _ _ (x1.trans (aR.new hb)) (.tup af (.cons .str (.cons (d1.ext (aR.new hb)) .nil)))
theorem oE(hs:bW st H){nm:AV}{nmD:DT}(nmH:bS H nm nmD){xs:AV}{xsD:List DT}(xsH:cw st H xs xsD){di:AV}{diD:DT}(diH:bS H di diD){sr:AV}{srD:DT}(srH:bS H sr srD)
 (q:∀ a H',lh st H a (.inst 374 [(30,nm),(28,xs),(29,di),(31,sr)]) H'->bB st H' (.ref a) (.tup [.str [99,97,108,108],nmD,.tup xsD,diD,srD])->Q (.ref a) H'):el (az False) (CP X (n+1)) 374 [nm,xs,di,sr] H Q:=by
 have nmN:=nmH.ne
 have xsN:=xsH.ne
 have diN:=diH.ne
 have srN:=srH.ne
 refine⟨364,rfl,aw λa ha=>ae rfl rfl rfl (by simp[nmN,xsN,diN,srN]) ?_⟩
 (repeat (refine aM af rfl (Nat.le_of_ble_eq_true rfl) (by first|assumption|exact λz=>nomatch z) ?_;rw[bv]))
 refine⟨rfl,q a _ ⟨ha,rfl,ay hs ha⟩ ⟨a,374,_,371,rfl,ay hs ha,af,rfl,rfl,λH0 k m hm Q' q'=>?_⟩⟩
 obtain⟨m,rfl⟩:∃ j,m=j+1:=⟨m-1,aG hm rfl⟩
 have h0:H0 a=some (.inst 374 [(30,nm),(28,xs),(29,di),(31,sr)]):=k _ _ (ay hs ha) af
 have kk:ai st H H0:=(ai.new ha).trans k
 refine ae rfl rfl rfl (by simp) ?_
 refine aa h0 rfl rfl ?_
 refine aa h0 rfl rfl ?_
 refine fm (xsH.keep kk) (Qx (.tail _ (.tail _ (.head _))) hm) λH1 v1 x1 d1=>?_
 have h1:=x1 _ _ h0
 refine aa h1 rfl rfl ?_
 refine aa h1 rfl rfl ?_
 exact aw λb hb=>q' _ _ (x1.trans (aR.new hb)) (.tup af (.cons .str (.cons ((nmH.keep hs kk).ext (x1.trans (aR.new hb))) (.cons (d1.ext (aR.new hb)) (.cons ((diH.keep hs kk).ext (x1.trans (aR.new hb))) (.cons ((srH.keep hs kk).ext (x1.trans (aR.new hb))) .nil))))))
theorem ip(hs:bW st H){x:AV}{xD:DT}(xH:dR st H x xD){al:AV}{alD:DT}(alH:bS H al alD){tb:AV}{tbD:DT}(tbH:bS H tb tbD)
 (q:∀ a H',lh st H a (.inst 504 [(9,x),(37,al),(38,tb)]) H'->bB st H' (.ref a) (.tup [.str [114,101,115,117,108,116],xD,alD,tbD])->Q (.ref a) H'):el (az False) (CP X (n+1)) 504 [x,al,tb] H Q:=by
 have xN:=xH.ne
 have alN:=alH.ne
 have tbN:=tbH.ne
 refine⟨494,rfl,aw λa ha=>ae rfl rfl rfl (by simp[xN,alN,tbN]) ?_⟩
 (repeat (refine aM af rfl (Nat.le_of_ble_eq_true rfl) (by first|assumption|exact λz=>nomatch z) ?_;rw[bv]))
 refine⟨rfl,q a _ ⟨ha,rfl,ay hs ha⟩ ⟨a,504,_,501,rfl,ay hs ha,af,rfl,rfl,λH0 k m hm Q' q'=>?_⟩⟩
 obtain⟨m,rfl⟩:∃ j,m=j+1:=⟨m-1,aG hm rfl⟩
 have h0:H0 a=some (.inst 504 [(9,x),(37,al),(38,tb)]):=k _ _ (ay hs ha) af
 have kk:ai st H H0:=(ai.new ha).trans k
 refine ae rfl rfl rfl (by simp) ?_
 refine aa h0 rfl rfl ?_
 refine ec (xH.keep kk) (KP (.tail _ (.head _)) hm) λH1 v1 x1 d1=>?_
 have h1:=x1 _ _ h0
 refine aa h1 rfl rfl ?_
 refine aa h1 rfl rfl ?_
 exact aw λb hb=>q' _ _ (x1.trans (aR.new hb)) (.tup af (.cons .str (.cons (d1.ext (aR.new hb)) (.cons ((alH.keep hs kk).ext (x1.trans (aR.new hb))) (.cons ((tbH.keep hs kk).ext (x1.trans (aR.new hb))) .nil)))))
theorem tR(hs:bW st H){nm:AV}{nmD:DT}(nmH:bS H nm nmD){al:AV}{alD:DT}(alH:bS H al alD){hi:AV}{hiD:DT}(hiH:bS H hi hiD)
 (q:∀ a H',lh st H a (.inst 530 [(30,nm),(37,al),(39,hi)]) H'->bB st H' (.ref a) (.tup [.str [116,97,98,108,101],nmD,alD,hiD])->Q (.ref a) H'):el (az False) (CP X (n+1)) 530 [nm,al,hi] H Q:=by
 have nmN:=nmH.ne
 have alN:=alH.ne
 have hiN:=hiH.ne
 refine⟨520,rfl,aw λa ha=>ae rfl rfl rfl (by simp[nmN,alN,hiN]) ?_⟩
 (repeat (refine aM af rfl (Nat.le_of_ble_eq_true rfl) (by first|assumption|exact λz=>nomatch z) ?_;rw[bv]))
 refine⟨rfl,q a _ ⟨ha,rfl,ay hs ha⟩ ⟨a,530,_,527,rfl,ay hs ha,af,rfl,rfl,λH0 k m hm Q' q'=>?_⟩⟩
 obtain⟨m,rfl⟩:∃ j,m=j+1:=⟨m-1,aG hm rfl⟩
 have h0:H0 a=some (.inst 530 [(30,nm),(37,al),(39,hi)]):=k _ _ (ay hs ha) af
 have kk:ai st H H0:=(ai.new ha).trans k
 refine ae rfl rfl rfl (by simp) ?_
 refine aa h0 rfl rfl ?_
 refine aa h0 rfl rfl ?_
 refine aa h0 rfl rfl ?_
 exact aw λb hb=>q' _ _ (aR.new hb) (.tup af (.cons .str (.cons ((nmH.keep hs kk).ext (aR.new hb)) (.cons ((alH.keep hs kk).ext (aR.new hb)) (.cons ((hiH.keep hs kk).ext (aR.new hb)) .nil)))))
theorem xR(hs:bW st H){x:AV}{xD:DT}(xH:bB st H x xD){al:AV}{alD:DT}(alH:bS H al alD)
 (q:∀ a H',lh st H a (.inst 556 [(24,x),(37,al)]) H'->bB st H' (.ref a) (.tup [.str [102,114,111,109],xD,alD])->Q (.ref a) H'):el (az False) (CP X (n+1)) 556 [x,al] H Q:=by
 have xN:=xH.ne
 have alN:=alH.ne
 refine⟨546,rfl,aw λa ha=>ae rfl rfl rfl (by simp[xN,alN]) ?_⟩
 (repeat (refine aM af rfl (Nat.le_of_ble_eq_true rfl) (by first|assumption|exact λz=>nomatch z) ?_;rw[bv]))
 refine⟨rfl,q a _ ⟨ha,rfl,ay hs ha⟩ ⟨a,556,_,553,rfl,ay hs ha,af,rfl,rfl,λH0 k m hm Q' q'=>?_⟩⟩
 obtain⟨m,rfl⟩:∃ j,m=j+1:=⟨m-1,aG hm rfl⟩
 have h0:H0 a=some (.inst 556 [(24,x),(37,al)]):=k _ _ (ay hs ha) af
 have kk:ai st H H0:=(ai.new ha).trans k
 refine ae rfl rfl rfl (by simp) ?_
 refine aa h0 rfl rfl ?_
 refine(xH.keep kk).call (Ol (.tail _ (.head _)) hm) λH1 v1 x1 d1=>?_
 have h1:=x1 _ _ h0
 refine aa h1 rfl rfl ?_
 exact aw λb hb=>q' _ _ (x1.trans (aR.new hb)) (.tup af (.cons .str (.cons (d1.ext (aR.new hb)) (.cons ((alH.keep hs kk).ext (x1.trans (aR.new hb))) .nil))))
theorem xQ(hs:bW st H){kd:AV}{kdD:DT}(kdH:bS H kd kdD){l:AV}{lD:DT}(lH:bB st H l lD){r:AV}{rD:DT}(rH:bB st H r rD){on:AV}{onD:DT}(onH:dR st H on onD){us:AV}{usD:List (List Nat)}(usH:jI st H us usD)
 (q:∀ a H',lh st H a (.inst 582 [(40,kd),(18,l),(19,r),(41,on),(42,us)]) H'->bB st H' (.ref a) (.tup [.str [106,111,105,110],.tup [kdD,lD,rD],onD,.tup (usD.map DT.str)])->Q (.ref a) H'):el (az False) (CP X (n+1)) 582 [kd,l,r,on,us] H Q:=by
 have kdN:=kdH.ne
 have lN:=lH.ne
 have rN:=rH.ne
 have onN:=onH.ne
 have usN:=usH.ne
 refine⟨572,rfl,aw λa ha=>ae rfl rfl rfl (by simp[kdN,lN,rN,onN,usN]) ?_⟩
 (repeat (refine aM af rfl (Nat.le_of_ble_eq_true rfl) (by first|assumption|exact λz=>nomatch z) ?_;rw[bv]))
 refine⟨rfl,q a _ ⟨ha,rfl,ay hs ha⟩ ⟨a,582,_,579,rfl,ay hs ha,af,rfl,rfl,λH0 k m hm Q' q'=>?_⟩⟩
 obtain⟨m,rfl⟩:∃ j,m=j+1:=⟨m-1,aG hm rfl⟩
 have h0:H0 a=some (.inst 582 [(40,kd),(18,l),(19,r),(41,on),(42,us)]):=k _ _ (ay hs ha) af
 have kk:ai st H H0:=(ai.new ha).trans k
 refine ae rfl rfl rfl (by simp) ?_
 refine aa h0 rfl rfl ?_
 refine aa h0 rfl rfl ?_
 refine(lH.keep kk).call (PD (.tail _ (.head _)) (.tail _ (.head _)) hm) λH1 v1 x1 d1=>?_
 have h1:=x1 _ _ h0
 refine aa h1 rfl rfl ?_
 refine((rH.keep kk).keep x1.keep).call (PD (.tail _ (.head _)) (.tail _ (.tail _ (.head _))) hm) λH2 v2 x2 d2=>?_
 have h2:=x2 _ _ h1
 refine aw λb2 hb2=>?_
 have h3:=λo=>aR.new (o:=o) hb2 _ _ h2
 refine aa (h3 _) rfl rfl ?_
 refine ec ((onH.keep kk).keep ((x1.trans x2).trans (aR.new hb2)).keep) (KP (.tail _ (.tail _ (.head _))) hm) λH4 v4 x4 d4=>?_
 have h4:=x4 _ _ (h3 _)
 refine aa h4 rfl rfl ?_
 refine jI.tuple ((usH.keep kk).keep (((x1.trans x2).trans (aR.new hb2)).trans x4).keep) λH5 v5 x5 d5=>?_
 have h5:=x5 _ _ h4
 exact aw λb hb=>q' _ _ (((((x1.trans x2).trans (aR.new hb2)).trans x4).trans x5).trans (aR.new hb)) (.tup af (.cons .str (.cons (.tup (((x4.trans x5).trans (aR.new hb)) _ _ af) (.cons ((kdH.keep hs kk).ext (((((x1.trans x2).trans (aR.new hb2)).trans x4).trans x5).trans (aR.new hb))) (.cons (d1.ext ((((x2.trans (aR.new hb2)).trans x4).trans x5).trans (aR.new hb))) (.cons (d2.ext ((((aR.new hb2).trans x4).trans x5).trans (aR.new hb))) .nil)))) (.cons (d4.ext (x5.trans (aR.new hb))) (.cons (d5.ext (aR.new hb)) .nil)))))
theorem xS(hs:bW st H){cs:AV}{csD:List DT}(csH:cw st H cs csD){di:AV}{diD:DT}(diH:bS H di diD){so:AV}{soD:DT}(soH:dR st H so soD){wh:AV}{whD:DT}(whH:dR st H wh whD){gs:AV}{gsD:List DT}(gsH:cw st H gs gsD){hv:AV}{hvD:DT}(hvH:dR st H hv hvD)
 (q:∀ a H',lh st H a (.inst 608 [(43,cs),(29,di),(13,so),(46,wh),(44,gs),(45,hv)]) H'->bB st H' (.ref a) (.tup [.str [99,111,114,101],.tup [.tup csD,diD,soD],whD,.tup gsD,hvD])->Q (.ref a) H'):el (az False) (CP X (n+1)) 608 [cs,di,so,wh,gs,hv] H Q:=by
 have csN:=csH.ne
 have diN:=diH.ne
 have soN:=soH.ne
 have whN:=whH.ne
 have gsN:=gsH.ne
 have hvN:=hvH.ne
 refine⟨598,rfl,aw λa ha=>ae rfl rfl rfl (by simp[csN,diN,soN,whN,gsN,hvN]) ?_⟩
 (repeat (refine aM af rfl (Nat.le_of_ble_eq_true rfl) (by first|assumption|exact λz=>nomatch z) ?_;rw[bv]))
 refine⟨rfl,q a _ ⟨ha,rfl,ay hs ha⟩ ⟨a,608,_,605,rfl,ay hs ha,af,rfl,rfl,λH0 k m hm Q' q'=>?_⟩⟩
 obtain⟨m,rfl⟩:∃ j,m=j+1:=⟨m-1,aG hm rfl⟩
 have h0:H0 a=some (.inst 608 [(43,cs),(29,di),(13,so),(46,wh),(44,gs),(45,hv)]):=k _ _ (ay hs ha) af
 have kk:ai st H H0:=(ai.new ha).trans k
 refine ae rfl rfl rfl (by simp) ?_
 refine aa h0 rfl rfl ?_
 refine fm (csH.keep kk) (KQ (.tail _ (.head _)) (.head _) hm) λH1 v1 x1 d1=>?_
 have h1:=x1 _ _ h0
 refine aa h1 rfl rfl ?_
 refine aa h1 rfl rfl ?_
 refine ec ((soH.keep kk).keep x1.keep) (Q3 (.tail _ (.head _)) (.tail _ (.tail _ (.head _))) hm) λH2 v2 x2 d2=>?_
 have h2:=x2 _ _ h1
 refine aw λb2 hb2=>?_
 have h3:=λo=>aR.new (o:=o) hb2 _ _ h2
 refine aa (h3 _) rfl rfl ?_
 refine ec ((whH.keep kk).keep ((x1.trans x2).trans (aR.new hb2)).keep) (KP (.tail _ (.tail _ (.head _))) hm) λH4 v4 x4 d4=>?_
 have h4:=x4 _ _ (h3 _)
 refine aa h4 rfl rfl ?_
 refine fm ((gsH.keep kk).keep (((x1.trans x2).trans (aR.new hb2)).trans x4).keep) (Qx (.tail _ (.tail _ (.tail _ (.head _)))) hm) λH5 v5 x5 d5=>?_
 have h5:=x5 _ _ h4
 refine aa h5 rfl rfl ?_
 refine ec ((hvH.keep kk).keep ((((x1.trans x2).trans (aR.new hb2)).trans x4).trans x5).keep) (KP (.tail _ (.tail _ (.tail _ (.tail _ (.head _))))) hm) λH6 v6 x6 d6=>?_
 have h6:=x6 _ _ h5
 exact aw λb hb=>q' _ _ ((((((x1.trans x2).trans (aR.new hb2)).trans x4).trans x5).trans x6).trans (aR.new hb)) (.tup af (.cons .str (.cons (.tup ((((x4.trans x5).trans x6).trans (aR.new hb)) _ _ af) (.cons (d1.ext (((((x2.trans (aR.new hb2)).trans x4).trans x5).trans x6).trans (aR.new hb))) (.cons ((diH.keep hs kk).ext ((((((x1.trans x2).trans (aR.new hb2)).trans x4).trans x5).trans x6).trans (aR.new hb))) (.cons (d2.ext (((((aR.new hb2).trans x4).trans x5).trans x6).trans (aR.new hb))) .nil)))) (.cons (d4.ext ((x5.trans x6).trans (aR.new hb))) (.cons (d5.ext (x6.trans (aR.new hb))) (.cons (d6.ext (aR.new hb)) .nil))))))
theorem mH(hs:bW st H){op:AV}{opD:DT}(opH:bS H op opD){l:AV}{lD:DT}(lH:bB st H l lD){r:AV}{rD:DT}(rH:bB st H r rD)
 (q:∀ a H',lh st H a (.inst 658 [(16,op),(18,l),(19,r)]) H'->bB st H' (.ref a) (.tup [.str [99,111,109,112,111,117,110,100],opD,lD,rD])->Q (.ref a) H'):el (az False) (CP X (n+1)) 658 [op,l,r] H Q:=by
 have opN:=opH.ne
 have lN:=lH.ne
 have rN:=rH.ne
 refine⟨648,rfl,aw λa ha=>ae rfl rfl rfl (by simp[opN,lN,rN]) ?_⟩
 (repeat (refine aM af rfl (Nat.le_of_ble_eq_true rfl) (by first|assumption|exact λz=>nomatch z) ?_;rw[bv]))
 refine⟨rfl,q a _ ⟨ha,rfl,ay hs ha⟩ ⟨a,658,_,655,rfl,ay hs ha,af,rfl,rfl,λH0 k m hm Q' q'=>?_⟩⟩
 obtain⟨m,rfl⟩:∃ j,m=j+1:=⟨m-1,aG hm rfl⟩
 have h0:H0 a=some (.inst 658 [(16,op),(18,l),(19,r)]):=k _ _ (ay hs ha) af
 have kk:ai st H H0:=(ai.new ha).trans k
 refine ae rfl rfl rfl (by simp) ?_
 refine aa h0 rfl rfl ?_
 refine aa h0 rfl rfl ?_
 refine(lH.keep kk).call (Ol (.tail _ (.tail _ (.head _))) hm) λH1 v1 x1 d1=>?_
 have h1:=x1 _ _ h0
 refine aa h1 rfl rfl ?_
 refine((rH.keep kk).keep x1.keep).call (Ol (.tail _ (.tail _ (.tail _ (.head _)))) hm) λH2 v2 x2 d2=>?_
 have h2:=x2 _ _ h1
 exact aw λb hb=>q' _ _ ((x1.trans x2).trans (aR.new hb)) (.tup af (.cons .str (.cons ((opH.keep hs kk).ext ((x1.trans x2).trans (aR.new hb))) (.cons (d1.ext (x2.trans (aR.new hb))) (.cons (d2.ext (aR.new hb)) .nil)))))
theorem xP(hs:bW st H){x:AV}{xD:DT}(xH:bB st H x xD){de:AV}{deD:DT}(deH:bS H de deD)
 (q:∀ a H',lh st H a (.inst 684 [(9,x),(48,de)]) H'->bB st H' (.ref a) (.tup [.str [116,101,114,109],xD,deD])->Q (.ref a) H'):el (az False) (CP X (n+1)) 684 [x,de] H Q:=by
 have xN:=xH.ne
 have deN:=deH.ne
 refine⟨674,rfl,aw λa ha=>ae rfl rfl rfl (by simp[xN,deN]) ?_⟩
 (repeat (refine aM af rfl (Nat.le_of_ble_eq_true rfl) (by first|assumption|exact λz=>nomatch z) ?_;rw[bv]))
 refine⟨rfl,q a _ ⟨ha,rfl,ay hs ha⟩ ⟨a,684,_,681,rfl,ay hs ha,af,rfl,rfl,λH0 k m hm Q' q'=>?_⟩⟩
 obtain⟨m,rfl⟩:∃ j,m=j+1:=⟨m-1,aG hm rfl⟩
 have h0:H0 a=some (.inst 684 [(9,x),(48,de)]):=k _ _ (ay hs ha) af
 have kk:ai st H H0:=(ai.new ha).trans k
 refine ae rfl rfl rfl (by simp) ?_
 refine aa h0 rfl rfl ?_
 refine(xH.keep kk).call (Ol (.tail _ (.head _)) hm) λH1 v1 x1 d1=>?_
 have h1:=x1 _ _ h0
 refine aa h1 rfl rfl ?_
 exact aw λb hb=>q' _ _ (x1.trans (aR.new hb)) (.tup af (.cons .str (.cons (d1.ext (aR.new hb)) (.cons ((deH.keep hs kk).ext (x1.trans (aR.new hb))) .nil))))
theorem qo(hs:bW st H){bo:AV}{boD:DT}(boH:bB st H bo boD){os:AV}{osD:List DT}(osH:cw st H os osD){li:AV}{liD:DT}(liH:dR st H li liD){of:AV}{ofD:DT}(ofH:dR st H of ofD)
 (q:∀ a H',lh st H a (.inst 710 [(49,bo),(52,os),(50,li),(51,of)]) H'->bB st H' (.ref a) (.tup [.str [115,101,108,101,99,116],.tup [boD,.tup osD],liD,ofD])->Q (.ref a) H'):el (az False) (CP X (n+1)) 710 [bo,os,li,of] H Q:=by
 have boN:=boH.ne
 have osN:=osH.ne
 have liN:=liH.ne
 have ofN:=ofH.ne
 refine⟨700,rfl,aw λa ha=>ae rfl rfl rfl (by simp[boN,osN,liN,ofN]) ?_⟩
 (repeat (refine aM af rfl (Nat.le_of_ble_eq_true rfl) (by first|assumption|exact λz=>nomatch z) ?_;rw[bv]))
 refine⟨rfl,q a _ ⟨ha,rfl,ay hs ha⟩ ⟨a,710,_,707,rfl,ay hs ha,af,rfl,rfl,λH0 k m hm Q' q'=>?_⟩⟩
 obtain⟨m,rfl⟩:∃ j,m=j+1:=⟨m-1,aG hm rfl⟩
 have h0:H0 a=some (.inst 710 [(49,bo),(52,os),(50,li),(51,of)]):=k _ _ (ay hs ha) af
 have kk:ai st H H0:=(ai.new ha).trans k
 refine ae rfl rfl rfl (by simp) ?_
 refine aa h0 rfl rfl ?_
 refine(boH.keep kk).call (PD (.tail _ (.head _)) (.head _) hm) λH1 v1 x1 d1=>?_
 have h1:=x1 _ _ h0
 refine aa h1 rfl rfl ?_
 refine fm ((osH.keep kk).keep x1.keep) (KQ (.tail _ (.head _)) (.tail _ (.head _)) hm) λH2 v2 x2 d2=>?_
 have h2:=x2 _ _ h1
 refine aw λb2 hb2=>?_
 have h3:=λo=>aR.new (o:=o) hb2 _ _ h2
 refine aa (h3 _) rfl rfl ?_
 refine ec ((liH.keep kk).keep ((x1.trans x2).trans (aR.new hb2)).keep) (KP (.tail _ (.tail _ (.head _))) hm) λH4 v4 x4 d4=>?_
 have h4:=x4 _ _ (h3 _)
 refine aa h4 rfl rfl ?_
 refine ec ((ofH.keep kk).keep (((x1.trans x2).trans (aR.new hb2)).trans x4).keep) (KP (.tail _ (.tail _ (.tail _ (.head _)))) hm) λH5 v5 x5 d5=>?_
 have h5:=x5 _ _ h4
 exact aw λb hb=>q' _ _ (((((x1.trans x2).trans (aR.new hb2)).trans x4).trans x5).trans (aR.new hb)) (.tup af (.cons .str (.cons (.tup (((x4.trans x5).trans (aR.new hb)) _ _ af) (.cons (d1.ext ((((x2.trans (aR.new hb2)).trans x4).trans x5).trans (aR.new hb))) (.cons (d2.ext ((((aR.new hb2).trans x4).trans x5).trans (aR.new hb))) .nil))) (.cons (d4.ext (x5.trans (aR.new hb))) (.cons (d5.ext (aR.new hb)) .nil)))))
inductive gL(st:List Nat)(H:AH)(v:AV)(ds:List (List DT)):Prop
 | mk (a:Nat) (vs:List AV) (e:v=.ref a) (ne:a ∉ st) (ha:H a=some (.list vs)) (hl:vs.length=ds.length) (hb:vs.length<=1000) (r:∀ (i:Nat) (x:AV) (d:List DT),vs[i]?=some x->ds[i]?=some d->cw st H x d):gL st H v ds
theorem gL.keep{st:List Nat}{H H':AH}{v:AV}{ds:List (List DT)}(h:gL st H v ds)(k:ai st H H'):gL st H' v ds:=by
 obtain⟨a,vs,e,ne,ha,hl,hb,r⟩:=h
 exact⟨a,vs,e,ne,k _ _ ne ha,hl,hb,λi x d h1 h2=>(r i x d h1 h2).keep k⟩
theorem gL.ne{st:List Nat}{H:AH}{v:AV}{ds:List (List DT)}(h:gL st H v ds):v≠.oth:=by obtain⟨a,vs,rfl,_⟩:=h;exact λz=>nomatch z
theorem qn(hs:bW st H){rs:AV}{rsD:List (List DT)}(rsH:gL st H rs rsD)
 (q:∀ a H',lh st H a (.inst 632 [(47,rs)]) H'->bB st H' (.ref a) (.tup [.str [118,97,108,117,101,115],.tup (rsD.map DT.tup)])->Q (.ref a) H'):el (az False) (CP X (n+1)) 632 [rs] H Q:=by
 have rsN:=rsH.ne
 refine⟨624,rfl,aw λa ha=>ae rfl rfl rfl (by simp[rsN]) ?_⟩
 (repeat (refine aM af rfl (Nat.le_of_ble_eq_true rfl) (by first|assumption|exact λz=>nomatch z) ?_;rw[bv]))
 refine⟨rfl,q a _ ⟨ha,rfl,ay hs ha⟩ ⟨a,632,_,629,rfl,ay hs ha,af,rfl,rfl,λH0 k m hm Q' q'=>?_⟩⟩
 obtain⟨m,rfl⟩:∃ j,m=j+1:=⟨m-1,aG hm rfl⟩
 have h0:H0 a=some (.inst 632 [(47,rs)]):=k _ _ (ay hs ha) af
 have kk:ai st H H0:=(ai.new ha).trans k
 refine ae rfl rfl rfl (by simp) ?_
 conv=>whnf
 refine⟨trivial,?_⟩
 conv=>whnf
 refine aa h0 rfl rfl ?_
 conv=>whnf
 refine a7 λGg fin_=>?_
 obtain⟨c,vs,rfl,ne,hc,hlen,hbig,hr⟩:=rsH.keep kk
 refine fin_ ?_
 refine fC hc (by unfold ah;exact iX hbig rfl) ?_
 refine lF (G:=λH x d=>∃ ds,d=.tup ds/\cw st H x ds) (λe h=>let ⟨ds,e1,r⟩:=h;⟨ds,e1,r.keep e.keep⟩) vs (rsD.map DT.tup) H0 [] [] (λH' e=>e _ _ hc) (λx d hd H' K e g kf=>?_) ⟨by refine ac (List.length_map ..) ?_;exact hlen,λi x d h1 h2=>?_⟩ .nil (by unfold ah;simp;exact iX hbig rfl) λH' ws e hw=>?_
 ·refine a7 λGg fin_=>?_
  refine cG g λds eq1_ r=>?_
  subst eq1_
  refine fin_ ?_
  conv=>whnf
  exact fm r (KQ (.tail _ (.head _)) hd hm) λH'' y e' dy=>kf H'' y e' dy
 ·rw[List.getElem?_map] at h2
  refine a7 λGg fin_=>?_
  refine cG (Option.map_eq_some_iff.mp h2) λds hds eq1_=>?_
  subst eq1_
  refine fin_ ?_
  exact⟨ds,rfl,hr i x ds h1 hds⟩
 ·refine aw λb hb=>?_
  conv=>whnf
  have hl2:ws.length<=ah:=by refine ac (Dats.len hw) ?_;unfold ah;simp;lia
  refine gK af hl2 λb2 hb2=>?_
  conv=>whnf
  exact aw λb3 hb3=>q' _ _ (((e.trans (aR.new hb)).trans (aR.new hb2)).trans (aR.new hb3)) (.tup af (.cons .str (.cons (.tup ((aR.new hb3) _ _ af) (hw.ext (((aR.new hb).trans (aR.new hb2)).trans (aR.new hb3)))) .nil)))
end
inductive aX(α:Type) where
 | ok (a:α) (ts:List Tok)|err|unk
noncomputable def aX.bind{α β:Type}(x:aX α)(f:α->List Tok->aX β):aX β:=match x with
 | .ok a ts=>f a ts
 | .err=>.err
 | .unk=>.unk
noncomputable def jZ(s:List Nat):List Tok->Bool
 | w::_=>aA s w
 | []=>false
noncomputable def ud(s:List Nat):List Tok->Bool
 | w::_=>aE s w
 | []=>false
noncomputable def aS{β:Type}(s:List Nat)(ts:List Tok)(f:Bool->List Tok->aX β):aX β:=match jZ s ts with
 | true=>f true ts.tail
 | false=>f false ts
noncomputable def bH{β:Type}(s:List Nat)(ts:List Tok)(f:Bool->List Tok->aX β):aX β:=match ud s ts with
 | true=>f true ts.tail
 | false=>f false ts
noncomputable def bI{β:Type}(s:List Nat)(ts:List Tok)(f:List Tok->aX β):aX β:=match jZ s ts with
 | true=>f ts.tail
 | false=>.err
noncomputable def bg{β:Type}(s:List Nat)(ts:List Tok)(f:List Tok->aX β):aX β:=match ud s ts with
 | true=>f ts.tail
 | false=>.err
@[reducible] noncomputable def bu{β:Type}(b:Bool)(x y:aX β):aX β:=match b with
 | true=>x
 | false=>y
@[reducible] noncomputable def iS{β:Type}(ts:List Tok)(f:Tok->List Tok->aX β):aX β:=match ts with
 | w::r=>f w r
 | []=>.unk
noncomputable def cb(ts:List Tok)(k:Nat):Option Tok:=ts[min k (ts.length-1)]?
noncomputable def ow{β:Type}(ts:List Tok)(k:Nat)(f:Tok->aX β):aX β:=match cb ts k with
 | some w=>f w
 | none=>.unk
@[reducible] noncomputable def mF{β:Type}(v:AV)(f:List Nat->aX β):aX β:=match v with
 | .str s=>f s
 | _=>.unk
@[reducible] noncomputable def Cj{β:Type}(v:AV)(f:Int->aX β):aX β:=match v with
 | .int i=>f i
 | _=>.unk
noncomputable def cW{β:Type}(ts:List Tok)(f:List Nat->List Tok->aX β):aX β:=iS ts λw r=>bu (bN w) (mF w.v λs=>f s r) .err
noncomputable def cs(s:String):List Nat:=s.toList.map Char.toNat
noncomputable def dv:AV->DT
 | .int i=>.int i
 | .str s=>.str s
 | .bool b=>.bool b
 | _=>.none
noncomputable def cn(a:Nat):List (List Nat×AV):=match(az True).stat a with
 | some (.tDict l)=>l
 | _=>[]
noncomputable def cB(s:List Nat):Int:=match jR s (cn 969) with
 | some (.int i)=>i
 | _=>0
noncomputable def f0:List (List Nat):=iK 972
noncomputable def iR{β:Type}(ts:List Tok)(f:Int->aX β):aX β:=iS ts λw _=>bu (decide (w.k=bp)) (f (cB w.t)) (bu (decide (w.k=ar)&&(jR w.t (cn 970)).isSome) .unk (f 0))
noncomputable def gB:List Nat:=[78,85,76,76]
noncomputable def gE:List Nat:=[78,79,84]
noncomputable def gS:List Nat:=[69,88,73,83,84,83]
noncomputable def l4:List Nat:=[67,65,83,69]
noncomputable def l0:List Nat:=[67,65,83,84]
noncomputable def be:List Nat:=[68,73,83,84,73,78,67,84]
noncomputable def fT:List Nat:=[65,76,76]
noncomputable def dn:List Nat:=[70,82,79,77]
noncomputable def cO:List Nat:=[87,72,69,82,69]
noncomputable def b0:List Nat:=[71,82,79,85,80]
noncomputable def eV:List Nat:=[66,89]
noncomputable def cJ:List Nat:=[72,65,86,73,78,71]
noncomputable def bZ:List Nat:=[79,82,68,69,82]
noncomputable def lZ:List Nat:=[68,69,83,67]
noncomputable def t8:List Nat:=[65,83,67]
noncomputable def bh:List Nat:=[76,73,77,73,84]
noncomputable def dT:List Nat:=[79,70,70,83,69,84]
noncomputable def eQ:List Nat:=[85,78,73,79,78]
noncomputable def cP:List Nat:=[73,78,84,69,82,83,69,67,84]
noncomputable def e9:List Nat:=[69,88,67,69,80,84]
noncomputable def rZ:List Nat:=[65,83]
noncomputable def cI:List Nat:=[74,79,73,78]
noncomputable def jw:List Nat:=[73,78,78,69,82]
noncomputable def jx:List Nat:=[67,82,79,83,83]
noncomputable def i7:List Nat:=[76,69,70,84]
noncomputable def jv:List Nat:=[79,85,84,69,82]
noncomputable def A3:List Nat:=[79,78]
noncomputable def dI:List Nat:=[85,83,73,78,71]
noncomputable def ba:List Nat:=[73,78,68,69,88,69,68]
noncomputable def oQ:List Nat:=[98,108,111,98]
noncomputable def fz:List Nat:=[118,97,114,105,97,98,108,101]
noncomputable def aP(s:List Nat)(l:List DT):DT:=.tup (.str s::l)
noncomputable def jq:List Nat:=[105,110,110,101,114]
noncomputable section
noncomputable def eM(ts:List Tok):aX DT:=
 aS rZ ts λb ts=>bu b
  (iS ts λw r=>bu (decide (w.k=da)) (.ok (dv w.v) r) (cW ts λs r=>.ok (.str s) r))
  (iS ts λw r=>bu (dU w) (.ok (dv w.v) r) (.ok .none ts))
noncomputable def vB:List Nat:=[99,114,111,115,115]
noncomputable def DI:List Nat:=[108,101,102,116]
noncomputable def bx(ts:List Tok):aX (Option (List Nat)):=
 bH [44] ts λb ts=>bu b (.ok (some jq) ts) (aS cI ts λb ts=>bu b (.ok (some jq) ts)
  (aS jw ts λb ts=>bu b (bI cI ts λts=>.ok (some jq) ts)
   (aS jx ts λb ts=>bu b (bI cI ts λts=>.ok (some vB) ts)
    (aS i7 ts λb ts=>bu b (aS jv ts λ_ ts=>bI cI ts λts=>.ok (some DI) ts) (.ok none ts)))))
noncomputable def vz:List Nat:=[105,110,100,101,120]
noncomputable def nT:List Nat:=[115,99,97,110]
noncomputable def oq(ts:List Tok):aX DT:=
 aS ba ts λb ts=>bu b (bI eV ts λts=>cW ts λs ts=>.ok (.tup [.str vz,.str s]) ts)
  (bu (jZ gE ts) (ow ts 1 λw=>bu (aA ba w) (.ok (.tup [.str nT]) (ts.drop 2)) (.ok .none ts)) (.ok .none ts))
noncomputable def vx:List Nat:=[117,110,105,111,110]
noncomputable def lK:List Nat:=[117,110,105,111,110,32,97,108,108]
noncomputable def kz:List Nat:=[105,110,116,101,114,115,101,99,116]
noncomputable def rG:List Nat:=[101,120,99,101,112,116]
noncomputable def b4(ts:List Tok):aX (Option (List Nat)):=
 aS eQ ts λb ts=>bu b (aS fT ts λb ts=>bu b (.ok (some lK) ts) (.ok (some vx) ts))
  (aS cP ts λb ts=>bu b (.ok (some kz) ts) (aS e9 ts λb ts=>bu b (.ok (some rG) ts) (.ok none ts)))
noncomputable def ot(ts:List Tok):aX Bool:=
 aS lZ ts λb ts=>bu b (.ok true ts) (aS t8 ts λ_ ts=>.ok false ts)
noncomputable def j3:Nat->List (List Nat)->List Tok->aX (List (List Nat))
 | 0,_,_=>.unk
 | n+1,acc,ts=>bH [44] ts λb ts=>bu b (cW ts λs ts=>j3 n (acc++[s]) ts) (.ok acc ts)
noncomputable def ig(n:Nat)(ts:List Tok):aX (List (List Nat)):=bg [40] ts λts=>cW ts λs ts=>(j3 n [s] ts).bind λl ts=>bg [41] ts λts=>.ok l ts
structure fE where
 names:List Tok->aX (List (List Nat))
 expr:Nat->Int->List Tok->aX DT
 ops:Nat->Int->DT->Int->List Tok->aX DT
 pre:Nat->List Tok->aX DT
 prim:Nat->List Tok->aX DT
 brk:Nat->List Tok->aX DT
 bsel:Nat->List Tok->aX DT
 named:Nat->List Tok->aX DT
 exprs:Nat->List Tok->aX (List DT)
 exprsL:Nat->List DT->List Tok->aX (List DT)
 col:Nat->List Tok->aX DT
 colsL:Nat->List DT->List Tok->aX (List DT)
 src:Nat->List Tok->aX DT
 srcs:Nat->List Tok->aX DT
 joins:Nat->DT->Option (List Nat)->List Tok->aX DT
 row:Nat->List Tok->aX (List DT)
 rowsL:Nat->List (List DT)->List Tok->aX (List (List DT))
 rows:Nat->List Tok->aX (List (List DT))
 body:Nat->List Tok->aX (Bool×DT)
 term:Nat->List Tok->aX DT
 termsL:Nat->List DT->List Tok->aX (List DT)
 terms:Nat->List Tok->aX (List DT)
 limits:Nat->List Tok->aX (DT×DT)
 comp:Nat->Bool×DT->DT->Option (List Nat)->List Tok->aX (Bool×DT)
 sel:Nat->List Tok->aX DT
noncomputable def jP{α:Type}(x:List Tok->aX α)(l:List α->List Tok->aX (List α))(acc:List α)(ts:List Tok):aX (List α):=
 bH [44] ts λb ts=>bu b ((x ts).bind λy ts=>l (acc++[y]) ts) (.ok acc ts)
noncomputable def gQ:List Nat:=[98,105,110,97,114,121]
noncomputable def mB:List Nat:=[115,99,97,108,97,114]
noncomputable def rF:List Nat:=[110,97,109,101]
noncomputable def gZ:List Nat:=[99,97,108,108]
noncomputable def cR:List Nat:=[114,101,115,117,108,116]
noncomputable def vA:List Nat:=[102,114,111,109]
noncomputable def pW:List Nat:=[116,97,98,108,101]
noncomputable def jN:List Nat:=[106,111,105,110]
noncomputable def gO:List Nat:=[118,97,108,117,101,115]
noncomputable def ez:List Nat:=[99,111,114,101]
noncomputable def vy:List Nat:=[116,101,114,109]
noncomputable def gP:List Nat:=[99,111,109,112,111,117,110,100]
noncomputable def dF:List Nat:=[115,101,108,101,99,116]
noncomputable def L2(p:fE)(d:Nat)(ts:List Tok):aX DT:=iS ts λw r=>
 bu (decide (w.k=b7)) (Cj w.v λi=>bu (decide (i=9223372036854775808)) .err (.ok (eP (.int i)) r))
 (bu (decide (w.k=da)) (mF w.v λs=>.ok (eP (.str s)) r)
 (bu (decide (w.k=oQ)||decide (w.k=fz)) .unk
 (bu (aE [40] w) (p.brk d ts)
 (bu (aA gB w) (.ok (eP .none) r)
 (bu (aA gS w||(aA l4 w||aA l0 w)) .unk (p.named d ts))))))
noncomputable def xB(p:fE)(d:Nat)(ts:List Tok):aX DT:=bg [40] ts λts=>iS ts λw _=>bu (aA aW w||aA bM w)
 ((p.sel d ts).bind λs ts=>bg [41] ts λts=>.ok (aP mB [s]) ts)
 ((p.expr d 1 ts).bind λs ts=>bg [41] ts λts=>.ok s ts)
noncomputable def ij(p:fE)(d:Nat)(ts:List Tok):aX DT:=cW ts λs ts=>bH [46] ts λb ts=>bu b
 (cW ts λc ts=>.ok (aP rF [.str s,.str c]) ts)
 (bH [40] ts λb ts=>bu b
  (bH [42] ts λb ts=>bu b
   (bg [41] ts λts=>.ok (aP gZ [.str s,.tup [],.bool false,.bool true]) ts)
   (aS be ts λdi ts=>bu (di||!ud [41] ts)
    ((p.exprs d ts).bind λl ts=>bg [41] ts λts=>.ok (aP gZ [.str s,.tup l,.bool di,.bool false]) ts)
    (bg [41] ts λts=>.ok (aP gZ [.str s,.tup [],.bool di,.bool false]) ts)))
  (.ok (aP rF [.none,.str s]) ts))
noncomputable def qh(p:fE)(d:Nat)(ts:List Tok):aX DT:=bH [42] ts λb ts=>bu b (.ok (aP cR [.none,.none,.none]) ts)
 (iS ts λw _=>ow ts 1 λw1=>ow ts 2 λw2=>bu (bN w&&(aE [46] w1&&aE [42] w2))
  (cW ts λs ts=>.ok (aP cR [.none,.none,.str s]) (ts.drop 2))
  ((p.expr d 1 ts).bind λx ts=>(eM ts).bind λa ts=>.ok (aP cR [x,a,.none]) ts))
noncomputable def tJ(p:fE)(d:Nat)(ts:List Tok):aX DT:=bu (ud [40] ts)
 ((p.bsel d ts).bind λs ts=>(eM ts).bind λa ts=>.ok (aP vA [s,a]) ts)
 (cW ts λs ts=>(eM ts).bind λa ts=>(oq ts).bind λh ts=>.ok (aP pW [.str s,a,h]) ts)
noncomputable def KG(p:fE)(d:Nat)(ts:List Tok):aX (DT×List (List Nat)):=aS A3 ts λb ts=>bu b
 ((p.expr d 1 ts).bind λx ts=>.ok (x,[]) ts)
 (aS dI ts λb ts=>bu b ((p.names ts).bind λl ts=>.ok (.none,l) ts) (.ok (.none,[]) ts))
noncomputable def ik(p:fE)(d:Nat)(f:DT)(k:Option (List Nat))(ts:List Tok):aX DT:=match k with
 | none=>.ok f ts
 | some kd=>(p.src d ts).bind λr ts=>(KG p d ts).bind λo ts=>(bx ts).bind λk ts=>p.joins d (aP jN [.tup [.str kd,f,r],o.1,.tup (o.2.map DT.str)]) k ts
noncomputable def kD(p:fE)(d:Nat)(acc:List (List DT))(ts:List Tok):aX (List (List DT)):=bH [44] ts λb ts=>bu b
 ((p.row d ts).bind λx ts=>bu (decide (x.length=(acc.headD []).length)) (p.rowsL d (acc++[x]) ts) .err)
 (.ok acc ts)
noncomputable def xz(ts:List Tok):aX Bool:=aS be ts λb ts=>bu b (.ok true ts) (aS fT ts λ_ ts=>.ok false ts)
noncomputable def cq{α:Type}(s:List Nat)(z:α)(x:List Tok->aX α)(ts:List Tok):aX α:=aS s ts λb ts=>bu b (x ts) (.ok z ts)
noncomputable def jr(p:fE)(d:Nat)(gs:List DT)(ts:List Tok):aX DT:=bu (jZ cJ ts) (bu gs.isEmpty .err (p.expr d 1 ts.tail)) (.ok .none ts)
section
variable (p:fE) (d:Nat) (di:Bool) (cols:List DT) (so wh:DT) (gs:List DT)
noncomputable def QG:DT->List Tok->aX (Bool×DT):=λha ts=>.ok (false,aP ez [.tup [.tup cols,.bool di,so],wh,.tup gs,ha]) ts
noncomputable def QH:List DT->List Tok->aX (Bool×DT):=λgs ts=>(jr p d gs ts).bind (QG di cols so wh gs)
noncomputable def QI:DT->List Tok->aX (Bool×DT):=λwh ts=>(cq b0 [] (λts=>bI eV ts λts=>p.exprs d ts) ts).bind (QH p d di cols so wh)
noncomputable def QJ:DT->List Tok->aX (Bool×DT):=λso ts=>(cq cO .none (p.expr d 1) ts).bind (QI p d di cols so)
noncomputable def QK:List DT->List Tok->aX (Bool×DT):=λcols ts=>(cq dn .none (p.srcs d) ts).bind (QJ p d di cols)
noncomputable def QL:DT->List Tok->aX (Bool×DT):=λc ts=>(p.colsL d [c] ts).bind (QK p d di)
noncomputable def QM:Bool->List Tok->aX (Bool×DT):=λdi ts=>(p.col d ts).bind (QL p d di)
end
noncomputable def ou(p:fE)(d:Nat)(ts:List Tok):aX (Bool×DT):=aS bM ts λb ts=>bu b
 ((p.rows d ts).bind λl ts=>.ok (true,aP gO [.tup (l.map DT.tup)]) ts)
 (bI aW ts λts=>(xz ts).bind (QM p d))
noncomputable def iQ(p:fE)(d:Nat)(ts:List Tok):aX (DT×DT):=aS bh ts λb ts=>bu b
 ((p.expr d 1 ts).bind λx ts=>aS dT ts λb ts=>bu b ((p.expr d 1 ts).bind λy ts=>.ok (x,y) ts)
  (bH [44] ts λb ts=>bu b ((p.expr d 1 ts).bind λy ts=>.ok (y,x) ts) (.ok (x,.none) ts)))
 (.ok (.none,.none) ts)
noncomputable def xA(p:fE)(d:Nat)(last:Bool×DT)(b:DT)(op:Option (List Nat))(ts:List Tok):aX (Bool×DT):=match op with
 | none=>.ok (last.1,b) ts
 | some o=>(p.body d ts).bind λx ts=>(b4 ts).bind λop ts=>p.comp d x (aP gP [.str o,b,x.2]) op ts
noncomputable def lR(p:fE)(d:Nat)(v:Bool)(ts:List Tok):aX (List DT×DT×DT):=bu v (.ok ([],.none,.none) ts)
 ((cq bZ [] (λts=>bI eV ts λts=>p.terms d ts) ts).bind λos ts=>(p.limits d ts).bind λl ts=>.ok (os,l) ts)
noncomputable def xy(p:fE)(d:Nat)(ts:List Tok):aX DT:=bu (decide (d+1>50)) .err
 ((p.body (d+1) ts).bind λb ts=>(b4 ts).bind λop ts=>(p.comp (d+1) b b.2 op ts).bind λx ts=>(lR p (d+1) x.1 ts).bind λt ts=>
  .ok (aP dF [.tup [x.2,.tup t.1],t.2.1,t.2.2]) ts)
noncomputable def L0(n:Nat)(p:fE):fE where
 names:=ig n
 expr:=λd least ts=>bu (decide (d+1>50)) .err ((p.pre (d+1) ts).bind λf ts=>iR ts λl=>p.ops (d+1) least f l ts)
 ops:=λd least f l ts=>bu (decide (l ≥ least)) (iS ts λw r=>bu (decide (w.k=bp))
  ((p.expr d (l+1) r).bind λg ts=>iR ts λl=>p.ops d least (aP gQ [.str w.t,f,g]) l ts) .unk) (.ok f ts)
 pre:=λd ts=>iS ts λw _=>bu (aA gE w||(decide (w.k=bp)&&decide (w.t∈f0))) .unk (p.prim d ts)
 prim:=L2 p
 brk:=xB p
 bsel:=λd ts=>bg [40] ts λts=>(p.sel d ts).bind λs ts=>bg [41] ts λts=>.ok s ts
 named:=ij p
 exprs:=λd ts=>(p.expr d 1 ts).bind λx ts=>p.exprsL d [x] ts
 exprsL:=λd acc ts=>jP (p.expr d 1) (p.exprsL d) acc ts
 col:=qh p
 colsL:=λd acc ts=>jP (p.col d) (p.colsL d) acc ts
 src:=tJ p
 srcs:=λd ts=>(p.src d ts).bind λf ts=>(bx ts).bind λk ts=>p.joins d f k ts
 joins:=ik p
 row:=λd ts=>bg [40] ts λts=>(p.exprs d ts).bind λl ts=>bg [41] ts λts=>.ok l ts
 rowsL:=kD p
 rows:=λd ts=>(p.row d ts).bind λx ts=>p.rowsL d [x] ts
 body:=ou p
 term:=λd ts=>(p.expr d 1 ts).bind λx ts=>(ot ts).bind λde ts=>.ok (aP vy [x,.bool de]) ts
 termsL:=λd acc ts=>jP (p.term d) (p.termsL d) acc ts
 terms:=λd ts=>(p.term d ts).bind λx ts=>p.termsL d [x] ts
 limits:=iQ p
 comp:=xA p
 sel:=xy p
noncomputable def O6:fE where
 names:=λ_=>.unk
 expr:=λ_ _ _=>.unk
 ops:=λ_ _ _ _ _=>.unk
 pre:=λ_ _=>.unk
 prim:=λ_ _=>.unk
 brk:=λ_ _=>.unk
 bsel:=λ_ _=>.unk
 named:=λ_ _=>.unk
 exprs:=λ_ _=>.unk
 exprsL:=λ_ _ _=>.unk
 col:=λ_ _=>.unk
 colsL:=λ_ _ _=>.unk
 src:=λ_ _=>.unk
 srcs:=λ_ _=>.unk
 joins:=λ_ _ _ _=>.unk
 row:=λ_ _=>.unk
 rowsL:=λ_ _ _=>.unk
 rows:=λ_ _=>.unk
 body:=λ_ _=>.unk
 term:=λ_ _=>.unk
 termsL:=λ_ _ _=>.unk
 terms:=λ_ _=>.unk
 limits:=λ_ _=>.unk
 comp:=λ_ _ _ _ _=>.unk
 sel:=λ_ _=>.unk
noncomputable def aj:Nat->fE
 | 0=>O6
 | n+1=>L0 n (aj n)
end
noncomputable def PT(e:dM)(H:AH)(ts:List Tok)(d:Nat):Prop:=∃ i,PS e H i d/\e.toks.drop i=ts
section
variable {e:dM} {H:AH} {ts r:List Tok} {d:Nat} {w:Tok}
theorem PT.cons(P:PT e H ts d):∃ w r,ts=w::r:=by
 obtain⟨i,P,h⟩:=P
 induction ts with
 | nil=>rw[List.drop_eq_nil_iff] at h;exact absurd P.lt (Nat.not_lt_of_le h)
 | cons w r=>exact⟨w,r,rfl⟩
theorem dj{l:List Tok}{i:Nat}(h:l.drop i=w::r):l[i]?=some w/\l.drop (i+1)=r:=by
 constructor
 ·have:=congrArg (λz:List Tok=>z[0]?) h
  simpa using this
 ·refine ac List.tail_drop.symm (ac h ?_);rfl
theorem PT.rd(P:PT e H ts d):H e.rd=some (.inst 1228 [(87,.ref e.st),(77,.ref e.er)]):=let ⟨_,P,_⟩:=P;P.rd
theorem PT.er(P:PT e H ts d):H e.er=some (.inst 1095 [(87,.ref e.st),(86,.ref e.rd)]):=let ⟨_,P,_⟩:=P;P.er
theorem PT.st(P:PT e H ts d):∃ i,H e.st=some (rz e i d):=let ⟨i,P,_⟩:=P;⟨i,P.st⟩
theorem PT.new(P:PT e H ts d){a:Nat}{o:AO}(h:H a=none):PT e (H.put a o) ts d:=let ⟨i,P,z⟩:=P;⟨i,P.new h,z⟩
theorem PT.meth(P:PT e H ts d){T:aT}{C:CS}{k f:Nat}{args:(List AV->AH->Prop)->Prop}{Q:au}(hk:∀ i d,pF k [(57,.str e.txt),(113,.ref e.wl),(112,.int i),(11,.int d)]=none)(hf:T.meth 1361 k=some f)
 (q:args λvs H₂=>C f (.ref e.st::vs) H₂ Q):eT T C H (.ref e.st) k args Q:=by
 refine cG P λi P _=>?_
 exact aC P.st (hk _ _) hf q
theorem PT.rmeth(P:PT e H ts d){T:aT}{C:CS}{k f:Nat}{args:(List AV->AH->Prop)->Prop}{Q:au}(hk:pF k [(87,AV.ref e.st),(77,.ref e.er)]=none)(hf:T.meth 1228 k=some f)
 (q:args λvs H₂=>C f (.ref e.rd::vs) H₂ Q):eT T C H (.ref e.rd) k args Q:=aC P.rd hk hf q
theorem PT.emeth(P:PT e H ts d){T:aT}{C:CS}{k f:Nat}{args:(List AV->AH->Prop)->Prop}{Q:au}(hk:pF k [(87,AV.ref e.st),(86,.ref e.rd)]=none)(hf:T.meth 1095 k=some f)
 (q:args λvs H₂=>C f (.ref e.er::vs) H₂ Q):eT T C H (.ref e.er) k args Q:=aC P.er hk hf q
end
noncomputable def Ok{α:Type}(e:dM)(X:Prop)(d:Nat)(H:AH)(V:AH->α->AV->Prop)(x:aX α)(Q:au):Prop:=match x with
 | .ok a ts=>∀ H' v,ai [e.st] H H'->PT e H' ts d->V H' a v->Q v H'
 | .err=>X
 | .unk=>False
theorem Ok.keep{α:Type}{e:dM}{X:Prop}{d:Nat}{H H':AH}{V:AH->α->AV->Prop}{x:aX α}{Q:au}(k:ai [e.st] H H')(h:Ok e X d H V x Q):Ok e X d H' V x Q:=by
 induction x with
 | ok a ts=>exact λH2 v k2=>h H2 v (k.trans k2)
 | err=>exact h
 | unk=>exact h
theorem Ok.bind{α β:Type}{e e':dM}{X:Prop}{d d':Nat}{H H0:AH}{V:AH->α->AV->Prop}{V':AH->β->AV->Prop}{x:aX β}{f:β->List Tok->aX α}{Q Q':au}(h:Ok e X d H0 V (x.bind f) Q)
 (q:∀ a ts,Ok e X d H0 V (f a ts) Q->∀ H' v,ai [e'.st] H H'->PT e' H' ts d'->V' H' a v->Q' v H'):Ok e' X d' H V' x Q':=by
 induction x with
 | ok a ts=>exact q a ts h
 | err=>exact h
 | unk=>exact h
theorem Ok.bnd{α β:Type}{e:dM}{X:Prop}{d d':Nat}{H:AH}{V:AH->α->AV->Prop}{V':AH->β->AV->Prop}{x:aX β}{f:β->List Tok->aX α}{Q Q':au}(h:Ok e X d H V (x.bind f) Q)
 (q:∀ a ts H' v,ai [e.st] H H'->PT e H' ts d'->V' H' a v->Ok e X d H' V (f a ts) Q->Q' v H'):Ok e X d' H V' x Q':=
 Ok.bind h λa ts ok H' v k P hv=>q a ts H' v k P hv (ok.keep k)
theorem Ok.mono{α:Type}{e:dM}{X:Prop}{d:Nat}{H:AH}{V V':AH->α->AV->Prop}{x:aX α}{Q:au}(h:Ok e X d H V x Q)(m:∀ H a v,V' H a v->V H a v):Ok e X d H V' x Q:=by
 induction x with
 | ok a ts=>exact λH' v k P hv=>h H' v k P (m _ _ _ hv)
 | err=>exact h
 | unk=>exact h
theorem PT.mu{e:dM}{H H':AH}{ts:List Tok}{d:Nat}(P:PT e H ts d)(k:ai [e.st] H H'):ai e.mu H H':=k.sub λa z=>by
 refine ac (List.mem_singleton.mp z) ?_
 exact let ⟨_,P,_⟩:=P;P.mem
theorem PT.mok{e:dM}{H:AH}{ts:List Tok}{d:Nat}(P:PT e H ts d):bW e.mu H:=let ⟨_,P,_⟩:=P;P.mok
@[reducible] noncomputable def dM.opn(e:dM)(a:Nat):dM:={ e with mu:=a::e.mu }
theorem PT.opn{e:dM}{H:AH}{ts:List Tok}{d a:Nat}{vs:List AV}(P:PT e H ts d)(h:H a=some (.list vs)):PT (e.opn a) H ts d:=
 let ⟨i,P,z⟩:=P
 ⟨i,⟨P.st,P.wl,P.rd,P.er,P.len,P.lt,P.small,P.words,P.ends,P.vals,.tail _ P.mem,λb hb=>by
  rcases List.mem_cons.mp hb with rfl|hb
  ·exact⟨_,h,trivial⟩
  ·exact P.mok b hb⟩,z⟩
theorem PT.cls{e:dM}{H:AH}{ts:List Tok}{d a:Nat}(hm:e.st∈e.mu)(P:PT (e.opn a) H ts d):PT e H ts d:=
 let ⟨i,P,z⟩:=P
 ⟨i,⟨P.st,P.wl,P.rd,P.er,P.len,P.lt,P.small,P.words,P.ends,P.vals,hm,λb hb=>P.mok b (.tail _ hb)⟩,z⟩
theorem PT.mem{e:dM}{H:AH}{ts:List Tok}{d:Nat}(P:PT e H ts d):e.st∈e.mu:=let ⟨_,P,_⟩:=P;P.mem
theorem ai.own{M:List Nat}{a:Nat}{H H':AH}(h:H a=none)(k:ai (a::M) H H'):ai M H H':=λb o n hb=>k b o (λz=>by
 rcases List.mem_cons.mp z with rfl|z
 ·rw[h] at hb;exact fI hb
 ·exact n z) hb
theorem xw{β:Type}{s:List Nat}{ts:List Tok}{f:Bool->List Tok->aX β}(h:jZ s ts=true):aS s ts f=f true ts.tail:=by unfold aS;exact ac (h ..) rfl
theorem xx{β:Type}{s:List Nat}{ts:List Tok}{f:Bool->List Tok->aX β}(h:jZ s ts=false):aS s ts f=f false ts:=by unfold aS;exact ac (h ..) rfl
theorem ol{β:Type}{s:List Nat}{ts:List Tok}{f:Bool->List Tok->aX β}(h:ud s ts=true):bH s ts f=f true ts.tail:=by unfold bH;rw[h]
theorem om{β:Type}{s:List Nat}{ts:List Tok}{f:Bool->List Tok->aX β}(h:ud s ts=false):bH s ts f=f false ts:=by unfold bH;exact ac (h ..) rfl
section
variable {α:Type} {X:Prop} {e:dM} {H:AH} {Q Q0:au} {n d:Nat} {s:List Nat} {ts:List Tok} {V:AH->α->AV->Prop}
theorem dX{d0:Nat}{f:Bool->List Tok->aX α}(P:PT e H ts d)(ok:Ok e X d0 H V (aS s ts f) Q0)(q:∀ b ts' H',ai [e.st] H H'->PT e H' ts' d->Ok e X d0 H' V (f b ts') Q0->Q (.bool b) H'):CP X (n+2) 1316 [.ref e.st,.str s] H Q:=by
 refine pG P.cons λw r eq1_=>?_
 subst eq1_
 refine cG P λi P hd=>?_
 obtain⟨h1,h2⟩:=dj hd
 refine pR P h1 (λhk H' k P'=>q true r H' k ⟨i+1,P',h2⟩ ?_) (λhk=>q false _ H (.refl _ _) ⟨i,P,hd⟩ ?_)
 ·rw[xw (ts:=w::r) hk] at ok;exact ok.keep k
 ·rw[xx (ts:=w::r) hk] at ok;exact ok
theorem pM{d0:Nat}{f:Bool->List Tok->aX α}(P:PT e H ts d)(ok:Ok e X d0 H V (bH s ts f) Q0)(q:∀ b ts' H',ai [e.st] H H'->PT e H' ts' d->Ok e X d0 H' V (f b ts') Q0->Q (.bool b) H'):CP X (n+2) 1323 [.ref e.st,.str s] H Q:=by
 refine pG P.cons λw r eq1_=>?_
 subst eq1_
 refine cG P λi P hd=>?_
 refine(dj hd).elim λh1 h2=>?_
 refine jL P h1 (λhk H' k P'=>q true r H' k ⟨i+1,P',h2⟩ ?_) (λhk=>q false _ H (.refl _ _) ⟨i,P,hd⟩ ?_)
 ·rw[ol (ts:=w::r) hk] at ok;exact ok.keep k
 ·rw[om (ts:=w::r) hk] at ok;exact ok
theorem Hv{e0:dM}{d0:Nat}{H0:AH}{f:Bool->List Tok->aX α}(P:PT e H ts d)(ok:Ok e0 X d0 H0 V (bH s ts f) Q0)(q:∀ b ts' H',ai [e.st] H H'->PT e H' ts' d->Ok e0 X d0 H0 V (f b ts') Q0->Q (.bool b) H'):CP X (n+2) 1323 [.ref e.st,.str s] H Q:=by
 refine pG P.cons λw r eq1_=>?_
 subst eq1_
 refine cG P λi P hd=>?_
 refine(dj hd).elim λh1 h2=>?_
 refine jL P h1 (λhk H' k P'=>q true r H' k ⟨i+1,P',h2⟩ ?_) (λhk=>q false _ H (.refl _ _) ⟨i,P,hd⟩ ?_)
 ·rw[ol (ts:=w::r) hk] at ok;exact ok
 ·rw[om (ts:=w::r) hk] at ok;exact ok
theorem pY(P:PT e H ts d)(hX:X):CP X (n+2) 1274 [.ref e.st,.str s] H Q:=by
 refine pG P.cons λw r eq1_=>?_
 subst eq1_
 refine cG P λi P hd=>?_
 exact xm P (dj hd).1 hX
theorem qm{d0:Nat}{f:List Tok->aX α}(hs:(s++[32,105,115,32,109,105,115,115,105,110,103]).length<=ah)(P:PT e H ts d)(ok:Ok e X d0 H V (bI s ts f) Q0)(q:∀ ts' H',ai [e.st] H H'->PT e H' ts' d->Ok e X d0 H' V (f ts') Q0->Q .none H'):CP X (n+3) 1330 [.ref e.st,.str s] H Q:=by
 refine ae rfl rfl rfl (by simp) ?_
 refine P.meth (λ_ _=>rfl) rfl ?_
 have ok':Ok e X d0 H V (aS s ts λb ts=>match b with|true=>f ts|false=>.err) Q0:=by
  unfold bI at ok;unfold aS
  cases h:jZ s ts<;>rw[h] at ok<;>exact ok
 refine dX P ok' λb ts' H' k P' ok2=>?_
 induction b with
 | true=>exact q ts' H' k P' ok2
 | false=>exact P'.meth (λ_ _=>rfl) rfl ⟨hs,pY P' ok2⟩
theorem kF{d0:Nat}{f:List Tok->aX α}(hs:(s++[32,105,115,32,109,105,115,115,105,110,103]).length<=ah)(P:PT e H ts d)(ok:Ok e X d0 H V (bg s ts f) Q0)(q:∀ ts' H',ai [e.st] H H'->PT e H' ts' d->Ok e X d0 H' V (f ts') Q0->Q .none H'):CP X (n+3) 1337 [.ref e.st,.str s] H Q:=by
 refine ae rfl rfl rfl (by simp) ?_
 refine P.meth (λ_ _=>rfl) rfl ?_
 have ok':Ok e X d0 H V (bH s ts λb ts=>match b with|true=>f ts|false=>.err) Q0:=by
  unfold bg at ok;unfold bH
  cases h:ud s ts<;>rw[h] at ok<;>exact ok
 refine pM P ok' λb ts' H' k P' ok2=>?_
 induction b with
 | true=>exact q ts' H' k P' ok2
 | false=>exact P'.meth (λ_ _=>rfl) rfl ⟨hs,pY P' ok2⟩
theorem uj{w:Tok}{r:List Tok}(P:PT e H (w::r) d)(q:∀ a,bk H a w->Q (.ref a) H):CP X (n+1) 1253 [.ref e.st] H Q:=by
 obtain⟨i,P,hd⟩:=P
 exact yO P (dj hd).1 q
theorem kQ{w:Tok}{r:List Tok}(P:PT e H (w::r) d)(hk:w.k≠eH)(q:∀ a H',bk H' a w->ai [e.st] H H'->PT e H' r d->Q (.ref a) H'):CP X (n+1) 1267 [.ref e.st] H Q:=by
 refine cG P λi P hd=>?_
 obtain⟨h1,h2⟩:=dj hd
 exact Pv P h1 hk λa H' ha k P'=>q a H' ha k ⟨i+1,P',h2⟩
theorem PT.val{w:Tok}{r:List Tok}(P:PT e H (w::r) d):w.v=.none\/(∃ i,w.v=.int i)\/∃ s,w.v=.str s:=by
 obtain⟨i,P,hd⟩:=P
 exact P.vals i w (dj hd).1
theorem PT.dat{w:Tok}{r:List Tok}(P:PT e H (w::r) d)(H':AH):bS H' w.v (dv w.v):=by
 rcases P.val with h|⟨i,h⟩|⟨s,h⟩<;>refine h.symm ▸ ?_
 ·exact .none
 ·exact .int
 ·exact .str
theorem Mg{e0:dM}{d0:Nat}{H0:AH}{f:List Nat->List Tok->aX α}(P:PT e H ts d)(ok:Ok e0 X d0 H0 V (cW ts f) Q0)(q:∀ s ts' H',ai [e.st] H H'->PT e H' ts' d->Ok e0 X d0 H0 V (f s ts') Q0->Q (.str s) H'):CP X (n+3) 1344 [.ref e.st] H Q:=by
 refine pG P.cons λw r eq1_=>?_
 subst eq1_
 refine cG (id P) λi PS0 hd=>?_
 refine(dj hd).elim λh1 h2=>?_
 refine cG (PS0.at_ h1) λa ha hwa=>?_
 refine(id hwa).elim λp hra=>?_
 refine ae rfl rfl rfl (by simp) ?_
 refine aa PS0.st rfl rfl ?_
 refine aa PS0.st rfl rfl ?_
 refine dQ PS0.wl PS0.ok ha ?_
 refine aC hra rfl rfl ?_
 refine jy hwa ?_
 have ok:Ok e0 X d0 H0 V (bu (bN w) (mF w.v λs=>f s r) .err) Q0:=ok
 induction hf:bN w with
 | true=>
  rw[hf] at ok
  refine P.meth (λ_ _=>rfl) rfl ?_
  have hk:w.k≠eH:=by
   unfold bN at hf
   simp only[Bool.and_eq_true,decide_eq_true_eq] at hf
   refine hf.1.symm ▸ ?_;decide
  refine kQ P hk λa' H' ha' k P'=>?_
  refine ha'.elim λp' hra'=>?_
  refine aa hra' rfl rfl ?_
  cases hv:w.v with
  | str s=>rw[hv] at ok;exact q s r H' k P' ok
  | _=>rw[hv] at ok;exact ok.elim
 | false=>
  rw[hf] at ok
  refine P.meth (λ_ _=>rfl) rfl ?_
  exact pY P ok
theorem qk{f:List Nat->List Tok->aX α}(P:PT e H ts d)(ok:Ok e X d H V (cW ts f) Q0)(q:∀ s ts' H',ai [e.st] H H'->PT e H' ts' d->Ok e X d H' V (f s ts') Q0->Q (.str s) H'):CP X (n+3) 1344 [.ref e.st] H Q:=
 Mg P ok λs ts' H' k P' ok=>q s ts' H' k P' (ok.keep k)
end
noncomputable abbrev VD:AH->DT->AV->Prop:=λH a v=>bS H v a
noncomputable def KH:Option (List Nat)->AV
 | some s=>.str s
 | none=>.none
noncomputable abbrev VO:AH->Option (List Nat)->AV->Prop:=λ_ a v=>v=KH a
noncomputable abbrev VB:AH->Bool->AV->Prop:=λ_ a v=>v=.bool a
section
variable {α:Type} {X:Prop} {e:dM} {H:AH} {Q Q0:au} {n d:Nat} {s:List Nat} {ts:List Tok} {V:AH->α->AV->Prop}
theorem Q1{w:Tok}(h:decide (w.k=da)=true):w.k≠eH:=by
 refine ac (of_decide_eq_true h) ?_;decide
theorem xu{w:Tok}(h:dU w=true):w.k≠eH:=by
 unfold dU bN at h
 simp only[Bool.and_eq_true,decide_eq_true_eq] at h
 refine ac h.1.1 ?_;decide
theorem nv(P:PT e H ts d)(ok:Ok e X d H VD (eM ts) Q):CP X (n+4) 1197 [.ref e.rd] H Q:=by
 refine ae rfl rfl rfl (by simp) ?_
 unfold eM at ok
 refine aa P.rd rfl rfl ?_
 refine P.meth (λ_ _=>rfl) rfl ?_
 refine dX (s:=rZ) P ok λb ts' H' k P ok=>?_
 refine pG P.cons λw r eq1_=>?_
 subst eq1_
 induction b with
 | true=>
  refine aa P.rd rfl rfl ?_
  refine P.meth (λ_ _=>rfl) rfl ?_
  refine uj P λa ha=>?_
  refine ha.elim λp ha=>?_
  refine aa ha rfl rfl ?_
  have ok:Ok e X d H' VD (bu (decide (w.k=da)) (.ok (dv w.v) r) (cW (w::r) λs r=>.ok (.str s) r)) Q:=ok
  show(match decide (w.k=da) with|true=>_|false=>_)
  match h:decide (w.k=da) with
  | true=>
   rw[h] at ok
   refine aa P.rd rfl rfl ?_
   refine P.meth (λ_ _=>rfl) rfl ?_
   refine kQ P (Q1 h) λa' H2 ha' k2 P2=>?_
   obtain⟨p',ha'⟩:=ha'
   refine aa ha' rfl rfl ?_
   exact ok H2 _ k2 P2 (P.dat H2)
  | false=>
   rw[h] at ok
   refine aa P.rd rfl rfl ?_
   refine P.meth (λ_ _=>rfl) rfl ?_
   refine qk P ok λs ts2 H2 k2 P2 ok2=>?_
   exact ok2 H2 _ (.refl _ _) P2 .str
 | false=>
  have ok:Ok e X d H' VD (bu (dU w) (.ok (dv w.v) r) (.ok .none (w::r))) Q:=ok
  refine aa P.rd rfl rfl ?_
  refine P.meth (λ_ _=>rfl) rfl ?_
  refine uj P λa ha=>?_
  refine(id ha).elim λp ha2=>?_
  refine aC ha2 rfl rfl ?_
  refine qH ha ?_
  match h:dU w with
  | true=>
   rw[h] at ok
   refine aa P.rd rfl rfl ?_
   refine P.meth (λ_ _=>rfl) rfl ?_
   refine kQ P (xu h) λa' H2 ha' k2 P2=>?_
   obtain⟨p',ha'⟩:=ha'
   refine aa ha' rfl rfl ?_
   exact ok H2 _ k2 P2 (P.dat H2)
  | false=>
   rw[h] at ok
   exact ok H' _ (.refl _ _) P .none
theorem hJ(P:PT e H ts d)(ok:Ok e X d H VO (b4 ts) Q):CP X (n+4) 1134 [.ref e.rd] H Q:=by
 refine ae rfl rfl rfl (by simp) ?_
 unfold b4 at ok
 refine aa P.rd rfl rfl ?_
 refine P.meth (λ_ _=>rfl) rfl ?_
 refine dX (s:=eQ) P ok λb ts H k P ok=>?_
 induction b with
 | true=>
  refine aa P.rd rfl rfl ?_
  refine P.meth (λ_ _=>rfl) rfl ?_
  refine dX (s:=fT) P ok λb ts H k P ok=>?_
  induction b with
  | true=>exact ok H _ (.refl _ _) P rfl
  | false=>exact ok H _ (.refl _ _) P rfl
 | false=>
  refine aa P.rd rfl rfl ?_
  refine P.meth (λ_ _=>rfl) rfl ?_
  refine dX (s:=cP) P ok λb ts H k P ok=>?_
  induction b with
  | true=>exact ok H _ (.refl _ _) P rfl
  | false=>
   refine aa P.rd rfl rfl ?_
   refine P.meth (λ_ _=>rfl) rfl ?_
   refine dX (s:=e9) P ok λb ts H k P ok=>?_
   induction b with
   | true=>exact ok H _ (.refl _ _) P rfl
   | false=>exact ok H _ (.refl _ _) P rfl
theorem JM(P:PT e H ts d)(ok:Ok e X d H VB (ot ts) Q):CP X (n+4) 1155 [.ref e.rd] H Q:=by
 refine ae rfl rfl rfl (by simp) ?_
 unfold ot at ok
 refine aa P.rd rfl rfl ?_
 refine P.meth (λ_ _=>rfl) rfl ?_
 refine dX (s:=lZ) P ok λb ts H k P ok=>?_
 induction b with
 | true=>exact ok H _ (.refl _ _) P rfl
 | false=>
  refine aa P.rd rfl rfl ?_
  refine P.meth (λ_ _=>rfl) rfl ?_
  refine dX (s:=t8) P ok λb ts H k P ok=>?_
  exact ok H _ (.refl _ _) P rfl
theorem jT(P:PT e H ts d)(ok:Ok e X d H VO (bx ts) Q):CP X (n+4) 1211 [.ref e.rd] H Q:=by
 refine ae rfl rfl rfl (by simp) ?_
 unfold bx at ok
 refine aa P.rd rfl rfl ?_
 refine P.meth (λ_ _=>rfl) rfl ?_
 refine pM (s:=[44]) P ok λb ts H k P ok=>?_
 induction b with
 | true=>exact ok H _ (.refl _ _) P rfl
 | false=>
 refine aa P.rd rfl rfl ?_
 refine P.meth (λ_ _=>rfl) rfl ?_
 refine dX (s:=cI) P ok λb ts H k P ok=>?_
 cases b with
 | true=>exact ok H _ (.refl _ _) P rfl
 | false=>
 refine aa P.rd rfl rfl ?_
 refine P.meth (λ_ _=>rfl) rfl ?_
 refine dX (s:=jw) P ok λb ts H k P ok=>?_
 cases b with
 | true=>
  refine aa P.rd rfl rfl ?_
  refine P.meth (λ_ _=>rfl) rfl ?_
  refine qm (s:=cI) (by decide) P ok λts H k P ok=>?_
  exact ok H _ (.refl _ _) P rfl
 | false=>
 refine aa P.rd rfl rfl ?_
 refine P.meth (λ_ _=>rfl) rfl ?_
 refine dX (s:=jx) P ok λb ts H k P ok=>?_
 cases b with
 | true=>
  refine aa P.rd rfl rfl ?_
  refine P.meth (λ_ _=>rfl) rfl ?_
  refine qm (s:=cI) (by decide) P ok λts H k P ok=>?_
  exact ok H _ (.refl _ _) P rfl
 | false=>
 refine aa P.rd rfl rfl ?_
 refine P.meth (λ_ _=>rfl) rfl ?_
 refine dX (s:=i7) P ok λb ts H k P ok=>?_
 cases b with
 | true=>
  refine aa P.rd rfl rfl ?_
  refine P.meth (λ_ _=>rfl) rfl ?_
  refine dX (s:=jv) P ok λb ts H k P ok=>?_
  refine aa P.rd rfl rfl ?_
  refine P.meth (λ_ _=>rfl) rfl ?_
  refine qm (s:=cI) (by decide) P ok λts H k P ok=>?_
  exact ok H _ (.refl _ _) P rfl
 | false=>exact ok H _ (.refl _ _) P rfl
end
section
variable {α:Type} {X:Prop} {e:dM} {H:AH} {Q Q0:au} {n d:Nat} {s:List Nat} {ts:List Tok} {V:AH->α->AV->Prop}
theorem ny{k:Nat}{w:Tok}(P:PT e H ts d)(hw:cb ts k=some w)(q:∀ a,bk H a w->Q (.ref a) H):CP X (n+1) 1260 [.ref e.st,.int k] H Q:=by
 refine a7 λGg fin_=>?_
 refine cG P λi P hd=>?_
 refine fin_ ?_
 refine Dq P ?_ q
 unfold cb at hw
 rw[← hd,List.getElem?_drop,List.length_drop] at hw
 unfold dM.on
 have:=P.lt
 refine ac (show min (i+k) (e.toks.length-1)=i+min k (e.toks.length-i-1) from by lia) ?_
 exact hw
theorem Fq{w:Tok}{r:List Tok}(P:PT e H (w::r) d)(q:Q (.bool (aA s w)) H):CP X (n+2) 1288 [.ref e.st,.str s] H Q:=by
 refine a7 λGg fin_=>?_
 obtain⟨i,P,hd⟩:=P
 refine fin_ ?_
 exact gq P (dj hd).1 q
theorem Fp{w:Tok}{r:List Tok}(P:PT e H (w::r) d)(q:Q (.bool (aE s w)) H):CP X (n+2) 1295 [.ref e.st,.str s] H Q:=by
 refine a7 λGg fin_=>?_
 obtain⟨i,P,hd⟩:=P
 refine fin_ ?_
 exact mv P (dj hd).1 q
theorem Ld{w:Tok}{r:List Tok}(P:PT e H (w::r) d)(q:Q (.bool (aA aW w||aA bM w)) H):CP X (n+3) 1309 [.ref e.st] H Q:=by
 refine a7 λGg fin_=>?_
 obtain⟨i,P,hd⟩:=P
 refine fin_ ?_
 exact oU P (dj hd).1 q
theorem mN{w:Tok}(h:aA s w=true):w.k≠eH:=by
 unfold aA at h
 simp only[Bool.and_eq_true,decide_eq_true_eq] at h
 refine ac h.1 ?_;decide
theorem rA{w:Tok}(h:aE s w=true):w.k≠eH:=by
 unfold aE at h
 simp only[Bool.and_eq_true,decide_eq_true_eq] at h
 refine ac h.1 ?_;decide
theorem JC(P:PT e H ts d)(ok:Ok e X d H VD (oq ts) Q):CP X (n+4) 1225 [.ref e.rd] H Q:=by
 refine ae rfl rfl rfl (by simp) ?_
 unfold oq at ok
 refine aa P.rd rfl rfl ?_
 refine P.meth (λ_ _=>rfl) rfl ?_
 refine dX (s:=ba) P ok λb ts H k P ok=>?_
 induction b with
 | true=>
  refine aa P.rd rfl rfl ?_
  refine P.meth (λ_ _=>rfl) rfl ?_
  refine qm (s:=eV) (by decide) P ok λts H k P ok=>?_
  refine aa P.rd rfl rfl ?_
  refine P.meth (λ_ _=>rfl) rfl ?_
  refine qk P ok λs ts H k P ok=>?_
  exact aw λa ha=>ok _ _ (ai.new ha) (P.new ha) (.tup af (.cons .str (.cons .str .nil)))
 | false=>
  refine a7 λGg fin_=>?_
  refine pG P.cons λw r eq1_=>?_
  subst eq1_
  refine fin_ ?_
  refine aa P.rd rfl rfl ?_
  refine P.meth (λ_ _=>rfl) rfl ?_
  refine Fq (s:=gE) P ?_
  replace ok:Ok e X d H VD (bu (aA gE w) (ow (w::r) 1 λw1=>bu (aA ba w1) (.ok (.tup [.str nT]) ((w::r).drop 2)) (.ok .none (w::r))) (.ok .none (w::r))) Q:=ok
  match h:aA gE w with
  | false=>
   rw[h] at ok
   exact ok H _ (.refl _ _) P .none
  | true=>
   rw[h] at ok
   replace ok:Ok e X d H VD (ow (w::r) 1 λw1=>bu (aA ba w1) (.ok (.tup [.str nT]) ((w::r).drop 2)) (.ok .none (w::r))) Q:=ok
   unfold ow at ok
   induction h1:cb (w::r) 1 with
   | none=>rw[h1] at ok;exact ok.elim
   | some w1=>
    rw[h1] at ok
    refine aa P.rd rfl rfl ?_
    refine P.meth (λ_ _=>rfl) rfl ?_
    refine ny (k:=1) P h1 λa ha=>?_
    refine(id ha).elim λp ha2=>?_
    refine aC ha2 rfl rfl ?_
    refine eh (s:=ba) ha ?_
    replace ok:Ok e X d H VD (bu (aA ba w1) (.ok (.tup [.str nT]) ((w::r).drop 2)) (.ok .none (w::r))) Q:=ok
    match h2:aA ba w1 with
    | false=>rw[h2] at ok;exact ok H _ (.refl _ _) P .none
    | true=>
     rw[h2] at ok
     refine aa P.rd rfl rfl ?_
     refine P.meth (λ_ _=>rfl) rfl ?_
     refine kQ P (mN h) λa1 H1 ha1 k1 P1=>?_
     refine a7 λGg fin_=>?_
     refine pG P1.cons λw' r' eq1_=>?_
     subst eq1_
     refine fin_ ?_
     have e1:w'=w1:=by
      unfold cb at h1
      simp at h1
      exact h1
     subst e1
     refine aa P1.rd rfl rfl ?_
     refine P1.meth (λ_ _=>rfl) rfl ?_
     refine kQ P1 (mN h2) λa2 H2 ha2 k2 P2=>?_
     exact aw λa ha=>ok _ _ ((k1.trans k2).trans (ai.new ha)) (P2.new ha) (.tup af (.cons .str .nil))
theorem dz{H:AH}{a:Nat}{vs:List AV}{x:AV}{Q:AH->Prop}(h:H a=some (.list vs))(hl:vs.length<=ah)(hx:x≠.oth)(q:Q (H.put a (.list (vs++[x])))):kc H (.ref a) x Q:=by
 exact⟨a,vs,rfl,h,hl,hx,q⟩
theorem dw{T:aT}{C:CS}{H:AH}{a:Nat}{vs:List AV}{args:(List AV->AH->Prop)->Prop}{Q:au}(h:H a=some (.list vs))(q:args λws H₂=>KD H₂ (.ref a) Q ws):eT T C H (.ref a) 0 args Q:=by
 exact .i2 a vs rfl rfl h q
theorem PT.put(P:PT e H ts d){a:Nat}{o o':AO}(h:H a=some o)(hn:∀ C fs,o≠.inst C fs)(hn':o'.noTup)(hw:a≠e.wl):PT e (H.put a o') ts d:=by
 refine cG P λi P z=>?_
 have n1:a≠e.st:=λz=>by rw[z,P.st] at h;exact hn _ _ (Option.some.inj h).symm
 refine⟨i,⟨?_,?_,?_,?_,P.len,P.lt,P.small,λj w hj=>?_,P.ends,P.vals,P.mem,λb hb=>?_⟩,z⟩
 ·exact(aO n1.symm)▸P.st
 ·exact(aO hw.symm)▸P.wl
 ·refine ac (aO λz=>by rw[← z,P.rd] at h;exact hn _ _ (Option.some.inj h).symm) ?_;exact P.rd
 ·refine ac (aO λz=>by rw[← z,P.er] at h;exact hn _ _ (Option.some.inj h).symm) ?_;exact P.er
 ·refine(P.words j w hj).elim λr h1_=>h1_.elim λh1 h2_=>h2_.elim λp h2=>?_
  exact⟨r,h1,p,by refine ac (aO λz=>by rw[← z,h2] at h;exact hn _ _ (Option.some.inj h).symm) ?_;exact h2⟩
 ·by_cases z:b=a
  ·exact⟨o',by refine z ▸ ?_;exact af,hn'⟩
  ·exact(aO z)▸(P.mok b hb)
end
theorem bB.opn{M:List Nat}{a:Nat}{H:AH}{o:AO}{v:AV}{d:DT}(h:bB M H v d)(ha:H a=none):bB (a::M) (H.put a o) v d:=by
 obtain⟨b,C,fs,f,rfl,ne,hb,hl,hm,sp⟩:=h
 have n1:b≠a:=λz=>by rw[z,ha] at hb;exact fI hb
 refine⟨b,C,fs,f,rfl,λz=>?_,(aO n1).trans hb,hl,hm,λH' k=>sp H' (λc o' n hc=>?_)⟩
 ·rcases List.mem_cons.mp z with z|z
  ·exact n1 z
  ·exact ne z
 ·have n2:c≠a:=λz=>by rw[z,ha] at hc;exact fI hc
  refine k c o' (λz=>?_) ((aO n2).trans hc)
  rcases List.mem_cons.mp z with z|z
  ·exact n2 z
  ·exact n z
theorem bB.shut{M:List Nat}{a:Nat}{H:AH}{v:AV}{d:DT}(h:bB (a::M) H v d):bB M H v d:=by
 obtain⟨b,C,fs,f,e,ne,hb,hl,hm,sp⟩:=h
 exact⟨b,C,fs,f,e,λz=>ne (.tail _ z),hb,hl,hm,λH' k=>sp H' (k.sub λ_=>.tail _)⟩
theorem cY.opn{M:List Nat}{a:Nat}{H:AH}{o:AO}(ha:H a=none){vs ds}(h:cY M H vs ds):cY (a::M) (H.put a o) vs ds:=by
 induction h with
 | nil=>exact .nil
 | cons h _ ih=>exact .cons (h.opn ha) ih
theorem cY.shut{M:List Nat}{a:Nat}{H:AH}{vs ds}(h:cY (a::M) H vs ds):cY M H vs ds:=by
 induction h with
 | nil=>exact .nil
 | cons h _ ih=>exact .cons h.shut ih
theorem cw.opn{M:List Nat}{a:Nat}{H:AH}{o:AO}{v:AV}{ds:List DT}(h:cw M H v ds)(ha:H a=none):cw (a::M) (H.put a o) v ds:=by
 refine a7 λGg fin_=>?_
 obtain⟨b,vs,rfl,ne,hb,hl,r⟩:=h
 have n1:b≠a:=λz=>by rw[z,ha] at hb;exact fI hb
 refine fin_ ?_
 refine⟨b,vs,rfl,λz=>?_,(aO n1).trans hb,hl,r.opn ha⟩
 rcases List.mem_cons.mp z with z|z
 ·exact n1 z
 ·exact ne z
theorem cw.shut{M:List Nat}{a:Nat}{H:AH}{v:AV}{ds:List DT}(h:cw (a::M) H v ds):cw M H v ds:=by
 obtain⟨b,vs,e,ne,hb,hl,r⟩:=h
 exact⟨b,vs,e,λz=>ne (.tail _ z),hb,hl,r.shut⟩
noncomputable abbrev VN(e:dM):AH->DT->AV->Prop:=λH d v=>bB e.mu H v d
noncomputable abbrev VP(e:dM):AH->DT->AV->Prop:=λH d v=>dR e.mu H v d
noncomputable abbrev VL(e:dM):AH->List DT->AV->Prop:=λH ds v=>cw e.mu H v ds
noncomputable abbrev P7(e:dM):AH->List (List DT)->AV->Prop:=λH ds v=>gL e.mu H v ds
noncomputable abbrev VS(e:dM):AH->List (List Nat)->AV->Prop:=λH ds v=>jI e.mu H v ds
noncomputable def fJ{α:Type}(f:Nat)(args:dM->List AV)(V:dM->AH->α->AV->Prop)(x:Nat->List Tok->aX α)(n:Nat):Prop:=
 ∀ (e:dM) (X:Prop) (d:Nat) (H:AH) (ts:List Tok) (Q:au) (N:Nat),4*n+12<=N->PT e H ts d->Ok e X d H (V e) (x d ts) Q->CP X N f (args e) H Q
section
variable {X:Prop} {e:dM} {H:AH} {Q:au} {n d:Nat}
theorem PT.wlne{ts:List Tok}(P:PT e H ts d){a:Nat}(h:H a=none):a≠e.wl:=λz=>by
 refine cG P λi P _=>?_
 rw[z,P.wl] at h;exact uU h
theorem PT.stne{ts:List Tok}(P:PT e H ts d){a:Nat}(h:H a=none):a≠e.st:=λz=>by
 refine cG P λi P _=>?_
 rw[z,P.st] at h;exact uU h
theorem fy{st a:Nat}{H H':AH}(k:ai [st] H H'):ai [a,st] H H':=k.sub λ_=>.tail _
theorem kZ{x:Nat->Nat->List Tok->aX DT}{xl:Nat->Nat->List DT->List Tok->aX (List DT)}(h0:∀ d acc ts,xl 0 d acc ts=.unk)(hS:∀ k d acc ts,xl (k+1) d acc ts=jP (x k d) (xl k d) acc ts)
 (self i kid f D a N0:Nat) (fs:List (Nat×AV)) (m:bd) (H0:AH) {N:bd->AH->Prop} {R:au} (hself:getL m 0=some (.ref self)) (hi:getL m i=some (.ref a))
 (hat:∀ H ts,PT (e.opn a) H ts d->H self=some (.inst D fs)) (hd:(az False).data D 87=true) (h87:pF 87 fs=some (.ref e.st)) (hkid:pF kid fs=none) (hmeth:(az False).meth D kid=some f)
 (hn:H0 a=none) (hw:a≠e.wl) (hst:a≠e.st) (hm:e.st∈e.mu) (hmu:a ∉ e.mu) (hx:∀ k<n,∀ (e':dM) (X:Prop) (d:Nat) (H:AH) (ts:List Tok) (Q:au),e'=e.opn a->PT e' H ts d->Ok e' X d H (VN e') (x k d ts) Q->CP X N0 f [.ref self] H Q) (hN0:2<=N0) :
 ∀ k≤n,∀ (vs:List AV) (acc:List DT) (H:AH) (ts:List Tok),PT (e.opn a) H ts d->H a=some (.list vs)->cY (a::e.mu) H vs acc->acc.length+k<=900->ai [a,e.st] H0 H->
  Ok e X d H0 (λH' l v=>v=.ref a/\cw e.mu H' v l) (xl k d acc ts) (λ_ H'=>N m H')->
  jJ (λm H K=>wT (az False) (CP X N0) m (.meth (.attr (.loc 0) 87) 106 [.val (.str [44])]) H K) (λm H K=>wSs (az False) (CP X N0) [.ex (.meth (.loc i) 0 [.meth (.loc 0) kid []])] m H K R) k m H N:=by
 intro z_
 induction z_ with
 | zero=>
  intro _ vs acc H ts P ha hr hl k ok
  rw[h0] at ok;exact ok.elim
 | succ j ihz=>
  intro hj vs acc H ts P ha hr hl k ok
  rw[hS] at ok
  obtain⟨N1,rfl⟩:∃ j,N0=j+2:=⟨N0-2,aG hN0 rfl⟩
  show wE (az False) (CP X (N1+2)) m (.loc 0) H (ym (az False) 87 _)
  refine kJ hself ?_
  refine aa (hat H ts P) hd h87 ?_
  refine P.meth (λ_ _=>rfl) rfl ?_
  unfold jP at ok
  refine Hv (s:=[44]) P ok λb ts H1 k1 P1 ok=>?_
  have k':=k.trans (fy k1)
  have ha1:H1 a=some (.list vs):=k1 _ _ (lT hst) ha
  induction b with
  | false=>exact ok H1 _ (ai.own hn k') (P1.cls hm) ⟨rfl,a,vs,rfl,hmu,ha1,by have:=hr.len;lia,(hr.keep (P.mu k1)).shut⟩
  | true=>
   show wE (az False) (CP X (N1+2)) m (.loc i) H1 (oO (az False) (CP X (N1+2)) 0 (wEs (az False) (CP X (N1+2)) m [.meth (.loc 0) kid []]) _)
   refine kJ hi ?_
   refine dw ha1 ?_
   show wE (az False) (CP X (N1+2)) m (.loc 0) H1 (oO (az False) (CP X (N1+2)) kid (wEs (az False) (CP X (N1+2)) m []) _)
   refine kJ hself ?_
   refine aC (hat H1 ts P1) hkid hmeth ?_
   refine hx j hj (e.opn a) X d H1 ts _ rfl P1 (Ok.bind ok λy ts ok H2 v k2 P2 hv=>?_)
   have ha2:H2 a=some (.list vs):=k2 _ _ (lT hst) ha1
   refine⟨v,rfl,dz ha2 (by have:=hr.len;unfold ah;lia) hv.ne ?_⟩
   have kp:ai (a::e.mu) H2 (H2.put a (.list (vs++[v]))):=ai.put (.head _)
   exact ihz (Nat.le_of_lt hj) (vs++[v]) (acc++[y]) _ ts
    (P2.put ha2 (λ_ _ z=>nomatch z) trivial hw) af (cY.app (hv.keep kp) ((((hr.keep (P.mu k1)).keep (P1.mu k2))).keep kp)) (by simp;lia) ((k'.trans (fy k2)).trans (ai.put (.head _))) ok
end
noncomputable abbrev uR(e:dM):AH->Bool×DT->AV->Prop:=λH x v=>bB e.mu H v x.2/\∃ a C fs,v=.ref a/\H a=some (.inst C fs)/\a ∉ e.mu/\(az False).isi C 632=true/\Nat.beq C 632=x.1
noncomputable abbrev Ky(e:dM):AH->DT×DT->AV->Prop:=λH x v=>∃ a v1 v2,v=.ref a/\H a=some (.tup [v1,v2])/\dR e.mu H v1 x.1/\dR e.mu H v2 x.2
noncomputable abbrev sU(e:dM):List AV:=[.ref e.er]
noncomputable abbrev mi(e:dM):List AV:=[.ref e.rd]
structure Sp(n:Nat):Prop where
 names:fJ 733 (λe=>[.ref e.st]) VS (λ_=>(aj n).names) n
 expr:∀ least,fJ 994 (λe=>[.ref e.er,.int least]) VN (λd ts=>(aj n).expr d least ts) n
 expr1:fJ 994 sU VN (λd ts=>(aj n).expr d 1 ts) n
 pre:fJ 1043 sU VN (aj n).pre n
 prim:fJ 1050 sU VN (aj n).prim n
 brk:fJ 1057 sU VN (aj n).brk n
 bsel:fJ 1064 sU VN (aj n).bsel n
 named:fJ 1085 sU VN (aj n).named n
 exprs:fJ 1036 sU VL (aj n).exprs n
 col:fJ 1190 mi VN (aj n).col n
 src:fJ 1218 mi VN (aj n).src n
 srcs:fJ 1204 mi VN (aj n).srcs n
 row:fJ 1183 mi VL (aj n).row n
 rows:fJ 1176 mi P7 (aj n).rows n
 body:fJ 1169 mi uR (aj n).body n
 term:fJ 1148 mi VN (aj n).term n
 terms:fJ 1141 mi VL (aj n).terms n
 limits:fJ 1162 mi Ky (aj n).limits n
 sel:fJ 1127 mi VN (aj n).sel n
theorem Ok.pin{α:Type}{e:dM}{X:Prop}{d:Nat}{H:AH}{V:AH->α->AV->Prop}{x:aX α}{Q:au}{v0:AV}(h:Ok e X d H V x Q):Ok e X d H (λH' l v=>v=v0/\V H' l v) x (λ_ H'=>Q v0 H'):=by
 induction x with
 | ok a ts=>exact λH' v k P hv=>hv.1▸h H' v k P hv.2
 | err=>exact h
 | unk=>exact h
section
variable {α:Type} {X:Prop} {e:dM} {H:AH} {Q Q0:au} {n d:Nat} {ts:List Tok} {V:AH->α->AV->Prop}
theorem Kx{T:aT}{a:Nat}{s:List Nat}{dv:AV}{l:List (List Nat×AV)}{Q:AV->Prop}(h:T.stat a=some (.tDict l))(hd:dv≠.oth)(q:Q ((jR s l).getD dv)):Du T (.ref a) (.str s) dv Q:=by
 exact⟨a,s,l,rfl,rfl,hd,h,q⟩
theorem uP{T:aT}{C:CS}{H:AH}{a:Nat}{l:List (List Nat×AV)}{args:(List AV->AH->Prop)->Prop}{Q:au}(h:T.stat a=some (.tDict l))(q:args λws H₂=>KC T H₂ (.ref a) Q ws):eT T C H (.ref a) 1 args Q:=by
 exact .i3 a l rfl rfl h q
theorem AM{T:aT}{H:AH}{s:List Nat}{a:Nat}{l:List (List Nat×AV)}{Q:Bool->Prop}(h:T.stat a=some (.tDict l))(q:Q (jR s l).isSome):AN T H (.str s) (.ref a) Q:=by
 exact .i4 s a l rfl rfl h q
theorem nA{T:aT}{H:AH}{s:List Nat}{a:Nat}(l:List (List Nat)){Q:Bool->Prop}(h:H a=some (.tup (l.map AV.str)))(q:Q (decide (s∈l))):AN T H (.str s) (.ref a) Q:=by
 exact .i2 s a l rfl rfl h q
noncomputable def sj:AV->Bool
 | .int _=>true
 | _=>false
theorem Cv{s:List Nat} : ∀ {l:List (List Nat×AV)},l.all (λp=>sj p.2)=true->jR s l=none\/∃ i,jR s l=some (.int i):=by
 intro z_
 induction z_ with
 | nil=>
  intro _
  exact .inl rfl
 | cons p r ihz=>
  intro h
  rw[List.all_cons,Bool.and_eq_true] at h
  unfold jR
  by_cases z:p.1=s
  ·refine ac (if_pos z) ?_
   cases hp:p.2 with
   | int i=>exact .inr ⟨i,rfl⟩
   | _=>rw[hp] at h;exact nomatch h.1
  ·refine ac (if_neg z) ?_;exact ihz h.2
theorem tn:(cn 969).all (λp=>sj p.2)=true:=rfl
theorem pV(s:List Nat):(jR s (cn 969)).getD (.int 0)=.int (cB s):=by
 unfold cB
 rcases Cv tn (s:=s) with h|⟨i,h⟩<;>rw[h]<;>rfl
theorem rV{f:Int->aX α}(P:PT e H ts d)(ok:Ok e X d H V (iR ts f) Q0)(q:∀ l,Ok e X d H V (f l) Q0->Q (.int l) H):CP X (n+2) 1001 [.ref e.er] H Q:=by
 refine pG P.cons λw r eq1_=>?_
 subst eq1_
 refine ae rfl rfl rfl (by simp) ?_
 refine aa P.er rfl rfl ?_
 refine P.meth (λ_ _=>rfl) rfl ?_
 refine uj P λa ha=>?_
 refine ha.elim λp ha=>?_
 refine aa ha rfl rfl ?_
 replace ok:Ok e X d H V (bu (decide (w.k=bp)) (f (cB w.t)) (bu (decide (w.k=ar)&&(jR w.t (cn 970)).isSome) .unk (f 0))) Q0:=ok
 show(match decide (w.k=bp) with|true=>_|false=>_)
 match h:decide (w.k=bp) with
 | true=>
  rw[h] at ok
  refine uP (l:=cn 969) rfl ?_
  refine aa ha rfl rfl ?_
  refine⟨_,_,rfl,Kx (l:=cn 969) rfl (λz=>nomatch z) ?_⟩
  refine ac (pV ..) ?_
  exact q _ ok
 | false=>
  rw[h] at ok
  refine aa ha rfl rfl ?_
  show(match !decide (w.k=ar) with|true=>_|false=>_)
  induction h2:decide (w.k=ar) with
  | false=>rw[h2] at ok;exact q 0 ok
  | true=>
   rw[h2] at ok
   refine aa ha rfl rfl ?_
   refine AM (l:=cn 970) rfl ?_
   match h3:(jR w.t (cn 970)).isSome with
   | true=>rw[h3] at ok;exact ok.elim
   | false=>rw[h3] at ok;exact q 0 ok
theorem lh.kp{M M':List Nat}{H H':AH}{a:Nat}{o:AO}(N:lh M H a o H'):ai M' H H':=N.is▸ai.new N.fresh
theorem qi{k N:Nat}{l:Int}{w:Tok}{r:List Tok}{v:AV}{f:DT}{F:DT->List Tok->aX α}(hx:fJ 994 (λe=>[.ref e.er,.int (l+1)]) VN (λd ts=>(aj k).expr d (l+1) ts) k)(hN:4*k+13<=N)(P:PT e H (w::r) d)(hk:decide (w.k=bp)=true)(hv:bB e.mu H v f)
 (ok:Ok e X d H V (((aj k).expr d (l+1) r).bind F) Q0) (q:∀ g ts H' v',ai [e.st] H H'->PT e H' ts d->bB e.mu H' v' (aP gQ [.str w.t,f,g])->Ok e X d H' V (F g ts) Q0->Q v' H'):CP X N 1008 [.ref e.er,v,.int l] H Q:=by
 obtain⟨N,rfl⟩:∃ j,N=j+1:=⟨N-1,aG hN rfl⟩
 have hvn:=hv.ne
 refine ae rfl rfl rfl (by simp[hvn]) ?_
 obtain⟨N,rfl⟩:∃ j,N=j+1:=⟨N-1,by lia⟩
 refine aa P.er rfl rfl ?_
 refine P.meth (λ_ _=>rfl) rfl ?_
 refine kQ P (by refine(of_decide_eq_true hk).symm ▸ ?_;decide) λa H1 ha k1 P1=>?_
 refine ha.elim λp ha=>?_
 refine aa ha rfl rfl ?_
 show(match decide (w.k=bp) with|true=>_|false=>_)
 refine hk.symm ▸ ?_
 refine aa ha rfl rfl ?_
 refine P1.emeth rfl rfl ?_
 refine hx e X d H1 r _ (N+1) (KI hN rfl) P1 (Ok.bnd (ok.keep k1) λg ts H2 v2 k2 P2 hv2 ok=>?_)
 refine qq P2.mok ((hv.keep (P.mu k1)).keep (P1.mu k2)) hv2 λb H3 nw hb=>?_
 exact q g ts H3 (.ref b) ((k1.trans k2).trans nw.kp) (let ⟨i,P,z⟩:=P2;⟨i,nw.ps P,z⟩) hb (ok.keep nw.kp)
theorem lh.pt{M:List Nat}{a:Nat}{o:AO}{H':AH}(N:lh M H a o H')(P:PT e H ts d):PT e H' ts d:=let ⟨i,P,z⟩:=P;⟨i,N.ps P,z⟩
theorem xF(ih:∀ k<n,Sp k){N:Nat}(hN:4*n+12<=N)(least:Int){Nn:bd->AH->Prop}{R:au}(hq:∀ v l H',Q0 v H'->Nn [some (.ref e.er),some (.int least),some v,some (.int l),none,none,none] H') :
 ∀ k≤n,∀ (H:AH) (ts:List Tok) (l:Int) (f:DT) (v:AV),PT e H ts d->bB e.mu H v f->Ok e X d H (VN e) ((aj k).ops d least f l ts) Q0->
  jJ (λm H K=>wT (az False) (CP X N) m (.cmp .ge (.loc 3) (.loc 1)) H K) (λm H K=>wSs (az False) (CP X N) [.set 2 (.meth (.loc 0) 73 [.loc 2,.loc 3]),.set 3 (.meth (.loc 0) 72 [])] m H K R) k
   [some (.ref e.er),some (.int least),some v,some (.int l),none,none,none] H Nn:=by
 intro z_
 induction z_ with
 | zero=>
  intro _ H ts l f v P hv ok
  exact ok.elim
 | succ j ihz=>
  intro hj H ts l f v P hv ok
  unfold jJ
  obtain⟨N,rfl⟩:∃ j,N=j+2:=⟨N-2,aG hN rfl⟩
  refine pG P.cons λw r eq1_=>?_
  subst eq1_
  replace ok:Ok e X d H (VN e) (bu (decide (l ≥ least)) (bu (decide (w.k=bp)) (((aj j).expr d (l+1) r).bind λg ts=>iR ts λl=>(aj j).ops d least (aP gQ [.str w.t,f,g]) l ts) .unk) (.ok f (w::r))) Q0:=ok
  show(match decide (l ≥ least) with|true=>_|false=>_)
  induction hb:decide (l ≥ least) with
  | false=>
   rw[hb] at ok
   exact hq v l H (ok H v (.refl _ _) P hv)
  | true=>
   rw[hb] at ok
   replace ok:Ok e X d H (VN e) (bu (decide (w.k=bp)) (((aj j).expr d (l+1) r).bind λg ts=>iR ts λl=>(aj j).ops d least (aP gQ [.str w.t,f,g]) l ts) .unk) Q0:=ok
   match hk:decide (w.k=bp) with
   | false=>rw[hk] at ok;exact ok.elim
   | true=>
    rw[hk] at ok
    refine P.emeth rfl rfl ?_
    refine qi ((ih j hj).expr (l+1)) (by lia) P hk hv ok λg ts H1 v1 k1 P1 hv1 ok=>?_
    refine P1.emeth rfl rfl ?_
    refine rV P1 ok λl' ok=>?_
    exact ihz (Nat.le_of_lt hj) H1 ts l' _ v1 P1 hv1 ok
end
section
variable {α:Type} {X:Prop} {e:dM} {H:AH} {Q Q0:au} {n d:Nat} {ts:List Tok} {V:AH->α->AV->Prop}
theorem Oj(P:PT e H ts d)(hd:d+1<=50)(q:∀ H',ai [e.st] H H'->PT e H' ts (d+1)->Q .none H'):CP X (n+1) 1351 [.ref e.st] H Q:=by
 refine cG P λi P z=>?_
 exact zd P hd λH' k P'=>q H' k ⟨i,P',z⟩
theorem Oc(P:PT e H ts (d+1))(q:∀ H',ai [e.st] H H'->PT e H' ts d->Q .none H'):CP X (n+1) 1358 [.ref e.st] H Q:=by
 refine cG P λi P z=>?_
 exact yN P λH' k P'=>q H' k ⟨i,P',z⟩
theorem G0(P:PT e H ts d)(hd:¬ d+1<=50)(hX:X):CP X (n+3) 1351 [.ref e.st] H Q:=by
 refine cG P λi P z=>?_
 have h1:=P.st
 refine ae rfl rfl rfl (by simp) ?_
 refine aa h1 rfl rfl ?_
 refine aM h1 rfl (Nat.le_of_ble_eq_true rfl) (λz=>nomatch z) ?_
 have h3:(H.put e.st (rz e i (d+1))) e.st=some (rz e i (d+1)):=af
 refine aa h3 rfl rfl ?_
 have:decide ((((d+1:Nat)):Int)>50)=true:=decide_eq_true (by lia)
 show(match decide ((((d+1:Nat)):Int)>50) with|true=>_|false=>_)
 refine this.symm ▸ ?_
 have P':PS e (H.put e.st (rz e i (d+1))) i (d+1):=P.step ai.put1 h3 P.lt
 have P2:PT e (H.put e.st (rz e i (d+1))) ts (d+1):=⟨i,P',z⟩
 refine P2.meth (λ_ _=>rfl) rfl ?_
 exact pY P2 hX
theorem Ok.deep{x:aX α}{d':Nat}(vk:∀ H' H'' a v,ai e.mu H' H''->V H' a v->V H'' a v)(h:Ok e X d H V x Q):Ok e X d' H V x (λv H'=>∃ ts,PT e H' ts d'/\∀ H'',ai [e.st] H' H''->PT e H'' ts d->Q v H''):=by
 induction x with
 | ok a ts=>exact λH' v k P hv=>⟨ts,P,λH'' k2 P2=>h H'' v (k.trans k2) P2 (vk _ _ _ _ (P.mu k2) hv)⟩
 | err=>exact h
 | unk=>exact h
theorem l9{least:Int}{N:Nat}(ih:∀ k<n+1,Sp k)(hN:4*n+15<=N)(P:PT e H ts d)(ok:Ok e X d H (VN e) ((aj (n+1)).expr d least ts) Q) :
 wSs (az False) (CP X N) Ft.body [some (.ref e.er),some (.int least),none,none,none,none,none] H (λ_ H=>Q .none H) Q:=by
 obtain⟨N,rfl⟩:∃ j,N=j+3:=⟨N-3,aG hN rfl⟩
 refine aa P.er rfl rfl ?_
 refine P.meth (λ_ _=>rfl) rfl ?_
 replace ok:Ok e X d H (VN e) (bu (decide (d+1>50)) .err (((aj n).pre (d+1) ts).bind λf ts=>iR ts λl=>(aj n).ops (d+1) least f l ts)) Q:=ok
 match hd:decide (d+1>50) with
 | true=>
  rw[hd] at ok
  exact G0 P (by have:=of_decide_eq_true hd;lia) ok
 | false=>
  rw[hd] at ok
  refine Oj P (by have:=of_decide_eq_false hd;lia) λH1 k1 P1=>?_
  replace ok:Ok e X d H (VN e) (((aj n).pre (d+1) ts).bind λf ts=>iR ts λl=>(aj n).ops (d+1) least f l ts) Q:=ok
  have ok2:=Ok.deep (V:=VN e) (d':=d+1) (λ_ _ _ _ k h=>bB.keep h k) (ok.keep k1)
  refine P1.emeth rfl rfl ?_
  refine(ih n (Nat.lt_succ_self n)).pre e X (d+1) H1 ts _ (N+3) (rL hN rfl) P1 (Ok.bnd ok2 λf ts H2 v k2 P2 hv ok=>?_)
  refine P2.emeth rfl rfl ?_
  refine rV P2 ok λl ok=>?_
  refine⟨n,xF (n:=n) (λk hk=>ih k (Nat.lt_succ_of_lt hk)) (rL hN rfl) least (λv l H' hq=>?_) n (Nat.le_refl n) H2 ts l f v P2 hv ok⟩
  obtain⟨ts',P3,q⟩:=hq
  refine aa P3.er rfl rfl ?_
  refine P3.meth (λ_ _=>rfl) rfl ?_
  exact Oc P3 λH4 k4 P4=>q H4 k4 P4
theorem JI(ih:∀ k<n+1,Sp k)(least:Int):fJ 994 (λe=>[.ref e.er,.int least]) VN (λd ts=>(aj (n+1)).expr d least ts) (n+1):=by
 intro e X d H ts Q N hN P ok
 obtain⟨N,rfl⟩:∃ j,N=j+1:=⟨N-1,aG hN rfl⟩
 refine ae rfl rfl rfl (by simp) ?_
 exact l9 ih (Nat.le_of_lt_succ hN) P ok
theorem C4(ih:∀ k<n+1,Sp k):fJ 994 sU VN (λd ts=>(aj (n+1)).expr d 1 ts) (n+1):=by
 intro e X d H ts Q N hN P ok
 obtain⟨N,rfl⟩:∃ j,N=j+1:=⟨N-1,aG hN rfl⟩
 refine ae rfl rfl rfl (by simp) ?_
 exact l9 ih (Nat.le_of_lt_succ hN) P ok
theorem LV(ih:∀ k<n+1,Sp k):fJ 1043 sU VN (aj (n+1)).pre (n+1):=by
 intro e X d H ts Q N hN P ok
 obtain⟨N,rfl⟩:∃ j,N=j+3:=⟨N-3,aG hN rfl⟩
 refine ae rfl rfl rfl (by simp) ?_
 refine pG P.cons λw r eq1_=>?_
 subst eq1_
 replace ok:Ok e X d H (VN e) (bu (aA gE w||(decide (w.k=bp)&&decide (w.t∈f0))) .unk ((aj n).prim d (w::r))) Q:=ok
 refine aa P.er rfl rfl ?_
 refine P.meth (λ_ _=>rfl) rfl ?_
 refine uj P λa ha=>?_
 refine(id ha).elim λp ha2=>?_
 refine aC ha2 rfl rfl ?_
 refine eh (s:=gE) ha ?_
 match h1:aA gE w with
 | true=>rw[h1] at ok;exact ok.elim
 | false=>
  rw[h1] at ok
  refine aa ha2 rfl rfl ?_
  show(match decide (w.k=bp) with|true=>_|false=>_)
  have fin:Ok e X d H (VN e) ((aj n).prim d (w::r)) Q->eT (az False) (CP X (N+2)) H (.ref e.er) 79 (λK=>K [] H) Q:=λok=>by
   refine P.emeth rfl rfl ?_
   exact(ih n (Nat.lt_succ_self n)).prim e X d H _ _ (N+2) (by lia) P ok
  induction h2:decide (w.k=bp) with
  | false=>rw[h2] at ok;exact fin ok
  | true=>
   rw[h2] at ok
   refine aa ha2 rfl rfl ?_
   refine aK (l:=f0) rfl ?_
   match h3:decide (w.t∈f0) with
   | true=>rw[h3] at ok;exact ok.elim
   | false=>rw[h3] at ok;exact fin ok
theorem Kh(ih:∀ k<n+1,Sp k):fJ 1064 sU VN (aj (n+1)).bsel (n+1):=by
 intro e X d H ts Q N hN P ok
 obtain⟨N,rfl⟩:∃ j,N=j+4:=⟨N-4,aG hN rfl⟩
 refine ae rfl rfl rfl (by simp) ?_
 replace ok:Ok e X d H (VN e) (bg [40] ts λts=>((aj n).sel d ts).bind λs ts=>bg [41] ts λts=>.ok s ts) Q:=ok
 refine aa P.er rfl rfl ?_
 refine P.meth (λ_ _=>rfl) rfl ?_
 refine kF (by decide) P ok λts H k P ok=>?_
 refine aa P.er rfl rfl ?_
 refine P.rmeth rfl rfl ?_
 refine(ih n (Nat.lt_succ_self n)).sel e X d H _ _ (N+3) (by lia) P (Ok.bnd ok λs ts H v k P hv ok=>?_)
 refine aa P.er rfl rfl ?_
 refine P.meth (λ_ _=>rfl) rfl ?_
 refine kF (by decide) P ok λts H1 k1 P1 ok=>?_
 exact ok H1 v (.refl _ _) P1 (hv.keep (P.mu k1))
theorem Ow(ih:∀ k<n+1,Sp k):fJ 1057 sU VN (aj (n+1)).brk (n+1):=by
 intro e X d H ts Q N hN P ok
 obtain⟨N,rfl⟩:∃ j,N=j+4:=⟨N-4,aG hN rfl⟩
 refine ae rfl rfl rfl (by simp) ?_
 replace ok:Ok e X d H (VN e) (xB (aj n) d ts) Q:=ok
 unfold xB at ok
 refine aa P.er rfl rfl ?_
 refine P.meth (λ_ _=>rfl) rfl ?_
 refine kF (by decide) P ok λts H k P ok=>?_
 refine pG P.cons λw r eq1_=>?_
 subst eq1_
 replace ok:Ok e X d H (VN e) (bu (aA aW w||aA bM w) (((aj n).sel d (w::r)).bind λs ts=>bg [41] ts λts=>.ok (aP mB [s]) ts) (((aj n).expr d 1 (w::r)).bind λs ts=>bg [41] ts λts=>.ok s ts)) Q:=ok
 refine aa P.er rfl rfl ?_
 refine P.meth (λ_ _=>rfl) rfl ?_
 refine Ld P ?_
 match hs:aA aW w||aA bM w with
 | true=>
  rw[hs] at ok
  refine aa P.er rfl rfl ?_
  refine P.rmeth rfl rfl ?_
  refine(ih n (Nat.lt_succ_self n)).sel e X d H _ _ (N+3) (by lia) P (Ok.bnd ok λs ts H v k P hv ok=>?_)
  refine qp P.mok hv λb H1 nw hb=>?_
  have P:=nw.pt P
  refine aa P.er rfl rfl ?_
  refine P.meth (λ_ _=>rfl) rfl ?_
  refine kF (by decide) P (ok.keep nw.kp) λts H2 k2 P2 ok=>?_
  exact ok H2 _ (.refl _ _) P2 (hb.keep (P.mu k2))
 | false=>
  rw[hs] at ok
  refine P.emeth rfl rfl ?_
  refine(ih n (Nat.lt_succ_self n)).expr1 e X d H _ _ (N+3) (by lia) P (Ok.bnd ok λs ts H v k P hv ok=>?_)
  refine aa P.er rfl rfl ?_
  refine P.meth (λ_ _=>rfl) rfl ?_
  refine kF (by decide) P ok λts H2 k2 P2 ok=>?_
  exact ok H2 _ (.refl _ _) P2 (hv.keep (P.mu k2))
theorem C0(h50:n<=60)(ih:∀ k<n+1,Sp k):fJ 1036 sU VL (aj (n+1)).exprs (n+1):=by
 intro e X d H ts Q N hN P ok
 obtain⟨N,rfl⟩:∃ j,N=j+1:=⟨N-1,aG hN rfl⟩
 refine ae rfl rfl rfl (by simp) ?_
 replace ok:Ok e X d H (VL e) (((aj n).expr d 1 ts).bind λx ts=>(aj n).exprsL d [x] ts) Q:=ok
 refine P.emeth rfl rfl ?_
 refine(ih n (Nat.lt_succ_self n)).expr1 e X d H ts _ N (by lia) P (Ok.bnd ok λy ts H1 v k1 P1 hv ok=>?_)
 refine aw λa ha=>?_
 refine⟨n,kZ (n:=n) (x:=λk d ts=>(aj k).expr d 1 ts) (xl:=λk=>(aj k).exprsL) (λ_ _ _=>rfl) (λ_ _ _ _=>rfl) e.er 1 71 994 1095 a N _ _ H1 rfl rfl (λH ts P=>P.er) rfl rfl rfl rfl
  ha (P1.wlne ha) (P1.stne ha) P1.mem (P1.mok.fresh ha) (λk hk e' X d H ts Q he P ok=>?_) (jQ hN rfl) n (Nat.le_refl _) [v] [y] _ ts ((P1.new ha).opn af) af (.cons (hv.opn ha) .nil) (by simp;lia) (ai.new ha) (Ok.pin ok)⟩
 subst he
 exact(ih k (by lia)).expr1 (e.opn a) X d H ts Q N (by lia) P ok
end
section
variable {α:Type} {X:Prop} {e:dM} {H:AH} {Q Q0:au} {n d:Nat} {ts:List Tok} {V:AH->α->AV->Prop}
theorem bk.ext{H H':AH}{r:Nat}{w:Tok}(h:bk H r w)(x:aR H H'):bk H' r w:=let ⟨p,e⟩:=h;⟨p,x _ _ e⟩
noncomputable abbrev i6:List (List Nat):=[b7,da,oQ]
theorem og{w:Tok}{r:List Tok}{a:Nat}(P:PT e H (w::r) d)(ha:bk H a w)(hk:decide (w.k∈i6)=true)(hv:rT w.v=true)(ok:Ok e X d H (VN e) (.ok (eP w.v) r) Q) :
 wSs (az False) (CP X (n+1)) (qO.body.drop 2) [some (.ref e.er),some (.ref a),none,none,none] H (λ_ H=>Q .none H) Q:=by
 obtain⟨p,ha2⟩:=id ha
 refine aa ha2 rfl rfl ?_
 refine aw λt ht=>?_
 refine nA i6 af ?_
 refine ac hk ?_
 have P1:=P.new ht (o:=.tup (i6.map AV.str))
 refine aa P1.er rfl rfl ?_
 refine P1.meth (λ_ _=>rfl) rfl ?_
 refine kQ P1 (λz=>by rw[z] at hk;revert hk;decide) λb H2 hb k2 P2=>?_
 obtain⟨p',hb⟩:=hb
 refine aa hb rfl rfl ?_
 refine rM P2.mok hv λc H3 nw hc=>?_
 exact ok H3 (.ref c) (((ai.new ht).trans k2).trans nw.kp) (nw.pt P2) hc
theorem Cd{N:Nat}{w:Tok}{r:List Tok}{a:Nat}(ih:∀ k<n+1,Sp k)(hN:4*n+15<=N)(P:PT e H (w::r) d)(ha:bk H a w)(h1:decide (w.k=b7)=false)(h2:decide (w.k=da)=false)(ok:Ok e X d H (VN e) (bu (decide (w.k=oQ)||decide (w.k=fz)) .unk
 (bu (aE [40] w) ((aj n).brk d (w::r)) (bu (aA gB w) (.ok (eP .none) r) (bu (aA gS w||(aA l4 w||aA l0 w)) .unk ((aj n).named d (w::r)))))) Q) :
 wSs (az False) (CP X N) (qO.body.drop 2) [some (.ref e.er),some (.ref a),none,none,none] H (λ_ H=>Q .none H) Q:=by
 obtain⟨N,rfl⟩:∃ j,N=j+2:=⟨N-2,aG hN rfl⟩
 obtain⟨p,ha2⟩:=id ha
 match h3:decide (w.k=oQ) with
 | true=>rw[h3] at ok;exact ok.elim
 | false=>
 match h4:decide (w.k=fz) with
 | true=>rw[h3,h4] at ok;exact ok.elim
 | false=>
 rw[h3,h4] at ok
 replace ok:Ok e X d H (VN e) (bu (aE [40] w) ((aj n).brk d (w::r)) (bu (aA gB w) (.ok (eP .none) r) (bu (aA gS w||(aA l4 w||aA l0 w)) .unk ((aj n).named d (w::r))))) Q:=ok
 refine aa ha2 rfl rfl ?_
 refine aw λt ht=>?_
 refine nA i6 af ?_
 have hk:decide (w.k∈i6)=false:=by
  have e1:=of_decide_eq_false h1;have e2:=of_decide_eq_false h2;have e3:=of_decide_eq_false h3
  exact decide_eq_false λz=>by
   rcases List.mem_cons.mp z with z|z
   ·exact e1 z
   ·rcases List.mem_cons.mp z with z|z
    ·exact e2 z
    ·exact e3 (List.mem_singleton.mp z)
 refine ac hk ?_
 have P1:=P.new ht (o:=.tup (i6.map AV.str))
 have ha1:=ha.ext (aR.new (o:=.tup (i6.map AV.str)) ht)
 have ha3:=aR.new (o:=.tup (i6.map AV.str)) ht _ _ ha2
 replace ok:=ok.keep (ai.new (o:=.tup (i6.map AV.str)) ht)
 refine aa ha3 rfl rfl ?_
 show(match decide (w.k=fz) with|true=>_|false=>_)
 refine ac h4 ?_
 refine aC ha3 rfl rfl ?_
 refine fA (s:=[40]) ha1 ?_
 match h5:aE [40] w with
 | true=>
  rw[h5] at ok
  refine P1.emeth rfl rfl ?_
  exact(ih n (Nat.lt_succ_self n)).brk e X d _ _ _ (N+2) (rL hN rfl) P1 ok
 | false=>
  rw[h5] at ok
  refine aC ha3 rfl rfl ?_
  refine eh (s:=gB) ha1 ?_
  match h6:aA gB w with
  | true=>
   rw[h6] at ok
   refine aa P1.er rfl rfl ?_
   refine P1.meth (λ_ _=>rfl) rfl ?_
   refine kQ P1 (mN h6) λb H2 hb k2 P2=>?_
   refine rM P2.mok rfl λc H3 nw hc=>?_
   exact ok H3 (.ref c) (k2.trans nw.kp) (nw.pt P2) hc
  | false=>
   rw[h6] at ok
   refine aC ha3 rfl rfl ?_
   refine eh (s:=gS) ha1 ?_
   match h7:aA gS w with
   | true=>rw[h7] at ok;exact ok.elim
   | false=>
    rw[h7] at ok
    refine aC ha3 rfl rfl ?_
    refine eh (s:=l4) ha1 ?_
    match h8:aA l4 w with
    | true=>rw[h8] at ok;exact ok.elim
    | false=>
     rw[h8] at ok
     refine aC ha3 rfl rfl ?_
     refine eh (s:=l0) ha1 ?_
     match h9:aA l0 w with
     | true=>rw[h9] at ok;exact ok.elim
     | false=>
      rw[h9] at ok
      refine P1.emeth rfl rfl ?_
      exact(ih n (Nat.lt_succ_self n)).named e X d _ _ _ (N+2) (rL hN rfl) P1 ok
theorem Ia(ih:∀ k<n+1,Sp k):fJ 1050 sU VN (aj (n+1)).prim (n+1):=by
 intro e X d H ts Q N hN P ok
 obtain⟨N,rfl⟩:∃ j,N=j+4:=⟨N-4,aG hN rfl⟩
 refine ae rfl rfl rfl (by simp) ?_
 refine a7 λGg fin_=>?_
 obtain⟨w,r,rfl⟩:=P.cons
 refine fin_ ?_
 replace ok:Ok e X d H (VN e) (bu (decide (w.k=b7)) (Cj w.v λi=>bu (decide (i=9223372036854775808)) .err (.ok (eP (.int i)) r))
  (bu (decide (w.k=da)) (mF w.v λs=>.ok (eP (.str s)) r) (bu (decide (w.k=oQ)||decide (w.k=fz)) .unk
  (bu (aE [40] w) ((aj n).brk d (w::r)) (bu (aA gB w) (.ok (eP .none) r) (bu (aA gS w||(aA l4 w||aA l0 w)) .unk ((aj n).named d (w::r)))))))) Q:=ok
 refine aa P.er rfl rfl ?_
 refine P.meth (λ_ _=>rfl) rfl ?_
 refine uj P λa ha=>?_
 obtain⟨p,ha2⟩:=id ha
 refine aa ha2 rfl rfl ?_
 show(match decide (w.k=b7) with|true=>_|false=>_)
 match h1:decide (w.k=b7) with
 | true=>
  rw[h1] at ok
  refine aa ha2 rfl rfl ?_
  cases hv:w.v with
  | int i=>
   replace ok:Ok e X d H (VN e) (Cj w.v λi=>bu (decide (i=9223372036854775808)) .err (.ok (eP (.int i)) r)) Q:=ok
   rw[hv] at ok
   replace ok:Ok e X d H (VN e) (bu (decide (i=9223372036854775808)) .err (.ok (eP (.int i)) r)) Q:=ok
   show(match decide (i=9223372036854775808) with|true=>_|false=>_)
   match h2:decide (i=9223372036854775808) with
   | true=>
    rw[h2] at ok
    refine aa P.er rfl rfl ?_
    refine P.meth (λ_ _=>rfl) rfl ?_
    exact pY P ok
   | false=>
    rw[h2] at ok
    exact og P ha (by refine ac (of_decide_eq_true h1) ?_;decide) (by refine ac hv ?_;rfl) (by refine ac hv ?_;exact ok)
  | _=>
   replace ok:Ok e X d H (VN e) (Cj w.v λi=>bu (decide (i=9223372036854775808)) .err (.ok (eP (.int i)) r)) Q:=ok
   rw[hv] at ok;exact ok.elim
 | false=>
  rw[h1] at ok
  match h2:decide (w.k=da) with
  | true=>
   rw[h2] at ok
   cases hv:w.v with
   | str s=>
    replace ok:Ok e X d H (VN e) (mF w.v λs=>.ok (eP (.str s)) r) Q:=ok
    rw[hv] at ok
    exact og P ha (by refine ac (of_decide_eq_true h2) ?_;decide) (by refine ac hv ?_;rfl) (by refine ac hv ?_;exact ok)
   | _=>
    replace ok:Ok e X d H (VN e) (mF w.v λs=>.ok (eP (.str s)) r) Q:=ok
    rw[hv] at ok;exact ok.elim
  | false=>
   rw[h2] at ok
   exact Cd ih (Nat.le_of_lt_succ hN) P ha h1 h2 ok
theorem lV{w:AV}{s:List Nat}{di:Bool}{b:Nat}{l:List DT}{v v0:AV}(P:PT e H ts d)(hl:cw e.mu H v l)(ok:Ok e X d H (VN e) (bg [41] ts λts=>.ok (aP gZ [.str s,.tup l,.bool di,.bool false]) ts) Q) :
 wSs (az False) (CP X (n+4)) (qN.body.drop 7) [some (.ref e.er),some (.str s),some (.bool di),some v,none,none,none] H (λ_ H=>Q .none H) Q:=by
 refine aa P.er rfl rfl ?_
 refine P.meth (λ_ _=>rfl) rfl ?_
 refine kF (by decide) P ok λts H2 k2 P2 ok=>?_
 refine oE P2.mok .str (hl.keep (P.mu k2)) .bool .bool λc H3 nw hc=>?_
 exact ok H3 _ nw.kp (nw.pt P2) hc
theorem Cq(ih:∀ k<n+1,Sp k):fJ 1085 sU VN (aj (n+1)).named (n+1):=by
 intro e X d H ts Q N hN P ok
 obtain⟨N,rfl⟩:∃ j,N=j+5:=⟨N-5,aG hN rfl⟩
 refine ae rfl rfl rfl (by simp) ?_
 replace ok:Ok e X d H (VN e) (ij (aj n) d ts) Q:=ok
 unfold ij at ok
 refine aa P.er rfl rfl ?_
 refine P.meth (λ_ _=>rfl) rfl ?_
 refine qk P ok λs ts H k P ok=>?_
 refine aa P.er rfl rfl ?_
 refine P.meth (λ_ _=>rfl) rfl ?_
 refine pM (s:=[46]) P ok λb ts H k P ok=>?_
 induction b with
 | true=>
  refine aa P.er rfl rfl ?_
  refine P.meth (λ_ _=>rfl) rfl ?_
  refine qk P ok λc ts H k P ok=>?_
  refine oB P.mok .str .str λa H1 nw ha=>?_
  exact ok H1 _ nw.kp (nw.pt P) ha
 | false=>
 refine aa P.er rfl rfl ?_
 refine P.meth (λ_ _=>rfl) rfl ?_
 refine pM (s:=[40]) P ok λb ts H k P ok=>?_
 induction b with
 | false=>
  refine oB P.mok .none .str λa H1 nw ha=>?_
  exact ok H1 _ nw.kp (nw.pt P) ha
 | true=>
 refine aa P.er rfl rfl ?_
 refine P.meth (λ_ _=>rfl) rfl ?_
 refine pM (s:=[42]) P ok λb ts H k P ok=>?_
 induction b with
 | true=>
  refine aa P.er rfl rfl ?_
  refine P.meth (λ_ _=>rfl) rfl ?_
  refine kF (by decide) P ok λts H k P ok=>?_
  refine aw λb hb=>?_
  have P1:=P.new hb (o:=.list [])
  refine oE P1.mok .str ⟨b,[],rfl,P.mok.fresh hb,af,by decide,.nil⟩ .bool .bool λa H1 nw ha=>?_
  exact ok H1 _ ((ai.new hb).trans nw.kp) (nw.pt P1) ha
 | false=>
 refine aa P.er rfl rfl ?_
 refine P.meth (λ_ _=>rfl) rfl ?_
 refine dX (s:=be) P ok λdi ts H k P ok=>?_
 refine aw λb hb=>?_
 have P1:=P.new hb (o:=.list [])
 replace ok:=ok.keep (ai.new (o:=.list []) hb)
 have hnil:cw e.mu (H.put b (.list [])) (.ref b) []:=⟨b,[],rfl,P.mok.fresh hb,af,by decide,.nil⟩
 have args:Ok e X d (H.put b (.list [])) (VN e) (((aj n).exprs d ts).bind λl ts=>bg [41] ts λts=>.ok (aP gZ [.str s,.tup l,.bool di,.bool false]) ts) Q->
  wSs (az False) (CP X (N+4)) ([.set 3 (.meth (.loc 0) 77 [])]++qN.body.drop 7) [some (.ref e.er),some (.str s),some (.bool di),some (.ref b),none,none,none] (H.put b (.list [])) (λ_ H=>Q .none H) Q:=λok=>by
  refine P1.emeth rfl rfl ?_
  refine(ih n (Nat.lt_succ_self n)).exprs e X d _ _ _ (N+4) (by lia) P1 (Ok.bnd ok λl ts H v k P hv ok=>?_)
  exact lV (w:=.none) (b:=0) (v0:=.none) P hv ok
 induction di with
 | true=>exact args ok
 | false=>
  refine a7 λGg fin_=>?_
  obtain⟨w,r,rfl⟩:=P.cons
  refine fin_ ?_
  refine aa P1.er rfl rfl ?_
  refine P1.meth (λ_ _=>rfl) rfl ?_
  refine Fp (s:=[41]) P1 ?_
  replace ok:Ok e X d (H.put b (.list [])) (VN e) (bu (!aE [41] w) (((aj n).exprs d (w::r)).bind λl ts=>bg [41] ts λts=>.ok (aP gZ [.str s,.tup l,.bool false,.bool false]) ts)
   (bg [41] (w::r) λts=>.ok (aP gZ [.str s,.tup [],.bool false,.bool false]) ts)) Q:=ok
  show(match !aE [41] w with|true=>_|false=>_)
  induction h:!aE [41] w with
  | true=>rw[h] at ok;exact args ok
  | false=>
   rw[h] at ok
   exact lV (w:=.none) (b:=0) (v0:=.none) P1 hnil ok
theorem qs{N:Nat}(hN:4<=N)(a:Nat)(H0:AH){Nn:bd->AH->Prop}{R:au}(hn:H0 a=none)(hw:a≠e.wl)(hst:a≠e.st)(hm:e.st∈e.mu)(hmu:a ∉ e.mu) :
 ∀ k (acc:List (List Nat)) (H:AH) (ts:List Tok),PT (e.opn a) H ts d->H a=some (.list (acc.map AV.str))->acc.length+k<=900->ai [a,e.st] H0 H->
  Ok e X d H0 (λH' l v=>v=.ref a/\jI e.mu H' v l) (j3 k acc ts) (λ_ H'=>Nn [some (.ref e.st),some (.ref a),none,none,none] H')->
  jJ (λm H K=>wT (az False) (CP X N) m (.meth (.loc 0) 106 [.val (.str [44])]) H K) (λm H K=>wSs (az False) (CP X N) [.ex (.meth (.loc 1) 0 [.meth (.loc 0) 109 []])] m H K R) k
   [some (.ref e.st),some (.ref a),none,none,none] H Nn:=by
 intro z_
 induction z_ with
 | zero=>
  intro acc H ts P ha hl k ok
  exact ok.elim
 | succ j ihz=>
  intro acc H ts P ha hl k ok
  obtain⟨N,rfl⟩:∃ j,N=j+4:=⟨N-4,aG hN rfl⟩
  unfold jJ
  refine P.meth (λ_ _=>rfl) rfl ?_
  unfold j3 at ok
  refine Hv (s:=[44]) P ok λb ts H1 k1 P1 ok=>?_
  have k':=k.trans (fy k1)
  have ha1:=k1 _ _ (lT hst) ha
  induction b with
  | false=>exact ok H1 _ (ai.own hn k') (P1.cls hm) ⟨rfl,a,rfl,hmu,ha1,by lia⟩
  | true=>
   refine dw ha1 ?_
   refine P1.meth (λ_ _=>rfl) rfl ?_
   refine Mg P1 ok λs ts H2 k2 P2 ok=>?_
   have ha2:=k2 _ _ (lT hst) ha1
   refine⟨_,rfl,dz ha2 (by refine ac (List.length_map ..) ?_;unfold ah;lia) (λz=>nomatch z) ?_⟩
   refine ihz (acc++[s]) _ ts (P2.put ha2 (λ_ _ z=>nomatch z) trivial hw) (by refine ac List.map_append ?_;exact af) (by simp;lia) ((k'.trans (fy k2)).trans (ai.put (.head _))) ok
theorem Cp(h50:n<=60):fJ 733 (λe=>[.ref e.st]) VS (λ_=>(aj (n+1)).names) (n+1):=by
 intro e X d H ts Q N hN P ok
 obtain⟨N,rfl⟩:∃ j,N=j+5:=⟨N-5,aG hN rfl⟩
 refine ae rfl rfl rfl (by simp) ?_
 replace ok:Ok e X d H (VS e) (ig n ts) Q:=ok
 unfold ig at ok
 refine P.meth (λ_ _=>rfl) rfl ?_
 refine kF (by decide) P ok λts H k P ok=>?_
 refine P.meth (λ_ _=>rfl) rfl ?_
 refine qk P ok λs ts H k P ok=>?_
 refine aw λa ha=>?_
 refine⟨n,qs (Nat.le_of_ble_eq_true rfl) a H ha (P.wlne ha) (P.stne ha) P.mem (P.mok.fresh ha) n [s] _ ts ((P.new ha).opn af) af (by simp;lia) (ai.new ha) (Ok.bnd ok λl ts H1 v k1 P1 hv ok=>?_)⟩
 refine P1.meth (λ_ _=>rfl) rfl ?_
 refine kF (by decide) P1 ok λts H2 k2 P2 ok=>?_
 exact ok H2 _ (.refl _ _) P2 (hv.1▸hv.2.keep (P1.mu k2))
end
theorem cQ{α β:Type}{s:List Nat}{ts:List Tok}{g:Bool->List Tok->aX β}{F:β->List Tok->aX α} : (aS s ts g).bind F=aS s ts λb ts=>(g b ts).bind F:=by
 unfold aS;cases jZ s ts<;>rfl
theorem Km{α β:Type}{s:List Nat}{ts:List Tok}{g:Bool->List Tok->aX β}{F:β->List Tok->aX α} : (bH s ts g).bind F=bH s ts λb ts=>(g b ts).bind F:=by
 unfold bH;cases ud s ts<;>rfl
theorem kX{α β:Type}{s:List Nat}{ts:List Tok}{g:List Tok->aX β}{F:β->List Tok->aX α} : (bI s ts g).bind F=bI s ts λts=>(g ts).bind F:=by
 unfold bI;cases jZ s ts<;>rfl
theorem dP{α β γ:Type}{x:aX γ}{g:γ->List Tok->aX β}{F:β->List Tok->aX α} : (x.bind g).bind F=x.bind λa ts=>(g a ts).bind F:=by
 induction x<;>rfl
theorem j9{α β:Type}{b:Bool}{x y:aX β}{F:β->List Tok->aX α} : (bu b x y).bind F=bu b (x.bind F) (y.bind F):=by
 induction b<;>rfl
section
variable {α:Type} {X:Prop} {e:dM} {H:AH} {Q Q0:au} {n d:Nat} {ts:List Tok} {V:AH->α->AV->Prop}
theorem O7{w:Tok}{r:List Tok}{s:List Nat}(P:PT e H (w::r) d)(hf:bN w=true)(hv:w.v=.str s)(q:∀ H',ai [e.st] H H'->PT e H' r d->Q (.str s) H'):CP X (n+3) 1344 [.ref e.st] H Q:=by
 refine qk (α:=Unit) (V:=λ_ _ _=>True) (Q0:=λ_ _=>True) (f:=λs' ts'=>bu (decide (ts'=r/\s'=s)) (.ok () []) .unk) P ?_ λs' ts' H' k P' ok=>?_
 ·show Ok e X d H _ (bu (bN w) (mF w.v λs'=>bu (decide (r=r/\s'=s)) (.ok () []) .unk) .err) _
  refine ac hf (ac hv ?_)
  show Ok e X d H _ (bu (decide (r=r/\s=s)) (.ok () []) .unk) _
  refine ac (decide_eq_true ⟨rfl,rfl⟩) ?_
  exact λ_ _ _ _ _=>trivial
 ·induction h:decide (ts'=r/\s'=s) with
  | true=>
   obtain⟨e1,e2⟩:=of_decide_eq_true h
   subst e1 e2
   exact q H' k P'
  | false=>rw[h] at ok;exact ok.elim
theorem uv{w:Tok}(h:bN w=true):w.k=ar:=by
 unfold bN at h
 simp only[Bool.and_eq_true,decide_eq_true_eq] at h
 exact h.1
theorem my{s:List Nat}{w:Tok}(h:aE s w=true):w.k=bp/\w.t=s:=by
 unfold aE at h
 simpa only[Bool.and_eq_true,decide_eq_true_eq] using h
theorem pT{w w1 w2:Tok}{r:List Tok}(h0:bN w=true)(h1:aE [46] w1=true)(h2:aE [42] w2=true)(a1:cb (w::r) 1=some w1)(a2:cb (w::r) 2=some w2):∃ r',r=w1::w2::r':=by
 cases r with
 | nil=>
  have:w=w1:=by simpa [cb] using a1
  have e1:=uv h0
  rw[this,(my h1).1] at e1
  exact absurd e1 (by decide)
 | cons x r=>
  have e1:x=w1:=by simpa [cb] using a1
  subst e1
  cases r with
  | nil=>
   have:x=w2:=by simpa [cb] using a2
   have e2:=(my h1).2
   rw[this,(my h2).2] at e2
   exact absurd e2 (by decide)
  | cons y r=>
   have e1:y=w2:=by simpa [cb] using a2
   subst e1
   exact⟨r,rfl⟩
theorem PT.kp{H1 H2:AH}(P:PT e H ts d)(k:ai [e.st] H1 H2):ai e.mu H1 H2:=k.sub λa z=>by
 refine ac (List.mem_singleton.mp z) ?_;exact P.mem
theorem nj{N:Nat}(ih:∀ k<n+1,Sp k)(hN:4*n+15<=N)(P:PT e H ts d)(ok:Ok e X d H (VN e) (((aj n).expr d 1 ts).bind λx ts=>(eM ts).bind λa ts=>.ok (aP cR [x,a,.none]) ts) Q) :
 wSs (az False) (CP X N) (yC.body.drop 2) [some (.ref e.rd),none,none,none,none,none] H (λ_ H=>Q .none H) Q:=by
 obtain⟨N,rfl⟩:∃ j,N=j+4:=⟨N-4,aG hN rfl⟩
 refine aa P.rd rfl rfl ?_
 refine P.emeth rfl rfl ?_
 refine(ih n (Nat.lt_succ_self n)).expr1 e X d _ _ _ (N+4) (rL hN rfl) P (Ok.bnd ok λx ts H v k P hv ok=>?_)
 refine P.rmeth rfl rfl ?_
 refine nv P (Ok.bnd ok λa ts H v2 k P hv2 ok=>?_)
 refine ip P.mok (.inr (hv.keep (P.kp k))) hv2 .none λb H1 nw hb=>?_
 exact ok H1 _ nw.kp (nw.pt P) hb
theorem Oq(ih:∀ k<n+1,Sp k):fJ 1190 mi VN (aj (n+1)).col (n+1):=by
 intro e X d H ts Q N hN P ok
 obtain⟨N,rfl⟩:∃ j,N=j+5:=⟨N-5,aG hN rfl⟩
 refine ae rfl rfl rfl (by simp) ?_
 replace ok:Ok e X d H (VN e) (qh (aj n) d ts) Q:=ok
 unfold qh at ok
 refine aa P.rd rfl rfl ?_
 refine P.meth (λ_ _=>rfl) rfl ?_
 refine pM (s:=[42]) P ok λb ts H k P ok=>?_
 induction b with
 | true=>
  refine ip P.mok (.inl ⟨rfl,rfl⟩) .none .none λb H1 nw hb=>?_
  exact ok H1 _ nw.kp (nw.pt P) hb
 | false=>
  refine a7 λGg fin_=>?_
  refine pG P.cons λw r eq1_=>?_
  subst eq1_
  refine fin_ ?_
  replace ok:Ok e X d H (VN e) (ow (w::r) 1 λw1=>ow (w::r) 2 λw2=>bu (bN w&&(aE [46] w1&&aE [42] w2)) (cW (w::r) λs ts=>.ok (aP cR [.none,.none,.str s]) (ts.drop 2))
   (((aj n).expr d 1 (w::r)).bind λx ts=>(eM ts).bind λa ts=>.ok (aP cR [x,a,.none]) ts)) Q:=ok
  match a1:cb (w::r) 1 with
  | none=>unfold ow at ok;rw[a1] at ok;exact ok.elim
  | some w1=>
  match a2:cb (w::r) 2 with
  | none=>unfold ow at ok;rw[a1,a2] at ok;exact ok.elim
  | some w2=>
  unfold ow at ok
  rw[a1,a2] at ok
  replace ok:Ok e X d H (VN e) (bu (bN w&&(aE [46] w1&&aE [42] w2)) (cW (w::r) λs ts=>.ok (aP cR [.none,.none,.str s]) (ts.drop 2))
   (((aj n).expr d 1 (w::r)).bind λx ts=>(eM ts).bind λa ts=>.ok (aP cR [x,a,.none]) ts)) Q:=ok
  refine aa P.rd rfl rfl ?_
  refine P.meth (λ_ _=>rfl) rfl ?_
  refine uj P λa ha=>?_
  obtain⟨p,ha2⟩:=id ha
  refine aC ha2 rfl rfl ?_
  refine jy ha ?_
  match h0:bN w with
  | false=>rw[h0] at ok;exact nj ih (Nat.le_of_lt_succ hN) P ok
  | true=>
  rw[h0] at ok
  refine aa P.rd rfl rfl ?_
  refine P.meth (λ_ _=>rfl) rfl ?_
  refine ny (k:=1) P a1 λb hb=>?_
  obtain⟨p,hb2⟩:=id hb
  refine aC hb2 rfl rfl ?_
  refine fA (s:=[46]) hb ?_
  match h1:aE [46] w1 with
  | false=>rw[h1] at ok;exact nj ih (Nat.le_of_lt_succ hN) P ok
  | true=>
  rw[h1] at ok
  refine aa P.rd rfl rfl ?_
  refine P.meth (λ_ _=>rfl) rfl ?_
  refine ny (k:=2) P a2 λb hb=>?_
  obtain⟨p,hb2⟩:=id hb
  refine aC hb2 rfl rfl ?_
  refine fA (s:=[42]) hb ?_
  match h2:aE [42] w2 with
  | false=>rw[h2] at ok;exact nj ih (Nat.le_of_lt_succ hN) P ok
  | true=>
  rw[h2] at ok
  refine(pT h0 h1 h2 a1 a2).elim λr' eq1_=>?_
  subst eq1_
  replace ok:Ok e X d H (VN e) (bu (bN w) (mF w.v λs=>.ok (aP cR [.none,.none,.str s]) r') .err) Q:=ok
  rw[h0] at ok
  replace ok:Ok e X d H (VN e) (mF w.v λs=>.ok (aP cR [.none,.none,.str s]) r') Q:=ok
  cases hv:w.v with
  | str s=>
   rw[hv] at ok
   refine aa P.rd rfl rfl ?_
   refine P.meth (λ_ _=>rfl) rfl ?_
   refine O7 P h0 hv λH1 k1 P1=>?_
   refine aa P1.rd rfl rfl ?_
   refine P1.meth (λ_ _=>rfl) rfl ?_
   refine kQ P1 (rA h1) λ_ H2 _ k2 P2=>?_
   refine aa P2.rd rfl rfl ?_
   refine P2.meth (λ_ _=>rfl) rfl ?_
   refine kQ P2 (rA h2) λ_ H3 _ k3 P3=>?_
   refine ip P3.mok (.inl ⟨rfl,rfl⟩) .none .str λb H4 nw hb=>?_
   exact ok H4 _ (((k1.trans k2).trans k3).trans nw.kp) (nw.pt P3) hb
  | _=>rw[hv] at ok;exact ok.elim
theorem La(ih:∀ k<n+1,Sp k):fJ 1218 mi VN (aj (n+1)).src (n+1):=by
 intro e X d H ts Q N hN P ok
 obtain⟨N,rfl⟩:∃ j,N=j+5:=⟨N-5,aG hN rfl⟩
 refine ae rfl rfl rfl (by simp) ?_
 replace ok:Ok e X d H (VN e) (tJ (aj n) d ts) Q:=ok
 unfold tJ at ok
 obtain⟨w,r,rfl⟩:=P.cons
 replace ok:Ok e X d H (VN e) (bu (aE [40] w) (((aj n).bsel d (w::r)).bind λs ts=>(eM ts).bind λa ts=>.ok (aP vA [s,a]) ts)
  (cW (w::r) λs ts=>(eM ts).bind λa ts=>(oq ts).bind λh ts=>.ok (aP pW [.str s,a,h]) ts)) Q:=ok
 refine aa P.rd rfl rfl ?_
 refine P.meth (λ_ _=>rfl) rfl ?_
 refine Fp (s:=[40]) P ?_
 match h:aE [40] w with
 | true=>
  rw[h] at ok
  refine aa P.rd rfl rfl ?_
  refine P.emeth rfl rfl ?_
  refine(ih n (Nat.lt_succ_self n)).bsel e X d _ _ _ (N+4) (by lia) P (Ok.bnd ok λx ts H v k P hv ok=>?_)
  refine P.rmeth rfl rfl ?_
  refine nv P (Ok.bnd ok λa ts H v2 k P hv2 ok=>?_)
  refine xR P.mok (hv.keep (P.kp k)) hv2 λb H1 nw hb=>?_
  exact ok H1 _ nw.kp (nw.pt P) hb
 | false=>
  rw[h] at ok
  refine aa P.rd rfl rfl ?_
  refine P.meth (λ_ _=>rfl) rfl ?_
  refine qk P ok λs ts H k P ok=>?_
  refine P.rmeth rfl rfl ?_
  refine nv P (Ok.bnd ok λa ts H v2 k P hv2 ok=>?_)
  refine P.rmeth rfl rfl ?_
  refine JC P (Ok.bnd ok λhd ts H1 v3 k1 P1 hv3 ok=>?_)
  refine tR P1.mok .str (hv2.keep (P.mok) (P1.kp k1)) hv3 λb H2 nw hb=>?_
  exact ok H2 _ nw.kp (nw.pt P1) hb
theorem Ly(ih:∀ k<n+1,Sp k):fJ 1183 mi VL (aj (n+1)).row (n+1):=by
 intro e X d H ts Q N hN P ok
 obtain⟨N,rfl⟩:∃ j,N=j+4:=⟨N-4,aG hN rfl⟩
 refine ae rfl rfl rfl (by simp) ?_
 replace ok:Ok e X d H (VL e) (bg [40] ts λts=>((aj n).exprs d ts).bind λl ts=>bg [41] ts λts=>.ok l ts) Q:=ok
 refine aa P.rd rfl rfl ?_
 refine P.meth (λ_ _=>rfl) rfl ?_
 refine kF (by decide) P ok λts H k P ok=>?_
 refine aa P.rd rfl rfl ?_
 refine P.emeth rfl rfl ?_
 refine(ih n (Nat.lt_succ_self n)).exprs e X d _ _ _ (N+3) (by lia) P (Ok.bnd ok λl ts H v k P hv ok=>?_)
 refine aa P.rd rfl rfl ?_
 refine P.meth (λ_ _=>rfl) rfl ?_
 refine kF (by decide) P ok λts H1 k1 P1 ok=>?_
 exact ok H1 v (.refl _ _) P1 (hv.keep (P1.kp k1))
theorem Hz(ih:∀ k<n+1,Sp k):fJ 1148 mi VN (aj (n+1)).term (n+1):=by
 intro e X d H ts Q N hN P ok
 obtain⟨N,rfl⟩:∃ j,N=j+5:=⟨N-5,aG hN rfl⟩
 refine ae rfl rfl rfl (by simp) ?_
 replace ok:Ok e X d H (VN e) (((aj n).expr d 1 ts).bind λx ts=>(ot ts).bind λde ts=>.ok (aP vy [x,.bool de]) ts) Q:=ok
 refine aa P.rd rfl rfl ?_
 refine P.emeth rfl rfl ?_
 refine(ih n (Nat.lt_succ_self n)).expr1 e X d _ _ _ (N+4) (by lia) P (Ok.bnd ok λx ts H v k P hv ok=>?_)
 refine P.rmeth rfl rfl ?_
 refine JM P (Ok.bnd ok λb ts H1 v2 k1 P1 hv2 ok=>?_)
 subst hv2
 refine xP P1.mok (hv.keep (P1.kp k1)) .bool λb H2 nw hb=>?_
 exact ok H2 _ nw.kp (nw.pt P1) hb
theorem Bn(h50:n<=60)(ih:∀ k<n+1,Sp k):fJ 1141 mi VL (aj (n+1)).terms (n+1):=by
 intro e X d H ts Q N hN P ok
 obtain⟨N,rfl⟩:∃ j,N=j+1:=⟨N-1,aG hN rfl⟩
 refine ae rfl rfl rfl (by simp) ?_
 replace ok:Ok e X d H (VL e) (((aj n).term d ts).bind λx ts=>(aj n).termsL d [x] ts) Q:=ok
 refine P.rmeth rfl rfl ?_
 refine(ih n (Nat.lt_succ_self n)).term e X d H ts _ N (by lia) P (Ok.bnd ok λy ts H1 v k1 P1 hv ok=>?_)
 refine aw λa ha=>?_
 refine⟨n,kZ (n:=n) (x:=λk=>(aj k).term) (xl:=λk=>(aj k).termsL) (λ_ _ _=>rfl) (λ_ _ _ _=>rfl) e.rd 1 91 1148 1228 a N _ _ H1 rfl rfl (λH ts P=>P.rd) rfl rfl rfl rfl
  ha (P1.wlne ha) (P1.stne ha) P1.mem (P1.mok.fresh ha) (λk hk e' X d H ts Q he P ok=>?_) (jQ hN rfl) n (Nat.le_refl _) [v] [y] _ ts ((P1.new ha).opn af) af (.cons (hv.opn ha) .nil) (by simp;lia) (ai.new ha) (Ok.pin ok)⟩
 subst he
 exact(ih k (by lia)).term (e.opn a) X d H ts Q N (by lia) P ok
theorem yc(ih:∀ k<n+1,Sp k):fJ 1162 mi Ky (aj (n+1)).limits (n+1):=by
 intro e X d H ts Q N hN P ok
 obtain⟨N,rfl⟩:∃ j,N=j+4:=⟨N-4,aG hN rfl⟩
 refine ae rfl rfl rfl (by simp) ?_
 replace ok:Ok e X d H (Ky e) (iQ (aj n) d ts) Q:=ok
 unfold iQ at ok
 refine aa P.rd rfl rfl ?_
 refine P.meth (λ_ _=>rfl) rfl ?_
 refine dX (s:=bh) P ok λb ts H k P ok=>?_
 induction b with
 | false=>exact aw λa ha=>ok _ _ (ai.new ha) (P.new ha) ⟨a,_,_,rfl,af,.inl ⟨rfl,rfl⟩,.inl ⟨rfl,rfl⟩⟩
 | true=>
 refine aa P.rd rfl rfl ?_
 refine P.emeth rfl rfl ?_
 refine(ih n (Nat.lt_succ_self n)).expr1 e X d _ _ _ (N+3) (by lia) P (Ok.bnd ok λx ts H v k P hv ok=>?_)
 refine aa P.rd rfl rfl ?_
 refine P.meth (λ_ _=>rfl) rfl ?_
 refine dX (s:=dT) P ok λb ts H1 k1 P1 ok=>?_
 have hv1:=hv.keep (P1.kp k1)
 induction b with
 | true=>
  refine aa P1.rd rfl rfl ?_
  refine P1.emeth rfl rfl ?_
  refine(ih n (Nat.lt_succ_self n)).expr1 e X d _ _ _ (N+3) (by lia) P1 (Ok.bnd ok λy ts H2 v2 k2 P2 hv2 ok=>?_)
  exact aw λa ha=>ok _ _ (ai.new ha) (P2.new ha) ⟨a,_,_,rfl,af,.inr ((hv1.keep (P2.kp k2)).keep (ai.new ha)),.inr (hv2.keep (ai.new ha))⟩
 | false=>
 refine aa P1.rd rfl rfl ?_
 refine P1.meth (λ_ _=>rfl) rfl ?_
 refine pM (s:=[44]) P1 ok λb ts H2 k2 P2 ok=>?_
 have hv2:=hv1.keep (P2.kp k2)
 induction b with
 | true=>
  refine aa P2.rd rfl rfl ?_
  refine P2.emeth rfl rfl ?_
  refine(ih n (Nat.lt_succ_self n)).expr1 e X d _ _ _ (N+3) (by lia) P2 (Ok.bnd ok λy ts H3 v3 k3 P3 hv3 ok=>?_)
  exact aw λa ha=>ok _ _ (ai.new ha) (P3.new ha) ⟨a,_,_,rfl,af,.inr (hv3.keep (ai.new ha)),.inr ((hv2.keep (P3.kp k3)).keep (ai.new ha))⟩
 | false=>exact aw λa ha=>ok _ _ (ai.new ha) (P2.new ha) ⟨a,_,_,rfl,af,.inr (hv2.keep (ai.new ha)),.inl ⟨rfl,rfl⟩⟩
theorem qE(ih:∀ k<n,Sp k){N:Nat}(hN:4*n+12<=N){Nn:bd->AH->Prop}{R:au}(hq:∀ v k x3 x4 x5 H',Q0 v H'->Nn [some (.ref e.rd),some v,k,x3,x4,x5,none,none,none] H') :
 ∀ k≤n,∀ (H:AH) (ts:List Tok) (f:DT) (v:AV) (jk:Option (List Nat)) (x3 x4 x5:Option AV),PT e H ts d->bB e.mu H v f->Ok e X d H (VN e) ((aj k).joins d f jk ts) Q0->
  jJ (λm H K=>wT (az False) (CP X N) m (.cmp .isNotNone (.loc 2) (.val .none)) H K) (λm H K=>wSs (az False) (CP X N)
   [.set 3 (.meth (.loc 0) 13 []),.set 4 (.val .none),.set 5 (.lst []),.ite (.meth (.attr (.loc 0) 87) 105 [.val (.str [79,78])]) [.set 4 (.meth (.attr (.loc 0) 77) 71 [])]
    [.ite (.meth (.attr (.loc 0) 87) 105 [.val (.str [85,83,73,78,71])]) [.set 5 (.call 733 [.attr (.loc 0) 87])] []],.set 1 (.new 582 [.loc 2,.loc 1,.loc 3,.loc 4,.loc 5]),.set 2 (.meth (.loc 0) 98 [])] m H K R) k
   [some (.ref e.rd),some v,some (KH jk),x3,x4,x5,none,none,none] H Nn:=by
 intro z_
 induction z_ with
 | zero=>
  intro _ H ts f v jk x3 x4 x5 P hv ok
  exact ok.elim
 | succ j ihz=>
  intro hj H ts f v jk x3 x4 x5 P hv ok
  unfold jJ
  obtain⟨N,rfl⟩:∃ j,N=j+6:=⟨N-6,aG hN rfl⟩
  replace ok:Ok e X d H (VN e) (ik (aj j) d f jk ts) Q0:=ok
  unfold ik at ok
  induction jk with
  | none=>exact hq v _ _ _ _ H (ok H v (.refl _ _) P hv)
  | some kd=>
   replace ok:Ok e X d H (VN e) (((aj j).src d ts).bind λr ts=>(KG (aj j) d ts).bind λo ts=>(bx ts).bind λk ts=>(aj j).joins d (aP jN [.tup [.str kd,f,r],o.1,.tup (o.2.map DT.str)]) k ts) Q0:=ok
   refine P.rmeth rfl rfl ?_
   refine(ih j hj).src e X d _ _ _ (N+6) (by lia) P (Ok.bnd ok λr ts H1 v3 k1 P1 hv3 ok=>?_)
   refine aw λa ha=>?_
   have P2:=P1.new ha (o:=.list [])
   have hv1:=(hv.keep (P1.kp k1)).keep (ai.new (o:=.list []) ha)
   replace hv3:=bB.keep hv3 (ai.new (o:=.list []) ha)
   replace ok:=ok.keep (ai.new (o:=.list []) ha)
   have hnil:jI e.mu (H1.put a (.list [])) (.ref a) []:=⟨a,rfl,P1.mok.fresh ha,af,by decide⟩
   unfold KG at ok
   rw[cQ] at ok
   have fin:∀ (o:DT×List (List Nat)) (ts:List Tok) (H2:AH) (v4 v5:AV),ai [e.st] (H1.put a (.list [])) H2->PT e H2 ts d->dR e.mu H2 v4 o.1->jI e.mu H2 v5 o.2->
    Ok e X d H2 (VN e) ((bx ts).bind λk ts=>(aj j).joins d (aP jN [.tup [.str kd,f,r],o.1,.tup (o.2.map DT.str)]) k ts) Q0->
    wSs (az False) (CP X (N+6)) [.set 1 (.new 582 [.loc 2,.loc 1,.loc 3,.loc 4,.loc 5]),.set 2 (.meth (.loc 0) 98 [])] [some (.ref e.rd),some v,some (.str kd),some v3,some v4,some v5,none,none,none] H2
     (λm H=>jJ (λm H K=>wT (az False) (CP X (N+6)) m (.cmp .isNotNone (.loc 2) (.val .none)) H K) (λm H K=>wSs (az False) (CP X (N+6))
    [.set 3 (.meth (.loc 0) 13 []),.set 4 (.val .none),.set 5 (.lst []),.ite (.meth (.attr (.loc 0) 87) 105 [.val (.str [79,78])]) [.set 4 (.meth (.attr (.loc 0) 77) 71 [])]
     [.ite (.meth (.attr (.loc 0) 87) 105 [.val (.str [85,83,73,78,71])]) [.set 5 (.call 733 [.attr (.loc 0) 87])] []],.set 1 (.new 582 [.loc 2,.loc 1,.loc 3,.loc 4,.loc 5]),.set 2 (.meth (.loc 0) 98 [])] m H K R) j m H Nn) R:=λo ts H2 v4 v5 k2 P2 h4 h5 ok=>by
    refine xQ P2.mok .str (hv1.keep (P2.kp k2)) (hv3.keep (P2.kp k2)) h4 h5 λb H3 nw hb=>?_
    have P3:=nw.pt P2
    refine P3.rmeth rfl rfl ?_
    refine jT P3 (Ok.bnd (ok.keep nw.kp) λjk ts H4 v6 k4 P4 hv6 ok=>?_)
    subst hv6
    exact ihz (Nat.le_of_lt hj) H4 ts _ _ jk _ _ _ P4 (hb.keep (P4.kp k4)) ok
   refine aa P2.rd rfl rfl ?_
   refine P2.meth (λ_ _=>rfl) rfl ?_
   refine dX (s:=A3) P2 ok λb ts H3 k3 P3 ok=>?_
   induction b with
   | true=>
    replace ok:Ok e X d H3 (VN e) ((((aj j).expr d 1 ts).bind λx ts=>.ok (x,[]) ts).bind λo ts=>(bx ts).bind λk ts=>(aj j).joins d (aP jN [.tup [.str kd,f,r],o.1,.tup (o.2.map DT.str)]) k ts) Q0:=ok
    rw[dP] at ok
    refine aa P3.rd rfl rfl ?_
    refine P3.emeth rfl rfl ?_
    refine(ih j hj).expr1 e X d _ _ _ (N+6) (by lia) P3 (Ok.bnd ok λx ts H4 v4 k4 P4 hv4 ok=>?_)
    exact fin (x,[]) ts H4 v4 (.ref a) (k3.trans k4) P4 (.inr hv4) (hnil.keep (P4.kp (k3.trans k4))) ok
   | false=>
    replace ok:Ok e X d H3 (VN e) ((aS dI ts λb ts=>bu b (((aj j).names ts).bind λl ts=>.ok (.none,l) ts) (.ok (.none,[]) ts)).bind λo ts=>(bx ts).bind λk ts=>(aj j).joins d (aP jN [.tup [.str kd,f,r],o.1,.tup (o.2.map DT.str)]) k ts) Q0:=ok
    rw[cQ] at ok
    refine aa P3.rd rfl rfl ?_
    refine P3.meth (λ_ _=>rfl) rfl ?_
    refine dX (s:=dI) P3 ok λb ts H4 k4 P4 ok=>?_
    induction b with
    | true=>
     replace ok:Ok e X d H4 (VN e) ((((aj j).names ts).bind λl ts=>.ok (.none,l) ts).bind λo ts=>(bx ts).bind λk ts=>(aj j).joins d (aP jN [.tup [.str kd,f,r],o.1,.tup (o.2.map DT.str)]) k ts) Q0:=ok
     rw[dP] at ok
     refine aa P4.rd rfl rfl ?_
     refine(ih j hj).names e X d _ _ _ (N+6) (by lia) P4 (Ok.bnd ok λl ts H5 v5 k5 P5 hv5 ok=>?_)
     exact fin (.none,l) ts H5 .none v5 ((k3.trans k4).trans k5) P5 (.inl ⟨rfl,rfl⟩) hv5 ok
    | false=>exact fin (.none,[]) ts H4 .none (.ref a) (k3.trans k4) P4 (.inl ⟨rfl,rfl⟩) (hnil.keep (P4.kp (k3.trans k4))) ok
theorem HG(ih:∀ k<n+1,Sp k):fJ 1204 mi VN (aj (n+1)).srcs (n+1):=by
 intro e X d H ts Q N hN P ok
 obtain⟨N,rfl⟩:∃ j,N=j+5:=⟨N-5,aG hN rfl⟩
 refine ae rfl rfl rfl (by simp) ?_
 replace ok:Ok e X d H (VN e) (((aj n).src d ts).bind λf ts=>(bx ts).bind λk ts=>(aj n).joins d f k ts) Q:=ok
 refine P.rmeth rfl rfl ?_
 refine(ih n (Nat.lt_succ_self n)).src e X d _ _ _ (N+4) (by lia) P (Ok.bnd ok λf ts H v k P hv ok=>?_)
 refine P.rmeth rfl rfl ?_
 refine jT P (Ok.bnd ok λjk ts H1 v2 k1 P1 hv2 ok=>?_)
 subst hv2
 exact⟨n,qE (Q0:=Q) (n:=n) (λk hk=>ih k (Nat.lt_succ_of_lt hk)) (by lia) (λv _ _ _ _ H' hq=>hq) n (Nat.le_refl n) H1 ts f v jk none none none P1 (hv.keep (P1.kp k1)) ok⟩
end
section
variable {α:Type} {X:Prop} {e:dM} {H:AH} {Q Q0:au} {n d:Nat} {ts:List Tok} {V:AH->α->AV->Prop}
noncomputable def iC(M:List Nat)(H:AH)(vs:List AV)(ds:List (List DT)):Prop:=vs.length=ds.length/\∀ (i:Nat) (x:AV) (d:List DT),vs[i]?=some x->ds[i]?=some d->cw M H x d
theorem iC.keep{M:List Nat}{H H':AH}{vs:List AV}{ds:List (List DT)}(h:iC M H vs ds)(k:ai M H H'):iC M H' vs ds:=⟨h.1,λi x d a b=>(h.2 i x d a b).keep k⟩
theorem iC.app{M:List Nat}{H:AH}{vs:List AV}{ds:List (List DT)}{v:AV}{d:List DT}(h:iC M H vs ds)(hv:cw M H v d):iC M H (vs++[v]) (ds++[d]):=by
 refine⟨by simp[h.1],λi x y a b=>?_⟩
 by_cases z:i<vs.length
 ·rw[List.getElem?_append_left z] at a
  rw[List.getElem?_append_left (h.1▸z)] at b
  exact h.2 i x y a b
 ·have z':vs.length<=i:=Nat.le_of_not_lt z
  rw[List.getElem?_append_right z'] at a
  rw[List.getElem?_append_right (h.1▸z')] at b
  rw[h.1] at a
  cases hi:i-ds.length with
  | zero=>rw[hi] at a b;obtain rfl:=Option.some.inj a;obtain rfl:=Option.some.inj b;exact hv
  | succ j=>rw[hi] at a;exfalso;cases a
theorem uQ{T:aT}{a:Nat}{vs:List AV}{x:AV}{Q:AV->Prop}(h:H a=some (.list vs))(hx:vs.getLast?=some x)(q:Q x):j0 T H (.ref a) (.int (-1)) Q:=by
 exact .i1 a (-1) vs x rfl rfl (.inl h) (.inr ⟨rfl,hx⟩) q
theorem cw.len{M:List Nat}{v:AV}{ds:List DT}(h:cw M H v ds){T:aT}{Q:Nat->Prop}(q:Q ds.length):lv T H v Q:=by
 refine a7 λGg fin_=>?_
 obtain⟨a,vs,rfl,_,ha,hl,hr⟩:=h
 refine fin_ ?_
 exact rj ha (by unfold ah;exact iX hl rfl) (by refine hr.len.symm ▸ ?_;exact q)
theorem tC(ih:∀ k<n,Sp k){N:Nat}(hN:4*n+12<=N)(a:Nat)(H0:AH){Nn:bd->AH->Prop}{R:au}(hn:H0 a=none)(hw:a≠e.wl)(hst:a≠e.st)(hm:e.st∈e.mu)(hmu:a ∉ e.mu) :
 ∀ k≤n,∀ (vs:List AV) (v0:AV) (d0:List DT) (acc:List (List DT)) (H:AH) (ts:List Tok),PT (e.opn a) H ts d->H a=some (.list (v0::vs))->iC (a::e.mu) H (v0::vs) (d0::acc)->acc.length+1+k<=900->ai [a,e.st] H0 H->
  Ok e X d H0 (λH' l v=>v=.ref a/\gL e.mu H' v l) ((aj k).rowsL d (d0::acc) ts) (λ_ H'=>Nn [some (.ref e.rd),some (.ref a),none,none,none] H')->
  jJ (λm H K=>wT (az False) (CP X N) m (.meth (.attr (.loc 0) 87) 106 [.val (.str [44])]) H K) (λm H K=>wSs (az False) (CP X N) [.ex (.meth (.loc 1) 0 [.meth (.loc 0) 95 []]),
   .ite (.cmp .ne (.bi .len [.idx (.loc 1) (.val (.int (-1)))]) (.bi .len [.idx (.loc 1) (.val (.int 0))])) [.ex (.meth (.attr (.loc 0) 87) 59 [.val (.str
    [114,111,119,115,32,111,102,32,117,110,108,105,107,101,32,108,101,110,103,116,104,115])])] []] m H K R) k
   [some (.ref e.rd),some (.ref a),none,none,none] H Nn:=by
 intro z_
 induction z_ with
 | zero=>
  intro _ vs v0 d0 acc H ts P ha hr hl k ok
  exact ok.elim
 | succ j ihz=>
  intro hj vs v0 d0 acc H ts P ha hr hl k ok
  unfold jJ
  obtain⟨N,rfl⟩:∃ j,N=j+4:=⟨N-4,aG hN rfl⟩
  replace ok:Ok e X d H0 (λH' l v=>v=.ref a/\gL e.mu H' v l) (bH [44] ts λb ts=>bu b (((aj j).row d ts).bind λx ts=>bu (decide (x.length=d0.length)) ((aj j).rowsL d (d0::acc++[x]) ts) .err) (.ok (d0::acc) ts)) (λ_ H'=>Nn [some (.ref e.rd),some (.ref a),none,none,none] H'):=ok
  refine aa P.rd rfl rfl ?_
  refine P.meth (λ_ _=>rfl) rfl ?_
  refine Hv (s:=[44]) P ok λb ts H1 k1 P1 ok=>?_
  have k':=k.trans (fy k1)
  have ha1:=k1 _ _ (lT hst) ha
  have hlen:=hr.1
  induction b with
  | false=>
   refine ok H1 _ (ai.own hn k') (P1.cls hm) ⟨rfl,a,v0::vs,rfl,hmu,ha1,hlen,by simp at hlen ⊢;lia,λi x y h1 h2=>?_⟩
   exact((hr.keep (P.mu k1)).2 i x y h1 h2).shut
  | true=>
   replace ok:Ok e X d H0 (λH' l v=>v=.ref a/\gL e.mu H' v l) (((aj j).row d ts).bind λx ts=>bu (decide (x.length=d0.length)) ((aj j).rowsL d (d0::acc++[x]) ts) .err) (λ_ H'=>Nn [some (.ref e.rd),some (.ref a),none,none,none] H'):=ok
   refine dw ha1 ?_
   refine P1.rmeth rfl rfl ?_
   refine(ih j hj).row (e.opn a) X d _ _ _ (N+4) (by lia) P1 (Ok.bind ok λy ts ok H2 v k2 P2 hv=>?_)
   have ha2:=k2 _ _ (lT hst) ha1
   refine⟨v,rfl,dz ha2 (by unfold ah;simp at hlen ⊢;lia) hv.ne ?_⟩
   have kp:ai (a::e.mu) H2 (H2.put a (.list (v0::vs++[v]))):=ai.put (.head _)
   have P3:PT (e.opn a) (H2.put a (.list (v0::vs++[v]))) ts d:=P2.put ha2 (λ_ _ z=>nomatch z) trivial hw
   have hr3:=((((hr.keep (P.mu k1)).keep (P1.mu k2))).keep kp).app (hv.keep kp)
   refine uQ af (List.getLast?_concat) ?_
   refine cw.len (hv.keep kp) ?_
   refine dQ af ⟨by decide,by decide⟩ (x:=v0) rfl ?_
   refine cw.len (hr3.2 0 v0 d0 rfl rfl) ?_
   show(match !decide ((y.length:Int)=(d0.length:Int)) with|true=>_|false=>_)
   match h:decide (y.length=d0.length) with
   | true=>
    have h':=of_decide_eq_true h
    refine ac (decide_eq_true (congrArg Nat.cast h')) ?_
    rw[h] at ok
    exact ihz (Nat.le_of_lt hj) (vs++[v]) v0 d0 (acc++[y]) _ ts P3 af hr3 (by simp;lia) ((k'.trans (fy k2)).trans (ai.put (.head _))) ok
   | false=>
    refine ac (decide_eq_false λz=>of_decide_eq_false h (by exact_mod_cast z)) ?_
    rw[h] at ok
    refine aa P3.rd rfl rfl ?_
    refine P3.meth (λ_ _=>rfl) rfl ?_
    exact pY P3 ok
theorem HY(h50:n<=60)(ih:∀ k<n+1,Sp k):fJ 1176 mi P7 (aj (n+1)).rows (n+1):=by
 intro e X d H ts Q N hN P ok
 obtain⟨N,rfl⟩:∃ j,N=j+1:=⟨N-1,aG hN rfl⟩
 refine ae rfl rfl rfl (by simp) ?_
 replace ok:Ok e X d H (P7 e) (((aj n).row d ts).bind λx ts=>(aj n).rowsL d [x] ts) Q:=ok
 refine P.rmeth rfl rfl ?_
 refine(ih n (Nat.lt_succ_self n)).row e X d H ts _ N (by lia) P (Ok.bnd ok λy ts H1 v k1 P1 hv ok=>?_)
 refine aw λa ha=>?_
 refine⟨n,tC (n:=n) (λk hk=>ih k (Nat.lt_succ_of_lt hk)) (by lia) a H1 ha (P1.wlne ha) (P1.stne ha) P1.mem (P1.mok.fresh ha) n (Nat.le_refl n) [] v y [] _ ts ((P1.new ha).opn af) af ⟨rfl,λi x z h1 h2=>?_⟩ (by simp;lia) (ai.new ha) (Ok.pin ok)⟩
 induction i with
 | zero=>obtain rfl:=Option.some.inj h1;obtain rfl:=Option.some.inj h2;exact hv.opn ha
 | succ i=>exfalso;cases h1
theorem sK{cs so wh gs ha:AV}{di:Bool}{csD gsD:List DT}{soD whD haD:DT}(P:PT e H ts d)(h1:cw e.mu H cs csD)(h2:dR e.mu H so soD)(h3:dR e.mu H wh whD)(h4:cw e.mu H gs gsD)(h5:dR e.mu H ha haD)
 (ok:Ok e X d H (uR e) (.ok (false,aP ez [.tup [.tup csD,.bool di,soD],whD,.tup gsD,haD]) ts) Q) :
 wSs (az False) (CP X (n+1)) (iw.body.drop 12) [some (.ref e.rd),some (.bool di),some cs,some so,some wh,some gs,some ha,none,none,none] H (λ_ H=>Q .none H) Q:=by
 refine xS P.mok h1 .bool h2 h3 h4 h5 λb H1 nw hb=>?_
 exact ok H1 _ nw.kp (nw.pt P) ⟨hb,b,608,_,rfl,nw.is▸af,nw.ne,rfl,rfl⟩
theorem ri{x y:Nat}{vs:List AV}{Q:Bool->Prop}(h1:H x=some (.list vs))(h2:H y=some (.list []))(q:Q vs.isEmpty):uO H (.ref x) (.ref y) Q:=by
 exact .i1 x y vs rfl rfl h1 h2 q
theorem sL{N:Nat}(ih:∀ k<n+1,Sp k)(hN:4*n+15<=N){cs so wh gs:AV}{di:Bool}{csD gsD:List DT}{soD whD:DT}(P:PT e H ts d)(h1:cw e.mu H cs csD)(h2:dR e.mu H so soD)(h3:dR e.mu H wh whD)(h4:cw e.mu H gs gsD)
 (ok:Ok e X d H (uR e) ((jr (aj n) d gsD ts).bind λha ts=>.ok (false,aP ez [.tup [.tup csD,.bool di,soD],whD,.tup gsD,ha]) ts) Q) :
 wSs (az False) (CP X N) (iw.body.drop 10) [some (.ref e.rd),some (.bool di),some cs,some so,some wh,some gs,none,none,none,none] H (λ_ H=>Q .none H) Q:=by
 obtain⟨N,rfl⟩:∃ j,N=j+4:=⟨N-4,aG hN rfl⟩
 refine a7 λGg fin_=>?_
 refine pG P.cons λw r eq1_=>?_
 subst eq1_
 refine fin_ ?_
 unfold jr at ok
 rw[j9,j9] at ok
 replace ok:Ok e X d H (uR e) (bu (aA cJ w) (bu gsD.isEmpty .err (((aj n).expr d 1 r).bind λha ts=>.ok (false,aP ez [.tup [.tup csD,.bool di,soD],whD,.tup gsD,ha]) ts)) (.ok (false,aP ez [.tup [.tup csD,.bool di,soD],whD,.tup gsD,.none]) (w::r))) Q:=ok
 refine aa P.rd rfl rfl ?_
 refine P.meth (λ_ _=>rfl) rfl ?_
 refine Fq (s:=cJ) P ?_
 induction h:aA cJ w with
 | false=>
  rw[h] at ok
  exact sK P h1 h2 h3 h4 (.inl ⟨rfl,rfl⟩) ok
 | true=>
  rw[h] at ok
  refine a7 λGg fin_=>?_
  obtain⟨g,vs,rfl,gne,hg,gl,gr⟩:=id h4
  refine fin_ ?_
  refine aw λy hy=>?_
  have hg1:=aR.new (o:=.list []) hy _ _ hg
  have P1:=P.new hy (o:=.list [])
  replace ok:=ok.keep (ai.new (o:=.list []) hy)
  refine ri hg1 af ?_
  have e1:vs.isEmpty=gsD.isEmpty:=by induction gr<;>rfl
  refine ac e1 ?_
  induction h6:gsD.isEmpty with
  | true=>
   rw[h6] at ok
   refine aa P1.rd rfl rfl ?_
   refine P1.meth (λ_ _=>rfl) rfl ?_
   exact pY P1 ok
  | false=>
   rw[h6] at ok
   replace ok:Ok e X d (H.put y (.list [])) (uR e) (((aj n).expr d 1 r).bind λha ts=>.ok (false,aP ez [.tup [.tup csD,.bool di,soD],whD,.tup gsD,ha]) ts) Q:=ok
   refine aa P1.rd rfl rfl ?_
   refine P1.meth (λ_ _=>rfl) rfl ?_
   refine kQ P1 (mN h) λ_ H2 _ k2 P2=>?_
   refine aa P2.rd rfl rfl ?_
   refine P2.emeth rfl rfl ?_
   refine(ih n (Nat.lt_succ_self n)).expr1 e X d _ _ _ (N+4) (rL hN rfl) P2 (Ok.bnd (ok.keep k2) λha ts H3 v k3 P3 hv ok=>?_)
   have kk:ai e.mu H H3:=((ai.new hy).trans (P3.kp k2)).trans (P3.kp k3)
   exact sK P3 (h1.keep kk) (h2.keep kk) (h3.keep kk) (h4.keep kk) (.inr hv) ok
theorem Az{N:Nat}(ih:∀ k<n+1,Sp k)(hN:4*n+15<=N){cs so wh:AV}{di:Bool}{csD:List DT}{soD whD:DT}(P:PT e H ts d)(h1:cw e.mu H cs csD)(h2:dR e.mu H so soD)(h3:dR e.mu H wh whD)
 (ok:Ok e X d H (uR e) ((cq b0 [] (λts=>bI eV ts λts=>(aj n).exprs d ts) ts).bind λgs ts=>(jr (aj n) d gs ts).bind λha ts=>.ok (false,aP ez [.tup [.tup csD,.bool di,soD],whD,.tup gs,ha]) ts) Q) :
 wSs (az False) (CP X N) (iw.body.drop 8) [some (.ref e.rd),some (.bool di),some cs,some so,some wh,none,none,none,none,none] H (λ_ H=>Q .none H) Q:=by
 obtain⟨N,rfl⟩:∃ j,N=j+4:=⟨N-4,aG hN rfl⟩
 unfold cq at ok
 rw[cQ] at ok
 refine aw λy hy=>?_
 have P1:=P.new hy (o:=.list [])
 have kn:ai e.mu H (H.put y (.list [])):=ai.new hy
 replace ok:=ok.keep (ai.new (o:=.list []) hy)
 have hnil:cw e.mu (H.put y (.list [])) (.ref y) []:=⟨y,[],rfl,P.mok.fresh hy,af,by decide,.nil⟩
 refine aa P1.rd rfl rfl ?_
 refine P1.meth (λ_ _=>rfl) rfl ?_
 refine dX (s:=b0) P1 ok λb ts H2 k2 P2 ok=>?_
 have kk:ai e.mu H H2:=kn.trans (P2.kp k2)
 induction b with
 | false=>exact sL ih hN P2 (h1.keep kk) (h2.keep kk) (h3.keep kk) (hnil.keep (P2.kp k2)) ok
 | true=>
  replace ok:Ok e X d H2 (uR e) ((bI eV ts λts=>(aj n).exprs d ts).bind λgs ts=>(jr (aj n) d gs ts).bind λha ts=>.ok (false,aP ez [.tup [.tup csD,.bool di,soD],whD,.tup gs,ha]) ts) Q:=ok
  rw[kX] at ok
  refine aa P2.rd rfl rfl ?_
  refine P2.meth (λ_ _=>rfl) rfl ?_
  refine qm (s:=eV) (by decide) P2 ok λts H3 k3 P3 ok=>?_
  refine aa P3.rd rfl rfl ?_
  refine P3.emeth rfl rfl ?_
  refine(ih n (Nat.lt_succ_self n)).exprs e X d _ _ _ (N+4) (rL hN rfl) P3 (Ok.bnd ok λgs ts H4 v k4 P4 hv ok=>?_)
  have kk:ai e.mu H H4:=(kk.trans (P4.kp k3)).trans (P4.kp k4)
  exact sL ih hN P4 (h1.keep kk) (h2.keep kk) (h3.keep kk) hv ok
theorem AA{N:Nat}(ih:∀ k<n+1,Sp k)(hN:4*n+15<=N){cs so:AV}{di:Bool}{csD:List DT}{soD:DT}(P:PT e H ts d)(h1:cw e.mu H cs csD)(h2:dR e.mu H so soD)
 (ok:Ok e X d H (uR e) ((cq cO .none ((aj n).expr d 1) ts).bind λwh ts=>(cq b0 [] (λts=>bI eV ts λts=>(aj n).exprs d ts) ts).bind λgs ts=>(jr (aj n) d gs ts).bind λha ts=>.ok (false,aP ez [.tup [.tup csD,.bool di,soD],wh,.tup gs,ha]) ts) Q) :
 wSs (az False) (CP X N) (iw.body.drop 7) [some (.ref e.rd),some (.bool di),some cs,some so,none,none,none,none,none,none] H (λ_ H=>Q .none H) Q:=by
 obtain⟨N,rfl⟩:∃ j,N=j+4:=⟨N-4,aG hN rfl⟩
 unfold cq at ok
 rw[cQ] at ok
 refine aa P.rd rfl rfl ?_
 refine P.meth (λ_ _=>rfl) rfl ?_
 refine dX (s:=cO) P ok λb ts H2 k2 P2 ok=>?_
 induction b with
 | false=>exact Az ih hN P2 (h1.keep (P2.kp k2)) (h2.keep (P2.kp k2)) (.inl ⟨rfl,rfl⟩) ok
 | true=>
  refine aa P2.rd rfl rfl ?_
  refine P2.emeth rfl rfl ?_
  refine(ih n (Nat.lt_succ_self n)).expr1 e X d _ _ _ (N+4) (rL hN rfl) P2 (Ok.bnd ok λwh ts H4 v k4 P4 hv ok=>?_)
  have kk:ai e.mu H H4:=(P4.kp k2).trans (P4.kp k4)
  exact Az ih hN P4 (h1.keep kk) (h2.keep kk) (.inr hv) ok
theorem Kk{N:Nat}(ih:∀ k<n+1,Sp k)(hN:4*n+15<=N){cs:AV}{di:Bool}{csD:List DT}(P:PT e H ts d)(h1:cw e.mu H cs csD)
 (ok:Ok e X d H (uR e) ((cq dn .none ((aj n).srcs d) ts).bind λso ts=>(cq cO .none ((aj n).expr d 1) ts).bind λwh ts=>(cq b0 [] (λts=>bI eV ts λts=>(aj n).exprs d ts) ts).bind λgs ts=>(jr (aj n) d gs ts).bind λha ts=>.ok (false,aP ez [.tup [.tup csD,.bool di,so],wh,.tup gs,ha]) ts) Q) :
 wSs (az False) (CP X N) (iw.body.drop 6) [some (.ref e.rd),some (.bool di),some cs,none,none,none,none,none,none,none] H (λ_ H=>Q .none H) Q:=by
 obtain⟨N,rfl⟩:∃ j,N=j+4:=⟨N-4,aG hN rfl⟩
 unfold cq at ok
 rw[cQ] at ok
 refine aa P.rd rfl rfl ?_
 refine P.meth (λ_ _=>rfl) rfl ?_
 refine dX (s:=dn) P ok λb ts H2 k2 P2 ok=>?_
 induction b with
 | false=>exact AA ih hN P2 (h1.keep (P2.kp k2)) (.inl ⟨rfl,rfl⟩) ok
 | true=>
  refine P2.rmeth rfl rfl ?_
  refine(ih n (Nat.lt_succ_self n)).srcs e X d _ _ _ (N+4) (rL hN rfl) P2 (Ok.bnd ok λso ts H4 v k4 P4 hv ok=>?_)
  exact AA ih hN P4 (h1.keep ((P4.kp k2).trans (P4.kp k4))) (.inr hv) ok
theorem AB{N:Nat}(h50:n<=60)(ih:∀ k<n+1,Sp k)(hN:4*n+15<=N){di:Bool}(P:PT e H ts d)
 (ok:Ok e X d H (uR e) (((aj n).col d ts).bind λc ts=>((aj n).colsL d [c] ts).bind λcols ts=>(cq dn .none ((aj n).srcs d) ts).bind λso ts=>(cq cO .none ((aj n).expr d 1) ts).bind λwh ts=>(cq b0 [] (λts=>bI eV ts λts=>(aj n).exprs d ts) ts).bind λgs ts=>(jr (aj n) d gs ts).bind λha ts=>.ok (false,aP ez [.tup [.tup cols,.bool di,so],wh,.tup gs,ha]) ts) Q) :
 wSs (az False) (CP X N) (iw.body.drop 4) [some (.ref e.rd),some (.bool di),none,none,none,none,none,none,none,none] H (λ_ H=>Q .none H) Q:=by
 refine P.rmeth rfl rfl ?_
 refine(ih n (Nat.lt_succ_self n)).col e X d H ts _ N (uV hN rfl) P (Ok.bnd ok λy ts H1 v k1 P1 hv ok=>?_)
 refine aw λa ha=>?_
 refine⟨n,kZ (n:=n) (x:=λk=>(aj k).col) (xl:=λk=>(aj k).colsL) (λ_ _ _=>rfl) (λ_ _ _ _=>rfl) e.rd 2 96 1190 1228 a N _ _ H1 rfl rfl (λH ts P=>P.rd) rfl rfl rfl rfl
  ha (P1.wlne ha) (P1.stne ha) P1.mem (P1.mok.fresh ha) (λk hk e' X d H ts Q he P ok=>?_) (lU hN rfl) n (Nat.le_refl _) [v] [y] _ ts ((P1.new ha).opn af) af (.cons (hv.opn ha) .nil) (by simp;lia) (ai.new ha)
  (Ok.bnd ok λcols ts H2 v2 k2 P2 hv2 ok=>?_)⟩
 ·subst he
  exact(ih k (by lia)).col (e.opn a) X d H ts Q N (by lia) P ok
 ·obtain⟨rfl,hr⟩:=hv2
  exact Kk ih hN P2 hr ok
theorem Kj(h50:n<=60)(ih:∀ k<n+1,Sp k):fJ 1169 mi uR (aj (n+1)).body (n+1):=by
 intro e X d H ts Q N hN P ok
 obtain⟨N,rfl⟩:∃ j,N=j+5:=⟨N-5,aG hN rfl⟩
 refine ae rfl rfl rfl (by simp) ?_
 replace ok:Ok e X d H (uR e) (ou (aj n) d ts) Q:=ok
 unfold ou at ok
 refine aa P.rd rfl rfl ?_
 refine P.meth (λ_ _=>rfl) rfl ?_
 refine dX (s:=bM) P ok λb ts H1 k1 P1 ok=>?_
 induction b with
 | true=>
  refine P1.rmeth rfl rfl ?_
  refine(ih n (Nat.lt_succ_self n)).rows e X d _ _ _ (N+4) (by lia) P1 (Ok.bnd ok λl ts H2 v k2 P2 hv ok=>?_)
  refine qn P2.mok hv λb H3 nw hb=>?_
  exact ok H3 _ nw.kp (nw.pt P2) ⟨hb,b,632,_,rfl,nw.is▸af,nw.ne,rfl,rfl⟩
 | false=>
  refine aa P1.rd rfl rfl ?_
  refine P1.meth (λ_ _=>rfl) rfl ?_
  refine qm (s:=aW) (by decide) P1 ok λts H2 k2 P2 ok=>?_
  unfold xz at ok
  rw[cQ] at ok
  refine aa P2.rd rfl rfl ?_
  refine P2.meth (λ_ _=>rfl) rfl ?_
  refine dX (s:=be) P2 ok λdi ts H3 k3 P3 ok=>?_
  induction di with
  | true=>exact AB h50 ih (Nat.le_of_lt_succ hN) P3 ok
  | false=>
   replace ok:=ok
   have ok2:=ok
   rw[j9] at ok2
   have ok3:Ok e X d H3 (uR e) ((aS fT ts λ_ ts=>.ok false ts).bind λdi ts=>((aj n).col d ts).bind λc ts=>((aj n).colsL d [c] ts).bind λcols ts=>(cq dn .none ((aj n).srcs d) ts).bind λso ts=>(cq cO .none ((aj n).expr d 1) ts).bind λwh ts=>(cq b0 [] (λts=>bI eV ts λts=>(aj n).exprs d ts) ts).bind λgs ts=>(jr (aj n) d gs ts).bind λha ts=>.ok (false,aP ez [.tup [.tup cols,.bool di,so],wh,.tup gs,ha]) ts) Q:=ok2
   rw[cQ] at ok3
   refine aa P3.rd rfl rfl ?_
   refine P3.meth (λ_ _=>rfl) rfl ?_
   refine dX (s:=fT) P3 ok3 λ_ ts H4 k4 P4 ok=>?_
   exact AB h50 ih (Nat.le_of_lt_succ hN) P4 ok
end
section
variable {α:Type} {X:Prop} {e:dM} {H:AH} {Q Q0:au} {n d:Nat} {ts:List Tok} {V:AH->α->AV->Prop}
noncomputable def A6(e:dM)(H:AH)(v:AV)(b:Bool):Prop:=∃ a C fs,v=.ref a/\H a=some (.inst C fs)/\a ∉ e.mu/\(az False).isi C 632=true/\Nat.beq C 632=b
theorem A6.keep{H':AH}{v:AV}{b:Bool}(h:A6 e H v b)(k:ai e.mu H H'):A6 e H' v b:=let ⟨a,C,fs,h1,h2,h3,h4⟩:=h;⟨a,C,fs,h1,k _ _ h3 h2,h3,h4⟩
theorem ev{a:Nat}{vs:List AV}{k:Nat}{Q:List AV->Prop}(h:H a=some (.tup vs))(hl:vs.length=k)(q:Q vs):jg H (.ref a) k Q:=by
 exact⟨a,vs,rfl,h,hl,q⟩
theorem A6.is{v:AV}{b:Bool}(h:A6 e H v b){Q:Bool->Prop}(q:Q b):Dr (az False) H v 632 Q:=by
 obtain⟨a,C,fs,rfl,h2,_,h4,h5⟩:=h
 exact⟨a,C,fs,rfl,h2,h4,h5▸q⟩
theorem Dj{F:Bool×DT->List Tok->aX α}{d0:Nat}(ih:∀ k<n,Sp k){N:Nat}(hN:4*n+12<=N){Nn:bd->AH->Prop}{R:au}
 (hq:∀ (x:Bool×DT) ts H vl vb ko,PT e H ts d->bB e.mu H vb x.2->A6 e H vl x.1->Ok e X d0 H V (F x ts) Q0->Nn [some (.ref e.rd),some vl,some vb,ko,none,none,none,none,none,none] H) :
 ∀ k≤n,∀ (H:AH) (ts:List Tok) (la:Bool×DT) (b:DT) (vl vb:AV) (op:Option (List Nat)),PT e H ts d->bB e.mu H vb b->bB e.mu H vl la.2->A6 e H vl la.1->Ok e X d0 H V (((aj k).comp d la b op ts).bind F) Q0->
  jJ (λm H K=>wT (az False) (CP X N) m (.cmp .isNotNone (.loc 3) (.val .none)) H K) (λm H K=>wSs (az False) (CP X N)
   [.set 1 (.meth (.loc 0) 49 []),.unp [2,3] (.tup [.new 658 [.loc 3,.loc 2,.loc 1],.meth (.loc 0) 89 []])] m H K R) k
   [some (.ref e.rd),some vl,some vb,some (KH op),none,none,none,none,none,none] H Nn:=by
 intro z_
 induction z_ with
 | zero=>
  intro _ H ts la b vl vb op P hb hl hi ok
  exact ok.elim
 | succ j ihz=>
  intro hj H ts la b vl vb op P hb hl hi ok
  unfold jJ
  obtain⟨N,rfl⟩:∃ j,N=j+6:=⟨N-6,aG hN rfl⟩
  replace ok:Ok e X d0 H V ((xA (aj j) d la b op ts).bind F) Q0:=ok
  unfold xA at ok
  induction op with
  | none=>exact hq (la.1,b) ts H vl vb _ P hb hi ok
  | some o=>
   replace ok:Ok e X d0 H V ((((aj j).body d ts).bind λx ts=>(b4 ts).bind λop ts=>(aj j).comp d x (aP gP [.str o,b,x.2]) op ts).bind F) Q0:=ok
   rw[dP] at ok
   refine P.rmeth rfl rfl ?_
   refine(ih j hj).body e X d _ _ _ (N+6) (by lia) P (Ok.bnd ok λx ts H1 v1 k1 P1 hv1 ok=>?_)
   rw[dP] at ok
   obtain⟨hv1,hi1⟩:=hv1
   refine mH P1.mok .str (hb.keep (P1.kp k1)) hv1 λc H2 nw hc=>?_
   have P2:=nw.pt P1
   refine P2.rmeth rfl rfl ?_
   refine hJ P2 (Ok.bnd (ok.keep nw.kp) λop ts H3 v3 k3 P3 hv3 ok=>?_)
   subst hv3
   refine aw λt ht=>?_
   refine ev af rfl ?_
   have kt:ai e.mu H3 (H3.put t (.tup [.ref c,KH op])):=ai.new ht
   have kk:ai e.mu H1 (H3.put t (.tup [.ref c,KH op])):=(nw.kp.trans (P3.kp k3)).trans kt
   exact ihz (Nat.le_of_lt hj) _ ts x _ v1 (.ref c) op (P3.new ht) ((hc.keep (P3.kp k3)).keep kt) (hv1.keep kk) (A6.keep hi1 kk) (ok.keep (ai.new ht))
theorem DE{vb os l1 l2:AV}{x1:Option AV}{op:Option AV}{bD l1D l2D:DT}{osD:List DT}(P:PT e H ts (d+1))(h1:bB e.mu H vb bD)(h2:cw e.mu H os osD)(h3:dR e.mu H l1 l1D)(h4:dR e.mu H l2 l2D)
 (ok:Ok e X d H (VN e) (.ok (aP dF [.tup [bD,.tup osD],l1D,l2D]) ts) Q) :
 wSs (az False) (CP X (n+2)) (mV.body.drop 6) [some (.ref e.rd),x1,some vb,op,some os,some l1,some l2,none,none,none] H (λ_ H=>Q .none H) Q:=by
 refine aa P.rd rfl rfl ?_
 refine P.meth (λ_ _=>rfl) rfl ?_
 refine Oc P λH1 k1 P1=>?_
 refine qo P1.mok (h1.keep (P1.kp k1)) (h2.keep (P1.kp k1)) (h3.keep (P1.kp k1)) (h4.keep (P1.kp k1)) λb H2 nw hb=>?_
 exact ok H2 _ (k1.trans nw.kp) (nw.pt P1) hb
theorem DF{N:Nat}(ih:∀ k<n+1,Sp k)(hN:4*n+15<=N){vb os z1 z2:AV}{x1:Option AV}{op:Option AV}{bD:DT}{osD:List DT}(P:PT e H ts (d+1))(h1:bB e.mu H vb bD)(h2:cw e.mu H os osD)
 (ok:Ok e X d H (VN e) (((aj n).limits (d+1) ts).bind λl ts=>.ok (aP dF [.tup [bD,.tup osD],l.1,l.2]) ts) Q) :
 wSs (az False) (CP X N) [.unp [5,6] (.meth (.loc 0) 93 [])] [some (.ref e.rd),x1,some vb,op,some os,some z1,some z2,none,none,none] H
  (λm H=>wSs (az False) (CP X N) (mV.body.drop 6) m H (λ_ H=>Q .none H) Q) Q:=by
 obtain⟨N,rfl⟩:∃ j,N=j+4:=⟨N-4,aG hN rfl⟩
 refine P.rmeth rfl rfl ?_
 refine(ih n (Nat.lt_succ_self n)).limits e X (d+1) _ _ _ (N+4) (rL hN rfl) P (Ok.bnd ok λl ts H1 v1 k1 P1 hv1 ok=>?_)
 refine a7 λGg fin_=>?_
 obtain⟨t,v1,v2,rfl,ht,g1,g2⟩:=hv1
 refine fin_ ?_
 refine ev ht rfl ?_
 exact DE P1 (h1.keep (P1.kp k1)) (h2.keep (P1.kp k1)) g1 g2 ok
theorem Lf{N:Nat}(ih:∀ k<n+1,Sp k)(hN:4*n+15<=N){vb vl:AV}{op:Option AV}{x:Bool×DT}(P:PT e H ts (d+1))(h1:bB e.mu H vb x.2)(hi:A6 e H vl x.1)
 (ok:Ok e X d H (VN e) ((lR (aj n) (d+1) x.1 ts).bind λt ts=>.ok (aP dF [.tup [x.2,.tup t.1],t.2.1,t.2.2]) ts) Q) :
 wSs (az False) (CP X N) (mV.body.drop 4) [some (.ref e.rd),some vl,some vb,op,none,none,none,none,none,none] H (λ_ H=>Q .none H) Q:=by
 obtain⟨N,rfl⟩:∃ j,N=j+4:=⟨N-4,aG hN rfl⟩
 refine aw λy hy=>?_
 refine aw λt ht=>?_
 refine ev af rfl ?_
 have kn:∀ M,ai M H ((H.put y (.list [])).put t (.tup [.ref y,.none,.none])):=λM=>(ai.new hy).trans (ai.new ht)
 have P1:PT e ((H.put y (.list [])).put t (.tup [.ref y,.none,.none])) ts (d+1):=(P.new hy).new ht
 have hnil:cw e.mu ((H.put y (.list [])).put t (.tup [.ref y,.none,.none])) (.ref y) []:=⟨y,[],rfl,P.mok.fresh hy,aR.new ht _ _ af,by decide,.nil⟩
 replace ok:=ok.keep (kn _)
 have h1':=h1.keep (kn _)
 refine(hi.keep (kn _)).is ?_
 unfold lR at ok
 rw[j9] at ok
 induction hx:x.1 with
 | true=>
  rw[hx] at ok
  exact DE P1 h1' hnil (.inl ⟨rfl,rfl⟩) (.inl ⟨rfl,rfl⟩) ok
 | false=>
  rw[hx] at ok
  replace ok:Ok e X d ((H.put y (.list [])).put t (.tup [.ref y,.none,.none])) (VN e) (((cq bZ [] (λts=>bI eV ts λts=>(aj n).terms (d+1) ts) ts).bind λos ts=>((aj n).limits (d+1) ts).bind λl ts=>.ok (os,l) ts).bind λt ts=>.ok (aP dF [.tup [x.2,.tup t.1],t.2.1,t.2.2]) ts) Q:=ok
  rw[dP] at ok
  unfold cq at ok
  rw[cQ] at ok
  refine aa P1.rd rfl rfl ?_
  refine P1.meth (λ_ _=>rfl) rfl ?_
  refine dX (s:=bZ) P1 ok λb ts H2 k2 P2 ok=>?_
  induction b with
  | false=>
   refine DF ih hN P2 (h1'.keep (P2.kp k2)) (hnil.keep (P2.kp k2)) ?_
   replace ok:Ok e X d H2 (VN e) ((((aj n).limits (d+1) ts).bind λl ts=>.ok ([],l) ts).bind λt ts=>.ok (aP dF [.tup [x.2,.tup t.1],t.2.1,t.2.2]) ts) Q:=ok
   rw[dP] at ok
   exact ok
  | true=>
   replace ok:Ok e X d H2 (VN e) ((bI eV ts λts=>(aj n).terms (d+1) ts).bind λos ts=>(((aj n).limits (d+1) ts).bind λl ts=>.ok (os,l) ts).bind λt ts=>.ok (aP dF [.tup [x.2,.tup t.1],t.2.1,t.2.2]) ts) Q:=ok
   rw[kX] at ok
   refine aa P2.rd rfl rfl ?_
   refine P2.meth (λ_ _=>rfl) rfl ?_
   refine qm (s:=eV) (by decide) P2 ok λts H3 k3 P3 ok=>?_
   refine P3.rmeth rfl rfl ?_
   refine(ih n (Nat.lt_succ_self n)).terms e X (d+1) _ _ _ (N+4) (rL hN rfl) P3 (Ok.bnd ok λos ts H4 v4 k4 P4 hv4 ok=>?_)
   refine DF ih hN P4 (h1'.keep (((P4.kp k2).trans (P4.kp k3)).trans (P4.kp k4))) hv4 ?_
   rw[dP] at ok
   exact ok
theorem Le(ih:∀ k<n+1,Sp k):fJ 1127 mi VN (aj (n+1)).sel (n+1):=by
 intro e X d H ts Q N hN P ok
 obtain⟨N,rfl⟩:∃ j,N=j+5:=⟨N-5,aG hN rfl⟩
 refine ae rfl rfl rfl (by simp) ?_
 replace ok:Ok e X d H (VN e) (xy (aj n) d ts) Q:=ok
 unfold xy at ok
 refine aa P.rd rfl rfl ?_
 refine P.meth (λ_ _=>rfl) rfl ?_
 induction hd:decide (d+1>50) with
 | true=>
  rw[hd] at ok
  exact G0 P (by have:=of_decide_eq_true hd;lia) ok
 | false=>
  rw[hd] at ok
  refine Oj P (by have:=of_decide_eq_false hd;lia) λH1 k1 P1=>?_
  replace ok:=ok.keep k1
  replace ok:Ok e X d H1 (VN e) (((aj n).body (d+1) ts).bind λb ts=>(b4 ts).bind λop ts=>((aj n).comp (d+1) b b.2 op ts).bind λx ts=>(lR (aj n) (d+1) x.1 ts).bind λt ts=>
   .ok (aP dF [.tup [x.2,.tup t.1],t.2.1,t.2.2]) ts) Q:=ok
  refine P1.rmeth rfl rfl ?_
  refine(ih n (Nat.lt_succ_self n)).body e X (d+1) _ _ _ (N+4) (by lia) P1 (Ok.bnd ok λb ts H2 v2 k2 P2 hv2 ok=>?_)
  obtain⟨hv2,hi2⟩:=hv2
  refine P2.rmeth rfl rfl ?_
  refine hJ P2 (Ok.bnd ok λop ts H3 v3 k3 P3 hv3 ok=>?_)
  subst hv3
  refine aw λt ht=>?_
  refine ev af rfl ?_
  have kk:ai e.mu H2 (H3.put t (.tup [v2,KH op])):=(P3.kp k3).trans (ai.new ht)
  refine⟨n,Dj (n:=n) (d:=d+1) (λk hk=>ih k (Nat.lt_succ_of_lt hk)) (by lia) (λx ts H4 vl vb ko P4 h4 hi4 ok=>?_) n (Nat.le_refl n) _ ts b b.2 v2 v2 op (P3.new ht) (hv2.keep kk) (hv2.keep kk) (A6.keep hi2 kk) (ok.keep (ai.new ht))⟩
  exact Lf ih (Nat.le_of_lt_succ hN) P4 h4 hi4 ok
theorem fN{f:Nat}{args:dM->List AV}{V:dM->AH->α->AV->Prop}{x:Nat->List Tok->aX α}{n:Nat}(h:∀ d ts,x d ts=.unk):fJ f args V x n:=λe X d H ts Q N hN P ok=>by
 rw[h] at ok;exact ok.elim
theorem sp:∀ n≤60,Sp n:=λn=>Nat.strongRecOn n λn ih h60=>by
 induction n with
 | zero=>exact⟨fN λ_ _=>rfl,λ_=>fN λ_ _=>rfl,fN λ_ _=>rfl,fN λ_ _=>rfl,fN λ_ _=>rfl,fN λ_ _=>rfl,fN λ_ _=>rfl,fN λ_ _=>rfl,fN λ_ _=>rfl,fN λ_ _=>rfl,fN λ_ _=>rfl,
  fN λ_ _=>rfl,fN λ_ _=>rfl,fN λ_ _=>rfl,fN λ_ _=>rfl,fN λ_ _=>rfl,fN λ_ _=>rfl,fN λ_ _=>rfl,fN λ_ _=>rfl⟩
 | succ n=>
  have h60':n<=60:=Nat.le_of_lt h60
  have ih':∀ k<n+1,Sp k:=λk hk=>ih k hk (by lia)
  exact { names:=Cp h60',expr:=JI ih',expr1:=C4 ih',pre:=LV ih',prim:=Ia ih',brk:=Ow ih',bsel:=Kh ih',named:=Cq ih',exprs:=C0 h60' ih',col:=Oq ih',src:=La ih',srcs:=HG ih',row:=Ly ih',rows:=HY h60' ih',body:=Kj h60' ih',term:=Hz ih',terms:=Bn h60' ih',limits:=yc ih',sel:=Le ih' }
end
noncomputable abbrev fi:List Nat:=[32,9,10,13,12]
noncomputable abbrev dG:List Nat:=[97,98,99,100,101,102,103,104,105,106,107,108,109,110,111,112,113,114,115,116,117,118,119,120,121,122,65,66,67,68,69,70,71,72,73,74,75,76,77,78,79,80,81,82,83,84,85,86,87,88,89,90,95]
noncomputable abbrev eo:List Nat:=[48,49,50,51,52,53,54,55,56,57]
noncomputable abbrev bJ:List Nat:=[97,98,99,100,101,102,103,104,105,106,107,108,109,110,111,112,113,114,115,116,117,118,119,120,121,122,65,66,67,68,69,70,71,72,73,74,75,76,77,78,79,80,81,82,83,84,85,86,87,88,89,90,95,48,49,50,51,52,53,54,55,56,57,36]
noncomputable abbrev mE:List Nat:=[39,34,96,91]
noncomputable abbrev Ck:List Nat:=[40,41,44,46,59,43,45,42,47,37,61,60,62,38,124,126]
noncomputable def Bg:List (List Nat):=iK 785
noncomputable def isIn(l:List Nat)(c:Nat):Bool:=decide (c∈l)
noncomputable def m7(f:List Nat):Nat:=f.foldl (λa c=>10*a+(c-48)) 0
noncomputable def Ip(f:List Nat):Option Nat:=bif f.isEmpty then some 0 else bif decide (m7 f<1000)&&decide (f=aD 4 (m7 f)) then some (m7 f) else none
noncomputable def qj(ds:List Nat):Option Nat:=Ip (ds.dropWhile (· == 48))
noncomputable def gH:Nat->Nat->List Nat->List Nat->Option (List Nat×List Nat)
 | 0,_,_,_=>none
 | n+1,q,acc,s=>match s.dropWhile (λc=>!(Nat.beq c q)) with
  | []=>none
  | _::r=>bif decide (r.take 1=[q]) then gH n q (acc++s.takeWhile (λc=>!(Nat.beq c q))++[q]) (r.drop 1) else some (acc++s.takeWhile (λc=>!(Nat.beq c q)),r)
noncomputable def ju(s:List Nat):Option (Tok×List Nat):=match qj (s.takeWhile (isIn eo)) with
 | some i=>bif (match s.dropWhile (isIn eo) with|c::_=>decide (c=46)||isIn bJ c|[]=>false) then none else some (⟨b7,[],.int i⟩,s.dropWhile (isIn eo))
 | none=>none
noncomputable def rU(r:List Nat):Option (Tok×List Nat):=match r.dropWhile (λc=>!(Nat.beq c 93)) with
 | _::r2=>some (⟨ar,[],.str (r.takeWhile (λc=>!(Nat.beq c 93)))⟩,r2)
 | []=>none
noncomputable def Cw(c:Nat)(r:List Nat):Option (Tok×List Nat):=match gH 8 c [] r with
 | some (w,r2)=>some (⟨bif decide ([c]=[39]) then da else ar,[],.str w⟩,r2)
 | none=>none
noncomputable def mL(c:Nat)(r:List Nat):Option (Option Tok×List Nat):=
 bif isIn fi c then some (none,r)
 else bif isIn dG c then(bif isIn [120,88] c&&decide (r.take 1=[39]) then none else some (some ⟨ar,((c::r).takeWhile (isIn bJ)).map eK,.str ((c::r).takeWhile (isIn bJ))⟩,(c::r).dropWhile (isIn bJ)))
 else bif isIn eo c then(bif decide ((c::r).take 2∈[[48,120],[48,88]]) then none else(ju (c::r)).map λx=>(some x.1,x.2))
 else bif isIn mE c then(bif decide ([c]=[91]) then(rU r).map λx=>(some x.1,x.2) else(Cw c r).map λx=>(some x.1,x.2))
 else bif decide ((c::r).take 2=[45,45])||(decide ((c::r).take 2=[47,42])||decide ((c::r).take 2∈Bg)) then none
 else bif isIn Ck c then some (some ⟨bp,[c],.none⟩,r) else none
noncomputable def bE:Tok:=⟨eH,[],.none⟩
noncomputable def jX:Nat->List Nat->Option (List Tok)
 | _,[]=>some []
 | 0,_::_=>none
 | n+1,c::r=>match mL c r with
  | none=>none
  | some (t,r')=>(jX n r').map λl=>t.toList++l
theorem yZ(c:Nat):∀ (s:List Nat) (n:Nat),g9 c s n=match s.dropWhile (λd=>!(Nat.beq d c)) with|[]=>none|_::_=>some (n+(s.takeWhile (λd=>!(Nat.beq d c))).length):=by
 intro z_
 induction z_ with
 | nil=>
  intro n
  exact rfl
 | cons d r ihz=>
  intro n
  unfold g9
  cases h:Nat.beq d c with
  | true=>simp[List.dropWhile,List.takeWhile,h]
  | false=>
   simp only[List.dropWhile,List.takeWhile,h,Bool.not_false]
   refine(ihz (n+1)).symm ▸ ?_
   cases r.dropWhile (λd=>!(Nat.beq d c)) with
   | nil=>rfl
   | cons _ _=>simp;lia
theorem dE(s:List Nat)(a k:Nat):(s.take (a+k)).drop a=(s.drop a).take k:=by
 refine ac List.drop_take ?_;congr 1;lia
theorem jb{s u v:List Nat}{p:Nat}(h:s.drop p=u++v):s.drop (p+u.length)=v/\(s.drop p).take u.length=u:=by
 constructor
 ·refine ac List.drop_drop.symm (ac h ?_);simp
 ·refine ac h ?_;simp
theorem dK{s u:List Nat}{p:Nat}{c:Nat}(h:s.drop p=c::u):p<s.length:=by
 rcases Nat.lt_or_ge p s.length with z|z
 ·exact z
 ·rw[List.drop_eq_nil_of_le z] at h;exfalso;cases h
theorem cT{s u:List Nat}{p:Nat}{c:Nat}(h:s.drop p=c::u):s[p]?=some c/\s.drop (p+1)=u:=by
 constructor
 ·have:=congrArg (λz:List Nat=>z[0]?) h
  simpa using this
 ·refine ac List.tail_drop.symm (ac h ?_);rfl
structure QB(b sc fl:Nat)(txt:List Nat)(H:AH)(p:Nat)(refs:List Nat)(toks:List Tok):Prop where
 sc:H sc=some (.inst 957 [(57,.str txt),(12,.int p),(69,.ref fl),(70,.int 0)])
 fl:H fl=some (.list (refs.map .ref))
 len:refs.length=toks.length
 le:p<=txt.length
 small:txt.length<=100000
 ascii:bf txt
 cnt:toks.length<=p+b
 words:∀ (j:Nat) (w:Tok),toks[j]?=some w->∃ r,refs[j]?=some r/\bk H r w
noncomputable abbrev SS:=QB 0
noncomputable def u6(v:AV):Prop:=v=.none\/(∃ i,v=.int i)\/∃ s,v=.str s
theorem u6.ne{v:AV}(h:u6 v):v≠.oth:=by
 rcases h with rfl|⟨i,rfl⟩|⟨s,rfl⟩<;>exact λz=>nomatch z
section
variable {X:Prop} {sc fl:Nat} {txt:List Nat} {H:AH} {Q:au} {n p:Nat} {refs:List Nat} {toks:List Tok}
theorem SS.ne(S:SS sc fl txt H p refs toks):sc≠fl:=λz=>by
 have:=S.sc
 rw[z,S.fl] at this;cases this
theorem bk.offs{r:Nat}{w:Tok}{H':AH}(h:bk H r w)(k:∀ C fs,H r=some (.inst C fs)->C=852->H' r=some (.inst C fs)):bk H' r w:=let ⟨p,e⟩:=h;⟨p,k _ _ e rfl⟩
theorem o9{b:Nat}{k t:List Nat}{v:AV}{j:Nat}(hb:b<=1)(S:SS sc fl txt H p refs toks)(hv:u6 v)(hj:j<=txt.length)(hp:toks.length+1<=j+b)(q:∀ H' r,ai [sc,fl] H H'->QB b sc fl txt H' j (refs++[r]) (toks++[⟨k,t,v⟩])->Q .none H') :
 CP X (n+2) 877 [.ref sc,.str k,.str t,v,.int j] H Q:=by
 have hvn:=hv.ne
 refine ae rfl rfl rfl (by simp[hvn]) ?_
 refine aa S.sc rfl rfl ?_
 refine dw S.fl ?_
 refine aa S.sc rfl rfl ?_
 refine⟨814,rfl,aw λx hx=>ae rfl rfl rfl (by simp[hvn]) ?_⟩
 (repeat (refine aM af rfl (Nat.le_of_ble_eq_true rfl) (by first|assumption|exact λz=>nomatch z) ?_;rw[bv]))
 refine⟨rfl,?_⟩
 have n1:sc≠x:=λz=>by have:=S.sc;rw[z,hx] at this;exfalso;cases this
 have n2:fl≠x:=λz=>by have:=S.fl;rw[z,hx] at this;exact fI this
 refine⟨_,rfl,dz (vs:=refs.map .ref) ((aO n2).trans S.fl) ?_ (λz=>nomatch z) ?_⟩
 ·refine ac (List.length_map ..) ?_;refine ac S.len ?_;have:=S.cnt;have:=S.le;have:=S.small;unfold ah;lia
 refine aM ((aO S.ne).trans ((aO n1).trans S.sc)) rfl (Nat.le_of_ble_eq_true rfl) (λz=>nomatch z) ?_
 refine q _ x (((ai.new hx).trans (ai.put (.tail _ (.head _)))).trans (ai.put (.head _))) ⟨af,?_,?_,hj,S.small,S.ascii,by simpa using hp,λi w hw=>?_⟩
 ·refine ac (aO S.ne.symm) (ac af (ac List.map_append ?_));rfl
 ·simp[S.len]
 ·have off:∀ r,bk H r w->bk (((H.put x (.inst 852 [(40,.str k),(57,.str t),(9,v),(12,.int p)])).put fl (.list (refs.map .ref++[.ref x]))).put sc (.inst 957 [(57,.str txt),(12,.int j),(69,.ref fl),(70,.int 0)])) r w:=λr hr=>by
   refine hr.offs λC fs h e=>?_
   have m1:r≠x:=λz=>by rw[z,hx] at h;exfalso;cases h
   have m2:r≠fl:=λz=>by rw[z,S.fl] at h;cases h
   have m3:r≠sc:=λz=>by rw[z,S.sc] at h;cases h;cases e
   refine ac (aO m3) (ac (aO m2) (ac (aO m1) ?_));exact h
  by_cases z:i<toks.length
  ·rw[List.getElem?_append_left z] at hw
   obtain⟨r,h1,h2⟩:=S.words i w hw
   exact⟨r,by refine ac (List.getElem?_append_left (S.len▸z)) ?_;exact h1,off r h2⟩
  ·have z':toks.length<=i:=Nat.le_of_not_lt z
   rw[List.getElem?_append_right z'] at hw
   cases hi:i-toks.length with
   | succ m=>rw[hi] at hw;exfalso;cases hw
   | zero=>
    rw[hi] at hw
    obtain rfl:=Option.some.inj hw
    refine⟨x,by refine ac (List.getElem?_append_right (S.len▸z')) (ac S.len (ac hi ?_));rfl,p,?_⟩
    have m3:x≠sc:=n1.symm
    refine ac (aO m3) (ac (aO n2.symm) ?_)
    exact af
theorem o8{k t:List Nat}{v:AV}{j:Nat}(S:SS sc fl txt H p refs toks)(hv:u6 v)(hj:j<=txt.length)(hp:toks.length+1<=j)(q:∀ H' r,ai [sc,fl] H H'->SS sc fl txt H' j (refs++[r]) (toks++[⟨k,t,v⟩])->Q .none H') :
 CP X (n+2) 877 [.ref sc,.str k,.str t,v,.int j] H Q:=o9 (Nat.zero_le 1) S hv hj hp q
theorem SS.new(S:SS sc fl txt H p refs toks){a:Nat}{o:AO}(ha:H a=none):SS sc fl txt (H.put a o) p refs toks:=by
 have e:=aR.new (o:=o) ha
 exact⟨e _ _ S.sc,e _ _ S.fl,S.len,S.le,S.small,S.ascii,S.cnt,λj w hj=>let ⟨r,h1,h2⟩:=S.words j w hj;⟨r,h1,h2.ext e⟩⟩
noncomputable def rq(sc fl:Nat)(txt:List Nat)(H:AH)(refs:List Nat)(toks:List Tok)(tok:Tok)(r':List Nat)(Q:au):Prop:=∀ H' r p',ai [sc,fl] H H'->txt.drop p'=r'->SS sc fl txt H' p' (refs++[r]) (toks++[tok])->Q .none H'
theorem bX{T:aT}{H:AH}{d:Nat}{t:List Nat}{Q:Bool->Prop}(q:Q (isIn t d)):AN T H (.str [d]) (.str t) Q:=by
 exact .i1 d t rfl rfl q
theorem nB{T:aT}{s:List Nat}{k c:Nat}{Q:AV->Prop}(hk:k<=1000000)(h:s[k]?=some c)(q:Q (.str [c])):j0 T H (.str s) (.int (k:Int)) Q:=by
 exact .i2 s k c rfl rfl ⟨Int.natCast_nonneg _,by lia⟩ h q
theorem jH{T:aT}{s:List Nat}{Q:Nat->Prop}(hs:s.length<=ah)(q:Q s.length):lv T H (.str s) Q:=by
 exact .i1 s rfl hs q
theorem hY{s:List Nat}{a b:Nat}{Q:AV->Prop}(hs:s.length<=ah)(q:Q (.str ((s.take b).drop a))):OR s (a:Int) (b:Int) Q:=by
 unfold OR;exact⟨⟨Int.natCast_nonneg a,Int.natCast_nonneg b,hs⟩,q⟩
theorem SS.line(S:SS sc fl txt H p refs toks):txt.length<=ah:=Nat.le_trans S.small (by decide)
theorem tV{C:CS}{c:Nat}{T:aT}(hs:txt.length<=100000)(ha:bf txt){Nn:bd->AH->Prop}{R:au} : ∀ (u:List Nat) (i:Nat),txt.drop i=u->i<=txt.length->
 Nn [some (.ref sc),some (.str [c]),some (.str txt),some (.int ((i+(u.takeWhile (isIn bJ)).length:Nat):Int)),none,none,none,none] H->
 jJ (λm H K=>wT T C m (.and [.cmp .lt (.loc 3) (.bi .len [.loc 2]),.or [.cmp .inn (.idx (.loc 2) (.loc 3)) (.val (.str bJ)),.cmp .gt (.bi .ord [.idx (.loc 2) (.loc 3)]) (.val (.int 127))]]) H K)
  (λm H K=>wSs T C [.set 3 (.bin .add (.loc 3) (.val (.int 1)))] m H K R) (u.length+1) [some (.ref sc),some (.str [c]),some (.str txt),some (.int (i:Int)),none,none,none,none] H Nn:=by
 intro z_
 induction z_ with
 | nil=>
  intro i hu hi q
  unfold jJ
  refine jH (Nat.le_trans hs (by decide)) ?_
  show(match decide ((i:Int)<(txt.length:Int)) with|true=>_|false=>_)
  have:i=txt.length:=by
   have:=congrArg List.length hu
   rw[List.length_drop] at this
   simp at this;lia
  refine ac (decide_eq_false (by lia)) ?_
  exact q
 | cons d u ihz=>
  intro i hu hi q
  have hlt:=dK hu
  refine(cT hu).elim λh1 h2=>?_
  unfold jJ
  refine jH (Nat.le_trans hs (by decide)) ?_
  show(match decide ((i:Int)<(txt.length:Int)) with|true=>_|false=>_)
  refine ac (decide_eq_true (by lia)) ?_
  refine nB (by lia) h1 ?_
  refine bX ?_
  induction h:isIn bJ d with
  | true=>
   refine ihz (i+1) h2 (hlt) ?_
   simp only[List.takeWhile,h] at q
   refine ac (show i+1+(u.takeWhile (isIn bJ)).length=i+(d::u.takeWhile (isIn bJ)).length from by simp;lia) ?_
   exact q
  | false=>
   refine nB (by lia) h1 ?_
   have hd:d<128:=ha d (List.mem_of_getElem? h1)
   refine⟨hd,?_⟩
   show(match decide ((d:Int)>127) with|true=>_|false=>_)
   refine ac (decide_eq_false (by lia)) ?_
   simp only[List.takeWhile,h] at q
   exact q
theorem Ku{l:List Nat}{f:Nat->Bool}{a k:Nat}(h:bf txt):bf ((txt.take k).drop a):=λc hc=>h c (List.mem_of_mem_take (List.mem_of_mem_drop hc))
theorem yT{s:List Nat}(ha:bf s)(hl:s.length<=ah)(q:Q (.str (s.map eK)) H):CP X (n+1) 793 [.str s] H Q:=by
 refine ae rfl rfl rfl (by simp) ?_
 refine .i4 s rfl (by decide) (by decide) ⟨ha,?_⟩
 exact .i4 s rfl (by decide) (by decide) ⟨⟨ha,hl⟩,q⟩
theorem Ko{c:Nat}{r:List Nat}(S:SS sc fl txt H p refs toks)(h:txt.drop p=c::r)(hc:isIn bJ c=true)(hx:(isIn [120,88] c&&decide (r.take 1=[39]))=false)
 (q:rq sc fl txt H refs toks ⟨ar,((c::r).takeWhile (isIn bJ)).map eK,.str ((c::r).takeWhile (isIn bJ))⟩ ((c::r).dropWhile (isIn bJ)) Q):CP X (n+3) 905 [.ref sc,.str [c]] H Q:=by
 have hlt:=dK h
 refine(cT h).elim λh1 h2=>?_
 refine ae rfl rfl rfl (by simp) ?_
 refine aa S.sc rfl rfl ?_
 refine aa S.sc rfl rfl ?_
 refine bX ?_
 have fin:wSs (az False) (CP X (n+2)) (Fu.body.drop 3) [some (.ref sc),some (.str [c]),some (.str txt),some (.int ((p+1:Nat):Int)),none,none,none,none] H (λ_ H=>Q .none H) Q:=by
  refine⟨_,tV S.small S.ascii r (p+1) h2 (hlt) ?_⟩
  have tw:(c::r).takeWhile (isIn bJ)=c::r.takeWhile (isIn bJ):=by simp only[List.takeWhile,hc]
  have e1:p+1+(r.takeWhile (isIn bJ)).length=p+((c::r).takeWhile (isIn bJ)).length:=by refine ac tw ?_;simp;lia
  refine e1.symm ▸ ?_
  refine(jb (u:=(c::r).takeWhile (isIn bJ)) (v:=(c::r).dropWhile (isIn bJ)) (h.trans List.takeWhile_append_dropWhile.symm)).elim λd1 d2=>?_
  refine aa S.sc rfl rfl ?_
  refine hY S.line ?_
  refine ac (dE ..) (ac (d2 ..) ?_)
  refine aC S.sc rfl rfl ?_
  have le:p+((c::r).takeWhile (isIn bJ)).length<=txt.length:=by
   have:=congrArg List.length d2
   rw[List.length_take,List.length_drop] at this;lia
  refine yT (s:=(c::r).takeWhile (isIn bJ)) (λx hx=>S.ascii x ?_) ?_ ?_
  ·rw[← d2] at hx;exact List.mem_of_mem_drop (List.mem_of_mem_take hx)
  ·have:=S.small;unfold ah;lia
  ·refine o8 S (.inr (.inr ⟨_,rfl⟩)) le ?_ λH' r0 k S'=>q H' r0 _ k d1 S'
   have:=S.cnt;refine ac tw ?_;simp;lia
 match hc2:isIn [120,88] c with
 | false=>exact fin
 | true=>
  rw[hc2] at hx
  refine hY (a:=p+1) (b:=p+1+1) S.line ?_
  refine ac (dE ..) (ac (h2 ..) ?_)
  show(match decide (r.take 1=[39]) with|true=>_|false=>_)
  rw[show decide (r.take 1=[39])=false from hx]
  exact fin
end
section
variable {X:Prop} {sc fl:Nat} {txt:List Nat} {H:AH} {Q:au} {n p:Nat} {refs:List Nat} {toks:List Tok}
noncomputable def za(q:Nat)(s:List Nat)(i:Nat):AV:=match s.dropWhile (λd=>!(Nat.beq d q)) with|[]=>.int (-1)|_::_=>.int ((i+(s.takeWhile (λd=>!(Nat.beq d q))).length:Nat):Int)
theorem nC{s:List Nat}{c i:Nat}{Q:AV->Prop}(q:Q (za c (s.drop i) i)):pA s c (i:Int) Q:=by
 unfold pA
 refine⟨Int.natCast_nonneg i,?_⟩
 refine ac (Int.toNat_natCast ..) (ac (yZ ..) ?_)
 unfold za at q
 cases hs:(s.drop i).dropWhile (λd=>!(Nat.beq d c)) with
 | nil=>rw[hs] at q;exact q
 | cons _ _=>rw[hs] at q;exact q
theorem cu{T:aT}{C:CS}{s:List Nat}{k:Nat}{args:(List AV->AH->Prop)->Prop}{Q:au}(h1:2<=k)(h2:k<=7)(q:args λvs H₂=>u0 H₂ s k vs λv=>Q v H₂):eT T C H (.str s) k args Q:=by
 exact .i4 s rfl h1 h2 q
theorem ve{u v:List Nat}{d:Nat} : (u++d::v).take (u.length+1)=u++[d]:=by
 refine ac List.take_append ?_
 simp[List.take_of_length_le]
theorem pg{c:Nat} : ∀ {s:List Nat} {d:Nat} {r:List Nat},s.dropWhile (λd=>!(Nat.beq d c))=d::r->d=c/\s=s.takeWhile (λd=>!(Nat.beq d c))++c::r:=by
 intro z_
 induction z_ with
 | nil=>
  intro _ _ h
  exfalso;cases h
 | cons x s ihz=>
  intro d r h
  cases hx:Nat.beq x c with
  | true=>
   simp only[List.dropWhile,List.takeWhile,hx,Bool.not_true] at h⊢
   cases h
   have:=Nat.eq_of_beq_eq_true hx
   subst this
   exact⟨rfl,rfl⟩
  | false=>
   simp only[List.dropWhile,List.takeWhile,hx,Bool.not_false] at h⊢
   refine(ihz h).elim λh1 h2=>?_
   exact⟨h1,by exact ac (List.cons_append ..) (ac (h2 ..).symm rfl)⟩
theorem gT{r':List Nat}{j:Nat}{k t:List Nat}{v:AV}(S:SS sc fl txt H p refs toks)(hv:u6 v)(hj:j<=txt.length)(hp:p+1<=j)(hd:txt.drop j=r')(q:rq sc fl txt H refs toks ⟨k,t,v⟩ r' Q) :
 CP X (n+2) 877 [.ref sc,.str k,.str t,v,.int (j:Int)] H Q:=
 o8 S hv hj (by have:=S.cnt;lia) λH' r k S'=>q H' r j k hd S'
theorem PM{r:List Nat}{tok:Tok}{r':List Nat}(S:SS sc fl txt H p refs toks)(h:txt.drop p=91::r)(hb:rU r=some (tok,r'))(q:rq sc fl txt H refs toks tok r' Q):CP X (n+3) 919 [.ref sc,.str [91]] H Q:=by
 refine ae rfl rfl rfl (by simp) ?_
 refine aa S.sc rfl rfl ?_
 refine cu (by decide) (by decide) ?_
 refine aa S.sc rfl rfl ?_
 refine nC ?_
 unfold za
 unfold rU at hb
 have e1:(91::r).dropWhile (λd=>!(Nat.beq d 93))=r.dropWhile (λd=>!(Nat.beq d 93)):=rfl
 have e2:(91::r).takeWhile (λd=>!(Nat.beq d 93))=91::r.takeWhile (λd=>!(Nat.beq d 93)):=rfl
 refine ac h (ac e1 (ac e2 ?_))
 cases hr:r.dropWhile (λd=>!(Nat.beq d 93)) with
 | nil=>rw[hr] at hb;exfalso;cases hb
 | cons d r2=>
  rw[hr] at hb
  cases hb
  obtain⟨rfl,hs⟩:=pg hr
  have h':txt.drop p=(91::r.takeWhile (λd=>!(Nat.beq d 93)))++(93::r'):=by refine ac h ?_;exact congrArg (91::·) hs
  refine(jb h').elim λd1 d2=>?_
  have le:=dK d1
  refine aC S.sc rfl rfl ?_
  refine aa S.sc rfl rfl ?_
  refine aa S.sc rfl rfl ?_
  refine hY (a:=p+1) S.line ?_
  have e3:(txt.take (p+(91::r.takeWhile (λd=>!(Nat.beq d 93))).length)).drop (p+1)=r.takeWhile (λd=>!(Nat.beq d 93)):=by
   refine ac (show p+(91::r.takeWhile (λd=>!(Nat.beq d 93))).length=(p+1)+(r.takeWhile (λd=>!(Nat.beq d 93))).length from by simp;lia) (ac (dE ..) (ac ((cT h).2) ?_))
   exact(congrArg (List.take _) hs).trans List.take_left
  refine e3.symm ▸ ?_
  refine gT (j:=p+(91::r.takeWhile (λd=>!(Nat.beq d 93))).length+1) S (.inr (.inr ⟨_,rfl⟩)) (le) (by lia) (cT d1).2 q
theorem ji{a:Nat}{l:List (List Nat)}{sep:List Nat}{Q:AV->Prop}(h:H a=some (.list (l.map AV.str)))(h1:sep.length<=ah)(h2:(List.intercalate sep l).length<=ah)(q:Q (.str (List.intercalate sep l))):sT H sep (.ref a) Q:=by
 exact⟨a,l,rfl,h,⟨h1,h2⟩,q⟩
theorem jz:∀ l:List (List Nat),List.intercalate [] l=l.flatten
 | []=>rfl
 | [x]=>by simp[List.intercalate]
 | x::y::r=>by
  have:=jz (y::r)
  simp only[List.intercalate] at this⊢
  simp[List.intersperse,this]
theorem SS.put(S:SS sc fl txt H p refs toks){b:Nat}{vs vs':List AV}(hb:H b=some (.list vs))(n2:fl≠b):SS sc fl txt (H.put b (.list vs')) p refs toks:=by
 have n1:sc≠b:=λz=>by have:=S.sc;rw[z,hb] at this;cases this
 exact⟨(aO n1).trans S.sc,(aO n2).trans S.fl,S.len,S.le,S.small,S.ascii,S.cnt,λj w hj=>let ⟨r,h1,p,h2⟩:=S.words j w hj
  ⟨r,h1,p,(aO λz=>by rw[z,hb] at h2;cases h2).trans h2⟩⟩
theorem q9{q:Nat}{b i0:Nat}(n2:fl≠b){H0:AH}{Nn:bd->AH->Prop}{R:au} :
 ∀ (k:Nat) (s acc:List Nat) (l:List (List Nat)) (i:Nat) (w r':List Nat) (H:AH),SS sc fl txt H p refs toks->H b=some (.list (l.map AV.str))->l.flatten=acc->acc.length<=i->l.length<=i->i0<=i->txt.drop i=s->gH k q acc s=some (w,r')->
  ai [b,sc,fl] H0 H->
  (∀ H' (l:List (List Nat)) (i j:Nat),SS sc fl txt H' p refs toks->H' b=some (.list (l.map AV.str))->l.length<=i->i0<=i->i<=j->j<txt.length->l.flatten++(txt.drop i).take (j-i)=w->w.length<=txt.length->txt.drop (j+1)=r'->ai [b,sc,fl] H0 H'->
   Nn [some (.ref sc),some (.str [q]),some (.int ((i:Nat):Int)),some (.ref b),some (.int ((j:Nat):Int)),none,none,none] H')->
  jJ (λm H K=>wT (az False) (CP X n) m (.and [.cmp .ge (.loc 4) (.val (.int 0)),.cmp .eq (.slice (.attr (.loc 0) 57) (.bin .add (.loc 4) (.val (.int 1))) (.bin .add (.loc 4) (.val (.int 2)))) (.loc 1)]) H K)
   (λm H K=>wSs (az False) (CP X n) [.ex (.meth (.loc 3) 0 [.slice (.attr (.loc 0) 57) (.loc 2) (.bin .add (.loc 4) (.val (.int 1)))]),.set 2 (.bin .add (.loc 4) (.val (.int 2))),.set 4 (.meth (.attr (.loc 0) 57) 6 [.loc 1,.loc 2])] m H K R) k
   [some (.ref sc),some (.str [q]),some (.int ((i:Nat):Int)),some (.ref b),some (za q s i),none,none,none] H Nn:=by
 intro z_
 induction z_ with
 | zero=>
  intro s acc l i w r' H S hb hl ha hll hi0 hs hc hk q'
  exfalso;cases hc
 | succ k ihz=>
  intro s acc l i w r' H S hb hl ha hll hi0 hs hc hk q'
  unfold jJ
  unfold gH at hc
  unfold za
  cases hd:s.dropWhile (λd=>!(Nat.beq d q)) with
  | nil=>rw[hd] at hc;exact fI hc
  | cons d r=>
   rw[hd] at hc
   replace hc:(bif decide (r.take 1=[q]) then gH k q (acc++s.takeWhile (λc=>!(Nat.beq c q))++[q]) (r.drop 1) else some (acc++s.takeWhile (λc=>!(Nat.beq c q)),r))=some (w,r'):=hc
   refine(pg hd).elim λeq1_ he=>?_
   subst eq1_
   refine(jb (hs.trans he)).elim λd1 d2=>?_
   have le:=dK d1
   generalize hj:i+(s.takeWhile (λx=>!(Nat.beq x d))).length=j at d1 le
   refine aa S.sc rfl rfl ?_
   refine hY (a:=j+1) (b:=j+1+1) S.line ?_
   have e2:(txt.take (j+1+1)).drop (j+1)=r.take 1:=by
    exact ac (dE ..) (ac ((cT d1).2) rfl)
   refine e2.symm ▸ ?_
   show(match decide (r.take 1=[d]) with|true=>_|false=>_)
   induction h2:decide (r.take 1=[d]) with
   | false=>
    rw[h2] at hc
    cases hc
    refine q' H l i j S hb hll hi0 (by lia) le ?_ ?_ (cT d1).2 hk
    ·exact ac (hl ..) (ac (show j-i=(s.takeWhile (λx=>!(Nat.beq x d))).length from by lia) (ac (d2 ..) rfl))
    ·simp;lia
   | true=>
    rw[h2] at hc
    replace hc:gH k d (acc++s.takeWhile (λc=>!(Nat.beq c d))++[d]) (r.drop 1)=some (w,r'):=hc
    have hr:=of_decide_eq_true h2
    have hr2:r=d::r.drop 1:=by
     cases r with
     | nil=>exfalso;cases hr
     | cons y r=>simp at hr;subst hr;rfl
    have d3:=(cT d1).2
    rw[hr2] at d3
    have le2:=dK d3
    have d4:=(cT d3).2
    refine dw hb ?_
    refine aa S.sc rfl rfl ?_
    refine hY (b:=j+1) S.line ?_
    have e3:(txt.take (j+1)).drop i=s.takeWhile (λc=>!(Nat.beq c d))++[d]:=by
     refine ac (show j+1=i+((s.takeWhile (λc=>!(Nat.beq c d))).length+1) from by lia) (ac (dE ..) (ac (hs ..) ?_))
     exact(congrArg (List.take _) he).trans ve
    refine e3.symm ▸ ?_
    refine⟨_,rfl,dz hb (by refine ac (List.length_map ..) ?_;have:=S.small;unfold ah;lia) (λz=>nomatch z) ?_⟩
    have S2:=S.put (vs':=l.map AV.str++[.str (s.takeWhile (λc=>!(Nat.beq c d))++[d])]) hb n2
    refine aa S2.sc rfl rfl ?_
    refine cu (by decide) (by decide) ?_
    refine nC (i:=j+2) ?_
    refine ac (show txt.drop (j+2)=r.drop 1 from d4) ?_
    refine ihz (r.drop 1) _ (l++[s.takeWhile (λc=>!(Nat.beq c d))++[d]]) (j+2) w r' _ S2 (by refine ac List.map_append ?_;exact af) (by simp[hl]) (by simp;lia) (by simp;lia) (by lia) d4 hc (hk.trans (ai.put (.head _))) q'
theorem uG{q i:Nat}{s w r':List Nat}{k:Nat}(S:SS sc fl txt H p refs toks)(hs:txt.drop i=s)(hi:i<=txt.length)(hc:gH k q [] s=some (w,r'))
 (g:∀ H' t (j:Nat),SS sc fl txt H' p refs toks->H' t=some (.tup [.str w,.int ((j:Nat):Int)])->i<j->j<=txt.length->txt.drop j=r'->ai [sc,fl] H H'->Q (.ref t) H'):CP X (n+1) 912 [.ref sc,.str [q],.int (i:Int)] H Q:=by
 refine ae rfl rfl rfl (by simp) ?_
 refine aw λb hb=>?_
 have S1:=S.new hb (o:=.list [])
 have n2:fl≠b:=λz=>by have:=S.fl;rw[z,hb] at this;exact fI this
 refine aa S1.sc rfl rfl ?_
 refine cu (by decide) (by decide) ?_
 refine nC ?_
 refine ac hs ?_
 refine⟨k,q9 (H0:=H) n2 k s [] [] i w r' _ S1 af rfl (Nat.zero_le _) (Nat.zero_le _) (Nat.le_refl i) hs hc (ai.new hb) λH' l i' j S' hb' h1 h0 h2 h3 h4 h5 h6 k'=>?_⟩
 have e1:(txt.take j).drop i'=(txt.drop i').take (j-i'):=List.drop_take
 have ew:(l++[(txt.take j).drop i']).flatten=w:=by simp[e1];simpa using h4
 refine dw hb' ?_
 refine aa S'.sc rfl rfl ?_
 refine hY S'.line ?_
 refine⟨_,rfl,dz hb' (by refine ac (List.length_map ..) ?_;have:=S'.small;unfold ah;lia) (λz=>nomatch z) ?_⟩
 have S2:=S'.put (vs':=l.map AV.str++[.str ((txt.take j).drop i')]) hb' n2
 refine cu (by decide) (by decide) ?_
 refine ji (l:=l++[(txt.take j).drop i']) (by refine ac List.map_append ?_;exact af) (by decide) ?_ ?_
 ·refine ac (jz ..) (ac (ew ..) ?_);have:=S'.small;unfold ah;lia
 ·refine ac (jz ..) (ac (ew ..) ?_)
  refine aw λt ht=>?_
  exact g _ t (j+1) (S2.new ht) af (by lia) (h3) h6 ((ai.own hb (k'.trans (ai.put (.head _)))).trans (ai.new ht))
theorem LU{c:Nat}{r:List Nat}{tok:Tok}{r':List Nat}(S:SS sc fl txt H p refs toks)(h:txt.drop p=c::r)(h91:decide ([c]=[91])=false)(hb:Cw c r=some (tok,r'))(q:rq sc fl txt H refs toks tok r' Q):CP X (n+3) 919 [.ref sc,.str [c]] H Q:=by
 unfold Cw at hb
 induction hc:gH 8 c [] r with
 | none=>rw[hc] at hb;exfalso;cases hb
 | some x=>
  obtain⟨w,r2⟩:=x
  rw[hc] at hb
  cases hb
  have lt:=dK h
  refine ae rfl rfl rfl (by simp) ?_
  show(match decide ([c]=[91]) with|true=>_|false=>_)
  refine ac h91 ?_
  refine aC S.sc rfl rfl ?_
  refine aa S.sc rfl rfl ?_
  refine uG (i:=p+1) S (cT h).2 (lt) hc λH1 t j S1 ht h1 h2 h3 k1=>?_
  refine ev ht rfl ?_
  refine aC S1.sc rfl rfl ?_
  have fin:∀ k,rq sc fl txt H refs toks ⟨k,[],.str w⟩ r' Q->CP X (n+2) 877 [.ref sc,.str k,.str [],.str w,.int (j:Int)] H1 (λ_ H=>Q .none H):=λk q=>
   gT (Q:=λ_ H=>Q .none H) S1 (.inr (.inr ⟨_,rfl⟩)) h2 (Nat.le_of_lt h1) h3 λH' r0 p' k'=>q H' r0 p' (k1.trans k')
  show(match decide ([c]=[39]) with|true=>_|false=>_)
  match h39:decide ([c]=[39]) with
  | true=>rw[h39] at q;exact fin da q
  | false=>rw[h39] at q;exact fin ar q
theorem y9{C:CS}{T:aT}{l:List Nat}(hs:txt.length<=100000){Nn:bd->AH->Prop}{R:au} : ∀ (u:List Nat) (i:Nat),txt.drop i=u->i<=txt.length->
 Nn [some (.ref sc),some (.str l),some (.int ((i+(u.takeWhile (isIn l)).length:Nat):Int)),some (.str txt),none,none,none] H->
 jJ (λm H K=>wT T C m (.and [.cmp .lt (.loc 2) (.bi .len [.loc 3]),.cmp .inn (.idx (.loc 3) (.loc 2)) (.loc 1)]) H K)
  (λm H K=>wSs T C [.set 2 (.bin .add (.loc 2) (.val (.int 1)))] m H K R) (u.length+1) [some (.ref sc),some (.str l),some (.int (i:Int)),some (.str txt),none,none,none] H Nn:=by
 intro z_
 induction z_ with
 | nil=>
  intro i hu hi q
  unfold jJ
  refine jH (Nat.le_trans hs (by decide)) ?_
  show(match decide ((i:Int)<(txt.length:Int)) with|true=>_|false=>_)
  have:i=txt.length:=by
   have:=congrArg List.length hu
   rw[List.length_drop] at this
   simp at this;lia
  refine ac (decide_eq_false (by lia)) ?_
  exact q
 | cons d u ihz=>
  intro i hu hi q
  have hlt:=dK hu
  refine(cT hu).elim λh1 h2=>?_
  unfold jJ
  refine jH (Nat.le_trans hs (by decide)) ?_
  show(match decide ((i:Int)<(txt.length:Int)) with|true=>_|false=>_)
  refine ac (decide_eq_true (by lia)) ?_
  refine nB (by lia) h1 ?_
  refine bX ?_
  match h:isIn l d with
  | true=>
   refine ihz (i+1) h2 (hlt) ?_
   simp only[List.takeWhile,h] at q
   refine ac (show i+1+(u.takeWhile (isIn l)).length=i+(d::u.takeWhile (isIn l)).length from by simp;lia) ?_
   exact q
  | false=>
   simp only[List.takeWhile,h] at q
   exact q
theorem y8{l:List Nat}{i:Nat}(S:SS sc fl txt H p refs toks)(hi:i<=txt.length)(q:Q (.int ((i+((txt.drop i).takeWhile (isIn l)).length:Nat):Int)) H):CP X (n+1) 898 [.ref sc,.str l,.int (i:Int)] H Q:=by
 refine ae rfl rfl rfl (by simp) ?_
 refine aa S.sc rfl rfl ?_
 exact⟨_,y9 S.small (txt.drop i) i rfl hi q⟩
theorem sA:∀ f n,(aD f n).length<=f:=by
 intro z_
 induction z_ with
 | zero=>
  intro n
  exact Nat.le_refl 0
 | succ f ihz=>
  intro n
  unfold aD
  split
  ·simp
  ·have:=ihz (n / 10)
   simp;lia
theorem pJ{b e i:Nat}{ds:List Nat}(S:SS sc fl txt H p refs toks)(hd:(txt.take e).drop b=ds)(hbe:b<e)(hv:qj ds=some i)(q:Q (.int (i:Int)) H):CP X (n+1) 940 [.ref sc,.int (b:Int),.int (e:Int),.int 10] H Q:=by
 refine ae rfl rfl rfl (by simp) ?_
 show(match decide ((b:Int)=(e:Int)) with|true=>_|false=>_)
 refine ac (decide_eq_false (by lia)) ?_
 refine aa S.sc rfl rfl ?_
 refine hY S.line ?_
 refine cu (by decide) (by decide) ?_
 refine hd.symm ▸ ?_
 have hdl:ds.length<=ah:=by
  refine ac hd.symm (ac List.length_drop (ac List.length_take ?_));have:=S.line;lia
 refine⟨hdl,?_⟩
 unfold qj at hv
 generalize hf:ds.dropWhile (· == 48)=f at hv
 unfold Ip at hv
 have hfl:f.length<=4:=by
  match he:f.isEmpty with
  | true=>exact(List.isEmpty_iff.mp he)▸(Nat.zero_le 4)
  | false=>
   rw[he] at hv
   match hc:(decide (m7 f<1000)&&decide (f=aD 4 (m7 f))) with
   | false=>rw[hc] at hv;exact fI hv
   | true=>
    have:=(Bool.and_eq_true_iff.mp hc).2
    refine ac (of_decide_eq_true this) ?_
    exact sA 4 _
 refine jH (by unfold ah;exact iX hfl rfl) ?_
 show(match decide (((f.length:Nat):Int)>20) with|true=>_|false=>_)
 refine ac (decide_eq_false (by lia)) ?_
 show(match !decide (f=[]) with|true=>_|false=>_)
 cases f with
 | nil=>obtain rfl:=Option.some.inj hv;exact q
 | cons x f=>
  refine⟨rfl,i,?_⟩
  match hc:(decide (m7 (x::f)<1000)&&decide ((x::f)=aD 4 (m7 (x::f)))) with
  | false=>simp only[List.isEmpty_cons,cond_false] at hv;rw[hc] at hv;exfalso;cases hv
  | true=>
   simp only[List.isEmpty_cons,cond_false] at hv;rw[hc] at hv
   refine(Bool.and_eq_true_iff.mp hc).elim λh1 h2=>?_
   obtain rfl:=Option.some.inj hv
   exact⟨of_decide_eq_true h1,of_decide_eq_true h2,q⟩
end
section
variable {X:Prop} {sc fl:Nat} {txt:List Nat} {H:AH} {Q:au} {n p:Nat} {refs:List Nat} {toks:List Tok}
theorem Cl{ds:List Nat}{i:Nat}(h:qj ds=some i):i<1000:=by
 unfold qj at h
 generalize ds.dropWhile (· == 48)=f at h
 unfold Ip at h
 match h1:f.isEmpty with
 | true=>rw[h1] at h;cases h;decide
 | false=>
  rw[h1] at h
  match h2:(decide (m7 f<1000)&&decide (f=aD 4 (m7 f))) with
  | false=>rw[h2] at h;cases h
  | true=>
   rw[h2] at h
   cases h
   exact of_decide_eq_true (Bool.and_eq_true_iff.mp h2).1
theorem ul{d:Nat}(hd:d<128)(q:Q (.bool (isIn bJ d)) H):CP X (n+1) 800 [.str [d]] H Q:=by
 refine ae rfl rfl rfl (by simp) ?_
 refine bX ?_
 induction h:isIn bJ d with
 | true=>rw[h] at q;exact q
 | false=>
  rw[h] at q
  refine⟨hd,?_⟩
  show Q (.bool (decide ((d:Int)>127))) H
  rw[decide_eq_false (by lia)]
  exact q
theorem Ma{c:Nat}{r:List Nat}{tok:Tok}{r':List Nat}(S:SS sc fl txt H p refs toks)(h:txt.drop p=c::r)(hc:isIn eo c=true)(hx:decide ((c::r).take 2∈[[48,120],[48,88]])=false)(hb:ju (c::r)=some (tok,r'))
 (q:rq sc fl txt H refs toks tok r' Q):CP X (n+3) 933 [.ref sc] H Q:=by
 have lt:=dK h
 unfold ju at hb
 induction hv:qj ((c::r).takeWhile (isIn eo)) with
 | none=>rw[hv] at hb;cases hb
 | some i=>
 rw[hv] at hb
 refine ae rfl rfl rfl (by simp) ?_
 refine aa S.sc rfl rfl ?_
 refine aa S.sc rfl rfl ?_
 refine hY (b:=p+2) S.line ?_
 rw[dE,h]
 refine aw λt ht=>?_
 refine nA [[48,120],[48,88]] af ?_
 rw[hx]
 have S:=S.new ht (o:=.tup ([[48,120],[48,88]].map AV.str))
 have kt:ai [sc,fl] H (H.put t (.tup ([[48,120],[48,88]].map AV.str))):=ai.new ht
 refine aC S.sc rfl rfl ?_
 refine y8 S (Nat.le_of_lt lt) ?_
 rw[h]
 obtain⟨d1,d2⟩:=jb (u:=(c::r).takeWhile (isIn eo)) (v:=(c::r).dropWhile (isIn eo)) (h.trans List.takeWhile_append_dropWhile.symm)
 have hlen:0<((c::r).takeWhile (isIn eo)).length:=by simp[List.takeWhile,hc]
 have le:p+((c::r).takeWhile (isIn eo)).length<=txt.length:=by
  have:=congrArg List.length d2
  rw[List.length_take,List.length_drop] at this;lia
 generalize hj:p+((c::r).takeWhile (isIn eo)).length=j at d1 le
 refine aC S.sc rfl rfl ?_
 refine pJ S (ds:=(c::r).takeWhile (isIn eo)) ?_ (by lia) hv ?_
 ·rw[← hj,dE,d2]
 have hi:=Cl hv
 show(match decide ((i:Int)>9223372036854775808) with|true=>_|false=>_)
 rw[decide_eq_false (by lia)]
 refine aa S.sc rfl rfl ?_
 refine hY (b:=j+1) S.line ?_
 rw[dE,d1]
 have fin:some (⟨b7,[],.int i⟩,(c::r).dropWhile (isIn eo))=some (tok,r')->eT (az False) (CP X (n+2)) (H.put t (.tup ([[48,120],[48,88]].map AV.str))) (.ref sc) 58 (λK=>K [.str b7,.str [],.int (i:Int),.int (j:Int)] (H.put t (.tup ([[48,120],[48,88]].map AV.str)))) (λ_ H=>Q .none H):=λhe=>by
  cases he
  refine aC S.sc rfl rfl ?_
  exact gT (Q:=λ_ H=>Q .none H) S (.inr (.inl ⟨_,rfl⟩)) le (by lia) d1 λH' r0 p' k=>q H' r0 p' (kt.trans k)
 cases hr:(c::r).dropWhile (isIn eo) with
 | nil=>
  rw[hr] at hb fin
  exact fin hb
 | cons d r2=>
  rw[hr] at hb fin
  replace hb:(bif decide (d=46)||isIn bJ d then none else some ((⟨b7,[],.int i⟩:Tok),d::r2))=some (tok,r'):=hb
  have hd:d<128:=S.ascii d (List.mem_of_getElem? (cT (d1.trans hr)).1)
  show(match decide (([d]:List Nat)=[46]) with|true=>_|false=>_)
  have e1:decide (([d]:List Nat)=[46])=decide (d=46):=by
   by_cases z:d=46
   ·subst z;rfl
   ·rw[decide_eq_false z,decide_eq_false λy=>z (List.cons.inj y).1]
  rw[e1]
  match h46:decide (d=46) with
  | true=>rw[h46] at hb;cases hb
  | false=>
  rw[h46] at hb
  refine ul hd ?_
  match hn:isIn bJ d with
  | true=>rw[hn] at hb;cases hb
  | false=>
  rw[hn] at hb
  exact fin hb
theorem Ix{c:Nat}{r:List Nat}(S:SS sc fl txt H p refs toks)(h:txt.drop p=c::r)(h1:decide ((c::r).take 2=[45,45])=false)(h2:decide ((c::r).take 2=[47,42])=false)(h3:decide ((c::r).take 2∈Bg)=false)(h4:isIn Ck c=true)
 (q:rq sc fl txt H refs toks ⟨bp,[c],.none⟩ r Q):CP X (n+3) 947 [.ref sc,.str [c]] H Q:=by
 have lt:=dK h
 refine ae rfl rfl rfl (by simp) ?_
 refine aa S.sc rfl rfl ?_
 refine aa S.sc rfl rfl ?_
 refine aa S.sc rfl rfl ?_
 refine hY (b:=p+2) S.line ?_
 rw[dE,h]
 show(match decide ((c::r).take 2=[45,45]) with|true=>_|false=>_)
 rw[h1]
 show(match decide ((c::r).take 2=[47,42]) with|true=>_|false=>_)
 rw[h2]
 refine aK (l:=Bg) rfl ?_
 rw[h3]
 refine bX (t:=Ck) ?_
 rw[h4]
 refine aC S.sc rfl rfl ?_
 refine aa S.sc rfl rfl ?_
 exact gT (j:=p+1) S (.inl rfl) (lt) (Nat.le_refl _) (cT h).2 q
theorem ug{c:Nat}(h:isIn dG c=true):isIn bJ c=true:=by
 have h:=of_decide_eq_true h
 exact decide_eq_true (List.mem_append_left (bs:=[48,49,50,51,52,53,54,55,56,57,36]) h)
theorem OP{l:List Nat}(hl:l.all (λc=>Nat.blt c 128)=true){c:Nat}(h:c∈l):c<128:=by
 have:=List.all_eq_true.mp hl c h
 exact Nat.lt_of_lt_of_le (Nat.le_of_ble_eq_true this) (Nat.le_refl _)
noncomputable abbrev BV:IE:=.cmp .lt (.attr (.loc 0) 12) (.loc 1)
noncomputable def rI:List IS:=match Fv.body with
 | [_,.whl _ b,_,_]=>b
 | _=>[]
theorem ky{x:Option (Tok×List Nat)}{t:Option Tok}{r':List Nat}{P:Option Tok->List Nat->Prop}(h:(x.map λx=>(some x.1,x.2))=some (t,r'))(k:∀ y,x=some y->P (some y.1) y.2):P t r':=by
 induction x with
 | none=>exact fI h
 | some y=>cases h;exact k y rfl
theorem jo{α β:Type}{P:α->β->Prop}{a t:α}{b r:β}(h:some (a,b)=some (t,r))(k:P a b):P t r:=by cases h;exact k
theorem nt{α:Type}{b:Bool}{x y:Option α}{a:α}{C:Prop}(h:(bif b then x else y)=some a)(k1:b=true->x=some a->C)(k2:b=false->y=some a->C):C:=by
 induction b with
 | true=>exact k1 rfl h
 | false=>exact k2 rfl h
@[elab_as_elim] theorem qB{c:Nat}{r:List Nat}{P:Option Tok->List Nat->Prop}(t:Option Tok)(r':List Nat)(h:mL c r=some (t,r'))(k1:isIn fi c=true->P none r)
 (k2:isIn fi c=false->isIn dG c=true->(isIn [120,88] c&&decide (r.take 1=[39]))=false->P (some ⟨ar,((c::r).takeWhile (isIn bJ)).map eK,.str ((c::r).takeWhile (isIn bJ))⟩) ((c::r).dropWhile (isIn bJ)))
 (k3:isIn fi c=false->isIn dG c=false->isIn eo c=true->decide ((c::r).take 2∈[[48,120],[48,88]])=false->∀ y,ju (c::r)=some y->P (some y.1) y.2)
 (k4:isIn fi c=false->isIn dG c=false->isIn eo c=false->isIn mE c=true->decide ([c]=[91])=true->∀ y,rU r=some y->P (some y.1) y.2)
 (k5:isIn fi c=false->isIn dG c=false->isIn eo c=false->isIn mE c=true->decide ([c]=[91])=false->∀ y,Cw c r=some y->P (some y.1) y.2)
 (k6:isIn fi c=false->isIn dG c=false->isIn eo c=false->isIn mE c=false->decide ((c::r).take 2=[45,45])=false->decide ((c::r).take 2=[47,42])=false->decide ((c::r).take 2∈Bg)=false->isIn Ck c=true->P (some ⟨bp,[c],.none⟩) r):P t r':=by
 exact nt h (λh1 h=>jo h (k1 h1)) λh1 h=>nt h (λh2 h=>nt h (λ_ h=>fI h) λhx h=>jo h (k2 h1 h2 hx)) λh2 h=>nt h (λh3 h=>nt h (λ_ h=>fI h) λhx h=>ky h (k3 h1 h2 h3 hx)) λh3 h=>
  nt h (λh4 h=>nt h (λhx h=>ky h (k4 h1 h2 h3 h4 hx)) λhx h=>ky h (k5 h1 h2 h3 h4 hx)) λh4 h=>nt h (λ_ h=>fI h) λg h=>nt h (λh5 h=>
  jo h (k6 h1 h2 h3 h4 (Bool.or_eq_false_iff.mp g).1 (Bool.or_eq_false_iff.mp (Bool.or_eq_false_iff.mp g).2).1 (Bool.or_eq_false_iff.mp (Bool.or_eq_false_iff.mp g).2).2 h5)) λ_ h=>fI h
theorem AH.nls{H:AH}{a b C:Nat}{fs gs:List (Nat×AV)}{D:Nat}(h:H a=some (.inst C fs))(hb:H b=some (.inst D gs))(n:C≠D):a≠b:=λz=>n (by rw[z,hb] at h;cases h;rfl)
theorem Hu{c:Nat}{r r':List Nat}{t:Option Tok}{x2:Option AV}(S:SS sc fl txt H p refs toks)(h:txt.drop p=c::r)(hl:mL c r=some (t,r')){Nn:bd->AH->Prop}{R:au}
 (q:∀ H' p' refs',ai [sc,fl] H H'->txt.drop p'=r'->SS sc fl txt H' p' refs' (toks++t.toList)->Nn [some (.ref sc),some (.int (txt.length:Int)),some (.str [c]),none,none,none] H') :
 wSs (az False) (CP X (n+3)) rI [some (.ref sc),some (.int (txt.length:Int)),x2,none,none,none] H Nn R:=by
 have lt:=dK h
 obtain⟨d1,d2⟩:=cT h
 have hc128:c<128:=S.ascii c (List.mem_of_getElem? d1)
 refine aa S.sc rfl rfl ?_
 refine aa S.sc rfl rfl ?_
 refine nB (by have:=S.small;lia) d1 ?_
 refine bX ?_
 revert q
 refine qB t r' hl (λh1 q=>?_) (λh1 h2 hx q=>?_) (λh1 h2 h3 hx y hn q=>?_) (λh1 h2 h3 h4 hx y hn q=>?_) (λh1 h2 h3 h4 hx y hn q=>?_) λh1 h2 h3 h4 g1 g2 g3 g4 q=>?_
 ·rw[h1]
  refine aa S.sc rfl rfl ?_
  refine aM S.sc rfl (Nat.le_of_ble_eq_true rfl) (λz=>nomatch z) ?_
  refine q _ (p+1) refs (ai.put (.head _)) d2 ?_
  rw[Option.toList_none,List.append_nil]
  refine⟨af,(aO S.ne.symm).trans S.fl,S.len,lt,S.small,S.ascii,by have:=S.cnt;lia,λj w hj=>?_⟩
  obtain⟨r0,e1,e2⟩:=S.words j w hj
  exact⟨r0,e1,e2.offs λC fs g e=>(aO (AH.nls g S.sc (by rw[e];decide))).trans g⟩
 ·rw[h1]
  refine bX ?_
  rw[h2]
  refine aC S.sc rfl rfl ?_
  exact Ko (Q:=λ_ H=>Nn [some (.ref sc),some (.int (txt.length:Int)),some (.str [c]),none,none,none] H) S h (ug h2) hx λH' r0 p' k e1 S'=>q H' p' _ k e1 S'
 ·rw[h1]
  refine bX ?_
  rw[h2]
  refine⟨hc128,?_⟩
  show(match decide ((c:Int)>127) with|true=>_|false=>_)
  rw[decide_eq_false (by lia)]
  refine bX ?_
  rw[h3]
  refine aC S.sc rfl rfl ?_
  exact Ma (Q:=λ_ H=>Nn [some (.ref sc),some (.int (txt.length:Int)),some (.str [c]),none,none,none] H) S h h3 hx hn λH' r0 p' k e1 S'=>q H' p' _ k e1 S'
 ·rw[h1]
  refine bX ?_
  rw[h2]
  refine⟨hc128,?_⟩
  show(match decide ((c:Int)>127) with|true=>_|false=>_)
  rw[decide_eq_false (by lia)]
  refine bX ?_
  rw[h3]
  refine bX ?_
  rw[h4]
  refine aC S.sc rfl rfl ?_
  obtain rfl:=(List.cons.inj (of_decide_eq_true hx)).1
  exact PM (Q:=λ_ H=>Nn [some (.ref sc),some (.int (txt.length:Int)),some (.str [91]),none,none,none] H) S h hn λH' r0 p' k e1 S'=>q H' p' _ k e1 S'
 ·rw[h1]
  refine bX ?_
  rw[h2]
  refine⟨hc128,?_⟩
  show(match decide ((c:Int)>127) with|true=>_|false=>_)
  rw[decide_eq_false (by lia)]
  refine bX ?_
  rw[h3]
  refine bX ?_
  rw[h4]
  refine aC S.sc rfl rfl ?_
  exact LU (Q:=λ_ H=>Nn [some (.ref sc),some (.int (txt.length:Int)),some (.str [c]),none,none,none] H) S h hx hn λH' r0 p' k e1 S'=>q H' p' _ k e1 S'
 ·rw[h1]
  refine bX ?_
  rw[h2]
  refine⟨hc128,?_⟩
  show(match decide ((c:Int)>127) with|true=>_|false=>_)
  rw[decide_eq_false (by lia)]
  refine bX ?_
  rw[h3]
  refine bX ?_
  rw[h4]
  refine aC S.sc rfl rfl ?_
  exact Ix (Q:=λ_ H=>Nn [some (.ref sc),some (.int (txt.length:Int)),some (.str [c]),none,none,none] H) S h g1 g2 g3 g4 λH' r0 p' k e1 S'=>q H' p' _ k e1 S'
theorem nV{Nn:bd->AH->Prop}{R:au}{H0:AH} : ∀ (k:Nat) (s:List Nat) (l:List Tok) (refs:List Nat) (toks:List Tok) (p:Nat) (H:AH) (x2:Option AV),SS sc fl txt H p refs toks->txt.drop p=s->jX k s=some l->ai [sc,fl] H0 H->
 (∀ H' refs' x2,ai [sc,fl] H0 H'->SS sc fl txt H' txt.length refs' (toks++l)->Nn [some (.ref sc),some (.int (txt.length:Int)),x2,none,none,none] H')->
 jJ (λm H K=>wT (az False) (CP X (n+3)) m BV H K) (λm H K=>wSs (az False) (CP X (n+3)) rI m H K R) (k+1) [some (.ref sc),some (.int (txt.length:Int)),x2,none,none,none] H Nn
 | k,[],l,refs,toks,p,H,x2,S,hs,hl,hk,q=>by
  have hl':l=[]:=by induction k<;>(cases hl;rfl)
  subst hl'
  unfold jJ
  refine aa S.sc rfl rfl ?_
  show(match decide ((p:Int)<(txt.length:Int)) with|true=>_|false=>_)
  have:p=txt.length:=by
   have:=congrArg List.length hs
   have:=S.le
   rw[List.length_drop] at *
   simp at *;lia
  subst this
  rw[decide_eq_false (by lia)]
  exact q H refs x2 hk (by rw[List.append_nil];exact S)
 | 0,c::r,l,refs,toks,p,H,x2,S,hs,hl,hk,q=>by cases hl
 | k+1,c::r,l,refs,toks,p,H,x2,S,hs,hl,hk,q=>by
  have lt:=dK hs
  unfold jJ
  refine aa S.sc rfl rfl ?_
  show(match decide ((p:Int)<(txt.length:Int)) with|true=>_|false=>_)
  rw[decide_eq_true (by lia)]
  unfold jX at hl
  induction h1:mL c r with
  | none=>rw[h1] at hl;cases hl
  | some x=>
   obtain⟨t,r'⟩:=x
   rw[h1] at hl
   replace hl:(jX k r').map (λl=>t.toList++l)=some l:=hl
   induction h2:jX k r' with
   | none=>rw[h2] at hl;cases hl
   | some l'=>
    rw[h2] at hl
    cases hl
    refine Hu S hs h1 λH' p' refs' k' e' S'=>?_
    refine nV k r' l' refs' (toks++t.toList) p' H' _ S' e' h2 (hk.trans k') λH'' refs'' x2 k'' S''=>q H'' refs'' x2 k'' (by rw[List.append_assoc] at S'';exact S'')
end
section
variable {X:Prop} {sc fl:Nat} {txt:List Nat} {H:AH} {Q:au} {n p:Nat} {refs:List Nat} {toks:List Tok}
theorem ai.ext{H':AH}(k:ai [] H H'):aR H H':=λa o h=>k a o (λz=>nomatch z) h
theorem A7{k:Nat}{l:List Tok}(ha:bf txt)(hs:txt.length<=100000)(hl:jX k txt=some l)
 (q:∀ (H':AH) (fl:Nat) (refs:List Nat),aR H H'->H' fl=some (.list (refs.map .ref))->refs.length=(l++[bE]).length->(∀ (j:Nat) (w:Tok),(l++[bE])[j]?=some w->∃ r,refs[j]?=some r/\bk H' r w)->(l++[bE]).length<=100001->Q (.ref fl) H') :
 CP X (n+5) 968 [.str txt] H Q:=by
 refine ae rfl rfl rfl (by simp) ?_
 refine⟨870,rfl,aw λsc hsc=>ae rfl rfl rfl (by simp) ?_⟩
 refine aM af rfl (Nat.le_of_ble_eq_true rfl) (λz=>nomatch z) ?_
 refine ac bv ?_
 refine aM af rfl (Nat.le_of_ble_eq_true rfl) (λz=>nomatch z) ?_
 refine ac bv ?_
 refine aw λfl hfl=>?_
 have n1:sc≠fl:=λz=>by rw[← z,af] at hfl;exact uU hfl
 have hfl0:H fl=none:=by rw[aO n1.symm] at hfl;exact hfl
 refine aM ((aO n1).trans af) rfl (Nat.le_of_ble_eq_true rfl) (λz=>nomatch z) ?_
 refine aM af rfl (Nat.le_of_ble_eq_true rfl) (λz=>nomatch z) ?_
 refine⟨rfl,?_⟩
 generalize hH1:AH.put _ sc _=H1
 have S:SS sc fl txt H1 0 [] []:=by
  subst hH1
  exact⟨af,by refine ac (aO n1.symm) (ac (aO n1.symm) (ac af ?_));rfl,rfl,Nat.zero_le _,hs,ha,Nat.le_refl _,λj w hj=>by exfalso;cases hj⟩
 have kk:ai [sc,fl] H H1:=by
  subst hH1
  exact((((ai.new hsc).trans (ai.new hfl)).trans (ai.put (.head _))).trans (ai.put (.head _)))
 clear hH1
 refine aC S.sc rfl rfl ?_
 refine ae rfl rfl rfl (by simp) ?_
 refine aa S.sc rfl rfl ?_
 refine jH S.line ?_
 refine⟨_,nV (H0:=H) k txt l [] [] 0 H1 none S rfl hl kk λH2 refs x2 k2 S2=>?_⟩
 refine aC S2.sc rfl rfl ?_
 refine aa S2.sc rfl rfl ?_
 refine o9 (b:=1) (Nat.le_refl 1) S2 (.inl rfl) (Nat.le_refl _) (by have:=S2.cnt;lia) λH3 r k3 S3=>?_
 refine aa S3.sc rfl rfl ?_
 refine q H3 fl (refs++[r]) (ai.ext (ai.own hfl0 (ai.own hsc (k2.trans k3)))) S3.fl S3.len S3.words ?_
 have:=S2.cnt;have:=S2.small
 simp at *;lia
theorem uc{e:dM}{ts:List Tok}{d n:Nat}{w:Tok}(P:PT e H (w::ts) d)(q:Q (.bool (decide (w.k=eH))) H):CL (n+1) 1281 [.ref e.st] H Q:=by
 refine cG P λi P hd=>?_
 refine cG (P.at_ (dj hd).1) λr hr hwr=>?_
 refine(id hwr).elim λp hrr=>?_
 refine ae rfl rfl rfl (by simp) ?_
 refine aa P.st rfl rfl ?_
 refine aa P.st rfl rfl ?_
 refine dQ P.wl P.ok hr ?_
 refine aa hrr rfl rfl ?_
 exact q
noncomputable def fP(l:List Tok):Option (Option DT):=match(aj 46).sel 0 (l++[bE]) with
 | .ok d (w::_)=>bif decide (w.k=eH) then some (some d) else some none
 | .ok _ []=>none
 | .err=>some none
 | .unk=>none
noncomputable def Il(l:List Tok):Bool:=l.all λw=>rT w.v
noncomputable def fp(s:List Nat):Option (Option DT):=match jX s.length s with
 | some l=>bif Il l then fP l else none
 | none=>none
theorem tZ{v:AV}(h:rT v=true):v=.none\/(∃ i,v=.int i)\/∃ s,v=.str s:=by
 induction v<;>first|exact .inl rfl|exact .inr (.inl ⟨_,rfl⟩)|exact .inr (.inr ⟨_,rfl⟩)|exfalso;cases h
theorem K3{l:List Tok}{o:Option DT}{s:List Nat}{Q:AV->AH->Prop}(hl:jX s.length s=some l)(hok:Il l=true)(hp:fP l=some o)(ha:bf s)(hs:s.length<=100000)(hd:∀ d,o=some d->d.dep<=64)
 (hX:o=none->X) (q:∀ H' v,(match o with|none=>v=.none|some d=>bS H' v d)->Q v H') :
 wSs (az False) (CP X 199) tryIS.1 [some (.str s),none,none,none] (λ_=>none) (λm H=>wS (az True) (CL 199) tryIS.2 m H (λ_ _=>False) Q) (λ_ _=>False):=by
 refine⟨1246,rfl,aw λst hst=>ae rfl rfl rfl (by simp) ?_⟩
 refine aM af rfl (Nat.le_of_ble_eq_true rfl) (λz=>nomatch z) ?_
 refine bv.symm ▸ ?_
 refine A7 ha hs hl λH1 fl refs e1 hfl hlen hwords hsmall=>?_
 have h1:=e1 _ _ af
 refine aM h1 rfl (Nat.le_of_ble_eq_true rfl) (λz=>nomatch z) ?_
 refine aM af rfl (Nat.le_of_ble_eq_true rfl) (λz=>nomatch z) ?_
 refine ac bv ?_
 refine aM af rfl (Nat.le_of_ble_eq_true rfl) (λz=>nomatch z) ?_
 refine ac bv ?_
 refine⟨rfl,?_⟩
 generalize hH2:AH.put H1 st _=H2
 have hst2:H2 st=some (.inst 1361 [(57,.str s),(113,.ref fl),(112,.int 0),(11,.int 0)]):=by subst hH2;exact af
 have k2:ai [st] H1 H2:=by subst hH2;exact ai.put1
 clear hH2
 refine⟨1113,rfl,aw λrd hrd=>ae rfl rfl rfl (by simp) ?_⟩
 refine aM af rfl (Nat.le_of_ble_eq_true rfl) (λz=>nomatch z) ?_
 refine bv.symm ▸ ?_
 refine⟨986,rfl,aw λer her=>ae rfl rfl rfl (by simp) ?_⟩
 refine aM af rfl (Nat.le_of_ble_eq_true rfl) (λz=>nomatch z) ?_
 refine ac bv ?_
 refine aM af rfl (Nat.le_of_ble_eq_true rfl) (λz=>nomatch z) ?_
 refine ac bv ?_
 refine⟨rfl,?_⟩
 have n1:rd≠er:=λz=>by rw[← z,af] at her;exfalso;cases her
 refine aM ((aO n1).trans af) rfl (Nat.le_of_ble_eq_true rfl) (λz=>nomatch z) ?_
 refine⟨rfl,?_⟩
 generalize hH3:AH.put _ rd _=H3
 have her0:H2 er=none:=by rw[aO n1.symm] at her;exact her
 have hrd3:H3 rd=some (.inst 1228 [(87,.ref st),(77,.ref er)]):=by subst hH3;exact af
 have her3:H3 er=some (.inst 1095 [(87,.ref st),(86,.ref rd)]):=by subst hH3;refine ac (aO n1.symm) (ac af ?_);rfl
 have k3:aR H2 H3:=by
  subst hH3
  exact ai.ext (ai.own hrd (((ai.new hrd).trans (ai.new her)).trans (ai.put (.head _))))
 clear hH3
 have nw:∀ {r:Nat} {w:Tok},bk H1 r w->bk H3 r w:=λ{r w} hw=>by
  have:r≠st:=λz=>by obtain⟨p,h⟩:=hw;rw[z,h1] at h;exfalso;cases h
  exact(hw.keep this k2).ext k3
 have nfl:fl≠st:=λz=>by rw[z,h1] at hfl;cases hfl
 let e:dM:=⟨st,fl,rd,er,l++[bE],refs,s,[st]⟩
 have P0:PS e H3 0 0:={
  st:=k3 _ _ hst2
  wl:=k3 _ _ (k2 _ _ (lT nfl) hfl)
  rd:=hrd3
  er:=her3
  len:=hlen
  lt:=by show 0<(l++[bE]).length;simp
  small:=by show(l++[bE]).length<=1000000;exact iX hsmall rfl
  words:=λj w hj=>let ⟨r,a,b⟩:=hwords j w hj;⟨r,a,nw b⟩
  ends:=λj w hj hk=>by
   show j+1<(l++[bE]).length
   rcases Nat.lt_or_ge j l.length with z|z
   ·simp;exact z
   ·have hj:(l++[bE])[j]?=some w:=hj
    rw[List.getElem?_append_right z] at hj
    cases hi:j-l.length with
    | zero=>rw[hi] at hj;exfalso;cases hj;exact absurd rfl hk
    | succ i=>rw[hi] at hj;exfalso;cases hj
  vals:=λj w hj=>by
   have hj:(l++[bE])[j]?=some w:=hj
   rcases List.mem_append.mp (List.mem_of_getElem? hj) with z|z
   ·exact tZ (List.all_eq_true.mp hok w z)
   ·exact(List.mem_singleton.mp z)▸(.inl rfl)
  mem:=.head _
  mok:=λa ha=>by
   refine(List.mem_singleton.mp ha).symm ▸ ?_
   exact⟨_,k3 _ _ hst2,trivial⟩ }
 have P:PT e H3 (l++[bE]) 0:=⟨0,P0,rfl⟩
 refine P.rmeth rfl rfl ?_
 refine(sp 46 (by decide)).sel e X 0 H3 (l++[bE]) _ 199 (by decide) P ?_
 unfold fP at hp
 cases hsel:(aj 46).sel 0 (l++[bE]) with
 | unk=>rw[hsel] at hp;exfalso;cases hp
 | err=>rw[hsel] at hp;exact hX (by obtain rfl:=Option.some.inj hp;rfl)
 | ok d ts=>
  rw[hsel] at hp
  intro H4 v k4 P4 hv
  refine pG P4.cons λw r eq1_=>?_
  subst eq1_
  refine P4.meth (λ_ _=>rfl) rfl ?_
  refine uc P4 ?_
  replace hp:(bif decide (w.k=eH) then some (some d) else some none)=some o:=hp
  induction hw:decide (w.k=eH) with
  | true=>
   rw[hw] at hp
   obtain rfl:=Option.some.inj hp
   refine bB.call hv (by have:=hd d rfl;lia) λH5 v5 e5 d5=>?_
   exact q H5 v5 d5
  | false=>
   rw[hw] at hp
   obtain rfl:=Option.some.inj hp
   exact q H4 .none rfl
theorem p9{o:Option DT}{s:List Nat}(hr:fp s=some o)(ha:bf s)(hs:s.length<=100000)(hd:∀ d,o=some d->d.dep<=64)(q:∀ H' v,aR H H'->(match o with|none=>v=.none|some d=>bS H' v d)->Q v H'):CL 200 1469 [.str s] H Q:=by
 unfold fp at hr
 cases hl:jX s.length s with
 | none=>rw[hl] at hr;exact fI hr
 | some l=>
  rw[hl] at hr
  replace hr:(bif Il l then fP l else none)=some o:=hr
  cases hok:Il l with
  | false=>rw[hok] at hr;exfalso;cases hr
  | true=>
   rw[hok] at hr
   refine Eq.mpr (fX (az True) bY Od 199 1469 [.str s] H Q) ?_
   refine⟨rfl,rfl,o=none,λz=>q H .none (.refl _) (by subst z;rfl),?_⟩
   refine K3 (Q:=λv H''=>(∀ a,H a≠none->H'' a=none)->Q v (H''.over H)) hl hok hr ha hs hd (λz=>z) λH' v hv dis=>?_
   refine q _ v (λa o' h=>?_) ?_
   ·unfold AH.over;refine ac (dis a (by refine h.symm ▸ ?_;exact λz=>nomatch z)) ?_;exact h
   ·induction o with
    | none=>exact hv
    | some d=>exact bS.ext (λa o' h=>by unfold AH.over;exact ac (h ..) rfl) hv
end
inductive Pc where
 | sp|sg (c:Nat)|wd (w:List Nat)|nu (n:Nat)|qu (t:List Nat) (k v:List Nat)
noncomputable def Pc.t:Pc->List Nat
 | .sp=>[32]
 | .sg c=>[c]
 | .wd w=>w
 | .nu n=>aD 4 n
 | .qu t _ _=>t
noncomputable def txt(ps:List Pc):List Nat:=ps.flatMap Pc.t
theorem aV(a b:List Pc):txt (a++b)=txt a++txt b:=List.flatMap_append
noncomputable def dH(f:Bool)(k:List Nat):List Nat:=bif f then k.map gx else k
noncomputable def kw(f:Bool)(k:List Nat):List Pc:=[.wd (dH f k)]
noncomputable def f8(f:Bool)(k l:List Nat):List Pc:=[.wd (dH f k),.sp,.wd (dH f l)]
section
variable {x y:List Nat} {p q:List Pc} {f g:List Nat->List Nat}
theorem bL(r:List Nat):x++r=List.append x r:=rfl
theorem bA(h1:∀ r,x++r=f r)(h2:∀ r,y++r=g r)(r:List Nat):(x++y)++r=(f∘g) r:=by refine ac (List.append_assoc ..) (ac (h2 ..) (ac (h1 ..) ?_));rfl
theorem tL(r:List Nat):txt p++r=List.append (txt p) r:=rfl
theorem tK{f:Bool}{w:List Nat}(r:List Nat):txt (kw f w)++r=List.append (dH f w) r:=by unfold kw txt;refine ac (List.flatMap_singleton ..) ?_;rfl
theorem tA(h1:∀ r,txt p++r=f r)(h2:∀ r,txt q++r=g r)(r:List Nat):txt (p++q)++r=(f∘g) r:=by refine ac (aV ..) (ac (List.append_assoc ..) (ac (h2 ..) (ac (h1 ..) ?_)));rfl
theorem eW(h1:∀ r,x++r=f r)(h2:∀ r,txt p++r=g r)(h:f []=g []):x=txt p:=by
 exact ac (List.append_nil x).symm (ac (List.append_nil (txt p)).symm (ac (h1 ..) (ac (h2 ..) (ac (h ..) rfl))))
end
inductive c9 where|a|tab|frm|br|q|dq
noncomputable def c9.t:c9->List Nat
 | .a=>[97]|.tab=>[84,97,98]|.frm=>[34,102,114,111,109,34]|.br=>[91,120,32,121,93]|.q=>[96,113,96]|.dq=>[34,100,34,34,113,34]
noncomputable def c9.v:c9->List Nat
 | .a=>[97]|.tab=>[84,97,98]|.frm=>[102,114,111,109]|.br=>[120,32,121]|.q=>[113]|.dq=>[100,34,113]
noncomputable def c9.p:c9->Pc
 | .a=>.wd [97]|.tab=>.wd [84,97,98]
 | .frm=>.qu [34,102,114,111,109,34] ar [102,114,111,109]|.br=>.qu [91,120,32,121,93] ar [120,32,121]|.q=>.qu [96,113,96] ar [113]|.dq=>.qu [34,100,34,34,113,34] ar [100,34,113]
theorem c9.p_t(c:c9):c.p.t=c.t:=by induction c<;>rfl
inductive aU where|num (n:Nat)|its|null|nn (a b:c9)|plus (c:c9)|cnt|sum (c:c9)|nm (c:c9)
noncomputable def KF:List Nat:=[68,73,83,84,73,78,67,84]
noncomputable def IN:List Nat:=[39,105,116,39,39,115,39]
noncomputable def yo:List Nat:=[105,116,39,115]
noncomputable def aU.ps(f:Bool):aU->List Pc
 | .num n=>[.nu n]
 | .its=>[.qu IN da yo]
 | .null=>kw f gB
 | .nn a b=>[a.p,.sg 46,b.p]
 | .plus c=>[c.p,.sp,.sg 43,.sp,.nu 1]
 | .cnt=>[.wd [99,111,117,110,116],.sg 40,.sg 42,.sg 41]
 | .sum c=>[.wd [115,117,109],.sg 40]++kw f be++[.sp,c.p,.sg 41]
 | .nm c=>[c.p]
noncomputable def nmD(c:c9):DT:=aP rF [.none,.str c.v]
noncomputable def aU.row:aU->DT
 | .num n=>eP (.int n)
 | .its=>eP (.str yo)
 | .null=>eP .none
 | .nn a b=>aP rF [.str a.v,.str b.v]
 | .plus c=>aP gQ [.str [43],nmD c,eP (.int 1)]
 | .cnt=>aP gZ [.str [99,111,117,110,116],.tup [],.bool false,.bool true]
 | .sum c=>aP gZ [.str [115,117,109],.tup [nmD c],.bool true,.bool false]
 | .nm c=>nmD c
noncomputable def aU.ok:aU->Prop
 | .num n=>n<90
 | _=>True
structure Lv where
 S:Type
 ps:S->List Pc
 row:S->DT
 ok:S->Prop
 big:Nat
 len:∀ x,ok x->(txt (ps x)).length<=big
noncomputable def gY:Lv:=⟨Empty,(λx=>nomatch x),(λx=>nomatch x),(λx=>nomatch x),0,(λx=>nomatch x)⟩
section
variable (f:Bool) (L:Lv)
inductive gU where|b (e:aU)|s (x:L.S)
noncomputable def gU.ps:gU L->List Pc
 | .b e=>e.ps f
 | .s x=>[.sg 40]++L.ps x++[.sg 41]
noncomputable def gU.row:gU L->DT
 | .b e=>e.row
 | .s x=>aP mB [L.row x]
noncomputable def gU.ok:gU L->Prop
 | .b e=>e.ok
 | .s x=>L.ok x
end
noncomputable def comma(l:List (List Pc)):List Pc:=match l with
 | []=>[]
 | x::r=>x++r.flatMap λy=>[.sg 44,.sp]++y
inductive Al where|no|bare (c:c9)|own|as (c:c9)
noncomputable def nU:List Nat:=[39,111,119,110,39]
noncomputable def tB:List Nat:=[111,119,110]
noncomputable def Al.ps(f:Bool):Al->List Pc
 | .no=>[]
 | .bare c=>[.sp,c.p]
 | .own=>[.sp]++kw f rZ++[.sp,.qu nU da tB]
 | .as c=>[.sp]++kw f rZ++[.sp,c.p]
noncomputable def Al.row:Al->DT
 | .no=>.none
 | .bare c=>.str c.v
 | .own=>.str tB
 | .as c=>.str c.v
noncomputable def Al.isOwn:Al->Bool
 | .own=>true
 | _=>false
section
variable (f:Bool) (L:Lv)
inductive dC where|star|tst (c:c9)|ex (e:gU L) (a:Al)
noncomputable def dC.ps:dC L->List Pc
 | .star=>[.sg 42]
 | .tst c=>[c.p,.sg 46,.sg 42]
 | .ex e a=>e.ps f++a.ps f
noncomputable def dC.row:dC L->DT
 | .star=>aP cR [.none,.none,.none]
 | .tst c=>aP cR [.none,.none,.str c.v]
 | .ex e a=>aP cR [e.row,a.row,.none]
noncomputable def dC.ok:dC L->Prop
 | .ex e _=>e.ok
 | _=>True
inductive eU where|no|ind (c:c9)|scan
noncomputable def eU.ps:eU->List Pc
 | .no=>[]
 | .ind c=>[.sp]++f8 f ba eV++[.sp,c.p]
 | .scan=>[.sp]++f8 f gE ba
noncomputable def eU.row:eU->DT
 | .no=>.none
 | .ind c=>.tup [.str vz,.str c.v]
 | .scan=>.tup [.str nT]
inductive gj where|tab (c:c9) (a:Al) (h:eU)|sub (x:L.S) (a:Al)
noncomputable def gj.ps:gj L->List Pc
 | .tab c a h=>[c.p]++a.ps f++h.ps f
 | .sub x a=>[.sg 40]++L.ps x++[.sg 41]++a.ps f
noncomputable def gj.row:gj L->DT
 | .tab c a h=>aP pW [.str c.v,a.row,h.row]
 | .sub x a=>aP vA [L.row x,a.row]
noncomputable def gj.ok:gj L->Prop
 | .tab _ a _=>a.isOwn=false
 | .sub x a=>L.ok x/\a.isOwn=false
inductive JK where|comma|join|inner|cross|left|louter
noncomputable def JK.ps:JK->List Pc
 | .comma=>[.sg 44]
 | .join=>kw f cI
 | .inner=>f8 f jw cI
 | .cross=>f8 f jx cI
 | .left=>f8 f i7 cI
 | .louter=>kw f i7++[.sp]++f8 f jv cI
noncomputable def JK.v:JK->List Nat
 | .comma|.join|.inner=>jq
 | .cross=>vB
 | .left|.louter=>DI
inductive On where|on (e:aU)|us (c:c9) (cs:List c9)|no
noncomputable def On.ps:On->List Pc
 | .on e=>[.sp]++kw f A3++[.sp]++e.ps f
 | .us c cs=>[.sp]++kw f dI++[.sp,.sg 40]++comma ((c::cs).map λc=>[c.p])++[.sg 41]
 | .no=>[]
noncomputable def On.on_:On->DT
 | .on e=>e.row
 | _=>.none
noncomputable def On.us_:On->List (List Nat)
 | .us c cs=>(c::cs).map c9.v
 | _=>[]
noncomputable def On.ok:On->Prop
 | .on e=>e.ok
 | .us _ cs=>cs.length<=1
 | .no=>True
structure b9 where
 a:gj L
 j:Option (JK×gj L×On)
noncomputable def b9.ps(x:b9 L):List Pc:=x.a.ps f++match x.j with
 | none=>[]
 | some (k,s,o)=>[.sp]++k.ps f++[.sp]++s.ps f++o.ps f
noncomputable def b9.row(x:b9 L):DT:=match x.j with
 | none=>x.a.row
 | some (k,s,o)=>aP jN [.tup [.str k.v,x.a.row,s.row],o.on_,.tup (o.us_.map DT.str)]
noncomputable def b9.ok(x:b9 L):Prop:=x.a.ok/\match x.j with
 | none=>True
 | some (_,s,o)=>s.ok/\o.ok
inductive Wd where|no|dist|all
noncomputable def Wd.ps:Wd->List Pc
 | .no=>[]
 | .dist=>kw f be++[.sp]
 | .all=>kw f fT++[.sp]
noncomputable def Wd.is:Wd->Bool
 | .dist=>true
 | _=>false
structure fH where
 c:dC L
 cs:List (dC L)
 w:Wd
 src:Option (b9 L)
 whr:Option aU
 grp:Option (aU×List aU×Option aU)
noncomputable def cH:Option aU->List Pc
 | none=>[]
 | some e=>[.sp]++kw f cO++[.sp]++e.ps f
noncomputable def g8:Option aU->List Pc
 | none=>[]
 | some e=>[.sp]++kw f cJ++[.sp]++e.ps f
noncomputable def dc:Option (aU×List aU×Option aU)->List Pc
 | none=>[]
 | some (e,es,h)=>[.sp]++f8 f b0 eV++[.sp]++comma ((e::es).map (aU.ps f))++g8 f h
noncomputable def cK:Option (b9 L)->List Pc
 | none=>[]
 | some s=>[.sp]++kw f dn++[.sp]++s.ps f
noncomputable def fH.ps(x:fH L):List Pc:=kw f aW++[.sp]++x.w.ps f++comma ((x.c::x.cs).map (dC.ps f L))++cK f L x.src++cH f x.whr++dc f x.grp
noncomputable def dN{α:Type}(r:α->DT):Option α->DT
 | none=>.none
 | some x=>r x
noncomputable def mZ:Option (aU×List aU×Option aU)->List DT
 | none=>[]
 | some (e,es,_)=>(e::es).map aU.row
noncomputable def mY:Option (aU×List aU×Option aU)->DT
 | some (_,_,some h)=>h.row
 | _=>.none
noncomputable def fH.row(x:fH L):DT:=aP ez [.tup [.tup ((x.c::x.cs).map (dC.row L)),.bool x.w.is,dN (b9.row L) x.src],dN aU.row x.whr,.tup (mZ x.grp),mY x.grp]
noncomputable def fH.ok(x:fH L):Prop:=x.cs.length<=1/\(∀ c∈x.c::x.cs,c.ok)/\(∀ s,x.src=some s->s.ok)/\(∀ e,x.whr=some e->e.ok)/\∀ e es h,x.grp=some (e,es,h)->es.length<=1/\(∀ y∈e::es,y.ok)/\∀ y,h=some y->y.ok
structure gX where
 r:aU×List aU
 rs:List (aU×List aU)
noncomputable def ed(x:aU×List aU):List Pc:=[.sg 40]++comma ((x.1::x.2).map (aU.ps f))++[.sg 41]
noncomputable def cL(x:aU×List aU):List DT:=(x.1::x.2).map aU.row
noncomputable def gX.ps(x:gX):List Pc:=kw f bM++[.sp]++comma ((x.r::x.rs).map (ed f))
noncomputable def gX.row(x:gX):DT:=aP gO [.tup ((x.r::x.rs).map λy=>.tup (cL y))]
noncomputable def gX.ok(x:gX):Prop:=x.rs.length<=1/\x.r.2.length<=1/\(∀ y∈x.rs,y.2.length=x.r.2.length)/\∀ y∈x.r::x.rs,∀ e∈y.1::y.2,e.ok
inductive ci where|v (x:gX)|c (x:fH L)
noncomputable def ci.ps:ci L->List Pc
 | .v x=>x.ps f
 | .c x=>x.ps f
noncomputable def ci.row:ci L->DT
 | .v x=>x.row
 | .c x=>x.row
noncomputable def ci.ok:ci L->Prop
 | .v x=>x.ok
 | .c x=>x.ok
noncomputable def ci.isV:ci L->Bool
 | .v _=>true
 | .c _=>false
inductive Op where|u|ua|i|e
noncomputable def Op.ps:Op->List Pc
 | .u=>kw f eQ
 | .ua=>f8 f eQ fT
 | .i=>kw f cP
 | .e=>kw f e9
noncomputable def Op.v:Op->List Nat
 | .u=>vx
 | .ua=>lK
 | .i=>kz
 | .e=>rG
inductive eC where|no|asc|desc
noncomputable def eC.ps:eC->List Pc
 | .no=>[]
 | .asc=>[.sp]++kw f t8
 | .desc=>[.sp]++kw f lZ
noncomputable def eC.is:eC->Bool
 | .desc=>true
 | _=>false
inductive ke where|no|l (a:aU)|lo (a b:aU)|lc (a b:aU)
noncomputable def ke.ps:ke->List Pc
 | .no=>[]
 | .l a=>[.sp]++kw f bh++[.sp]++a.ps f
 | .lo a b=>[.sp]++kw f bh++[.sp]++a.ps f++[.sp]++kw f dT++[.sp]++b.ps f
 | .lc a b=>[.sp]++kw f bh++[.sp]++b.ps f++[.sg 44,.sp]++a.ps f
noncomputable def ke.r1:ke->DT
 | .no=>.none
 | .l a|.lo a _|.lc a _=>a.row
noncomputable def ke.r2:ke->DT
 | .lo _ b|.lc _ b=>b.row
 | _=>.none
noncomputable def ke.ok:ke->Prop
 | .no=>True
 | .l a=>a.ok
 | .lo a b|.lc a b=>a.ok/\b.ok
structure cA where
 b:ci L
 more:List (Op×ci gY)
noncomputable def eO(x:Op×ci gY):List Pc:=[.sp]++x.1.ps f++[.sp]++x.2.ps f
noncomputable def cA.ps(x:cA L):List Pc:=x.b.ps f++x.more.flatMap (eO f)
noncomputable def kH(d:DT)(x:Op×ci gY):DT:=aP gP [.str x.1.v,d,x.2.row]
noncomputable def cA.row(x:cA L):DT:=x.more.foldl kH x.b.row
noncomputable def cA.lastV(x:cA L):Bool:=match x.more.getLast? with
 | none=>x.b.isV
 | some y=>y.2.isV
noncomputable def cU(x:aU×eC):List Pc:=x.1.ps f++x.2.ps f
noncomputable def fk(x:aU×eC):DT:=aP vy [x.1.row,.bool x.2.is]
noncomputable def bc:List (aU×eC)->List Pc
 | []=>[]
 | x::r=>[.sp]++f8 f bZ eV++[.sp]++cU f x++r.flatMap λy=>[.sg 44,.sp]++cU f y
structure fj where
 b:cA L
 ts:List (aU×eC)
 l:ke
noncomputable def fj.ps(x:fj L):List Pc:=x.b.ps f++(bc f x.ts++x.l.ps f)
noncomputable def fj.row(x:fj L):DT:=aP dF [.tup [x.b.row,.tup (x.ts.map fk)],x.l.r1,x.l.r2]
noncomputable def cA.ok(x:cA L):Prop:=x.b.ok/\x.more.length<=2/\∀ y∈x.more,y.2.ok
noncomputable def fj.ok(x:fj L):Prop:=x.b.ok/\x.ts.length<=2/\(∀ y∈x.ts,y.1.ok)/\x.l.ok/\(x.b.lastV=true->x.ts=[]/\x.l=.no)
end
noncomputable def fD(H:AH)(src:Nat)(rest:List AV):Prop:=∃ x y:Int,0<=x/\0<=y/\y<2147483647/\rest.length<=1/\H src=some (.list (.int x::.int y::rest))
theorem fc{T:aT}{H:AH}{a:Nat}{vs:List AV}{x:AV}(k:Nat){Q:AV->Prop}(h:H a=some (.list vs))(hk:k<1000)(hx:vs[k]?=some x)(q:Q x):j0 T H (.ref a) (.int (k:Int)) Q:=
 dQ h ⟨Int.natCast_nonneg _,by lia⟩ hx q
theorem sP{H:AH}{a:Nat}{vs:List AV}{x:AV}(k:Nat){Q:AH->Prop}(h:H a=some (.list vs))(hk:k<1000)(hx:k<vs.length)(hn:x≠.oth)(q:Q (H.put a (.list (vs.set k x)))):sQ H (.ref a) (.int (k:Int)) x Q:=by
 exact⟨a,k,vs,rfl,rfl,⟨Int.natCast_nonneg _,by lia⟩,hx,hn,h,q⟩
section
variable {H:AH} {Q:au} {n src:Nat} {rest:List AV}
theorem bW.one{o:AO}(h:H src=some o)(ho:o.noTup):bW [src] H:=λa ha=>by refine ac (List.mem_singleton.mp ha) ?_;exact⟨o,h,ho⟩
theorem fD.mok(s:fD H src rest):bW [src] H:=let ⟨x,y,_,_,_,_,h⟩:=s;bW.one h trivial
theorem fD.put(s:fD H src rest):fD H src rest:=s
theorem fD.new(s:fD H src rest){a:Nat}{o:AO}(h:H a=none):fD (H.put a o) src rest:=let ⟨x,y,a1,a2,a3,a4,a5⟩:=s;⟨x,y,a1,a2,a3,a4,aR.new h _ _ a5⟩
theorem bG{top:Nat}(s:fD H src rest)(h0:0<top)(h1:top<1000)(q:∀ (i:Nat) H',i<top->ai [src] H H'->fD H' src rest->Q (.int (i:Int)) H'):CL (n+1) 1379 [.ref src,.int (top:Int)] H Q:=by
 refine a7 λGg fin_=>?_
 obtain⟨x,y,hx,hy,hy2,hr,h⟩:=s
 refine fin_ ?_
 refine ae rfl rfl rfl (by simp) ?_
 refine fc 0 h (by decide) rfl ?_
 show(match decide (x>0) with|true=>_|false=>_)
 induction hd:decide (x>0) with
 | true=>
  refine fc 0 h (by decide) rfl ?_
  have e0:(0:Int)<(top:Int):=by lia
  refine⟨e0,?_⟩
  refine fc 0 h (by decide) rfl ?_
  refine⟨⟨e0,by lia⟩,?_⟩
  refine sP 0 h (by decide) (by simp) (λz=>nomatch z) ?_
  have hm:0<=x % (top:Int):=Int.emod_nonneg _ (by lia)
  have hl:x % (top:Int)<(top:Int):=Int.emod_lt_of_pos _ e0
  have q:=q (x % (top:Int)).toNat (H.put src (.list (.int (x / top)::.int y::rest))) (by lia) (ai.put (.head _)) ⟨x / top,y,Int.ediv_nonneg hx (Int.natCast_nonneg _),hy,hy2,hr,af⟩
  rw[show(((x % (top:Int)).toNat:Nat):Int)=x % (top:Int) from by lia] at q
  exact q
 | false=>
  refine fc 1 h (by decide) rfl ?_
  refine⟨⟨by lia,by decide⟩,?_⟩
  refine⟨by decide,?_⟩
  refine sP 1 h (by decide) (by simp) (λz=>nomatch z) ?_
  have hm:0<=(y*39373+7) % 2147483647:=Int.emod_nonneg _ (by decide)
  have hl:(y*39373+7) % 2147483647<2147483647:=Int.emod_lt_of_pos _ (by decide)
  have h2:(H.put src (.list (.int x::.int ((y*39373+7) % 2147483647)::rest))) src=some (.list (.int x::.int ((y*39373+7) % 2147483647)::rest)):=af
  refine fc 1 h2 (by decide) rfl ?_
  refine fc 1 h2 (by decide) rfl ?_
  generalize(y*39373+7) % 2147483647=z at hm hl h2
  refine⟨⟨by lia,by lia⟩,?_⟩
  refine⟨by decide,?_⟩
  refine⟨by decide,?_⟩
  have e0:(0:Int)<(top:Int):=by lia
  refine⟨e0,?_⟩
  generalize z*z % 2147483629 / 32=w
  have hm2:0<=w % (top:Int):=Int.emod_nonneg _ (by lia)
  have hl2:w % (top:Int)<(top:Int):=Int.emod_lt_of_pos _ e0
  have q:=q (w % (top:Int)).toNat (H.put src (.list (.int x::.int z::rest))) (by lia) (ai.put (.head _)) ⟨x,z,hx,hm,hl,hr,af⟩
  rw[show(((w % (top:Int)).toNat:Nat):Int)=w % (top:Int) from by lia] at q
  exact q
theorem lS{l:Nat}{vs:List AV}(s:fD H src rest)(hl:H l=some (.list vs))(hne:l≠src)(h0:0<vs.length)(h1:vs.length<1000)(q:∀ (x:AV) H',x∈vs->ai [src] H H'->fD H' src rest->Q x H'):CL (n+2) 1386 [.ref src,.ref l] H Q:=by
 refine ae rfl rfl rfl (by simp) ?_
 refine rj hl (by unfold ah;lia) ?_
 refine bG s h0 h1 λi H' hi k s'=>?_
 have hl':=k _ _ (lT hne) hl
 refine fc i hl' (by lia) (List.getElem?_eq_getElem hi) ?_
 exact q _ H' (List.getElem_mem hi) k s'
end
noncomputable abbrev aQ(H:AH)(src:Nat)(f:Bool):Prop:=fD H src [.bool f]
section
variable {H:AH} {Q:au} {n src:Nat} {f:Bool}
theorem cX{k:List Nat}(s:aQ H src f)(ha:bf k)(hl:k.length<=1000)(q:Q (.str (dH f k)) H):CL (n+1) 1393 [.ref src,.str k] H Q:=by
 refine a7 λGg fin_=>?_
 obtain⟨x,y,hx,hy,hy2,hr,h⟩:=s
 refine fin_ ?_
 refine ae rfl rfl rfl (by simp) ?_
 refine fc 2 h (by decide) rfl ?_
 induction f with
 | true=>
  refine cu (by decide) (by decide) ?_
  exact⟨⟨ha,by unfold ah;exact iX hl rfl⟩,q⟩
 | false=>exact q
noncomputable def Pr(H:AH)(v:AV)(t:List Nat)(d:DT):Prop:=∃ a r,v=.ref a/\H a=some (.tup [.str t,r])/\bS H r d
theorem bW.tup{M:List Nat}(m:bW M H){a:Nat}{vs:List AV}(h:H a=some (.tup vs)):a ∉ M:=λz=>by
 refine cG (m a z) λo e n=>?_
 rw[h] at e;obtain rfl:=Option.some.inj e;exact n
theorem Pr.keep{M:List Nat}{H':AH}{v:AV}{t:List Nat}{d:DT}(h:Pr H v t d)(m:bW M H)(k:ai M H H'):Pr H' v t d:=
 let ⟨a,r,e,g,x⟩:=h;⟨a,r,e,k _ _ (m.tup g) g,x.keep m k⟩
theorem Pr.ext{H':AH}{v:AV}{t:List Nat}{d:DT}(h:Pr H v t d)(k:aR H H'):Pr H' v t d:=let ⟨a,r,e,g,x⟩:=h;⟨a,r,e,k _ _ g,x.ext k⟩
theorem Pr.ne{v:AV}{t:List Nat}{d:DT}(h:Pr H v t d):v≠.oth:=by obtain⟨a,r,rfl,_⟩:=h;exact λz=>nomatch z
theorem Pr.unp{v:AV}{t:List Nat}{d:DT}(h:Pr H v t d){Q:List AV->Prop}(q:∀ r,bS H r d->Q [.str t,r]):jg H v 2 Q:=by
 obtain⟨a,r,rfl,g,x⟩:=h
 exact ev g rfl (q r x)
theorem fD.keep1{rest:List AV}{H':AH}{a:Nat}(s:fD H src rest)(k:ai [a] H H')(h:src≠a):fD H' src rest:=let ⟨x,y,a1,a2,a3,a4,a5⟩:=s;⟨x,y,a1,a2,a3,a4,k _ _ (lT h) a5⟩
theorem iE{vs:List AV}{Q:Nat->AH->Prop}(q:∀ a,H a=none->Q a (H.put a (.tup vs))):dm H (.tup vs) Q:=aw q
noncomputable def lz{α:Type}(f:Bool)(fn:Nat)(args:List AV)(tx:α->List Pc)(rw_:α->DT)(ok:α->Prop)(N:Nat):Prop:=
 ∀ (H:AH) (src:Nat) (Q:au),aQ H src f->(∀ H' v a,ok a->ai [src] H H'->aQ H' src f->Pr H' v (txt (tx a)) (rw_ a)->Q v H')->CL N fn (.ref src::args) H Q
theorem eS{N:Nat}(hN:4<=N):lz f 1400 [] (λc:c9=>[c.p]) (λc=>.str c.v) (λ_=>True) N:=by
 intro H src Q s q
 obtain⟨N,rfl⟩:∃ j,N=j+4:=⟨N-4,aG hN rfl⟩
 refine ae rfl rfl rfl (by simp) ?_
 refine iE λa1 h1=>iE λa2 h2=>iE λa3 h3=>iE λa4 h4=>iE λa5 h5=>iE λa6 h6=>?_
 refine aw λl hl=>?_
 have e1:=aR.new (o:=.tup [.str c9.a.t,.str c9.a.v]) h1
 have e2:=aR.new (o:=.tup [.str c9.tab.t,.str c9.tab.v]) h2
 have e3:=aR.new (o:=.tup [.str c9.frm.t,.str c9.frm.v]) h3
 have e4:=aR.new (o:=.tup [.str c9.br.t,.str c9.br.v]) h4
 have e5:=aR.new (o:=.tup [.str c9.q.t,.str c9.q.v]) h5
 have e6:=aR.new (o:=.tup [.str c9.dq.t,.str c9.dq.v]) h6
 have e7:=aR.new (o:=.list [.ref a1,.ref a2,.ref a3,.ref a4,.ref a5,.ref a6]) hl
 have ee:=((((((e1.trans e2).trans e3).trans e4).trans e5).trans e6).trans e7)
 have s2:aQ _ src f:=((((((s.new h1).new h2).new h3).new h4).new h5).new h6).new (o:=.list [.ref a1,.ref a2,.ref a3,.ref a4,.ref a5,.ref a6]) hl
 have hlne:l≠src:=λz=>by
  refine a7 λGg fin_=>?_
  obtain⟨x,y,_,_,_,_,g⟩:=((((((s.new h1).new h2).new h3).new h4).new h5).new h6:aQ _ src f)
  refine fin_ ?_
  rw[z,g] at hl;exact uU hl
 have m:=s2.mok
 refine lS s2 af hlne (by simp) (by simp) λx H' hx k s'=>?_
 have kk:ai [src] H H':=(aR.keep ee).trans k
 have fin:∀ (c:c9) (a:Nat),x=.ref a->(_:AH) a=some (.tup [.str c.t,.str c.v])->Q x H':=λc a e g=>by
  subst e
  refine q H' _ c trivial kk s' ⟨a,_,rfl,?_,.str⟩
  refine ac (show txt [c.p]=c.t from by unfold txt;exact ac (List.flatMap_singleton ..) (ac (c9.p_t ..) rfl)) ?_
  exact k _ _ (m.tup g) g
 rcases List.mem_cons.mp hx with rfl|hx
 ·exact fin .a a1 rfl ((e2.trans (e3.trans (e4.trans (e5.trans (e6.trans e7))))) _ _ af)
 rcases List.mem_cons.mp hx with rfl|hx
 ·exact fin .tab a2 rfl ((e3.trans (e4.trans (e5.trans (e6.trans e7)))) _ _ af)
 rcases List.mem_cons.mp hx with rfl|hx
 ·exact fin .frm a3 rfl ((e4.trans (e5.trans (e6.trans e7))) _ _ af)
 rcases List.mem_cons.mp hx with rfl|hx
 ·exact fin .br a4 rfl ((e5.trans (e6.trans e7)) _ _ af)
 rcases List.mem_cons.mp hx with rfl|hx
 ·exact fin .q a5 rfl ((e6.trans e7) _ _ af)
 ·obtain rfl:=List.mem_singleton.mp hx
  exact fin .dq a6 rfl (e7 _ _ af)
end
theorem ki:(txt []).length=0:=rfl
theorem eD(p:Pc)(r:List Pc):(txt (p::r)).length=p.t.length+(txt r).length:=by
 unfold txt;exact ac (List.flatMap_cons ..) (ac (List.length_append ..) rfl)
theorem hZ(a b:List Pc):(txt (a++b)).length=(txt a).length+(txt b).length:=by exact ac (aV ..) (ac (List.length_append ..) rfl)
theorem ag(f:Bool)(k:List Nat):(dH f k).length=k.length:=by induction f<;>simp[dH]
theorem c9.len(c:c9):c.p.t.length<=6:=by induction c<;>decide
theorem xJ(n:Nat):(Pc.nu n).t.length<=4:=sA 4 n
theorem pI(w:List Nat):(Pc.wd w).t.length=w.length:=rfl
theorem vj:Pc.sp.t.length=1:=rfl
theorem vo(c:Nat):(Pc.sg c).t.length=1:=rfl
theorem O4(t k v:List Nat):(Pc.qu t k v).t.length=t.length:=rfl
theorem yh(f:Bool)(k:List Nat):(txt (kw f k)).length=k.length:=by
 unfold kw;refine ac (eD ..) (ac (ki ..) (ac (pI ..) (ac (ag ..) ?_)));rfl
theorem i5(f:Bool)(k l:List Nat):(txt (f8 f k l)).length=k.length+1+l.length:=by
 unfold f8;refine ac (eD ..) (ac (eD ..) (ac (eD ..) (ac (ki ..) (ac (pI ..) (ac (pI ..) (ac (ag ..) (ac (ag ..) (ac (vj ..) ?_))))))));lia
section
variable {f:Bool} {p:Pc} {a b:List Pc} {x y:Nat}
theorem Cz:(txt []).length<=0:=Nat.le_refl 0
theorem fw(h:p.t.length<=x)(k:(txt b).length<=y):(txt (p::b)).length<=x+y:=Nat.le_trans (Nat.le_of_eq (eD p b)) (Nat.add_le_add h k)
theorem eF(h:p.t.length<=x):(txt [p]).length<=x:=fw h Cz
theorem cD:(txt [.sp]).length<=1:=Nat.le_refl 1
theorem aH(h:(txt a).length<=x)(k:(txt b).length<=y):(txt (a++b)).length<=x+y:=Nat.le_trans (Nat.le_of_eq (hZ a b)) (Nat.add_le_add h k)
theorem fv{k:List Nat} : (txt (kw f k)).length<=k.length:=Nat.le_of_eq (yh f k)
theorem jS{k l:List Nat} : (txt (f8 f k l)).length<=k.length+1+l.length:=Nat.le_of_eq (i5 f k l)
theorem QT{n m c d:Nat}(h:n<=m*c+d){e:Nat}(k:Nat.ble d e=true):n<=m*c+e:=Nat.le_trans h (Nat.add_le_add_left (Nat.le_of_ble_eq_true k) _)
theorem cM{n x y:Nat}(h:n<=x)(k:Nat.ble x y=true):n<=y:=Nat.le_trans h (Nat.le_of_ble_eq_true k)
end
theorem aU.len(f:Bool)(e:aU):(txt (e.ps f)).length<=30:=by
 induction e with
 | num n=>exact cM (eF (xJ n)) rfl
 | its=>exact Nat.le_of_ble_eq_true rfl
 | null=>exact cM fv rfl
 | nn a b=>exact cM (fw a.len (fw (Nat.le_refl 1) (eF b.len))) rfl
 | plus c=>exact cM (fw c.len (fw (Nat.le_refl 1) (fw (Nat.le_refl 1) (fw (Nat.le_refl 1) (eF (xJ 1)))))) rfl
 | cnt=>exact Nat.le_of_ble_eq_true rfl
 | sum c=>exact cM (aH (aH (fw (Nat.le_refl 3) (eF (Nat.le_refl 1))) fv) (fw (Nat.le_refl 1) (fw c.len (eF (Nat.le_refl 1))))) rfl
 | nm c=>exact cM (eF c.len) rfl
section
variable (f:Bool) {L:Lv}
theorem gU.len(e:gU L)(h:e.ok):(txt (e.ps f)).length<=L.big+30:=by
 induction e with
 | b e=>exact Nat.le_trans (e.len f) (Nat.le_add_left _ _)
 | s x=>
  have:(txt (gU.ps f L (.s x))).length<=1+L.big+1:=aH (aH (eF (Nat.le_refl 1)) (L.len x h)) (eF (Nat.le_refl 1))
  lia
theorem Al.len(a:Al):(txt (a.ps f)).length<=20:=by
 induction a with
 | no=>exact Nat.le_of_ble_eq_true rfl
 | bare c=>exact cM (fw (Nat.le_refl 1) (eF c.len)) rfl
 | own=>exact cM (aH (aH cD fv) (fw (Nat.le_refl 1) (eF (Nat.le_refl _)))) rfl
 | as c=>exact cM (aH (aH cD fv) (fw (Nat.le_refl 1) (eF c.len))) rfl
theorem dC.len(c:dC L)(h:c.ok):(txt (c.ps f)).length<=L.big+50:=by
 induction c with
 | star=>exact Nat.le_trans (eF (Nat.le_refl 1)) (Nat.succ_pos _)
 | tst c=>exact Nat.le_trans (cM (y:=50) (fw c.len (fw (Nat.le_refl 1) (eF (Nat.le_refl 1)))) rfl) (Nat.le_add_left _ _)
 | ex e a=>exact Nat.le_trans (aH (e.len f h) (a.len f)) (Nat.le_of_eq (Nat.add_assoc _ _ _))
theorem eU.len(a:eU):(txt (a.ps f)).length<=30:=by
 induction a with
 | no=>exact Nat.le_of_ble_eq_true rfl
 | ind c=>exact cM (aH (aH cD jS) (fw (Nat.le_refl 1) (eF c.len))) rfl
 | scan=>exact cM (aH cD jS) rfl
theorem gj.len(s:gj L)(h:s.ok):(txt (s.ps f)).length<=L.big+60:=by
 induction s with
 | tab c a hh=>exact Nat.le_trans (cM (y:=60) (aH (aH (eF c.len) (a.len f)) (hh.len f)) rfl) (Nat.le_add_left _ _)
 | sub x a=>
  have:(txt (gj.ps f L (.sub x a))).length<=1+L.big+1+20:=aH (aH (aH (eF (Nat.le_refl 1)) (L.len x h.1)) (eF (Nat.le_refl 1))) (a.len f)
  lia
theorem JK.len(a:JK):(txt (a.ps f)).length<=16:=by
 induction a with
 | comma=>exact Nat.le_of_ble_eq_true rfl
 | join=>exact cM fv rfl
 | louter=>exact cM (aH (aH fv cD) jS) rfl
 | _=>exact cM jS rfl
theorem q6{B:Nat} : ∀ r:List (List Pc),(∀ y∈r,(txt y).length<=B)->(txt (r.flatMap λy=>[.sg 44,.sp]++y)).length<=r.length*(2+B):=by
 intro r
 induction r with
 | nil=>intro _;exact Nat.zero_le _
 | cons y r ih=>
  intro h
  rw[List.flatMap_cons,List.length_cons,Nat.succ_mul,Nat.add_comm]
  exact aH (aH (cM (y:=2) (fw (Nat.le_refl 1) (eF (Nat.le_refl 1))) rfl) (h y (.head _))) (ih λz hz=>h z (.tail _ hz))
theorem jD{B:Nat}(l:List (List Pc))(h:∀ x∈l,(txt x).length<=B):(txt (comma l)).length<=l.length*(B+2):=by
 induction l with
 | nil=>exact Nat.zero_le _
 | cons x r=>
  rw[List.length_cons,Nat.succ_mul,Nat.add_comm,Nat.add_comm B 2]
  exact Nat.le_trans (aH (h x (.head _)) (q6 r λy hy=>h y (.tail _ hy))) (Nat.add_le_add_right (Nat.le_add_left B 2) _)
theorem j8{α:Type}{B n:Nat}{g:α->List Pc}{l:List α}(h:∀ x∈l,(txt (g x)).length<=B)(hl:l.length<=n):(txt (comma (l.map g))).length<=n*(B+2):=by
 refine Nat.le_trans (jD (B:=B) (l.map g) λx hx=>?_) ?_
 ·obtain⟨e,he,rfl⟩:=List.mem_map.mp hx;exact h e he
 ·rw[List.length_map];exact Nat.mul_le_mul_right _ hl
theorem On.len(a:On)(h:a.ok):(txt (a.ps f)).length<=60:=by
 induction a with
 | on e=>exact cM (aH (aH (aH cD fv) cD) (e.len f)) rfl
 | no=>exact Nat.le_of_ble_eq_true rfl
 | us c cs=>exact cM (aH (aH (aH (aH cD fv) (fw (Nat.le_refl 1) (eF (Nat.le_refl 1)))) (j8 (B:=6) (n:=2) (g:=λc:c9=>[c.p]) (λc _=>eF c.len) (Nat.succ_le_succ h))) (eF (Nat.le_refl 1))) rfl
theorem b9.len(x:b9 L)(h:x.ok):(txt (x.ps f)).length<=2*L.big+250:=by
 have h1:=x.a.len f h.1
 unfold b9.ps
 induction hj:x.j with
 | none=>have:(txt (x.a.ps f++[])).length<=L.big+60+0:=aH h1 Cz;exact Nat.le_trans this (by lia)
 | some y=>
  obtain⟨k,s,o⟩:=y
  have h2:=h.2
  rw[hj] at h2
  have:(txt (x.a.ps f++([.sp]++k.ps f++[.sp]++s.ps f++o.ps f))).length<=L.big+60+(1+16+1+(L.big+60)+60):=aH h1 (aH (aH (aH (aH cD (k.len f)) cD) (s.len f h2.1)) (o.len f h2.2))
  exact Nat.le_trans this (by lia)
theorem Wd.len(w:Wd):(txt (w.ps f)).length<=9:=by
 induction w with
 | no=>exact Nat.le_of_ble_eq_true rfl
 | _=>exact cM (aH fv cD) rfl
theorem A8(e:Option aU):(txt (cH f e)).length<=40:=by
 induction e with
 | none=>exact Nat.le_of_ble_eq_true rfl
 | some e=>exact cM (aH (aH (aH cD fv) cD) (e.len f)) rfl
theorem CW(e:Option aU):(txt (g8 f e)).length<=40:=by
 induction e with
 | none=>exact Nat.le_of_ble_eq_true rfl
 | some e=>exact cM (aH (aH (aH cD fv) cD) (e.len f)) rfl
theorem j6(l:List aU)(h:l.length<=2):(txt (comma (l.map (aU.ps f)))).length<=64:=j8 (λe _=>e.len f) h
theorem CX(g:Option (aU×List aU×Option aU))(h:∀ e es h,g=some (e,es,h)->es.length<=1):(txt (dc f g)).length<=130:=by
 induction g with
 | none=>exact Nat.le_of_ble_eq_true rfl
 | some x=>
  obtain⟨e,es,hv⟩:=x
  exact cM (aH (aH (aH (aH cD jS) cD) (j6 f (e::es) (Nat.succ_le_succ (h e es hv rfl)))) (CW f hv)) rfl
theorem BE(s:Option (b9 L))(h:∀ x,s=some x->x.ok):(txt (cK f L s)).length<=2*L.big+260:=by
 induction s with
 | none=>exact Nat.zero_le _
 | some s=>
  have:(txt (cK f L (some s))).length<=1+dn.length+1+(2*L.big+250):=aH (aH (aH cD fv) cD) (s.len f (h s rfl))
  exact Nat.le_trans this (by show 1+4+1+(2*L.big+250)<=_;lia)
theorem pj(l:List (dC L))(h:l.length<=2)(ho:∀ c∈l,c.ok):(txt (comma (l.map (dC.ps f L)))).length<=2*L.big+104:=Nat.le_trans (j8 (λe he=>e.len f (ho e he)) h) (by lia)
theorem fH.len(x:fH L)(h:x.ok):(txt (x.ps f)).length<=4*L.big+700:=by
 refine kS h λh1 h2 h3 h4 h5=>?_
 have:(txt (x.ps f)).length<=aW.length+1+9+(2*L.big+104)+(2*L.big+260)+40+130:=
  aH (aH (aH (aH (aH (aH fv cD) (x.w.len f)) (pj f (x.c::x.cs) (Nat.succ_le_succ h1) h2)) (BE f x.src h3)) (A8 f x.whr)) (CX f x.grp λe es h g=>(h5 e es h g).1)
 exact Nat.le_trans this (by show 6+1+9+(2*L.big+104)+(2*L.big+260)+40+130<=_;lia)
theorem gX.len(x:gX)(h:x.ok):(txt (x.ps f)).length<=200:=by
 refine zb h λh1 h2 h3 h4=>?_
 refine cM (aH (aH fv cD) (j8 (B:=66) (n:=2) (λe he=>?_) (Nat.succ_le_succ h1))) rfl
 refine cM (aH (aH (eF (Nat.le_refl 1)) (j6 f (e.1::e.2) (Nat.succ_le_succ ?_))) (eF (Nat.le_refl 1))) rfl
 rcases List.mem_cons.mp he with rfl|he
 ·exact h2
 ·exact Nat.le_trans (Nat.le_of_eq (h3 e he)) h2
theorem ci.len(x:ci L)(h:x.ok):(txt (x.ps f)).length<=4*L.big+700:=by
 induction x with
 | v x=>exact Nat.le_trans (cM (y:=700) (x.len f h) rfl) (Nat.le_add_left _ _)
 | c x=>exact x.len f h
theorem Op.len(x:Op):(txt (x.ps f)).length<=9:=by
 induction x with
 | ua=>exact cM jS rfl
 | _=>exact cM fv rfl
theorem xU(l:List (Op×ci gY))(h:∀ y∈l,y.2.ok):(txt (l.flatMap (eO f))).length<=l.length*720:=by
 induction l with
 | nil=>exact Nat.zero_le _
 | cons x r ih=>
  rw[List.flatMap_cons,List.length_cons,Nat.succ_mul,Nat.add_comm]
  exact aH (cM (y:=720) (aH (aH (aH cD (x.1.len f)) cD) (x.2.len f (h x (.head _)))) rfl) (ih λy hy=>h y (.tail _ hy))
theorem cA.len(x:cA L)(h:x.ok):(txt (x.ps f)).length<=4*L.big+2200:=by
 refine C7 h λh1 h2 h3=>?_
 have:(txt (x.ps f)).length<=4*L.big+700+x.more.length*720:=aH (x.b.len f h1) (xU f x.more h3)
 lia
theorem eC.len(x:eC):(txt (x.ps f)).length<=5:=by
 induction x with
 | no=>exact Nat.le_of_ble_eq_true rfl
 | _=>exact cM (aH cD fv) rfl
theorem kj(x:aU×eC):(txt (cU f x)).length<=35:=aH (x.1.len f) (x.2.len f)
theorem jn(l:List (aU×eC))(h:l.length<=2):(txt (bc f l)).length<=100:=by
 induction l with
 | nil=>exact Nat.le_of_ble_eq_true rfl
 | cons x r=>
  rcases rX (Nat.le_of_succ_le_succ h) with rfl|⟨y,rfl⟩
  ·exact cM (aH (aH (aH (aH cD jS) cD) (kj f x)) Cz) rfl
  ·exact cM (aH (aH (aH (aH cD jS) cD) (kj f x)) (aH (b:=[]) (aH (fw (Nat.le_refl 1) (eF (Nat.le_refl 1))) (kj f y)) Cz)) rfl
theorem ke.len(x:ke):(txt (x.ps f)).length<=90:=by
 induction x with
 | no=>exact Nat.le_of_ble_eq_true rfl
 | l a=>exact cM (aH (aH (aH cD fv) cD) (a.len f)) rfl
 | lo a b=>exact cM (aH (aH (aH (aH (aH (aH (aH cD fv) cD) (a.len f)) cD) fv) cD) (b.len f)) rfl
 | lc a b=>exact cM (aH (aH (aH (aH (aH cD fv) cD) (b.len f)) (fw (Nat.le_refl 1) cD)) (a.len f)) rfl
theorem fj.len(x:fj L)(h:x.ok):(txt (x.ps f)).length<=4*L.big+2500:=by
 refine kS h λh1 h2 h3 h4 h5=>?_
 have:(txt (x.ps f)).length<=4*L.big+2200+(100+90):=aH (x.b.len f h1) (aH (jn f x.ts h2) (x.l.len f))
 lia
end
noncomputable def L1(f:Bool):Lv:=⟨fj gY,fj.ps f gY,fj.row gY,fj.ok gY,2500,λx h=>fj.len f x h⟩
inductive dh{α β:Type}(V:α->β->Prop):List α->List β->Prop
 | nil:dh V [] []
 | cons {a b as bs} : V a b->dh V as bs->dh V (a::as) (b::bs)
theorem dh.len{α β:Type}{V:α->β->Prop}{as bs}(h:dh V as bs):as.length=bs.length:=by
 induction h with
 | nil=>rfl
 | cons _ _ ih=>exact congrArg (· + 1) ih
theorem dh.mono{α β:Type}{V W:α->β->Prop}(h:∀ a b,V a b->W a b){as bs}(r:dh V as bs):dh W as bs:=by
 induction r with
 | nil=>exact .nil
 | cons a _ ih=>exact .cons (h _ _ a) ih
theorem dh.app{α β:Type}{V:α->β->Prop}{a:α}{b:β}(h:V a b){as bs}(r:dh V as bs):dh V (as++[a]) (bs++[b]):=by
 induction r with
 | nil=>exact .cons h .nil
 | cons x _ ih=>exact .cons x ih
theorem sz{α:Type}{src:Nat}{f:Bool}(ok:α->Prop)(V:AH->AV->α->Prop)(vk:∀ {H H' v a},bW [src] H->ai [src] H H'->V H v a->V H' v a)(vn:∀ {H v a},V H v a->v≠.oth){turn:AV->AH->(Option AV->AH->Prop)->Prop}{K:List AV->AH->Prop}
 (ht:∀ x H K,aQ H src f->(∀ H' v a,ok a->ai [src] H H'->aQ H' src f->V H' v a->K (some v) H')->turn x H K) :
 ∀ (xs:List AV) (H:AH) (acc:List AV) (as:List α),acc.length+xs.length<=100->aQ H src f->dh (V H) acc as->(∀ a∈as,ok a)->
  (∀ H' vs as',as'.length=as.length+xs.length->ai [src] H H'->aQ H' src f->dh (V H') vs as'->(∀ a∈as',ok a)->K vs H')->eJ (λ_=>True) turn xs H acc K:=by
 intro z_
 induction z_ with
 | nil=>
  intro H acc as hl s ha ho q
  exact⟨trivial,by simp at hl;unfold ah;exact iX hl rfl,q H acc as (by simp) (.refl _ _) s ha ho⟩
 | cons x xs ihz=>
  intro H acc as hl s ha ho q
  refine⟨trivial,by simp at hl;unfold ah;lia,ht x H _ s λH' v a oa k s' hv=>⟨vn hv,?_⟩⟩
  refine ihz H' (acc++[v]) (as++[a]) (by simp at hl ⊢;lia) s' (dh.app hv (ha.mono λ_ _ h=>vk s.mok k h)) (λb hb=>?_) λH'' vs as' h1 k' s'' h2 h3=>q H'' vs as' (by simp at h1 ⊢;lia) (k.trans k') s'' h2 h3
  rcases List.mem_append.mp hb with z|z
  ·exact ho b z
  ·refine(List.mem_singleton.mp z).symm ▸ ?_;exact oa
theorem p6{α:Type}{ok:AH->Prop}{turn:AV->AH->(Option AV->AH->Prop)->Prop}{K:List AV->AH->Prop}{H:AH}{V W:AV->α->Prop}(hok:ok H)(ht:∀ x a K,V x a->(∀ y,y≠.oth->W y a->K (some y) H)->turn x H K) :
 ∀ (xs:List AV) (as:List α) (acc:List AV) (bs:List α),acc.length+xs.length<=100->dh V xs as->dh W acc bs->(∀ ys,dh W ys (bs++as)->K ys H)->eJ ok turn xs H acc K:=by
 intro xs as acc bs hl h hb q
 induction h generalizing acc bs with
 | nil=>exact⟨hok,Nat.le_trans (Nat.le_trans (Nat.le_add_right _ _) hl) (by decide),q acc (by simpa using hb)⟩
 | cons hv r ih=>
  refine⟨hok,Nat.le_trans (Nat.le_trans (Nat.le_add_right _ _) hl) (by decide),ht _ _ _ hv λy hn hw=>⟨hn,?_⟩⟩
  exact ih (acc++[y]) (bs++[_]) (by simp at hl ⊢;lia) (dh.app hw hb) λys h=>q ys (by simpa using h)
theorem pw{α:Type}{t:α->List Nat}{ys:List AV}{as:List α}(h:dh (λy a=>y=.str (t a)) ys as):ys=(as.map t).map AV.str:=by
 induction h with
 | nil=>rfl
 | cons h _ ih=>rw[h,ih];rfl
theorem pz{α:Type}{H:AH}{d:α->DT}{ys:List AV}{as:List α}(h:dh (λy a=>bS H y (d a)) ys as):Dats H ys (as.map d):=by
 induction h with
 | nil=>exact .nil
 | cons h _ ih=>exact .cons h ih
theorem ei:∀ l:List (List Pc),List.intercalate [44,32] (l.map txt)=txt (comma l)
 | []=>rfl
 | [x]=>by simp[List.intercalate,comma]
 | x::y::r=>by
  have ih:=ei (y::r)
  simp only[List.intercalate,List.map_cons,List.intersperse_cons₂,List.flatten_cons] at ih⊢
  refine ac ih ?_
  show _=txt (x++(([.sg 44,.sp]++y)++r.flatMap λy=>[.sg 44,.sp]++y))
  rw[aV,aV,aV]
  show _=txt x++(([44,32]++txt y)++_)
  show txt x++([44,32]++txt (y++r.flatMap λy=>[.sg 44,.sp]++y))=_
  refine ac (aV ..) ?_;simp
section
variable {α:Type} {H H0:AH} {Q:au} {src N:Nat} {f:Bool} {L:Lv}
theorem bn{tx:α->List Pc}{rw_:α->DT}{ok:α->Prop}{x:α}{vs:List AV}{ds:List DT}{t:List Nat}(q:∀ H' v a,ok a->ai [src] H0 H'->aQ H' src f->Pr H' v (txt (tx a)) (rw_ a)->Q v H')(ox:ok x)(k:ai [src] H0 H)(s:aQ H src f)
 (hd:Dats H vs ds) (hr:rw_ x=.tup ds) (ht:t=txt (tx x)):dm H (.tup vs) λa H=>dm H (.tup [.str t,.ref a]) λb H=>Q (.ref b) H:=
 iE λa ha=>iE λb hb=>q _ _ x ox ((k.trans (ai.new ha)).trans (ai.new hb)) ((s.new ha).new hb)
  ⟨b,.ref a,rfl,by refine ht ▸ ?_;exact af,by refine ac hr ?_;exact .tup (aR.new hb _ _ af) ((hd.ext (aR.new ha)).ext (aR.new hb))⟩
theorem ef{tx:α->List Pc}{rw_:α->DT}{ok:α->Prop}{x:α}{v:AV}{t:List Nat}(q:∀ H' v a,ok a->ai [src] H0 H'->aQ H' src f->Pr H' v (txt (tx a)) (rw_ a)->Q v H')(ox:ok x)(k:ai [src] H0 H)(s:aQ H src f)
 (hd:bS H v (rw_ x)) (ht:t=txt (tx x)):dm H (.tup [.str t,v]) λb H=>Q (.ref b) H:=
 iE λb hb=>q _ _ x ox (k.trans (ai.new hb)) (s.new hb) ⟨b,v,rfl,by refine ht.symm ▸ ?_;exact af,hd.ext (aR.new hb)⟩
theorem fD.ext{rest:List AV}{H':AH}(s:fD H src rest)(e:aR H H'):fD H' src rest:=let ⟨x,y,a1,a2,a3,a4,a5⟩:=s;⟨x,y,a1,a2,a3,a4,e _ _ a5⟩
theorem cx{vs:List AV}{Q:Nat->AH->Prop}(q:∀ a H',H' a=some (.tup vs)->aR H H'->Q a H'):dm H (.tup vs) Q:=aw λa ha=>q a _ af (aR.new ha)
theorem f7{vs:List AV}{Q:Nat->AH->Prop}(q:∀ a H',H' a=some (.list vs)->aR H H'->Q a H'):dm H (.list vs) Q:=aw λa ha=>q a _ af (aR.new ha)
theorem fY(c:c9):(txt [c.p]).length<=6:=by have:=c.len;refine ac (eD ..) (ac (ki ..) ?_);lia
theorem u2(p:Pc):txt [p]=p.t:=by unfold txt;exact ac (List.flatMap_singleton ..) rfl
theorem nM(p:Pc)(r:List Pc):txt (p::r)=p.t++txt r:=List.flatMap_cons
theorem OK:txt []=[]:=rfl
theorem asc{s:List Nat}(h:s.all (λc=>Nat.blt c 128)=true):bf s:=λc hc=>Nat.le_of_ble_eq_true (List.all_eq_true.mp h c hc)
theorem OV{i:Nat}(hi:i<1000){Q:AV->AH->Prop}{T:aT}(q:Q (.str (aD 4 i)) H):OJ T .str H [.int (i:Int)] Q:=⟨⟨Int.natCast_nonneg i,by lia⟩,q⟩
theorem y4{high:Nat}(hN:6<=N)(hsel:0<high->lz f 1462 [.int ((high:Int)-1)] L.ps L.row L.ok N)(hB:L.big<=100000):lz f 1407 [.int (high:Int)] (gU.ps f L) (gU.row L) (gU.ok L) (N+1):=by
 intro H src Q s q
 obtain⟨N,rfl⟩:∃ j,N=j+2:=⟨N-2,aG hN rfl⟩
 refine ae rfl rfl rfl (by simp) ?_
 show(match decide ((high:Int)>0) with|true=>_|false=>_)
 have key:∀ i H1,(i<7\/(i=7/\0<high))->ai [src] H H1->aQ H1 src f->wSs (az True) (CL (N+2)) (qM.body.drop 1) [some (.ref src),some (.int (high:Int)),some (.int ((i:Nat):Int)),none,none,none,none,none,none,none,none,none,none,none] H1 (λ_ H=>Q .none H) Q:=λi H1 hi k1 s1=>by
  have hi8:i=0\/i=1\/i=2\/i=3\/i=4\/i=5\/i=6\/(i=7/\0<high):=by lia
  rcases hi8 with rfl|rfl|rfl|hi8
  ·refine bG (top:=90) s1 (by decide) (by decide) λn H2 hn k2 s2=>?_
   refine⟨⟨Int.natCast_nonneg n,by lia⟩,?_⟩
   exact bn (x:=gU.b (L:=L) (.num n)) q hn (k1.trans k2) s2 (.cons .str (.cons .str (.cons .int .nil))) rfl (by show aD 4 n=txt [.nu n];refine ac (u2 ..) ?_;rfl)
  ·exact bn (x:=gU.b (L:=L) .its) q trivial k1 s1 (.cons .str (.cons .str (.cons .str .nil))) rfl rfl
  ·refine cX s1 (k:=gB) (asc rfl) (by decide) ?_
   exact bn (x:=gU.b (L:=L) .null) q trivial k1 s1 (.cons .str (.cons .str (.cons .none .nil))) rfl (by show dH f gB=txt [.wd (dH f gB)];refine ac (u2 ..) ?_;rfl)
  ·have cal:CL (N+2) 1400 [.ref src] H1 (λv H=>jg H v 2 λvs=>wSs (az True) (CL (N+2)) (qM.body.drop 5) (([4,5].zip vs).foldl (λm p=>bT m p.1 p.2) [some (.ref src),some (.int (high:Int)),some (.int ((i:Nat):Int)),none,none,none,none,none,none,none,none,none,none,none]) H (λ_ H=>Q .none H) Q):=by
    refine eS (lU hN rfl) H1 src _ s1 λH2 v2 c _ k2 s2 p2=>?_
    refine p2.unp λr2 d2=>?_
    have kk:=k1.trans k2
    have hc:=fY c
    rcases hi8 with rfl|rfl|rfl|rfl|⟨rfl,hh⟩
    ·refine eS (lU hN rfl) H2 src _ s2 λH3 v3 c3 _ k3 s3 p3=>?_
     refine p3.unp λr3 d3=>?_
     have hc3:=fY c3
     refine⟨by(simp only[lA,lC,lN,ag,ah];lia),?_⟩
     refine⟨by(simp only[lA,lC,lN,ag,ah];lia),?_⟩
     exact bn (x:=gU.b (L:=L) (.nn c3 c)) q trivial (kk.trans k3) s3 (.cons .str (.cons d3 (.cons (d2.keep s2.mok k3) .nil))) rfl (by show(txt [c3.p]++[46])++txt [c.p]=txt ([c3.p]++[.sg 46]++[c.p]);refine ac (aV ..) (ac (aV ..) ?_);rfl)
    ·refine⟨by(simp only[lA,lC,lN,ag,ah];lia),?_⟩
     refine cx λa H3 ga e3=>cx λb H4 gb e4=>?_
     have k3:=e3.trans e4
     exact bn (x:=gU.b (L:=L) (.plus c)) q trivial (kk.trans (aR.keep k3)) (s2.ext k3) (.cons .str (.cons .str (.cons (.tup (e4 _ _ ga) (.cons .str (.cons .none (.cons (d2.ext k3) .nil)))) (.cons (.tup gb (.cons .str (.cons .str (.cons .int .nil)))) .nil)))) rfl
      (by show txt [c.p]++[32,43,32,49]=txt ([c.p]++[.sp,.sg 43,.sp,.nu 1]);refine ac (aV ..) ?_;rfl)
    ·refine bG (top:=2) s2 (by decide) (by decide) λn H3 hn k3 s3=>?_
     have hn2:n=0\/n=1:=KJ hn
     rcases hn2 with rfl|rfl
     ·refine cx λa H4 ga e4=>?_
      exact bn (x:=gU.b (L:=L) .cnt) q trivial ((kk.trans k3).trans (aR.keep e4)) (s3.ext e4) (.cons .str (.cons .str (.cons (.tup ga .nil) (.cons .bool (.cons .bool .nil))))) rfl rfl
     ·refine cX s3 (k:=be) (asc rfl) (by decide) ?_
      have hk:be.length=8:=rfl
      refine⟨by(simp only[lA,lC,lN,ag,ah];lia),?_⟩
      refine⟨by(simp only[lA,lC,lN,ag,ah];lia),?_⟩
      refine⟨by(simp only[lA,lC,lN,ag,ah];lia),?_⟩
      refine⟨by(simp only[lA,lC,lN,ag,ah];lia),?_⟩
      refine cx λa H4 ga e4=>cx λb H5 gb e5=>?_
      have k4:=e4.trans e5
      exact bn (x:=gU.b (L:=L) (.sum c)) q trivial ((kk.trans k3).trans (aR.keep k4)) (s3.ext k4) (.cons .str (.cons .str (.cons (.tup gb (.cons (.tup (e5 _ _ ga) (.cons .str (.cons .none (.cons ((d2.keep s2.mok k3).ext k4) .nil)))) .nil)) (.cons .bool (.cons .bool .nil))))) rfl
       (by show((([115,117,109,40]++dH f be)++[32])++txt [c.p])++[41]=txt ([.wd [115,117,109],.sg 40]++kw f be++[.sp]++[c.p]++[.sg 41]);refine ac (aV ..) (ac (aV ..) (ac (aV ..) (ac (aV ..) ?_)));unfold kw;rw[u2 (.wd _)];rfl)
    ·exact bn (x:=gU.b (L:=L) (.nm c)) q trivial kk s2 (.cons .str (.cons .none (.cons d2 .nil))) rfl rfl
    ·refine hsel hh H2 src _ s2 λH3 v3 x ox k3 s3 p3=>?_
     refine p3.unp λr3 d3=>?_
     have hx:=L.len x ox
     refine⟨by(simp only[lA,lC,lN,ag,ah];lia),?_⟩
     refine⟨by(simp only[lA,lC,lN,ag,ah];lia),?_⟩
     exact bn (x:=gU.s (L:=L) x) q ox (kk.trans k3) s3 (.cons .str (.cons d3 .nil)) rfl (by show([40]++txt (L.ps x))++[41]=txt ([.sg 40]++L.ps x++[.sg 41]);refine ac (aV ..) (ac (aV ..) ?_);rfl)
   rcases hi8 with rfl|rfl|rfl|rfl|⟨rfl,hh⟩<;>exact cal
 induction hh:decide ((high:Int)>0) with
 | true=>exact bG (top:=8) s (by decide) (by decide) λi H1 hi k1 s1=>key i H1 (by have:=of_decide_eq_true hh;lia) k1 s1
 | false=>exact bG (top:=7) s (by decide) (by decide) λi H1 hi k1 s1=>key i H1 (.inl hi) k1 s1
end
section
variable {α:Type} {H H0:AH} {Q:au} {src N:Nat} {f:Bool} {L:Lv}
theorem jC{T:aT}{C:CS}{m:bd}{i j k l:Nat}{vs:List AV}{as:List α}{tx:α->List Nat}{rw_:α->DT}(hc:T.calm)(hi:getL m i=some (.ref l))(hg:∀ x y,getL (bT (bT m j x) k y) j=some x)(gl:H l=some (.list vs))
 (hA:dh (λv a=>Pr H v (tx a) (rw_ a)) vs as) (hl:vs.length<=100) (q:∀ H' l',H' l'=some (.list ((as.map tx).map AV.str))->aR H H'->Q (.ref l') H'):wE T C m (.comp false (.loc i) [j,k] false none (.loc j)) H Q:=by
 refine⟨hc,kJ hi ?_⟩
 refine fC gl (by unfold ah;exact iX hl rfl) ?_
 refine p6 (V:=λv a=>Pr H v (tx a) (rw_ a)) (W:=λy a=>y=.str (tx a)) gl (λx a K hp q=>?_) vs as [] [] (by simpa using hl) hA .nil λys hy=>?_
 ·refine hp.unp λr d=>?_
  exact kJ (T:=T) (C:=C) (hg _ _) (q _ (λz=>nomatch z) rfl)
 ·have e1:=pw (t:=tx) hy
  subst e1
  exact f7 λl' H' g e=>q H' l' g e
theorem uD{T:aT}{C:CS}{m:bd}{i j k l:Nat}{vs:List AV}{as:List α}{tx:α->List Nat}{rw_:α->DT}(hc:T.calm)(hi:getL m i=some (.ref l))(hg:∀ x y,getL (bT (bT m j x) k y) k=some y)(gl:H l=some (.list vs))
 (hA:dh (λv a=>Pr H v (tx a) (rw_ a)) vs as) (hl:vs.length<=100) (q:∀ H' l' ys,H' l'=some (.list ys)->Dats H' ys (as.map rw_)->aR H H'->Q (.ref l') H'):wE T C m (.comp false (.loc i) [j,k] false none (.loc k)) H Q:=by
 refine⟨hc,kJ hi ?_⟩
 refine fC gl (by unfold ah;exact iX hl rfl) ?_
 refine p6 (V:=λv a=>Pr H v (tx a) (rw_ a)) (W:=λy a=>bS H y (rw_ a)) gl (λx a K hp q=>?_) vs as [] [] (by simpa using hl) hA .nil λys hy=>?_
 ·refine hp.unp λr d=>?_
  exact kJ (T:=T) (C:=C) (hg _ _) (q _ d.ne d)
 ·have e1:=pz (d:=rw_) hy
  exact f7 λl' H' g e=>q H' l' ys g (e1.ext e) e
theorem fK{T:aT}{C:CS}{m:bd}{i j k l:Nat}{vs:List AV}{as:List α}{tx:α->List Nat}{rw_:α->DT}(hc:T.calm)(hi:getL m i=some (.ref l))(hg:∀ x y,getL (bT (bT m j x) k y) k=some y)(gl:H l=some (.list vs))
 (hA:dh (λv a=>Pr H v (tx a) (rw_ a)) vs as) (hl:vs.length<=100) (q:∀ H' v,bS H' v (.tup (as.map rw_))->aR H H'->Q v H'):wE T C m (.bi .tuple [.comp false (.loc i) [j,k] false none (.loc k)]) H Q:=by
 refine uD hc hi hg gl hA hl λH' l' ys g d e=>?_
 have hlen:ys.length<=ah:=by refine ac (Dats.len d) (ac (List.length_map ..) (ac (hA.len ..).symm ?_));unfold ah;exact iX hl rfl
 refine gK g hlen λb hb=>q _ _ (.tup af (d.ext (aR.new hb))) (e.trans (aR.new hb))
theorem fb(hN:7<=N):lz f 1407 [.int 0] (aU.ps f) aU.row aU.ok N:=by
 obtain⟨N,rfl⟩:∃ j,N=j+1:=⟨N-1,aG hN rfl⟩
 intro H src Q s q
 refine y4 (L:=gY) (high:=0) (N:=N) (jQ hN rfl) (λh=>absurd h (by decide)) (Nat.zero_le _) H src Q s λH' v a oa k s' p=>?_
 induction a with
 | b e=>exact q H' v e oa k s' p
 | s x=>exact nomatch x
theorem sw{many:Nat}(hm:1<=many/\many<=2)(hN:8<=N):lz f 1412 [.int (many:Int)] (λx:aU×List aU=>comma ((x.1::x.2).map (aU.ps f))) (λx=>.tup ((x.1::x.2).map aU.row)) (λx=>x.2.length+1=many/\∀ y∈x.1::x.2,y.ok) N:=by
 intro H src Q s q
 obtain⟨N,rfl⟩:∃ j,N=j+1:=⟨N-1,aG hN rfl⟩
 refine ae rfl rfl rfl (by simp) ?_
 refine⟨trivial,⟨Int.natCast_nonneg many,by lia⟩,?_⟩
 refine sz (src:=src) (f:=f) aU.ok (λH v e=>Pr H v (txt (e.ps f)) e.row) (λm k h=>h.keep m k) (λh=>h.ne) (λx H K s q=>fb (jQ hN rfl) H src _ s q) (cnt many) H [] [] (by simp[cnt];lia) s .nil (λ_ z=>nomatch z) λH1 vs as hlen k1 s1 hA hok=>?_
 have hlen:as.length=many:=by simpa [cnt] using hlen
 refine f7 λl H2 gl e2=>?_
 have hA2:dh (λv (e:aU)=>Pr H2 v (txt (e.ps f)) e.row) vs as:=hA.mono λ_ _ h=>h.ext e2
 have hvl:vs.length<=100:=by refine ac hA.len ?_;lia
 refine cu (by decide) (by decide) ?_
 refine jC (tx:=λe:aU=>txt (e.ps f)) trivial rfl (λ_ _=>rfl) gl hA2 hvl λH3 l3 g3 e3=>?_
 have ej:List.intercalate [44,32] (as.map λe:aU=>txt (e.ps f))=txt (comma (as.map (aU.ps f))):=by refine ac (ei ..).symm (ac (List.map_map ..) ?_);rfl
 have hjl:=j6 f as (by lia)
 refine ji (l:=as.map λe:aU=>txt (e.ps f)) g3 (by decide) (by refine ac ej ?_;unfold ah;exact iX hjl rfl) ?_
 refine ac ej ?_
 refine fK (tx:=λe:aU=>txt (e.ps f)) trivial rfl (λ_ _=>rfl) (e3 _ _ gl) (hA2.mono λ_ _ h=>h.ext e3) hvl λH4 v4 d4 e4=>?_
 induction as with
 | nil=>simp at hlen;lia
 | cons e es=>
  exact ef (x:=(e,es)) q ⟨by simpa using hlen,hok⟩ (k1.trans (aR.keep ((e2.trans e3).trans e4))) (s1.ext ((e2.trans e3).trans e4)) d4 rfl
theorem OT{a b:List Pc}(h:a=b):txt a=txt b:=by rw[h]
theorem mq(k:List Nat):txt (kw f k)=dH f k:=by unfold kw;refine ac (u2 ..) ?_;rfl
theorem sN{b:Bool}(hN:5<=N):lz f 1419 [.bool b] (Al.ps f) Al.row (λa=>b=false->a.isOwn=false) N:=by
 intro H src Q s q
 obtain⟨N,rfl⟩:∃ j,N=j+5:=⟨N-5,aG hN rfl⟩
 refine ae rfl rfl rfl (by simp) ?_
 have key:∀ i H1,(i<4\/(i=4/\b=true))->ai [src] H H1->aQ H1 src f->wSs (az True) (CL (N+4)) (yB.body.drop 1) [some (.ref src),some (.bool b),some (.int ((i:Nat):Int)),none,none,none,none,none] H1 (λ_ H=>Q .none H) Q:=λi H1 hi k1 s1=>by
  refine eS (Nat.le_of_ble_eq_true rfl) H1 src _ s1 λH2 v2 c _ k2 s2 p2=>?_
  refine p2.unp λr2 d2=>?_
  have kk:=k1.trans k2
  have hc:=fY c
  have ha:rZ.length=2:=rfl
  have hi5:i=0\/i=1\/i=2\/i=3\/(i=4/\b=true):=by
   rcases hi with h|h
   ·have:i=0\/i=1\/i=2\/i=3:=by lia
    rcases this with h|h|h|h
    ·exact .inl h
    ·exact .inr (.inl h)
    ·exact .inr (.inr (.inl h))
    ·exact .inr (.inr (.inr (.inl h)))
   ·exact .inr (.inr (.inr (.inr h)))
  rcases hi5 with rfl|rfl|rfl|rfl|⟨rfl,hb⟩
  ·refine⟨by(simp only[lA,lC,lN,ag,ah];lia),?_⟩
   exact ef (x:=Al.bare c) q (λ_=>rfl) kk s2 d2 rfl
  ·refine cX s2 (k:=rZ) (asc rfl) (by decide) ?_
   refine⟨by(simp only[lA,lC,lN,ag,ah];lia),?_⟩
   refine⟨by(simp only[lA,lC,lN,ag,ah];lia),?_⟩
   refine⟨by(simp only[lA,lC,lN,ag,ah];lia),?_⟩
   exact ef (x:=Al.as c) q (λ_=>rfl) kk s2 d2 (by show([32]++dH f rZ++[32])++txt [c.p]=txt ([.sp]++kw f rZ++([.sp]++[c.p]));refine ac (aV ..) (ac (aV ..) (ac (aV ..) (ac (mq ..) (ac (List.append_assoc ..) ?_))));rfl)
  ·exact ef (x:=Al.no) q (λ_=>rfl) kk s2 .none rfl
  ·exact ef (x:=Al.no) q (λ_=>rfl) kk s2 .none rfl
  ·refine cX s2 (k:=rZ) (asc rfl) (by decide) ?_
   refine⟨by(simp only[lA,lC,lN,ag,ah];lia),?_⟩
   refine⟨by(simp only[lA,lC,lN,ag,ah];lia),?_⟩
   exact ef (x:=Al.own) q (λz=>by rw[z] at hb;exact Bool.noConfusion hb) kk s2 .str (by show([32]++dH f rZ)++(32::nU)=txt ([.sp]++kw f rZ++[.sp,.qu nU da tB]);refine ac (aV ..) (ac (aV ..) (ac (mq ..) ?_));rfl)
 induction b with
 | true=>exact bG (top:=5) s (by decide) (by decide) λi H1 hi k1 s1=>key i H1 (if h:i<4 then .inl h else .inr ⟨by lia,rfl⟩) k1 s1
 | false=>exact bG (top:=4) s (by decide) (by decide) λi H1 hi k1 s1=>key i H1 (.inl hi) k1 s1
theorem Os{high:Nat}(hN:6<=N)(hsel:0<high->lz f 1462 [.int ((high:Int)-1)] L.ps L.row L.ok N)(hB:L.big<=100000):lz f 1426 [.int (high:Int)] (dC.ps f L) (dC.row L) (dC.ok L) (N+2):=by
 intro H src Q s q
 refine ae rfl rfl rfl (by simp) ?_
 refine bG (top:=6) s (by decide) (by decide) λi H1 hi k1 s1=>?_
 have hi6:i=0\/i=1\/(i=2\/i=3\/i=4\/i=5):=by lia
 rcases hi6 with rfl|rfl|hi6
 ·exact bn (x:=dC.star (L:=L)) q trivial k1 s1 (.cons .str (.cons .none (.cons .none (.cons .none .nil)))) rfl rfl
 ·refine eS (A2 hN rfl) H1 src _ s1 λH2 v2 c _ k2 s2 p2=>?_
  refine p2.unp λr2 d2=>?_
  have hc:=fY c
  refine⟨by(simp only[lA,lC,lN,ag,ah];lia),?_⟩
  exact bn (x:=dC.tst (L:=L) c) q trivial (k1.trans k2) s2 (.cons .str (.cons .none (.cons .none (.cons d2 .nil)))) rfl (by show txt [c.p]++[46,42]=txt ([c.p]++[.sg 46,.sg 42]);refine ac (aV ..) ?_;rfl)
 ·have key:CL (N+1) 1407 [.ref src,.int (high:Int)] H1 (λv H=>jg H v 2 λvs=>wSs (az True) (CL (N+1)) (yA.body.drop 4) (([3,5].zip vs).foldl (λm p=>bT m p.1 p.2) [some (.ref src),some (.int (high:Int)),some (.int ((i:Nat):Int)),none,none,none,none,none,none,none,none]) H (λ_ H=>Q .none H) Q):=by
   refine y4 hN hsel hB H1 src _ s1 λH2 v2 e oe k2 s2 p2=>?_
   refine p2.unp λr2 d2=>?_
   refine sN (b:=true) (A2 hN rfl) H2 src _ s2 λH3 v3 a oa k3 s3 p3=>?_
   refine p3.unp λr3 d3=>?_
   have he:=gU.len f e oe;have ha:=a.len f
   refine⟨by(simp only[lA,lC,lN,ag,ah];lia),?_⟩
   exact bn (x:=dC.ex (L:=L) e a) q oe ((k1.trans k2).trans k3) s3 (.cons .str (.cons (d2.keep s2.mok k3) (.cons d3 (.cons .none .nil)))) rfl (aV _ _).symm
  rcases hi6 with rfl|rfl|rfl|rfl<;>exact key
end
set_option maxHeartbeats 1000000
theorem j4(f:Bool)(k l:List Nat):dH f (k++32::l)=txt (f8 f k l):=by
 unfold f8
 refine ac (nM ..) (ac (nM ..) (ac (u2 ..) ?_))
 induction f<;>simp[dH,Pc.t,gx]
section
variable {α:Type} {H H0:AH} {Q:au} {src N:Nat} {f:Bool} {L:Lv}
theorem mx{r3:AV}{a:Al}{x1:Option AV}(hN:5<=N)(q:∀ H' v a,gj.ok L a->ai [src] H0 H'->aQ H' src f->Pr H' v (txt (gj.ps f L a)) (gj.row L a)->Q v H')(ho:a.isOwn=false)(k:ai [src] H0 H)(s:aQ H src f)(d:bS H r3 a.row) :
 wSs (az True) (CL N) (yz.body.drop 2) [some (.ref src),x1,some (.str (txt (a.ps f))),some r3,none,none,none,none,none,none,none,none,none,none] H (λ_ H=>Q .none H) Q:=by
 have ha:=a.len f
 refine eS (lU hN rfl) H src _ s λH2 v2 c _ k2 s2 p2=>?_
 obtain⟨N,rfl⟩:∃ j,N=j+5:=⟨N-5,aG hN rfl⟩
 refine p2.unp λr2 d2=>?_
 have hc:=fY c
 refine bG (top:=4) s2 (by decide) (by decide) λi H3 hi k3 s3=>?_
 have kk:=(k.trans k2).trans k3
 have d3:=d2.keep s2.mok k3
 have e3:=(d.keep s.mok k2).keep s2.mok k3
 have hi4:i=0\/i=1\/i=2\/i=3:=by lia
 rcases hi4 with rfl|rfl|rfl|rfl
 ·refine eS (Nat.le_of_ble_eq_true rfl) H3 src _ s3 λH4 v4 c4 _ k4 s4 p4=>?_
  refine p4.unp λr4 d4=>?_
  have hc4:=fY c4
  have hk:(txt (f8 f ba eV)).length=10:=by refine ac (i5 ..) ?_;rfl
  refine cX s4 (k:=ba++32::eV) (asc rfl) (by decide) ?_
  refine ac (j4 ..) ?_
  refine⟨by(simp only[lA,lC,lN,ag,ah];lia),?_⟩
  refine⟨by(simp only[lA,lC,lN,ag,ah];lia),?_⟩
  refine⟨by(simp only[lA,lC,lN,ag,ah];lia),?_⟩
  refine⟨by(simp only[lA,lC,lN,ag,ah];lia),?_⟩
  refine⟨by(simp only[lA,lC,lN,ag,ah];lia),?_⟩
  refine cx λb H5 gb e5=>?_
  exact bn (x:=gj.tab (L:=L) c a (.ind c4)) q ho ((kk.trans k4).trans (aR.keep e5)) (s4.ext e5) (.cons .str (.cons ((d3.keep s3.mok k4).ext e5) (.cons ((e3.keep s3.mok k4).ext e5) (.cons (.tup gb (.cons .str (.cons (d4.ext e5) .nil))) .nil)))) rfl
   (by show(txt [c.p]++txt (a.ps f))++(([32]++txt (f8 f ba eV))++[32]++txt [c4.p])=txt ([c.p]++a.ps f++([.sp]++f8 f ba eV++([.sp]++[c4.p])));exact eW (bA (bA bL bL) (bA (bA (bA bL bL) bL) bL)) (tA (tA tL tL) (tA (tA tL tL) (tA tL tL))) rfl)
 ·refine cX s3 (k:=gE++32::ba) (asc rfl) (by decide) ?_
  refine ac (j4 ..) ?_
  have hk:(txt (f8 f gE ba)).length=11:=by refine ac (i5 ..) ?_;rfl
  refine⟨by(simp only[lA,lC,lN,ag,ah];lia),?_⟩
  refine⟨by(simp only[lA,lC,lN,ag,ah];lia),?_⟩
  refine⟨by(simp only[lA,lC,lN,ag,ah];lia),?_⟩
  refine cx λb H5 gb e5=>?_
  exact bn (x:=gj.tab (L:=L) c a .scan) q ho (kk.trans (aR.keep e5)) (s3.ext e5) (.cons .str (.cons (d3.ext e5) (.cons (e3.ext e5) (.cons (.tup gb (.cons .str .nil)) .nil)))) rfl
   (by show(txt [c.p]++txt (a.ps f))++([32]++txt (f8 f gE ba))=txt ([c.p]++a.ps f++([.sp]++f8 f gE ba));exact eW (bA (bA bL bL) (bA bL bL)) (tA (tA tL tL) (tA tL tL)) rfl)
 ·refine⟨by(simp only[lA,lC,lN,ag,ah];lia),?_⟩
  refine⟨by(simp only[lA,lC,lN,ag,ah];lia),?_⟩
  exact bn (x:=gj.tab (L:=L) c a .no) q ho kk s3 (.cons .str (.cons d3 (.cons e3 (.cons .none .nil)))) rfl
   (by show(txt [c.p]++txt (a.ps f))++[]=txt ([c.p]++a.ps f++[]);exact eW (bA (bA bL bL) bL) (tA (tA tL tL) tL) rfl)
 ·refine⟨by(simp only[lA,lC,lN,ag,ah];lia),?_⟩
  refine⟨by(simp only[lA,lC,lN,ag,ah];lia),?_⟩
  exact bn (x:=gj.tab (L:=L) c a .no) q ho kk s3 (.cons .str (.cons d3 (.cons e3 (.cons .none .nil)))) rfl
   (by show(txt [c.p]++txt (a.ps f))++[]=txt ([c.p]++a.ps f++[]);exact eW (bA (bA bL bL) bL) (tA (tA tL tL) tL) rfl)
theorem DA{high:Nat}(hN:6<=N)(hsel:0<high->lz f 1462 [.int ((high:Int)-1)] L.ps L.row L.ok N)(hB:L.big<=100000):lz f 1433 [.int (high:Int)] (gj.ps f L) (gj.row L) (gj.ok L) (N+1):=by
 intro H src Q s q
 refine ae rfl rfl rfl (by simp) ?_
 refine sN (b:=false) (lU hN rfl) H src _ s λH1 v1 a oa k1 s1 p1=>?_
 refine p1.unp λr1 d1=>?_
 have ha:=a.len f
 have oa:=oa rfl
 show(match decide ((high:Int)>0) with|true=>_|false=>_)
 induction hh:decide ((high:Int)>0) with
 | false=>exact mx (lU hN rfl) q oa k1 s1 d1
 | true=>
  have hh:=of_decide_eq_true hh
  obtain⟨N,rfl⟩:∃ j,N=j+1:=⟨N-1,aG hN rfl⟩
  refine bG (top:=3) s1 (by decide) (by decide) λi H2 hi k2 s2=>?_
  have hi3:i=0\/i=1\/i=2:=Mq hi
  rcases hi3 with rfl|rfl|rfl
  ·refine hsel (by lia) H2 src _ s2 λH3 v3 x ox k3 s3 p3=>?_
   refine p3.unp λr3 d3=>?_
   have hx:=L.len x ox
   refine⟨by(simp only[lA,lC,lN,ag,ah];lia),?_⟩
   refine⟨by(simp only[lA,lC,lN,ag,ah];lia),?_⟩
   refine⟨by(simp only[lA,lC,lN,ag,ah];lia),?_⟩
   exact bn (x:=gj.sub (L:=L) x a) q ⟨ox,oa⟩ ((k1.trans k2).trans k3) s3 (.cons .str (.cons d3 (.cons ((d1.keep s1.mok k2).keep s2.mok k3) .nil))) rfl
    (by show(([40]++txt (L.ps x))++[41])++txt (a.ps f)=txt ([.sg 40]++L.ps x++[.sg 41]++a.ps f);exact eW (bA (bA (bA bL bL) bL) bL) (tA (tA (tA tL tL) tL) tL) rfl)
  ·exact mx (lU hN rfl) q oa (k1.trans k2) s2 (d1.keep s1.mok k2)
  ·exact mx (lU hN rfl) q oa (k1.trans k2) s2 (d1.keep s1.mok k2)
noncomputable def JK.t:JK->List Nat
 | .comma=>[44]
 | .join=>cI
 | .inner=>jw++32::cI
 | .cross=>jx++32::cI
 | .left=>i7++32::cI
 | .louter=>i7++32::(jv++32::cI)
theorem JK.key(f:Bool)(k:JK):dH f k.t=txt (k.ps f):=by induction k<;>induction f<;>rfl
theorem JK.asc_(k:JK):bf k.t/\k.t.length<=1000:=by induction k<;>exact⟨asc rfl,Nat.le_of_ble_eq_true rfl⟩
theorem QZ{K:Nat->AH->Prop}(s:aQ H src f)(q:∀ l H',H' l=some (.list [] )->K l H'->K l H'):True:=trivial
theorem CE(hN:3<=N)(s:aQ H src f)(q:∀ H' a (k:JK),ai [src] H H'->aQ H' src f->H' a=some (.tup [.str k.t,.str k.v])->Q (.ref a) H') :
 dm H (.tup [.str JK.comma.t,.str JK.comma.v]) λa1 H=>dm H (.tup [.str JK.join.t,.str JK.join.v]) λa2 H=>dm H (.tup [.str JK.inner.t,.str JK.inner.v]) λa3 H=>dm H (.tup [.str JK.cross.t,.str JK.cross.v]) λa4 H=>
  dm H (.tup [.str JK.left.t,.str JK.left.v]) λa5 H=>dm H (.tup [.str JK.louter.t,.str JK.louter.v]) λa6 H=>dm H (.list [.ref a1,.ref a2,.ref a3,.ref a4,.ref a5,.ref a6]) λl H=>CL N 1386 [.ref src,.ref l] H Q:=by
 obtain⟨N,rfl⟩:∃ j,N=j+3:=⟨N-3,aG hN rfl⟩
 refine cx λa1 H1 h1 e1=>cx λa2 H2 h2 e2=>cx λa3 H3 h3 e3=>cx λa4 H4 h4 e4=>cx λa5 H5 h5 e5=>cx λa6 H6 h6 e6=>?_
 have s6:=(((((s.ext e1).ext e2).ext e3).ext e4).ext e5).ext e6
 refine aw λl hl=>?_
 have e7:=aR.new (o:=.list [.ref a1,.ref a2,.ref a3,.ref a4,.ref a5,.ref a6]) hl
 have hlne:l≠src:=λz=>by
  refine s6.elim λx h1_=>h1_.elim λy h2_=>h2_.elim λ_ h3_=>h3_.elim λ_ h4_=>h4_.elim λ_ h5_=>h5_.elim λ_ g=>?_
  rw[z,g] at hl;exfalso;cases hl
 have s7:=s6.ext e7
 have m:=s7.mok
 refine lS s7 af hlne (by simp) (by simp) λx H' hx k s'=>?_
 have kk:ai [src] H H':=(aR.keep ((((((e1.trans e2).trans e3).trans e4).trans e5).trans e6).trans e7)).trans k
 have fin:∀ (c:JK) (a:Nat),x=.ref a->H6 a=some (.tup [.str c.t,.str c.v])->Q x H':=λc a e g=>by
  subst e
  exact q H' a c kk s' (k _ _ (m.tup (e7 _ _ g)) (e7 _ _ g))
 rcases List.mem_cons.mp hx with rfl|hx
 ·exact fin .comma a1 rfl (e6 _ _ (e5 _ _ (e4 _ _ (e3 _ _ (e2 _ _ h1)))))
 rcases List.mem_cons.mp hx with rfl|hx
 ·exact fin .join a2 rfl (e6 _ _ (e5 _ _ (e4 _ _ (e3 _ _ h2))))
 rcases List.mem_cons.mp hx with rfl|hx
 ·exact fin .inner a3 rfl (e6 _ _ (e5 _ _ (e4 _ _ h3)))
 rcases List.mem_cons.mp hx with rfl|hx
 ·exact fin .cross a4 rfl (e6 _ _ (e5 _ _ h4))
 rcases List.mem_cons.mp hx with rfl|hx
 ·exact fin .left a5 rfl (e6 _ _ h5)
 ·obtain rfl:=List.mem_singleton.mp hx
  exact fin .louter a6 rfl h6
theorem uC{H:AH} : ∀ {l:List c9},l.map (λc:c9=>DT.str c.v)=(l.map c9.v).map DT.str:=by
 intro z_
 induction z_ with
 | nil=>
  exact rfl
 | cons _ r ihz=>
  simp[ihz]
theorem kM{x1 x4 x5 x7 x11 x12 x13:Option AV}{r3 r8 r9 r10:AV}{a b:gj L}{k:JK}{o:On}(q:∀ H' v x,b9.ok L x->ai [src] H0 H'->aQ H' src f->Pr H' v (txt (b9.ps f L x)) (b9.row L x)->Q v H')(oa:a.ok)(ob:b.ok)(oo:o.ok)(kk:ai [src] H0 H)(s:aQ H src f)
 (d3:bS H r3 a.row) (d8:bS H r8 b.row) (d9:bS H r9 o.on_) (d10:bS H r10 (.tup (o.us_.map DT.str))) {C:CS} {t:List Nat} (ht:t=txt (b9.ps f L ⟨a,some (k,b,o)⟩)) :
 wSs (az True) C [.set 3 (.tup [.val (.str jN),.tup [.loc 6,.loc 3,.loc 8],.loc 9,.loc 10])] [some (.ref src),x1,some (.str t),some r3,x4,x5,some (.str k.v),x7,some r8,some r9,some r10,x11,x12,x13,none,none,none] H
  (λm H=>wSs (az True) C [.ret (.tup [.loc 2,.loc 3])] m H (λ_ H=>Q .none H) Q) Q:=by
 refine cx λu H1 gu e1=>cx λw H2 gw e2=>?_
 have e:=e1.trans e2
 refine ef (x:=(⟨a,some (k,b,o)⟩:b9 L)) q ⟨oa,ob,oo⟩ (kk.trans (aR.keep e)) (s.ext e) ?_ ht
 exact .tup gw (.cons .str (.cons (.tup (e2 _ _ gu) (.cons .str (.cons (d3.ext e) (.cons (d8.ext e) .nil)))) (.cons (d9.ext e) (.cons (d10.ext e) .nil))))
noncomputable def CZ:IS->List IS
 | .forR _ _ b=>b
 | _=>[]
theorem CM{x1 x4 x5 x7:Option AV}{z:Nat}{r3 r8:AV}{a b:gj L}{k:JK}{i:Nat}(hi:i<3)(hN:7<=N)(hB:L.big<=100000)(q:∀ H' v x,b9.ok L x->ai [src] H0 H'->aQ H' src f->Pr H' v (txt (b9.ps f L x)) (b9.row L x)->Q v H')(oa:a.ok)(ob:b.ok)(kk7:ai [src] H0 H)(s7:aQ H src f)
 (d7:bS H r3 a.row) (d74:bS H r8 b.row) (nil10:bS H (.ref z) (.tup ([].map DT.str))) :
 wSs (az True) (CL N) ((CZ (yy.body.getD 1 .bad)).drop 3) [some (.ref src),x1,some (.str (((((txt (a.ps f)++[32])++txt (k.ps f))++[32])++txt (b.ps f)))),some r3,x4,x5,some (.str k.v),x7,some r8,some .none,some (.ref z),some (.int ((i:Nat):Int)),none,none,none,none,none] H
  (λm H=>wSs (az True) (CL N) [.ret (.tup [.loc 2,.loc 3])] m H (λ_ H=>Q .none H) Q) Q:=by
 have ha:=a.len f oa
 have hb:=b.len f ob
 have hk:=k.len f
 obtain⟨N,rfl⟩:∃ j,N=j+1:=⟨N-1,aG hN rfl⟩
 have hi3:i=0\/i=1\/i=2:=Mq hi
 rcases hi3 with rfl|rfl|rfl
 ·refine fb (hN) H src _ s7 λH8 v8 x ox k8 s8 p8=>?_
  refine p8.unp λr8 d8=>?_
  have hx:=x.len f
  have ho:A3.length=2:=rfl
  refine⟨by(simp only[lA,lC,lN,ag,ah];lia),?_⟩
  refine cX s8 (k:=A3) (asc rfl) (by decide) ?_
  refine⟨by(simp only[lA,lC,lN,ag,ah];lia),?_⟩
  refine⟨by(simp only[lA,lC,lN,ag,ah];lia),?_⟩
  refine⟨by(simp only[lA,lC,lN,ag,ah];lia),?_⟩
  refine kM (k:=k) (o:=.on x) q oa ob ox (kk7.trans k8) s8 (d7.keep s7.mok k8) (d74.keep s7.mok k8) d8 (nil10.keep s7.mok k8) ?_
  show((((((txt (a.ps f)++[32])++txt (k.ps f))++[32])++txt (b.ps f))++[32])++dH f A3++[32])++txt (x.ps f)=txt (a.ps f++([.sp]++k.ps f++[.sp]++b.ps f++([.sp]++kw f A3++[.sp]++x.ps f)))
  exact eW (bA (bA (bA (bA (bA (bA (bA (bA bL bL) bL) bL) bL) bL) bL) bL) bL) (tA tL (tA (tA (tA (tA tL tL) tL) tL) (tA (tA (tA tL tK) tL) tL))) rfl
 ·refine⟨trivial,?_⟩
  refine bG (top:=2) s7 (by decide) (by decide) λmm H8 hm k8 s8=>?_
  refine⟨⟨by show(0:Int)<=1+(mm:Int);exact Int.natCast_nonneg _,by show 1+(mm:Int)<=100;lia⟩,?_⟩
  have e1:(1+(mm:Int)).toNat=mm+1:=by lia
  show eJ _ _ (cnt (1+(mm:Int)).toNat) _ _ _
  refine ac e1 ?_
  refine sz (src:=src) (f:=f) (λ_:c9=>True) (λH v c=>Pr H v (txt [c.p]) (.str c.v)) (λm k h=>h.keep m k) (λh=>h.ne) (λx H K s q=>eS (lU hN rfl) H src _ s q) (cnt (mm+1)) H8 [] [] (by simp[cnt];lia) s8 .nil (λ_ z=>nomatch z) λH9 vs as hlen k9 s9 hA hok=>?_
  have hlen:as.length=mm+1:=by simpa [cnt] using hlen
  refine f7 λl H10 gl e10=>?_
  have hA2:=hA.mono (W:=λv (c:c9)=>Pr H10 v (txt [c.p]) (.str c.v)) λ_ _ h=>h.ext e10
  have hvl:vs.length<=100:=by refine hA.len.symm ▸ ?_;lia
  have hU:dI.length=5:=rfl
  refine⟨by(simp only[lA,lC,lN,ag,ah];lia),?_⟩
  refine cX (s9.ext e10) (k:=dI) (asc rfl) (by decide) ?_
  refine⟨by(simp only[lA,lC,lN,ag,ah];lia),?_⟩
  refine⟨by(simp only[lA,lC,lN,ag,ah];lia),?_⟩
  refine cu (by decide) (by decide) ?_
  refine jC (tx:=λc:c9=>txt [c.p]) trivial rfl (λ_ _=>rfl) gl hA2 hvl λH11 l11 g11 e11=>?_
  have ej:List.intercalate [44,32] (as.map λc:c9=>txt [c.p])=txt (comma (as.map λc=>[c.p])):=by refine ac (ei ..).symm (ac (List.map_map ..) ?_);rfl
  have hjl:(txt (comma (as.map λc:c9=>[c.p]))).length<=16:=by
   have:=jD (B:=6) (as.map λc:c9=>[c.p]) (λx hx=>by obtain⟨c,_,rfl⟩:=List.mem_map.mp hx;exact fY c)
   rw[List.length_map] at this
   lia
  refine ji (l:=as.map λc:c9=>txt [c.p]) g11 (by decide) (by refine ac ej ?_;unfold ah;exact iX hjl rfl) ?_
  refine ac ej ?_
  refine⟨by(simp only[lA,lC,lN,ag,ah];lia),?_⟩
  refine⟨by(simp only[lA,lC,lN,ag,ah];lia),?_⟩
  refine fK (tx:=λc:c9=>txt [c.p]) (rw_:=λc:c9=>DT.str c.v) trivial rfl (λ_ _=>rfl) (e11 _ _ gl) (hA2.mono λ_ _ h=>h.ext e11) hvl λH12 v12 d12 e12=>?_
  have ee:=(e10.trans e11).trans e12
  induction as with
  | nil=>simp at hlen
  | cons c cs=>
   have kx:ai [src] H H12:=(k8.trans k9).trans (aR.keep ee)
   refine kM (k:=k) (o:=.us c cs) q oa ob (by show cs.length<=1;simp at hlen;lia) (kk7.trans kx) (s9.ext ee) (d7.keep s7.mok kx) (d74.keep s7.mok kx) .none (by refine(uC (H:=H)) ▸ ?_;exact d12) ?_
   show(((((((txt (a.ps f)++[32])++txt (k.ps f))++[32])++txt (b.ps f))++[32])++dH f dI++[32,40])++txt (comma ((c::cs).map λc=>[c.p])))++[41]=txt (a.ps f++([.sp]++k.ps f++[.sp]++b.ps f++([.sp]++kw f dI++[.sp,.sg 40]++comma ((c::cs).map λc=>[c.p])++[.sg 41])))
   simp only[aV,mq,List.append_assoc];rfl
 ·refine kM (k:=k) (o:=.no) q oa ob trivial kk7 s7 d7 d74 .none nil10 ?_
  show((((txt (a.ps f)++[32])++txt (k.ps f))++[32])++txt (b.ps f))=txt (a.ps f++([.sp]++k.ps f++[.sp]++b.ps f++[]))
  exact eW (bA (bA (bA (bA bL bL) bL) bL) bL) (tA tL (tA (tA (tA (tA tL tL) tL) tL) tL)) rfl
theorem HH{high:Nat}(hN:6<=N)(hsel:0<high->lz f 1462 [.int ((high:Int)-1)] L.ps L.row L.ok N)(hB:L.big<=100000):lz f 1438 [.int (high:Int)] (b9.ps f L) (b9.row L) (b9.ok L) (N+2):=by
 intro H src Q s q
 refine ae rfl rfl rfl (by simp) ?_
 refine DA hN hsel hB H src _ s λH1 v1 a oa k1 s1 p1=>?_
 refine p1.unp λr1 d1=>?_
 have ha:=a.len f oa
 refine⟨trivial,?_⟩
 refine bG (top:=2) s1 (by decide) (by decide) λn H2 hn k2 s2=>?_
 have hn2:n=0\/n=1:=KJ hn
 have d2:=d1.keep s1.mok k2
 have kk2:=k1.trans k2
 rcases hn2 with rfl|rfl
 ·refine⟨⟨by decide,by decide⟩,?_⟩
  exact ef (x:=(⟨a,none⟩:b9 L)) q ⟨oa,trivial⟩ kk2 s2 d2 (by show txt (a.ps f)=txt (a.ps f++[]);exact ac (List.append_nil ..) rfl)
 ·refine⟨⟨by decide,by decide⟩,?_⟩
  refine CE (A2 hN rfl) s2 λH3 u k k3 s3 gu=>?_
  refine ev gu rfl ?_
  refine DA hN hsel hB H3 src _ s3 λH4 v4 b ob k4 s4 p4=>?_
  refine p4.unp λr4 d4=>?_
  have hb:=b.len f ob
  have hk:=k.len f
  refine⟨by(simp only[lA,lC,lN,ag,ah];lia),?_⟩
  refine cX s4 (k:=k.t) k.asc_.1 k.asc_.2 ?_
  refine ac (k.key ..) ?_
  refine⟨by(simp only[lA,lC,lN,ag,ah];lia),?_⟩
  refine⟨by(simp only[lA,lC,lN,ag,ah];lia),?_⟩
  refine⟨by(simp only[lA,lC,lN,ag,ah];lia),?_⟩
  refine cx λz H5 gz e5=>?_
  refine bG (top:=3) (s4.ext e5) (by decide) (by decide) λi H6 hi k6 s6=>?_
  refine cx λy H7 gy e7=>?_
  refine ev gy rfl ?_
  have s7:=s6.ext e7
  have k57:ai [src] H4 H7:=(aR.keep e5).trans (k6.trans (aR.keep e7))
  have d7:=((d2.keep s2.mok k3).keep s3.mok k4).keep s4.mok k57
  have d74:=d4.keep s4.mok k57
  have kk7:ai [src] H H7:=(((kk2.trans k3).trans k4).trans k57)
  have gz7:H7 z=some (.tup []):=e7 _ _ (k6 _ _ ((s4.ext e5).mok.tup gz) gz)
  have nil10:bS H7 (.ref z) (.tup ([].map DT.str)):=.tup gz7 .nil
  exact CM (i:=i) hi (A2 hN rfl) hB q oa ob kk7 s7 d7 d74 nil10
end
noncomputable def Tr(H:AH)(v:AV)(t:List Nat)(d1 d2:DT):Prop:=∃ a r1 r2,v=.ref a/\H a=some (.tup [.str t,r1,r2])/\bS H r1 d1/\bS H r2 d2
section
variable {α:Type} {H H0:AH} {Q:au} {src N:Nat} {f:Bool} {L:Lv}
theorem mr{x:ke}{t:List Nat}{r1 r2:AV}(q:∀ H' v (x:ke),x.ok->ai [src] H0 H'->aQ H' src f->Tr H' v (txt (x.ps f)) x.r1 x.r2->Q v H')(ox:x.ok)(k:ai [src] H0 H)(s:aQ H src f)(h1:bS H r1 x.r1)(h2:bS H r2 x.r2)(ht:t=txt (x.ps f)) :
 dm H (.tup [.str t,r1,r2]) λb H=>Q (.ref b) H:=
 cx λb H' g e=>q _ _ x ox (k.trans (aR.keep e)) (s.ext e) ⟨b,r1,r2,rfl,by refine ht ▸ ?_;exact g,h1.ext e,h2.ext e⟩
theorem yd(hN:8<=N)(s:aQ H src f)(q:∀ H' v (x:ke),x.ok->ai [src] H H'->aQ H' src f->Tr H' v (txt (x.ps f)) x.r1 x.r2->Q v H'):CL N 1455 [.ref src] H Q:=by
 obtain⟨N,rfl⟩:∃ j,N=j+2:=⟨N-2,aG hN rfl⟩
 refine ae rfl rfl rfl (by simp) ?_
 refine bG (top:=5) s (by decide) (by decide) λi H1 hi k1 s1=>?_
 have hl:bh.length=5:=rfl
 have ho:dT.length=6:=rfl
 have hi5:(i=3\/i=4)\/(i=0\/i=1\/i=2):=by lia
 rcases hi5 with hi5|hi5
 ·rcases hi5 with rfl|rfl<;>exact mr (x:=.no) q trivial k1 s1 .none .none rfl
 ·have key:CL (N+1) 1407 [.ref src,.int 0] H1 (λv H=>jg H v 2 λvs=>wSs (az True) (CL (N+1)) (yx.body.drop 3) (([2,3].zip vs).foldl (λm p=>bT m p.1 p.2) [some (.ref src),some (.int ((i:Nat):Int)),none,none,none,none,none,none,none,none]) H (λ_ H=>Q .none H) Q):=by
   refine fb (Iu hN rfl) H1 src _ s1 λH2 v2 a oa k2 s2 p2=>?_
   refine p2.unp λr2 d2=>?_
   have ha:=a.len f
   have kk:=k1.trans k2
   rcases hi5 with rfl|rfl|rfl
   ·refine cX s2 (k:=bh) (asc rfl) (by decide) ?_
    refine⟨by(simp only[lA,lC,lN,ag,ah];lia),?_⟩
    refine⟨by(simp only[lA,lC,lN,ag,ah];lia),?_⟩
    refine⟨by(simp only[lA,lC,lN,ag,ah];lia),?_⟩
    exact mr (x:=.l a) q oa kk s2 d2 .none (by show(([32]++dH f bh)++[32])++txt (a.ps f)=txt ([.sp]++kw f bh++[.sp]++a.ps f);exact eW (bA (bA (bA bL bL) bL) bL) (tA (tA (tA tL tK) tL) tL) rfl)
   ·refine fb (Iu hN rfl) H2 src _ s2 λH3 v3 b ob k3 s3 p3=>?_
    refine p3.unp λr3 d3=>?_
    have hb:=b.len f
    refine cX s3 (k:=dT) (asc rfl) (by decide) ?_
    refine⟨by(simp only[lA,lC,lN,ag,ah];lia),?_⟩
    refine⟨by(simp only[lA,lC,lN,ag,ah];lia),?_⟩
    refine⟨by(simp only[lA,lC,lN,ag,ah];lia),?_⟩
    refine cX s3 (k:=bh) (asc rfl) (by decide) ?_
    refine⟨by(simp only[lA,lC,lN,ag,ah];lia),?_⟩
    refine⟨by(simp only[lA,lC,lN,ag,ah];lia),?_⟩
    refine⟨by(simp only[lA,lC,lN,ag,ah];lia),?_⟩
    refine⟨by(simp only[lA,lC,lN,ag,ah];lia),?_⟩
    exact mr (x:=.lo a b) q ⟨oa,ob⟩ (kk.trans k3) s3 (d2.keep s2.mok k3) d3 (by show((([32]++dH f bh)++[32])++txt (a.ps f))++(([32]++dH f dT)++[32]++txt (b.ps f))=txt ([.sp]++kw f bh++[.sp]++a.ps f++[.sp]++kw f dT++[.sp]++b.ps f);exact eW (bA (bA (bA (bA bL bL) bL) bL) (bA (bA (bA bL bL) bL) bL)) (tA (tA (tA (tA (tA (tA (tA tL tK) tL) tL) tL) tK) tL) tL) rfl)
   ·refine fb (Iu hN rfl) H2 src _ s2 λH3 v3 b ob k3 s3 p3=>?_
    refine p3.unp λr3 d3=>?_
    have hb:=b.len f
    refine cX s3 (k:=bh) (asc rfl) (by decide) ?_
    refine⟨by(simp only[lA,lC,lN,ag,ah];lia),?_⟩
    refine⟨by(simp only[lA,lC,lN,ag,ah];lia),?_⟩
    refine⟨by(simp only[lA,lC,lN,ag,ah];lia),?_⟩
    refine⟨by(simp only[lA,lC,lN,ag,ah];lia),?_⟩
    refine⟨by(simp only[lA,lC,lN,ag,ah];lia),?_⟩
    exact mr (x:=.lc a b) q ⟨oa,ob⟩ (kk.trans k3) s3 (d2.keep s2.mok k3) d3 (by show(((([32]++dH f bh)++[32])++txt (b.ps f))++[44,32])++txt (a.ps f)=txt ([.sp]++kw f bh++[.sp]++b.ps f++[.sg 44,.sp]++a.ps f);exact eW (bA (bA (bA (bA (bA bL bL) bL) bL) bL) bL) (tA (tA (tA (tA (tA tL tK) tL) tL) tL) tL) rfl)
  rcases hi5 with rfl|rfl|rfl<;>exact key
theorem kB(x:aU×List aU)(h:x.2.length<=1):(txt (comma ((x.1::x.2).map (aU.ps f)))).length<=64:=j6 f (x.1::x.2) (by simp;exact h)
theorem KR:∀ {l:List (aU×List aU)},l.map (λy=>DT.tup (cL y))=l.map (λy=>DT.tup ((y.1::y.2).map aU.row)):=rfl
theorem Ht(hN:10<=N):lz f 1448 [] (gX.ps f) gX.row gX.ok N:=by
 intro H src Q s q
 obtain⟨N,rfl⟩:∃ j,N=j+2:=⟨N-2,aG hN rfl⟩
 refine ae rfl rfl rfl (by simp) ?_
 refine bG (top:=2) s (by decide) (by decide) λa H1 ha k1 s1=>?_
 refine⟨trivial,?_⟩
 refine bG (top:=2) s1 (by decide) (by decide) λmm H2 hm k2 s2=>?_
 refine⟨⟨by show(0:Int)<=1+(mm:Int);exact Int.natCast_nonneg _,by show 1+(mm:Int)<=100;lia⟩,?_⟩
 have e1:(1+(mm:Int)).toNat=mm+1:=by lia
 refine e1.symm ▸ ?_
 refine sz (src:=src) (f:=f) (λx:aU×List aU=>x.2.length+1=a+1/\∀ y∈x.1::x.2,y.ok) (λH v x=>Pr H v (txt (comma ((x.1::x.2).map (aU.ps f)))) (.tup ((x.1::x.2).map aU.row))) (λm k h=>h.keep m k) (λh=>h.ne)
  (λx H K s q=>?_) (cnt (mm+1)) H2 [] [] (by simp[cnt];lia) s2 .nil (λ_ z=>nomatch z) λH3 vs as hlen k3 s3 hA hok=>?_
 ·show CL (N+1) 1412 [.ref src,.int (1+(a:Int))] H _
  refine(show(1+(a:Int))=((a+1:Nat):Int) from by lia).symm ▸ ?_
  exact sw (many:=a+1) ⟨Nat.succ_pos _,ha⟩ (Iu hN rfl) H src _ s q
 ·have hlen:as.length=mm+1:=by simpa [cnt] using hlen
  refine f7 λl H4 gl e4=>?_
  have hA2:=hA.mono (W:=λv (x:aU×List aU)=>Pr H4 v (txt (comma ((x.1::x.2).map (aU.ps f)))) (.tup ((x.1::x.2).map aU.row))) λ_ _ h=>h.ext e4
  have hvl:vs.length<=100:=by refine hA.len.symm ▸ ?_;lia
  have hV:bM.length=6:=rfl
  have hA3:dh (λv (x:aU×List aU)=>Pr H4 v (txt (comma ((x.1::x.2).map (aU.ps f)))) (.tup ((x.1::x.2).map aU.row))/\x.2.length<=1) vs as:=by
   have:∀ {vs as},dh (λv (x:aU×List aU)=>Pr H4 v (txt (comma ((x.1::x.2).map (aU.ps f)))) (.tup ((x.1::x.2).map aU.row))) vs as->(∀ x∈as,x.2.length<=1)->dh (λv (x:aU×List aU)=>Pr H4 v (txt (comma ((x.1::x.2).map (aU.ps f)))) (.tup ((x.1::x.2).map aU.row))/\x.2.length<=1) vs as:=by
    intro vs as h
    induction h with
    | nil=>intro _;exact .nil
    | cons h r ih=>intro g;exact .cons ⟨h,g _ (.head _)⟩ (ih λx hx=>g x (.tail _ hx))
   exact this hA2 λx hx=>by have:=(hok x hx).1;lia
  refine cX (s3.ext e4) (k:=bM) (asc rfl) (by decide) ?_
  refine⟨by(simp only[lA,lC,lN,ag,ah];lia),?_⟩
  refine cu (by decide) (by decide) ?_
  refine⟨trivial,?_⟩
  refine fC gl (by unfold ah;exact iX hvl rfl) ?_
  refine p6 (V:=λv (x:aU×List aU)=>Pr H4 v (txt (comma ((x.1::x.2).map (aU.ps f)))) (.tup ((x.1::x.2).map aU.row))/\x.2.length<=1) (W:=λy x=>y=.str (txt (ed f x))) gl (λx y K hp q=>?_) vs as [] [] (by simpa using hvl) hA3 .nil λys hy=>?_
  ·refine hp.1.unp λr d=>?_
   have:=kB (f:=f) y hp.2
   refine⟨by(simp only[lA,lC,lN,ag,ah];lia),?_⟩
   refine⟨by(simp only[lA,lC,lN,ag,ah];lia),?_⟩
   refine q _ (λz=>nomatch z) ?_
   show AV.str (([40]++txt (comma ((y.1::y.2).map (aU.ps f))))++[41])=.str (txt ([.sg 40]++comma ((y.1::y.2).map (aU.ps f))++[.sg 41]))
   simp only[aV];rfl
  ·have e1:=pw (t:=λx=>txt (ed f x)) hy
   subst e1
   refine f7 λl' H5 g5 e5=>?_
   have ej:List.intercalate [44,32] (as.map λx=>txt (ed f x))=txt (comma (as.map (ed f))):=by refine ac (ei ..).symm (ac (List.map_map ..) ?_);rfl
   have hjl:(txt (comma (as.map (ed f)))).length<=140:=by
    have:=jD (B:=66) (as.map (ed f)) (λy hy=>by
     refine a7 λGg fin_=>?_
     refine cG (List.mem_map.mp hy) λx hx eq1_=>?_
     subst eq1_
     have:=kB (f:=f) x (by have:=(hok x hx).1;lia)
     refine fin_ ?_
     unfold ed
     rw[hZ,hZ,eD,eD,ki,vo,vo];lia)
    rw[List.length_map] at this
    lia
   refine ji (l:=as.map λx=>txt (ed f x)) g5 (by decide) (by show(List.intercalate [44,32] (as.map λx=>txt (ed f x))).length<=ah;refine ej.symm ▸ ?_;unfold ah;exact iX hjl rfl) ?_
   refine ej.symm ▸ ?_
   refine⟨by(simp only[lA,lC,lN,ag,ah];lia),?_⟩
   refine fK (tx:=λx:aU×List aU=>txt (comma ((x.1::x.2).map (aU.ps f)))) (rw_:=λx=>.tup ((x.1::x.2).map aU.row)) trivial rfl (λ_ _=>rfl) (e5 _ _ gl) (hA2.mono λ_ _ h=>h.ext e5) hvl λH6 v6 d6 e6=>?_
   have ee:=(e4.trans e5).trans e6
   induction as with
   | nil=>simp at hlen
   | cons x xs=>
    refine bn (x:=(⟨x,xs⟩:gX)) q ⟨by simp at hlen;show xs.length<=1;lia,?_,?_,λy hy=>(hok y hy).2⟩ (((k1.trans k2).trans k3).trans (aR.keep ee)) (s3.ext ee) (.cons .str (.cons d6 .nil)) rfl ?_
    ·have:=(hok x (.head _)).1;show x.2.length<=1;lia
    ·intro y hy
     have h1:=(hok x (.head _)).1
     have h2:=(hok y (.tail _ hy)).1
     show y.2.length=x.2.length
     lia
    ·simp only[aV,mq,List.append_assoc];rfl
end
noncomputable def Wd.t:Wd->List Nat
 | .no=>[]
 | .dist=>be++[32]
 | .all=>fT++[32]
theorem Wd.key(f:Bool)(w:Wd):dH f (aW++[32]++w.t)=txt (kw f aW++[.sp]++w.ps f):=by induction w<;>induction f<;>rfl
theorem Wd.asc_(w:Wd):bf (aW++[32]++w.t)/\(aW++[32]++w.t).length<=1000:=by induction w<;>exact⟨asc rfl,Nat.le_of_ble_eq_true rfl⟩
theorem Wd.eq_(w:Wd):decide (w.t=[68,73,83,84,73,78,67,84,32])=w.is:=by induction w<;>rfl
section
variable {α:Type} {H H0:AH} {Q:au} {src N:Nat} {f:Bool} {L:Lv}
structure CF(f:Bool)(L:Lv)(src:Nat)(H:AH)(l:Nat)(vs:List AV)(cols:List (dC L)):Prop where
 gl:H l=some (.list vs)
 ne:l≠src
 hA:dh (λv c=>Pr H v (txt (dC.ps f L c)) (dC.row L c)) vs cols
 hl:vs.length<=100
theorem CF.keep{H':AH}{l:Nat}{vs:List AV}{cols:List (dC L)}(c:CF f L src H l vs cols)(m:bW [src] H)(k:ai [src] H H'):CF f L src H' l vs cols:=
 ⟨k _ _ (lT c.ne) c.gl,c.ne,c.hA.mono λ_ _ h=>h.keep m k,c.hl⟩
theorem qZ{C:CS}{x1 x9:Option AV}{l:Nat}{vs:List AV}{x:fH L}{t:List Nat}{r5 r6 r7 r8:AV}(q:∀ H' v (x:fH L),x.ok->ai [src] H0 H'->aQ H' src f->Pr H' v (txt (x.ps f)) x.row->Q v H')(ox:x.ok)(k:ai [src] H0 H)(s:aQ H src f)
 (c:CF f L src H l vs (x.c::x.cs)) (d5:bS H r5 (dN (b9.row L) x.src)) (d6:bS H r6 (dN aU.row x.whr)) (d7:bS H r7 (.tup (mZ x.grp))) (d8:bS H r8 (mY x.grp)) (ht:t=txt (x.ps f)) :
 wSs (az True) C (fU.body.drop 7) [some (.ref src),x1,some (.ref l),some (.str x.w.t),some (.str t),some r5,some r6,some r7,some r8,x9,none,none,none,none] H (λ_ H=>Q .none H) Q:=by
 refine fK (tx:=λc:dC L=>txt (c.ps f)) (rw_:=λc:dC L=>c.row) trivial rfl (λ_ _=>rfl) c.gl c.hA c.hl λH1 v1 d1 e1=>?_
 refine cx λa H2 ga e2=>?_
 rw[Wd.eq_] at ga
 have ee:=e1.trans e2
 exact bn (x:=x) q ox (k.trans (aR.keep ee)) (s.ext ee) (.cons .str (.cons (.tup ga (.cons (d1.ext e2) (.cons .bool (.cons (d5.ext ee) .nil)))) (.cons (d6.ext ee) (.cons (d7.ext ee) (.cons (d8.ext ee) .nil))))) rfl ht
noncomputable def eA(f:Bool)(L:Lv)(c:List (dC L))(w:Wd):List Pc:=kw f aW++[.sp]++w.ps f++comma (c.map (dC.ps f L))
theorem zh{x1 x9:Option AV}{l:Nat}{vs:List AV}{c:dC L}{cs:List (dC L)}{w:Wd}{sr:Option (b9 L)}{wh:Option aU}{t:List Nat}{r5 r6:AV}{z:Nat}(hN:9<=N)(q:∀ H' v (x:fH L),x.ok->ai [src] H0 H'->aQ H' src f->Pr H' v (txt (x.ps f)) x.row->Q v H')
 (o1:cs.length<=1) (o2:∀ y∈c::cs,y.ok) (o3:∀ s,sr=some s->s.ok) (o4:∀ e,wh=some e->e.ok) (k:ai [src] H0 H) (s:aQ H src f) (cf:CF f L src H l vs (c::cs)) (d5:bS H r5 (dN (b9.row L) sr)) (d6:bS H r6 (dN aU.row wh)) (gz:H z=some (.tup []))
 (ht:t=txt (eA f L (c::cs) w++cK f L sr++cH f wh)) (hl:t.length<=900000) :
 wSs (az True) (CL N) (fU.body.drop 6) [some (.ref src),x1,some (.ref l),some (.str w.t),some (.str t),some r5,some r6,some (.ref z),some .none,x9,none,none,none,none] H (λ_ H=>Q .none H) Q:=by
 obtain⟨N,rfl⟩:∃ j,N=j+2:=⟨N-2,aG hN rfl⟩
 have hG:(txt (f8 f b0 eV)).length=8:=by refine ac (i5 ..) ?_;rfl
 have hH:cJ.length=6:=rfl
 refine bG (top:=3) s (by decide) (by decide) λi H1 hi k1 s1=>?_
 have hi3:i=0\/i=1\/i=2:=Mq hi
 have nog:wSs (az True) (CL (N+2)) (fU.body.drop 7) [some (.ref src),x1,some (.ref l),some (.str w.t),some (.str t),some r5,some r6,some (.ref z),some .none,x9,none,none,none,none] H1 (λ_ H=>Q .none H) Q:=
  qZ (x:=⟨c,cs,w,sr,wh,none⟩) q ⟨o1,o2,o3,o4,λ_ _ _ z=>nomatch z⟩ (k.trans k1) s1 (cf.keep s.mok k1) (d5.keep s.mok k1) (d6.keep s.mok k1) (.tup (k1 _ _ (s.mok.tup gz) gz) .nil) .none (by refine ac ht ?_;show _=txt (eA f L (c::cs) w++cK f L sr++cH f wh++[]);exact ac (List.append_nil ..) rfl)
 rcases hi3 with rfl|rfl|rfl
 ·refine bG (top:=2) s1 (by decide) (by decide) λmm H2 hm k2 s2=>?_
  show CL (N+2) 1412 [.ref src,.int (1+(mm:Int))] H2 _
  refine ac (show(1+(mm:Int))=((mm+1:Nat):Int) from by lia) ?_
  refine sw (many:=mm+1) ⟨Nat.succ_pos _,hm⟩ (lU hN rfl) H2 src _ s2 λH3 v3 es oes k3 s3 p3=>?_
  refine p3.unp λr3 d3=>?_
  obtain⟨e,es⟩:=es
  have oes1:es.length<=1:=by have h:=oes.1;simp at h;lia
  have hes:(txt (comma ((e::es).map (aU.ps f)))).length<=64:=kB (f:=f) (e,es) oes1
  refine⟨by(simp only[lA,lC,lN,ag,ah];lia),?_⟩
  refine cX s3 (k:=b0++32::eV) (asc rfl) (by decide) ?_
  refine ac (j4 ..) ?_
  refine⟨by(simp only[lA,lC,lN,ag,ah];lia),?_⟩
  refine⟨by(simp only[lA,lC,lN,ag,ah];lia),?_⟩
  refine⟨by(simp only[lA,lC,lN,ag,ah];lia),?_⟩
  refine bG (top:=2) s3 (by decide) (by decide) λhh H4 hh2 k4 s4=>?_
  have k14:ai [src] H H4:=((k1.trans k2).trans k3).trans k4
  have hhh:hh=0\/hh=1:=KJ hh2
  rcases hhh with rfl|rfl
  ·refine fb (lU hN rfl) H4 src _ s4 λH5 v5 y oy k5 s5 p5=>?_
   refine p5.unp λr5' d5'=>?_
   have hy:=y.len f
   refine⟨by(simp only[lA,lC,lN,ag,ah];lia),?_⟩
   refine cX s5 (k:=cJ) (asc rfl) (by decide) ?_
   refine⟨by(simp only[lA,lC,lN,ag,ah];lia),?_⟩
   refine⟨by(simp only[lA,lC,lN,ag,ah];lia),?_⟩
   refine⟨by(simp only[lA,lC,lN,ag,ah];lia),?_⟩
   have k15:=k14.trans k5
   exact qZ (x:=⟨c,cs,w,sr,wh,some (e,es,some y)⟩) q ⟨o1,o2,o3,o4,DC ⟨oes1,oes.2,vm oy⟩⟩ (k.trans k15) s5 (cf.keep s.mok k15) (d5.keep s.mok k15) (d6.keep s.mok k15) ((d3.keep s3.mok k4).keep s4.mok k5) d5'
    (by refine ac ht ?_;show((((((txt (eA f L (c::cs) w++cK f L sr++cH f wh)++[32])++txt (f8 f b0 eV))++[32])++txt (comma ((e::es).map (aU.ps f))))++[32])++dH f cJ++[32])++txt (y.ps f)=txt (eA f L (c::cs) w++cK f L sr++cH f wh++([.sp]++f8 f b0 eV++[.sp]++comma ((e::es).map (aU.ps f))++([.sp]++kw f cJ++[.sp]++y.ps f)));exact eW (bA (bA (bA (bA (bA (bA (bA (bA bL bL) bL) bL) bL) bL) bL) bL) bL) (tA tL (tA (tA (tA (tA tL tL) tL) tL) (tA (tA (tA tL tK) tL) tL))) rfl)
  ·exact qZ (x:=⟨c,cs,w,sr,wh,some (e,es,none)⟩) q ⟨o1,o2,o3,o4,DC ⟨oes1,oes.2,λ_ z=>nomatch z⟩⟩ (k.trans k14) s4 (cf.keep s.mok k14) (d5.keep s.mok k14) (d6.keep s.mok k14) (d3.keep s3.mok k4) .none
    (by refine ac ht ?_;show((((txt (eA f L (c::cs) w++cK f L sr++cH f wh)++[32])++txt (f8 f b0 eV))++[32])++txt (comma ((e::es).map (aU.ps f))))=txt (eA f L (c::cs) w++cK f L sr++cH f wh++([.sp]++f8 f b0 eV++[.sp]++comma ((e::es).map (aU.ps f))++[]));exact eW (bA (bA (bA (bA bL bL) bL) bL) bL) (tA tL (tA (tA (tA (tA tL tL) tL) tL) tL)) rfl)
 ·exact nog
 ·exact nog
theorem zi{x1 x9:Option AV}{l:Nat}{vs:List AV}{c:dC L}{cs:List (dC L)}{w:Wd}{sr:Option (b9 L)}{t:List Nat}{r5:AV}{z:Nat}(hN:9<=N)(q:∀ H' v (x:fH L),x.ok->ai [src] H0 H'->aQ H' src f->Pr H' v (txt (x.ps f)) x.row->Q v H')
 (o1:cs.length<=1) (o2:∀ y∈c::cs,y.ok) (o3:∀ s,sr=some s->s.ok) (k:ai [src] H0 H) (s:aQ H src f) (cf:CF f L src H l vs (c::cs)) (d5:bS H r5 (dN (b9.row L) sr)) (gz:H z=some (.tup []))
 (ht:t=txt (eA f L (c::cs) w++cK f L sr)) (hl:t.length<=800000) :
 wSs (az True) (CL N) (fU.body.drop 5) [some (.ref src),x1,some (.ref l),some (.str w.t),some (.str t),some r5,some .none,some (.ref z),some .none,x9,none,none,none,none] H (λ_ H=>Q .none H) Q:=by
 obtain⟨N,rfl⟩:∃ j,N=j+2:=⟨N-2,aG hN rfl⟩
 have hH:cO.length=5:=rfl
 refine bG (top:=3) s (by decide) (by decide) λi H1 hi k1 s1=>?_
 have hi3:i=0\/i=1\/i=2:=Mq hi
 have nog:wSs (az True) (CL (N+2)) (fU.body.drop 6) [some (.ref src),x1,some (.ref l),some (.str w.t),some (.str t),some r5,some .none,some (.ref z),some .none,x9,none,none,none,none] H1 (λ_ H=>Q .none H) Q:=
  zh (wh:=none) hN q o1 o2 o3 (λ_ z=>nomatch z) (k.trans k1) s1 (cf.keep s.mok k1) (d5.keep s.mok k1) .none (k1 _ _ (s.mok.tup gz) gz) (by refine ac ht ?_;show _=txt (eA f L (c::cs) w++cK f L sr++[]);exact ac (List.append_nil ..) rfl) (iX hl rfl)
 rcases hi3 with rfl|rfl|rfl
 ·refine fb (lU hN rfl) H1 src _ s1 λH5 v5 y oy k5 s5 p5=>?_
  refine p5.unp λr5' d5'=>?_
  have hy:=y.len f
  refine⟨by(simp only[lA,lC,lN,ag,ah];lia),?_⟩
  refine cX s5 (k:=cO) (asc rfl) (by decide) ?_
  refine⟨by(simp only[lA,lC,lN,ag,ah];lia),?_⟩
  refine⟨by(simp only[lA,lC,lN,ag,ah];lia),?_⟩
  refine⟨by(simp only[lA,lC,lN,ag,ah];lia),?_⟩
  have k15:=k1.trans k5
  exact zh (wh:=some y) hN q o1 o2 o3 (vm oy) (k.trans k15) s5 (cf.keep s.mok k15) (d5.keep s.mok k15) d5' (k15 _ _ (s.mok.tup gz) gz)
   (by refine ac ht ?_;show((txt (eA f L (c::cs) w++cK f L sr)++[32])++dH f cO++[32])++txt (y.ps f)=txt (eA f L (c::cs) w++cK f L sr++([.sp]++kw f cO++[.sp]++y.ps f));exact eW (bA (bA (bA (bA bL bL) bL) bL) bL) (tA tL (tA (tA (tA tL tK) tL) tL)) rfl) (by simp only[List.length_append,List.length_cons,List.length_nil,ag];lia)
 ·exact nog
 ·exact nog
theorem JQ{high:Nat}{x9:Option AV}{l:Nat}{vs:List AV}{c:dC L}{cs:List (dC L)}{w:Wd}{t:List Nat}{z:Nat}(hN:7<=N)(hsel:0<high->lz f 1462 [.int ((high:Int)-1)] L.ps L.row L.ok N)(hB:L.big<=100000)(q:∀ H' v (x:fH L),x.ok->ai [src] H0 H'->aQ H' src f->Pr H' v (txt (x.ps f)) x.row->Q v H')
 (o1:cs.length<=1) (o2:∀ y∈c::cs,y.ok) (k:ai [src] H0 H) (s:aQ H src f) (cf:CF f L src H l vs (c::cs)) (gz:H z=some (.tup []))
 (ht:t=txt (eA f L (c::cs) w)) (hl:t.length<=500000) :
 wSs (az True) (CL (N+2)) (fU.body.drop 4) [some (.ref src),some (.int (high:Int)),some (.ref l),some (.str w.t),some (.str t),some .none,some .none,some (.ref z),some .none,x9,none,none,none,none] H (λ_ H=>Q .none H) Q:=by
 have hH:dn.length=4:=rfl
 refine bG (top:=4) s (by decide) (by decide) λi H1 hi k1 s1=>?_
 have hi3:i=0\/(i=1\/i=2\/i=3):=by lia
 rcases hi3 with rfl|hi3
 ·exact zi (sr:=none) (A2 hN rfl) q o1 o2 (λ_ z=>nomatch z) (k.trans k1) s1 (cf.keep s.mok k1) .none (k1 _ _ (s.mok.tup gz) gz) (by refine ac ht ?_;show _=txt (eA f L (c::cs) w++[]);exact ac (List.append_nil ..) rfl) (iX hl rfl)
 ·have key:CL (N+2) 1438 [.ref src,.int (high:Int)] H1 (λv H=>jg H v 2 λvs'=>wSs (az True) (CL (N+2)) [.set 4 (.bin .add (.bin .add (.bin .add (.bin .add (.loc 4) (.val (.str [32]))) (.call 1393 [.loc 0,.val (.str [70,82,79,77])])) (.val (.str [32]))) (.loc 9))]
   (([9,5].zip vs').foldl (λm p=>bT m p.1 p.2) [some (.ref src),some (.int (high:Int)),some (.ref l),some (.str w.t),some (.str t),some .none,some .none,some (.ref z),some .none,x9,none,none,none,none]) H (λm H=>wSs (az True) (CL (N+2)) (fU.body.drop 5) m H (λ_ H=>Q .none H) Q) Q):=by
   refine HH (N:=N) (lU hN rfl) hsel hB H1 src _ s1 λH5 v5 y oy k5 s5 p5=>?_
   refine p5.unp λr5' d5'=>?_
   have hy:=y.len f oy
   refine⟨by(simp only[lA,lC,lN,ag,ah];lia),?_⟩
   refine cX s5 (k:=dn) (asc rfl) (by decide) ?_
   refine⟨by(simp only[lA,lC,lN,ag,ah];lia),?_⟩
   refine⟨by(simp only[lA,lC,lN,ag,ah];lia),?_⟩
   refine⟨by(simp only[lA,lC,lN,ag,ah];lia),?_⟩
   have k15:=k1.trans k5
   exact zi (sr:=some y) (A2 hN rfl) q o1 o2 (vm oy) (k.trans k15) s5 (cf.keep s.mok k15) d5' (k15 _ _ (s.mok.tup gz) gz)
    (by refine ac ht ?_;show((txt (eA f L (c::cs) w)++[32])++dH f dn++[32])++txt (y.ps f)=txt (eA f L (c::cs) w++([.sp]++kw f dn++[.sp]++y.ps f));exact eW (bA (bA (bA (bA bL bL) bL) bL) bL) (tA tL (tA (tA (tA tL tK) tL) tL)) rfl) (by simp only[List.length_append,List.length_cons,List.length_nil,ag];lia)
  rcases hi3 with rfl|rfl|rfl<;>exact key
theorem JP{high:Nat}(hN:7<=N)(hsel:0<high->lz f 1462 [.int ((high:Int)-1)] L.ps L.row L.ok N)(hB:L.big<=100000):lz f 1443 [.int (high:Int)] (fH.ps f L) (fH.row L) (fH.ok L) (N+3):=by
 intro H src Q s q
 refine ae rfl rfl rfl (by simp) ?_
 refine⟨trivial,?_⟩
 refine bG (top:=2) s (by decide) (by decide) λmm H1 hm k1 s1=>?_
 refine⟨⟨by show(0:Int)<=1+(mm:Int);exact Int.natCast_nonneg _,by show 1+(mm:Int)<=100;lia⟩,?_⟩
 have e1:(1+(mm:Int)).toNat=mm+1:=by lia
 refine e1.symm ▸ ?_
 refine sz (src:=src) (f:=f) (dC.ok L) (λH v c=>Pr H v (txt (dC.ps f L c)) (dC.row L c)) (λm k h=>h.keep m k) (λh=>h.ne) (λx H K s q=>Os (lU hN rfl) hsel hB H src _ s q) (cnt (mm+1)) H1 [] [] (by simp[cnt];lia) s1 .nil (λ_ z=>nomatch z) λH3 vs as hlen k3 s3 hA hok=>?_
 have hlen:as.length=mm+1:=by simpa [cnt] using hlen
 refine aw λl hl=>?_
 have e4:=aR.new (o:=.list vs) hl
 have gl:(H3.put l (.list vs)) l=some (.list vs):=af
 generalize H3.put l (.list vs)=H4 at e4 gl
 have s4:=s3.ext e4
 have hlne:l≠src:=λz=>by
  refine s3.elim λx h1_=>h1_.elim λy h2_=>h2_.elim λ_ h3_=>h3_.elim λ_ h4_=>h4_.elim λ_ h5_=>h5_.elim λ_ g=>?_
  rw[z,g] at hl;exact uU hl
 have cf:CF f L src H4 l vs as:=⟨gl,hlne,hA.mono λ_ _ h=>h.ext e4,by refine hA.len.symm ▸ ?_;lia⟩
 refine aw λlw hlw=>?_
 have hwne:lw≠src:=λz=>by
  refine s4.elim λx h1_=>h1_.elim λy h2_=>h2_.elim λ_ h3_=>h3_.elim λ_ h4_=>h4_.elim λ_ h5_=>h5_.elim λ_ g=>?_
  rw[z,g] at hlw;exact uU hlw
 refine lS (s4.new hlw) af hwne (by simp) (by simp) λx H5 hx k5 s5=>?_
 have e5:ai [src] H4 H5:=(ai.new hlw).trans k5
 have cf5:=cf.keep s4.mok e5
 have k05:=((k1.trans k3).trans (aR.keep e4)).trans e5
 have fin:∀ w:Wd,x=.str w.t->wSs (az True) (CL (N+2)) (fU.body.drop 2) [some (.ref src),some (.int (high:Int)),some (.ref l),some x,none,none,none,none,none,none,none,none,none,none] H5 (λ_ H=>Q .none H) Q:=λw e=>by
  subst e
  have hw:=w.asc_
  induction as with
  | nil=>simp at hlen
  | cons c cs=>
   refine⟨by show(aW++[32]++w.t).length<=ah;have:=hw.2;unfold ah;lia,?_⟩
   refine cX s5 (k:=aW++[32]++w.t) hw.1 hw.2 ?_
   refine ac (w.key ..) ?_
   refine cu (by decide) (by decide) ?_
   refine jC (tx:=λc:dC L=>txt (c.ps f L)) trivial rfl (λ_ _=>rfl) cf5.gl cf5.hA cf5.hl λH6 l6 g6 e6=>?_
   have ej:List.intercalate [44,32] ((c::cs).map λc:dC L=>txt (c.ps f L))=txt (comma ((c::cs).map (dC.ps f L))):=by refine ac (ei ..).symm (ac (List.map_map ..) ?_);rfl
   have hjl:=pj f (c::cs) (by simp at hlen ⊢;lia) hok
   refine ji (l:=(c::cs).map λc:dC L=>txt (c.ps f L)) g6 (by decide) (by refine ej.symm ▸ ?_;unfold ah;lia) ?_
   refine ej.symm ▸ ?_
   have hwl:=w.len f
   have hS:aW.length=6:=rfl
   have hsl:(txt (kw f aW++[.sp]++w.ps f)).length<=20:=by refine ac (hZ ..) (ac (hZ ..) (ac (yh ..) (ac (eD ..) (ac (ki ..) (ac (vj ..) ?_)))));lia
   refine⟨by(simp only[lA,lC,lN,ag,ah];lia),?_⟩
   refine cx λz H7 gz e7=>cx λy H8 gy e8=>?_
   refine ev gy rfl ?_
   have e68:=(e6.trans e7).trans e8
   exact JQ hN hsel hB q (by simp at hlen;lia) hok (k05.trans (aR.keep e68)) (s5.ext e68) (cf5.keep s5.mok (aR.keep e68)) (e8 _ _ gz) (by show txt (kw f aW++[.sp]++w.ps f)++txt (comma ((c::cs).map (dC.ps f L)))=txt (eA f L (c::cs) w);unfold eA;exact ac (aV ..).symm rfl)
    (by simp only[List.length_append];lia)
 rcases List.mem_cons.mp hx with rfl|hx
 ·exact fin .no rfl
 rcases List.mem_cons.mp hx with rfl|hx
 ·exact fin .no rfl
 rcases List.mem_cons.mp hx with rfl|hx
 ·exact fin .dist rfl
 ·obtain rfl:=List.mem_singleton.mp hx
  exact fin .all rfl
end
noncomputable def Op.t:Op->List Nat
 | .u=>eQ
 | .ua=>eQ++32::fT
 | .i=>cP
 | .e=>e9
theorem Op.key(f:Bool)(o:Op):dH f o.t=txt (o.ps f):=by induction o<;>induction f<;>rfl
theorem Op.asc_(o:Op):bf o.t/\o.t.length<=1000:=by induction o<;>exact⟨asc rfl,Nat.le_of_ble_eq_true rfl⟩
theorem Op.low(o:Op):o.t.map gx=o.v:=by induction o<;>rfl
noncomputable def eC.t:eC->List Nat
 | .no=>[]
 | .asc=>32::t8
 | .desc=>32::lZ
theorem eC.key(f:Bool)(o:eC):dH f o.t=txt (o.ps f):=by induction o<;>induction f<;>rfl
theorem eC.asc_(o:eC):bf o.t/\o.t.length<=1000:=by induction o<;>exact⟨Mine.asc rfl,Nat.le_of_ble_eq_true rfl⟩
theorem eC.eq_(o:eC):decide (o.t=[32,68,69,83,67])=o.is:=by induction o<;>rfl
section
variable {α:Type} {H H0:AH} {Q:au} {src N:Nat} {f:Bool} {L:Lv}
noncomputable def cA.lastR(x:cA L):DT:=match x.more.getLast? with
 | none=>x.b.row
 | some y=>y.2.row
noncomputable def cA.add(x:cA L)(o:Op)(b:ci gY):cA L:=⟨x.b,x.more++[(o,b)]⟩
theorem cA.add_ps(x:cA L)(o:Op)(b:ci gY):(x.add o b).ps f=x.ps f++([.sp]++o.ps f++[.sp]++b.ps f):=by
 show x.b.ps f++(x.more++[(o,b)]).flatMap (eO f)=x.b.ps f++x.more.flatMap (eO f)++_
 refine ac (List.flatMap_append ..) (ac (List.append_assoc ..) (ac (List.flatMap_singleton ..) ?_));rfl
theorem cA.add_row(x:cA L)(o:Op)(b:ci gY):(x.add o b).row=aP gP [.str o.v,x.row,b.row]:=by
 show(x.more++[(o,b)]).foldl kH x.b.row=_
 refine ac List.foldl_append ?_;rfl
theorem cA.add_last(x:cA L)(o:Op)(b:ci gY):(x.add o b).lastR=b.row/\(x.add o b).lastV=b.isV:=by
 unfold cA.lastR cA.lastV cA.add
 exact(List.getLast?_concat)▸(⟨rfl,rfl⟩)
theorem ci.tag(b:ci L):∃ r,b.row=.tup (.str (bif b.isV then gO else ez)::r):=by induction b<;>exact⟨_,rfl⟩
theorem cA.tag(x:cA L):∃ r,x.lastR=.tup (.str (bif x.lastV then gO else ez)::r):=by
 unfold cA.lastR cA.lastV
 cases x.more.getLast? with
 | none=>exact x.b.tag
 | some y=>exact y.2.tag
theorem Hf(hN:10<=N)(s:aQ H src f)(q:∀ H' v (b:ci L),b.ok->ai [src] H H'->aQ H' src f->Pr H' v (txt (b.ps f)) b.row->Q v H'):CL N 1448 [.ref src] H Q:=
 Ht hN H src Q s λH' v a oa k s' p=>q H' v (.v a) oa k s' p
theorem mh{high:Nat}(hN:7<=N)(hsel:0<high->lz f 1462 [.int ((high:Int)-1)] L.ps L.row L.ok N)(hB:L.big<=100000)(s:aQ H src f)(q:∀ H' v (b:ci L),b.ok->ai [src] H H'->aQ H' src f->Pr H' v (txt (b.ps f)) b.row->Q v H'):CL (N+3) 1443 [.ref src,.int (high:Int)] H Q:=
 JP hN hsel hB H src Q s λH' v a oa k s' p=>q H' v (.c a) oa k s' p
noncomputable def HQ:List IS:=CZ (gF.body.getD 2 .bad)
theorem L3{N:Nat}(hN:3<=N)(s:aQ H src f){K:AV->AH->Prop}(q:∀ H' (o:Op),ai [src] H H'->aQ H' src f->K (.str o.t) H') :
 dm H (.list [.str Op.u.t,.str Op.ua.t,.str Op.i.t,.str Op.e.t]) λl H=>CL N 1386 [.ref src,.ref l] H K:=by
 obtain⟨N,rfl⟩:∃ j,N=j+2:=⟨N-2,aG hN rfl⟩
 refine aw λl hl=>?_
 have hne:l≠src:=λz=>by
  obtain⟨x,y,_,_,_,_,g⟩:=s
  rw[z,g] at hl;cases hl
 refine lS (s.new hl) af hne (by simp) (by simp) λx H' hx k s'=>?_
 have kk:ai [src] H H':=(ai.new hl).trans k
 rcases List.mem_cons.mp hx with rfl|hx
 ·exact q H' .u kk s'
 rcases List.mem_cons.mp hx with rfl|hx
 ·exact q H' .ua kk s'
 rcases List.mem_cons.mp hx with rfl|hx
 ·exact q H' .i kk s'
 ·obtain rfl:=List.mem_singleton.mp hx
  exact q H' .e kk s'
theorem JJ{N:Nat}(hN:3<=N)(s:aQ H src f){K:AV->AH->Prop}(q:∀ H' (o:eC),ai [src] H H'->aQ H' src f->K (.str o.t) H') :
 dm H (.list [.str eC.no.t,.str eC.asc.t,.str eC.desc.t]) λl H=>CL N 1386 [.ref src,.ref l] H K:=by
 obtain⟨N,rfl⟩:∃ j,N=j+2:=⟨N-2,aG hN rfl⟩
 refine aw λl hl=>?_
 have hne:l≠src:=λz=>by
  obtain⟨x,y,_,_,_,_,g⟩:=s
  rw[z,g] at hl;cases hl
 refine lS (s.new hl) af hne (by simp) (by simp) λx H' hx k s'=>?_
 have kk:ai [src] H H':=(ai.new hl).trans k
 rcases List.mem_cons.mp hx with rfl|hx
 ·exact q H' .no kk s'
 rcases List.mem_cons.mp hx with rfl|hx
 ·exact q H' .asc kk s'
 ·obtain rfl:=List.mem_singleton.mp hx
  exact q H' .desc kk s'
theorem Ap{N:Nat}(hN:3<=N)(s:aQ H src f){K:AV->AH->Prop}(q:∀ H' (n:Nat),n<=2->ai [src] H H'->aQ H' src f->K (.int (n:Int)) H') :
 dm H (.list [.int 0,.int 0,.int 1,.int 2]) λl H=>CL N 1386 [.ref src,.ref l] H K:=by
 obtain⟨N,rfl⟩:∃ j,N=j+2:=⟨N-2,aG hN rfl⟩
 refine aw λl hl=>?_
 have hne:l≠src:=λz=>by
  refine s.elim λx h1_=>h1_.elim λy h2_=>h2_.elim λ_ h3_=>h3_.elim λ_ h4_=>h4_.elim λ_ h5_=>h5_.elim λ_ g=>?_
  rw[z,g] at hl;exact uU hl
 refine lS (s.new hl) af hne (by simp) (by simp) λx H' hx k s'=>?_
 have kk:ai [src] H H':=(ai.new hl).trans k
 rcases List.mem_cons.mp hx with rfl|hx
 ·exact q H' 0 (by decide) kk s'
 rcases List.mem_cons.mp hx with rfl|hx
 ·exact q H' 0 (by decide) kk s'
 rcases List.mem_cons.mp hx with rfl|hx
 ·exact q H' 1 (by decide) kk s'
 ·obtain rfl:=List.mem_singleton.mp hx
  exact q H' 2 (by decide) kk s'
theorem tW{N:Nat}(hN:10<=N)(hB:L.big<=100000){x1:Option AV}{R:au}{Nn:bd->AH->Prop}
 (hq:∀ H (bs:cA L) r rl x5 x6 x7,bs.ok->ai [src] H0 H->aQ H src f->bS H r bs.row->bS H rl bs.lastR->Nn [some (.ref src),x1,some (.str (txt (bs.ps f))),some r,some rl,x5,x6,x7,none,none,none,none,none,none,none,none,none,none,none] H) :
 ∀ (xs:List AV) (H:AH) (bs:cA L) (r rl:AV) (x5 x6 x7:Option AV),bs.more.length+xs.length<=2->bs.ok->ai [src] H0 H->aQ H src f->bS H r bs.row->bS H rl bs.lastR->
  lj 5 (λm H K=>wSs (az True) (CL N) HQ m H K R) xs [some (.ref src),x1,some (.str (txt (bs.ps f))),some r,some rl,x5,x6,x7,none,none,none,none,none,none,none,none,none,none,none] H Nn:=by
 intro z_
 induction z_ with
 | nil=>
  intro H bs r rl x5 x6 x7 hl ok k s d1 d2
  exact hq H bs r rl x5 x6 x7 ok k s d1 d2
 | cons x xs ihz=>
  intro H bs r rl x5 x6 x7 hl ok k s d1 d2
  have hlen:=bs.len f ok
  refine L3 (lU hN rfl) s λH1 o k1 s1=>?_
  have fin:∀ H2 v (b:ci gY),b.ok->ai [src] H1 H2->aQ H2 src f->Pr H2 v (txt (b.ps f)) b.row->
   jg H2 v 2 λvs=>wSs (az True) (CL N) (HQ.drop 2) (([7,4].zip vs).foldl (λm p=>bT m p.1 p.2) [some (.ref src),x1,some (.str (txt (bs.ps f))),some r,some rl,some x,some (.str o.t),x7,none,none,none,none,none,none,none,none,none,none,none]) H2
    (λm H=>lj 5 (λm H K=>wSs (az True) (CL N) HQ m H K R) xs m H Nn) R:=λH2 v b ob k2 s2 p2=>by
   refine p2.unp λrb db=>?_
   have hb:=b.len f ob
   have hb0:gY.big=0:=rfl
   have ho:=o.len f
   have d1':=(d1.keep s.mok k1).keep s1.mok k2
   obtain⟨N,rfl⟩:∃ j,N=j+1:=⟨N-1,aG hN rfl⟩
   refine⟨by(simp only[lA,lC,lN,ag,ah];lia),?_⟩
   refine cX s2 (k:=o.t) o.asc_.1 o.asc_.2 ?_
   refine ac (o.key ..) ?_
   refine⟨by(simp only[lA,lC,lN,ag,ah];lia),?_⟩
   refine⟨by(simp only[lA,lC,lN,ag,ah];lia),?_⟩
   refine⟨by(simp only[lA,lC,lN,ag,ah];lia),?_⟩
   refine cu (by decide) (by decide) ?_
   refine⟨⟨o.asc_.1,by have:=o.asc_.2;unfold ah;lia⟩,?_⟩
   refine o.low.symm ▸ ?_
   refine cx λa H3 ga e3=>cx λc H4 gc e4=>?_
   refine ev gc rfl ?_
   have ee:=e3.trans e4
   have ok':(bs.add o b).ok:=⟨ok.1,by show(bs.more++[(o,b)]).length<=2;simp at hl ⊢;lia,λy hy=>by
    rcases List.mem_append.mp hy with z|z
    ·exact ok.2.2 y z
    ·refine(List.mem_singleton.mp z).symm ▸ ?_;exact ob⟩
   have dr:bS H4 (.ref a) (bs.add o b).row:=by
    refine ac (cA.add_row ..) ?_
    exact .tup (e4 _ _ ga) (.cons .str (.cons .str (.cons (d1'.ext ee) (.cons (db.ext ee) .nil))))
   have ht:((((txt (bs.ps f)++[32])++txt (o.ps f))++[32])++txt (b.ps f))=txt ((bs.add o b).ps f):=by
    refine ac (cA.add_ps ..) ?_;simp only[aV,List.append_assoc];rfl
   refine ht.symm ▸ ?_
   exact ihz H4 (bs.add o b) (.ref a) rb (some x) (some (.str o.t)) (some (.str (txt (b.ps f)))) (by show(bs.more++[(o,b)]).length+xs.length<=2;simp at hl ⊢;lia) ok' (((k.trans k1).trans k2).trans (aR.keep ee)) (s2.ext ee) dr (by refine ac ((cA.add_last bs o b).1) ?_;exact db.ext ee)
  obtain⟨N,rfl⟩:∃ j,N=j+10:=⟨N-10,aG hN rfl⟩
  refine bG (top:=3) s1 (by decide) (by decide) λi H2 hi k2 s2=>?_
  have hi3:i=0\/i=1\/i=2:=Mq hi
  rcases hi3 with rfl|rfl|rfl
  ·exact Hf (Nat.le_of_ble_eq_true rfl) s2 λH3 v b ob k3 s3 p3=>fin H3 v b ob (k2.trans k3) s3 p3
  ·exact mh (high:=0) (N:=N+7) (Nat.le_of_ble_eq_true rfl) (λh=>absurd h (by decide)) (Nat.zero_le _) s2 λH3 v b ob k3 s3 p3=>fin H3 v b ob (k2.trans k3) s3 p3
  ·exact mh (high:=0) (N:=N+7) (Nat.le_of_ble_eq_true rfl) (λh=>absurd h (by decide)) (Nat.zero_le _) s2 λH3 v b ob k3 s3 p3=>fin H3 v b ob (k2.trans k3) s3 p3
theorem Hy(ts:List (aU×eC))(x:aU×eC):bc f (ts++[x])=bc f ts++((match ts with|[]=>[.sp]++f8 f bZ eV++[.sp]|_::_=>[.sg 44,.sp])++cU f x):=by
 induction ts with
 | nil=>simp[bc]
 | cons y r=>simp[bc]
end
noncomputable def Pn:IS->List IS
 | .ite _ a _=>a
 | _=>[]
noncomputable def Lh:List IS:=Pn (gF.body.getD 4 .bad)
noncomputable def HP:List IS:=CZ (Lh.getD 0 .bad)
theorem ai.late{M:List Nat}{H0 H:AH}{l:Nat}{o:AO}(k:ai M H0 H)(h:H0 l=none):ai M H0 (H.put l o):=λa o' n ha=>by
 refine ac (aO (λz=>by rw[z,h] at ha;exact fI ha)) ?_;exact k a o' n ha
theorem Ds{T:aT}{H:AH}{a:Nat}{vs:List AV}{x:AV}(k:Nat){Q:AV->Prop}(h:H a=some (.tup vs))(hk:k<1000)(hx:vs[k]?=some x)(q:Q x):j0 T H (.ref a) (.int (k:Int)) Q:=by
 exact .i1 a k vs x rfl rfl (.inr h) (.inl ⟨⟨Int.natCast_nonneg _,by lia⟩,hx⟩) q
section
variable {α:Type} {H H0:AH} {Q:au} {src:Nat} {f:Bool} {L:Lv}
noncomputable def BO(f:Bool)(ts:List (aU×eC)):List Pc:=match ts with
 | []=>[.sp]++f8 f bZ eV++[.sp]
 | _::_=>[.sg 44,.sp]
theorem nO(ts:List (aU×eC))(x:aU×eC):bc f (ts++[x])=bc f ts++(BO f ts++cU f x):=by
 induction ts with
 | nil=>simp[bc,BO]
 | cons y r=>simp[bc,BO]
theorem pO{N l:Nat}(hN:8<=N){x1 x6 x7:Option AV}{r rl:AV}{d:DT}{tb:List Pc}(hb:(txt tb).length<=500000)(hl0:H0 l=none)(hne:l≠src){R:au}{Nn:bd->AH->Prop}
 (hq:∀ H vs (ts:List (aU×eC)) x5 x11 x12 x13 x14,ts.length<=2->(∀ y∈ts,y.1.ok)->ai [src] H0 H->aQ H src f->bS H r d->H l=some (.list vs)->dh (λv x=>bS H v (fk x)) vs ts->
  Nn [some (.ref src),x1,some (.str (txt (tb++bc f ts))),some r,some rl,x5,x6,x7,some (.ref l),some .none,some .none,x11,x12,x13,x14,none,none,none,none] H) :
 ∀ (xs:List AV) (H:AH) (vs:List AV) (ts:List (aU×eC)) (x5 x11 x12 x13 x14:Option AV),ts.length+xs.length<=2->(∀ y∈ts,y.1.ok)->ai [src] H0 H->aQ H src f->bS H r d->H l=some (.list vs)->dh (λv x=>bS H v (fk x)) vs ts->
  lj 5 (λm H K=>wSs (az True) (CL N) HP m H K R) xs [some (.ref src),x1,some (.str (txt (tb++bc f ts))),some r,some rl,x5,x6,x7,some (.ref l),some .none,some .none,x11,x12,x13,x14,none,none,none,none] H Nn:=by
 intro z_
 induction z_ with
 | nil=>
  intro H vs ts x5 x11 x12 x13 x14 hl ok k s dr gl hA
  exact hq H vs ts x5 x11 x12 x13 x14 (by simpa using hl) ok k s dr gl hA
 | cons x xs ihz=>
  intro H vs ts x5 x11 x12 x13 x14 hl ok k s dr gl hA
  obtain⟨N,rfl⟩:∃ j,N=j+1:=⟨N-1,aG hN rfl⟩
  have hl':ts.length<=2:=by simp at hl;lia
  have hts:=jn f ts hl'
  have htb:(txt (tb++bc f ts)).length<=500100:=by refine ac (hZ ..) ?_;lia
  refine fb (lU hN rfl) H src _ s λH1 v1 e oe k1 s1 p1=>?_
  refine p1.unp λr1 d1=>?_
  have he:=e.len f
  refine JJ (lU hN rfl) s1 λH2 o k2 s2=>?_
  have ho:=o.len f
  have k02:=(k.trans k1).trans k2
  have gl2:=k2 _ _ (lT hne) (k1 _ _ (lT hne) gl)
  have hA2:=hA.mono (W:=λv x=>bS H2 v (fk x)) λ_ _ h=>(h.keep s.mok k1).keep s1.mok k2
  have dr2:=(dr.keep s.mok k1).keep s1.mok k2
  have d1':=d1.keep s1.mok k2
  have fin:∀ (H3:AH) (sep:List Nat),aR H2 H3->sep.length<=20->sep++[32]=txt (BO f ts)->
   wSs (az True) (CL (N+1)) (HP.drop 3) [some (.ref src),x1,some (.str (txt (tb++bc f ts))),some r,some rl,some x,x6,x7,some (.ref l),some .none,some .none,some (.str (txt (e.ps f))),some r1,some (.str o.t),some (.str sep),none,none,none,none] H3
    (λm H=>lj 5 (λm H K=>wSs (az True) (CL (N+1)) HP m H K R) xs m H Nn) R:=λH3 sep e3 hs hse=>by
   have s3:=s2.ext e3
   refine⟨by(simp only[lA,lC,lN,ag,ah];lia),?_⟩
   refine⟨by(simp only[lA,lC,lN,ag,ah];lia),?_⟩
   refine⟨by(simp only[lA,lC,lN,ag,ah];lia),?_⟩
   refine cX s3 (k:=o.t) o.asc_.1 o.asc_.2 ?_
   refine ac (o.key ..) ?_
   refine⟨by(simp only[lA,lC,lN,ag,ah];lia),?_⟩
   have gl3:=e3 _ _ gl2
   refine dw gl3 ?_
   refine cx λa H4 ga e4=>?_
   rw[eC.eq_] at ga
   have gl4:=e4 _ _ gl3
   have hvl:vs.length<=ah:=by refine ac hA.len ?_;unfold ah;exact iX hl' rfl
   refine⟨_,rfl,dz gl4 hvl (λz=>nomatch z) ?_⟩
   have e34:=e3.trans e4
   have ht:((((txt (tb++bc f ts)++sep)++[32])++txt (e.ps f))++txt (o.ps f))=txt (tb++bc f (ts++[(e,o)])):=by
    have hse':txt (tb++bc f ts)++sep++[32]=txt (tb++bc f ts)++(sep++[32]):=List.append_assoc ..
    refine ac (hse' ..) (ac (hse ..) (ac (nO ..) ?_))
    show _=txt (tb++(bc f ts++(_++(e.ps f++o.ps f))))
    simp only[aV,List.append_assoc]
   refine ac ht ?_
   have m4:bW [l] H4:=bW.one gl4 trivial
   have kl:ai [l] H4 (H4.put l (.list (vs++[.ref a]))):=ai.put (.head _)
   refine ihz _ (vs++[.ref a]) (ts++[(e,o)]) (some x) _ _ _ _ (by simp at hl ⊢;lia) (λy hy=>?_) ((k02.trans (aR.keep e34)).late hl0) ((s2.ext e34).keep1 kl (Ne.symm hne)) ((dr2.ext e34).keep m4 kl) af ?_
   ·rcases List.mem_append.mp hy with z|z
    ·exact ok y z
    ·refine ac (List.mem_singleton.mp z) ?_;exact oe
   ·refine dh.app (V:=λv x=>bS (H4.put l (.list (vs++[.ref a]))) v (fk x)) (b:=(e,o)) ?_ (hA2.mono λ_ _ h=>(h.ext e34).keep m4 kl)
    exact(bS.tup ga (.cons .str (.cons (d1'.ext e34) (.cons .bool .nil)))).keep m4 kl
  refine f7 λy H3 gy e3=>?_
  refine ri (e3 _ _ gl2) gy ?_
  cases ts with
  | nil=>
   cases hA
   refine cX (s2.ext e3) (k:=bZ++32::eV) (asc rfl) (by decide) ?_
   refine ac (j4 ..) ?_
   have hO:(txt (f8 f bZ eV)).length=8:=by refine ac (i5 ..) ?_;rfl
   refine⟨by(simp only[lA,lC,lN,ag,ah];lia),?_⟩
   exact fin H3 _ e3 (by simp only[List.length_append,List.length_cons,List.length_nil];lia) (by show([32]++txt (f8 f bZ eV))++[32]=txt ([.sp]++f8 f bZ eV++[.sp]);simp only[aV];rfl)
  | cons t ts=>
   cases hA
   exact fin H3 [44] e3 (by decide) rfl
theorem rE{C:CS}{l:Nat}{t:List Nat}{vs:List AV}{x:fj L}{x1 x4 x5 x6 x7 x11 x12 x13 x14 x15:Option AV}{r r9 r10:AV}(q:∀ H' v (x:fj L),x.ok->ai [src] H0 H'->aQ H' src f->Pr H' v (txt (x.ps f)) x.row->Q v H')(ox:x.ok)(k:ai [src] H0 H)(s:aQ H src f)
 (gl:H l=some (.list vs)) (hA:dh (λv x=>bS H v (fk x)) vs x.ts) (d3:bS H r x.b.row) (d9:bS H r9 x.l.r1) (d10:bS H r10 x.l.r2) (ht:t=txt (x.ps f)) :
 wSs (az True) C (gF.body.drop 5) [some (.ref src),x1,some (.str t),some r,x4,x5,x6,x7,some (.ref l),some r9,some r10,x11,x12,x13,x14,x15,none,none,none] H (λ_ H=>Q .none H) Q:=by
 have hvl:vs.length<=ah:=by refine ac hA.len ?_;have:=ox.2.1;unfold ah;lia
 refine gK gl hvl λb hb=>?_
 have e1:=aR.new (o:=.tup vs) hb
 have gb:(H.put b (.tup vs)) b=some (.tup vs):=af
 generalize H.put b (.tup vs)=H1 at e1 gb
 refine cx λc H2 gc e2=>?_
 have e12:=e1.trans e2
 exact bn (x:=x) q ox (k.trans (aR.keep e12)) (s.ext e12) (.cons .str (.cons (.tup gc (.cons (d3.ext e12) (.cons (.tup (e2 _ _ gb) ((pz (d:=fk) hA).ext e12)) .nil))) (.cons (d9.ext e12) (.cons (d10.ext e12) .nil)))) rfl ht
theorem Lg{N:Nat}(hN:8<=N)(hB:L.big<=100000){bs:cA L}{x1 x5 x6 x7:Option AV}{r rl:AV}(q:∀ H' v (x:fj L),x.ok->ai [src] H0 H'->aQ H' src f->Pr H' v (txt (x.ps f)) x.row->Q v H')(ok:bs.ok)(k:ai [src] H0 H)(s:aQ H src f)(d3:bS H r bs.row)(dl:bS H rl bs.lastR) :
 wSs (az True) (CL N) (gF.body.drop 3) [some (.ref src),x1,some (.str (txt (bs.ps f))),some r,some rl,x5,x6,x7,none,none,none,none,none,none,none,none,none,none,none] H (λ_ H=>Q .none H) Q:=by
 have hlen:=bs.len f ok
 refine aw λl hl=>?_
 have hne:l≠src:=λz=>by
  refine a7 λGg fin_=>?_
  refine s.elim λx h1_=>h1_.elim λy h2_=>h2_.elim λ_ h3_=>h3_.elim λ_ h4_=>h4_.elim λ_ h5_=>h5_.elim λ_ g=>?_
  refine fin_ ?_
  rw[z,g] at hl;exact uU hl
 have e1:=aR.new (o:=.list []) hl
 have gl:(H.put l (.list [])) l=some (.list []):=af
 generalize H.put l (.list [])=H1 at e1 gl
 refine cx λc H2 gc e2=>?_
 refine ev gc rfl ?_
 have e12:=e1.trans e2
 have s2:=s.ext e12
 have gl2:=e2 _ _ gl
 have d32:=d3.ext e12
 have KQ:=dl.ext e12
 refine bs.tag.elim λrr hr=>?_
 rw[hr] at KQ
 have k2:=k.trans (aR.keep e12)
 cases KQ with
 | @tup a ws ds ga hds=>
 cases hds with
 | @cons v ws d ds dv dr=>
 cases dv
 refine Ds 0 ga (by decide) rfl ?_
 induction hv:bs.lastV with
 | true=>
  exact rE (x:=⟨bs,[],.no⟩) q ⟨ok,Nat.zero_le _,(λ_ z=>nomatch z),trivial,λ_=>⟨rfl,rfl⟩⟩ k2 s2 gl2 .nil d32 .none .none (by show _=txt (bs.ps f++([]++[]));simp)
 | false=>
  refine⟨trivial,?_⟩
  refine Ap (lU hN rfl) s2 λH3 n hn k3 s3=>?_
  refine⟨⟨Int.natCast_nonneg n,by lia⟩,?_⟩
  have hl3:H2 l=some (.list []):=gl2
  have k03:=k2.trans k3
  have hl0:H0 l=none:=by
   induction h:H0 l with
   | none=>rfl
   | some o=>rw[k l o (lT hne) h] at hl;exfalso;cases hl
  have go:=pO (f:=f) (tb:=bs.ps f) (x1:=x1) (x6:=x6) (x7:=x7) (rl:=.ref a) (d:=bs.row) hN (by lia) hl0 hne (R:=Q) (Nn:=λm H=>wSs (az True) (CL N) (Lh.drop 1) m H (λm H=>wSs (az True) (CL N) (gF.body.drop 5) m H (λ_ H=>Q .none H) Q) Q)
   (λH4 vs ts x5 x11 x12 x13 x14 hl4 ok4 k4 s4 dr4 gl4 hA4=>?_) (cnt ((n:Nat):Int).toNat) H3 [] [] x5 none none none none (by simp[cnt];exact hn) (λ_ z=>nomatch z) k03 s3 (d32.keep s2.mok k3) (k3 _ _ (lT hne) gl2) .nil
  ·have e0:txt (bs.ps f++bc f [])=txt (bs.ps f):=by show txt (bs.ps f++[])=_;exact ac (List.append_nil ..) rfl
   rw[e0] at go
   exact go
  ·have hts:=jn f ts hl4
   have htb:(txt (bs.ps f++bc f ts)).length<=500100:=by refine ac (hZ ..) ?_;lia
   refine yd hN s4 λH5 v5 x ox k5 s5 p5=>?_
   refine a7 λGg fin_=>?_
   obtain⟨b,r1,r2,rfl,gb,d1,d2⟩:=p5
   refine fin_ ?_
   refine ev gb rfl ?_
   have hx:=x.len f
   refine⟨by(simp only[lA,lC,lN,ag,ah];lia),?_⟩
   exact rE (x:=⟨bs,ts,x⟩) q ⟨ok,hl4,ok4,ox,λz=>by rw[hv] at z;exfalso;cases z⟩ (k4.trans k5) s5 (k5 _ _ (lT hne) gl4) (hA4.mono λ_ _ h=>h.keep s4.mok k5) (dr4.keep s4.mok k5) d1 d2
    (by show txt (bs.ps f++bc f ts)++txt (x.ps f)=txt (bs.ps f++(bc f ts++x.ps f));simp only[aV,List.append_assoc])
theorem DD{N high:Nat}(hN:7<=N)(hsel:0<high->lz f 1462 [.int ((high:Int)-1)] L.ps L.row L.ok N)(hB:L.big<=100000):lz f 1462 [.int (high:Int)] (fj.ps f L) (fj.row L) (fj.ok L) (N+4):=by
 intro H src Q s q
 refine ae rfl rfl rfl (by simp) ?_
 have fin:∀ H2 v (b:ci L),b.ok->ai [src] H H2->aQ H2 src f->Pr H2 v (txt (b.ps f)) b.row->
  jg H2 v 2 λvs=>wSs (az True) (CL (N+3)) (gF.body.drop 1) (([2,3].zip vs).foldl (λm p=>bT m p.1 p.2) [some (.ref src),some (.int (high:Int)),none,none,none,none,none,none,none,none,none,none,none,none,none,none,none,none,none]) H2 (λ_ H=>Q .none H) Q:=λH2 v b ob k2 s2 p2=>by
  refine p2.unp λr d=>?_
  have hb:=b.len f ob
  refine⟨trivial,?_⟩
  refine Ap (Nat.le_of_ble_eq_true rfl) s2 λH3 n hn k3 s3=>?_
  refine⟨⟨Int.natCast_nonneg n,by lia⟩,?_⟩
  have go:=tW (N:=N+3) (src:=src) (f:=f) (H0:=H) (x1:=some (.int (high:Int))) (R:=Q) (Nn:=λm H=>wSs (az True) (CL (N+3)) (gF.body.drop 3) m H (λ_ H=>Q .none H) Q) (A2 hN rfl) hB
   (λH4 bs r4 rl4 x5 x6 x7 ok4 k4 s4 d4 dl4=>Lg (N:=N+3) (A2 hN rfl) hB q ok4 k4 s4 d4 dl4) (cnt ((n:Nat):Int).toNat) H3 ⟨b,[]⟩ r r none none none (by simp[cnt];exact hn) ⟨ob,Nat.zero_le _,λ_ z=>nomatch z⟩ (k2.trans k3) s3 (d.keep s2.mok k3) (d.keep s2.mok k3)
  have e0:txt ((⟨b,[]⟩:cA L).ps f)=txt (b.ps f):=by show txt (b.ps f++[])=_;exact ac (List.append_nil ..) rfl
  rw[e0] at go
  exact go
 refine bG (top:=5) s (by decide) (by decide) λi H1 hi k1 s1=>?_
 have hi5:i=0\/i=1\/i=2\/i=3\/i=4:=by lia
 rcases hi5 with rfl|rfl|rfl|rfl|rfl
 ·exact Hf (A2 hN rfl) s1 λH2 v b ob k2 s2 p2=>fin H2 v b ob (k1.trans k2) s2 p2
 ·exact mh hN hsel hB s1 λH2 v b ob k2 s2 p2=>fin H2 v b ob (k1.trans k2) s2 p2
 ·exact mh hN hsel hB s1 λH2 v b ob k2 s2 p2=>fin H2 v b ob (k1.trans k2) s2 p2
 ·exact mh hN hsel hB s1 λH2 v b ob k2 s2 p2=>fin H2 v b ob (k1.trans k2) s2 p2
 ·exact mh hN hsel hB s1 λH2 v b ob k2 s2 p2=>fin H2 v b ob (k1.trans k2) s2 p2
theorem vv{N:Nat}(hN:11<=N):lz f 1462 [.int 0] (fj.ps f gY) (fj.row gY) (fj.ok gY) N:=by
 obtain⟨N,rfl⟩:∃ j,N=j+4:=⟨N-4,aG hN rfl⟩
 exact DD (high:=0) (jQ hN rfl) (λh=>absurd h (by decide)) (Nat.zero_le _)
theorem HR{N:Nat}(hN:15<=N):lz f 1462 [.int 1] (fj.ps f (L1 f)) (fj.row (L1 f)) (fj.ok (L1 f)) N:=by
 obtain⟨N,rfl⟩:∃ j,N=j+4:=⟨N-4,aG hN rfl⟩
 exact DD (high:=1) (L:=L1 f) (jQ hN rfl) (λ_=>vv (jQ hN rfl)) (by show 2500<=100000;decide)
end
structure RT(t:List Nat)(d:DT):Prop where
 read:fp t=some (some d)
 more:fp (t++[32,44])=some none
 asc:bf t
 good:d.good=true
 dep:d.dep<=64
 tup:∃ ds,d=.tup ds
noncomputable def fL(a:Nat)(l:List Int):aT:=⟨λ_ _=>none,λ_=>none,λb=>bif Nat.beq b a then some (.tInts l) else none,λ_ _=>false,λ_ _=>false,True⟩
theorem lI{a:Nat}{l:List Int} : (fL a l).stat a=some (.tInts l):=by show(bif Nat.beq a a then _ else _)=_;refine ac (Nat.beq_refl ..) ?_;rfl
noncomputable def oh:Nat->Option ax:=λf=>match Nat.beq f 1372 with
 | true=>some kO
 | false=>none
noncomputable def Qh:Nat->Option gn:=λ_=>none
noncomputable abbrev pD(a:Nat)(l:List Int)(n:Nat):CS:=bC (fL a l) oh Qh n
noncomputable def lB(a:Nat)(l:List Int):CS:=λf vs H Q=>pD a l 200 f vs H Q\/CL 200 f vs H Q
section
variable {H:AH} {Q:au} {a:Nat} {l:List Int}
theorem sS{Q:Nat->Prop}(q:Q l.length):lv (fL a l) H (.ref a) Q:=by
 exact .i3 a l rfl lI q
theorem Dt{Q:AV->Prop}{k:Nat}{x:Int}(hk:k<1000)(hx:l[k]?=some x)(q:Q (.int x)):j0 (fL a l) H (.ref a) (.int (k:Int)) Q:=by
 exact .i4 a k l x rfl rfl lI ⟨Int.natCast_nonneg _,by lia⟩ hx q
theorem Ib{n k:Nat}(hk:k<2)(hl:l.length<=63)(q:∀ src H',fD H' src []->Q (.ref src) H'):pD a l (n+1) 1372 [.ref a,.int (k:Int)] H Q:=by
 refine ae rfl rfl rfl (by simp) ?_
 refine sS ?_
 have fin:∀ x2:Int,wSs (fL a l) (pD a l n) (kO.body.drop 1) [some (.ref a),some (.int (k:Int)),some (.int x2),none,none,none,none,none] H (λ_ H=>Q .none H) Q:=λx2=>by
  show wSs (fL a l) (pD a l n) (kO.body.drop 2) [some (.ref a),some (.int (k:Int)),some (.int x2),some (.int (max x2 (-1-x2))),none,none,none,none] H (λ_ H=>Q .none H) Q
  have h3:0<=max x2 (-1-x2):=by lia
  generalize max x2 (-1-x2)=x3 at h3
  have hm0:0<=x3 % 2147483629:=Int.emod_nonneg _ (by decide)
  have hm1:x3 % 2147483629<2147483629:=Int.emod_lt_of_pos _ (by decide)
  refine⟨by decide,?_⟩
  have hk2:k=0\/k=1:=KJ hk
  refine⟨by rcases hk2 with rfl|rfl<;>decide,?_⟩
  refine⟨by rcases hk2 with rfl|rfl<;>decide,?_⟩
  refine⟨by rcases hk2 with rfl|rfl<;>decide,?_⟩
  refine⟨⟨by rcases hk2 with rfl|rfl<;>lia,by decide⟩,?_⟩
  refine⟨by decide,?_⟩
  generalize((x3 % 2147483629+7919*(k:Int)*(k:Int)+31*(k:Int)+17)*48271)=w
  have hw0:0<=w % 2147483647:=Int.emod_nonneg _ (by decide)
  have hw1:w % 2147483647<2147483647:=Int.emod_lt_of_pos _ (by decide)
  refine⟨⟨rfl,rfl⟩,?_⟩
  show(match decide (x3 ≥ 1000000000000000000) with|true=>_|false=>_)
  cases decide (x3 ≥ 1000000000000000000) with
  | true=>exact f7 λsrc H' g e=>q src H' ⟨x3,_,h3,hw0,hw1,by simp,g⟩
  | false=>exact f7 λsrc H' g e=>q src H' ⟨0,_,by decide,hw0,hw1,by simp,g⟩
 show(match decide ((k:Int)<(l.length:Int)) with|true=>_|false=>_)
 induction hd:decide ((k:Int)<(l.length:Int)) with
 | true=>
  have hd:=of_decide_eq_true hd
  have hkl:k<l.length:=by lia
  exact Dt (iX hk rfl) (List.getElem?_eq_getElem hkl) (fin _)
 | false=>exact fin 0
end
noncomputable def K7:IE->List (List Nat)
 | .lst es=>es.map λe=>match e with|.val (.str s)=>s|_=>[]
 | _=>[]
noncomputable def OW:IS->IE
 | .set _ e=>e
 | _=>.bad
noncomputable def mj:List (List Nat):=K7 (OW (cF.body.getD 1 .bad))
noncomputable def Mw:List IS:=CZ (cF.body.getD 0 .bad)
section
variable {H:AH} {Q:au} {a:Nat} {l:List Int}
theorem mK(hl:l.length<=63)(p0:∀ f (x:fj gY),x.ok->RT (txt (x.ps f)) x.row)(p1:∀ f (x:fj (L1 f)),x.ok->RT (txt (x.ps f)) x.row){k:Nat}(hk:k<2){x1 x2 x3 x4:Option AV}{R:au}{Nn:bd->AH->Prop}
 (q:∀ H' x2 x3 x4,Nn [some (.ref a),some (.int (k:Int)),x2,x3,x4,none,none,none,none] H') :
 wSs (fL a l) (lB a l) Mw [some (.ref a),some (.int (k:Int)),x2,x3,x4,none,none,none,none] H Nn R:=by
 refine .inl (Ib hk hl λsrc H1 s1=>?_)
 refine(id s1).elim λy1 h1_=>h1_.elim λy2 h2_=>h2_.elim λ_ h3_=>h3_.elim λ_ h4_=>h4_.elim λ_ h5_=>h5_.elim λ_ g1=>?_
 refine dw g1 ?_
 refine .inr (bG (top:=2) s1 (by decide) (by decide) λi H2 hi k2 s2=>?_)
 refine(id s2).elim λz1 h1_=>h1_.elim λz2 h2_=>h2_.elim λw1 h3_=>h3_.elim λw2 h4_=>h4_.elim λw3 h5_=>h5_.elim λ_ g2=>?_
 refine⟨_,rfl,dz g2 (by unfold ah;simp) (λz=>nomatch z) ?_⟩
 have s3:aQ (H2.put src (.list [.int z1,.int z2,.bool (decide ((i:Int)=0))])) src (decide ((i:Int)=0)):=⟨z1,z2,w1,w2,w3,by simp,af⟩
 generalize(decide ((i:Int)=0))=f at s3
 refine .inr (bG (top:=2) s3 (by decide) (by decide) λj H4 hj k4 s4=>?_)
 have fin:∀ (t:List Nat) (d:DT),RT t d->t.length<=20000->∀ H5 v5,Pr H5 v5 t d->jg H5 v5 2 λvs=>wSs (fL a l) (lB a l) (Mw.drop 3) (([3,4].zip vs).foldl (λm p=>bT m p.1 p.2) [some (.ref a),some (.int (k:Int)),some (.ref src),x3,x4,none,none,none,none]) H5 Nn R:=λt d rt tl H5 v5 p5=>by
  refine p5.unp λr5 d5=>?_
  refine .inr (p9 rt.read rt.asc (iX tl rfl) (λd' z=>by obtain rfl:=Option.some.inj z;exact rt.dep) λH6 v6 e6 d6=>?_)
  replace d6:bS H6 v6 d:=d6
  refine rt.tup.elim λds eq1_=>?_
  subst eq1_
  have d5':=d5.ext e6
  have hnil:∀ {Q:Bool->Prop},Q true->uO H6 v6 r5 Q:=λq=>by exact .i2 _ d6 d5' rt.good rt.dep q
  cases d6 with
  | @tup b6 vs6 _ g6 hds6=>
  cases d5' with
  | @tup b5 vs5 _ g5 hds5=>
  refine hnil ?_
  refine⟨by refine ac List.length_append ?_;unfold ah;simp;exact iX tl rfl,?_⟩
  refine .inr (p9 rt.more (λc hc=>?_) (by refine ac List.length_append ?_;simp;exact iX tl rfl) (λd' z=>nomatch z) λH7 v7 e7 d7=>?_)
  ·rcases List.mem_append.mp hc with z|z
   ·exact rt.asc c z
   ·exact(show ∀ c∈[32,44],c<128 by decide) c z
  ·replace d7:v7=.none:=d7
   subst d7
   exact q H7 _ _ _
 have hj2:j=0\/j=1:=KJ hj
 rcases hj2 with rfl|rfl
 ·exact .inr (vv (by decide) H4 src _ s4 λH5 v5 x ox k5 s5 p5=>fin _ _ (p0 f x ox) (by have:=x.len f ox;have:gY.big=0:=rfl;lia) H5 v5 p5)
 ·exact .inr (HR (by decide) H4 src _ s4 λH5 v5 x ox k5 s5 p5=>fin _ _ (p1 f x ox) (by have:=x.len f ox;have:(L1 f).big=2500:=rfl;lia) H5 v5 p5)
theorem mJ{m:bd}{C:CS}{T:aT}(ws:List (List Nat))(hw:∀ w∈ws,fp w=some none/\bf w/\w.length<=100000){ok:AH->Prop}(hok:∀ H H',aR H H'->ok H->ok H'){turn:AV->AH->(Option AV->AH->Prop)->Prop}
 (ht:∀ s H K,fp s=some none->bf s->s.length<=100000->(∀ H',aR H H'->K none H')->turn (.str s) H K) {Q:List AV->AH->Prop} (q:∀ H',Q [] H'):∀ H,ok H->eJ ok turn (ws.map AV.str) H [] Q:=by
 induction ws with
 | nil=>exact λH h=>⟨h,Nat.zero_le _,q H⟩
 | cons w ws ih=>
  intro H h
  refine C7 (hw w (.head _)) λh1 h2 h3=>?_
  refine⟨h,Nat.zero_le _,ht w H _ h1 h2 h3 λH' e=>?_⟩
  exact ih (λw hw'=>hw w (.tail _ hw')) H' (hok _ _ e h)
theorem Mu(hl:l.length<=63)(p0:∀ f (x:fj gY),x.ok->RT (txt (x.ps f)) x.row)(p1:∀ f (x:fj (L1 f)),x.ok->RT (txt (x.ps f)) x.row)(hw:∀ w∈mj,fp w=some none/\bf w/\w.length<=100000)(q:∀ H',Q (.bool true) H') :
 wSs (fL a l) (lB a l) cF.body [some (.ref a),none,none,none,none,none,none,none,none] H (λ_ _=>False) Q:=by
 have tail:∀ x1 x2 x3 x4 H,wSs (fL a l) (lB a l) (cF.body.drop 1) [some (.ref a),x1,x2,x3,x4,none,none,none,none] H (λ_ _=>False) Q:=λx1 x2 x3 x4 H=>by
  refine f7 λb H1 g1 e1=>?_
  refine⟨trivial,?_⟩
  refine fC g1 (by unfold ah;simp) ?_
  refine mJ (m:=[]) (C:=lB a l) (T:=fL a l) mj hw (λH H' e h=>e _ _ h) (λs H K h1 h2 h3 q=>?_) (λH'=>?_) H1 g1
  ·refine .inr (p9 h1 h2 h3 (λd' z=>nomatch z) λH7 v7 e7 d7=>?_)
   replace d7:v7=.none:=d7
   subst d7
   exact q H7 e7
  ·refine f7 λc H2 g2 e2=>f7 λd H3 g3 e3=>?_
   exact ri (e3 _ _ g2) g3 (q H3)
 refine⟨trivial,?_⟩
 refine sS ?_
 have h1:max 1 (min (l.length:Int) 2)=1\/max 1 (min (l.length:Int) 2)=2:=by lia
 show(0<=max 1 (min (l.length:Int) 2)/\max 1 (min (l.length:Int) 2)<=100)/\lj _ _ (cnt (max 1 (min (l.length:Int) 2)).toNat) _ _ _
 rcases h1 with h1|h1
 ·refine ac h1 ?_
  refine⟨by decide,?_⟩
  refine mK (k:=0) (x1:=none) hl p0 p1 (by decide) λH1 x2 x3 x4=>?_
  exact tail _ _ _ _ _
 ·refine ac h1 ?_
  refine⟨by decide,?_⟩
  refine mK (k:=0) (x1:=none) hl p0 p1 (by decide) λH1 x2 x3 x4=>?_
  refine mK (k:=1) (x1:=none) hl p0 p1 (by decide) λH1 x2 x3 x4=>?_
  exact tail _ _ _ _ _
end
set_option backward.eqns.nonrecursive false
noncomputable def Pc.tok:Pc->Option Tok
 | .sp=>none
 | .sg c=>some ⟨bp,[c],.none⟩
 | .wd w=>some ⟨ar,w.map eK,.str w⟩
 | .nu n=>some ⟨b7,[],.int n⟩
 | .qu _ k v=>some ⟨k,[],.str v⟩
noncomputable def toks:List Pc->List Tok
 | []=>[]
 | p::r=>p.tok.toList++toks r
theorem bm(a b:List Pc):toks (a++b)=toks a++toks b:=by
 induction a with
 | nil=>rfl
 | cons p r ih=>show p.tok.toList++toks (r++b)=_;refine ac (ih ..) (ac (List.append_assoc ..).symm ?_);rfl
section
variable {p q:List Pc} {f g:List Tok->List Tok} {ts u:List Tok}
theorem kL(r:List Tok):toks p++r=List.append (toks p) r:=rfl
theorem kA(h1:∀ r,toks p++r=f r)(h2:∀ r,toks q++r=g r)(r:List Tok):toks (p++q)++r=(f∘g) r:=by refine ac (bm ..) (ac (List.append_assoc ..) (ac (h2 ..) (ac (h1 ..) ?_)));rfl
theorem kW{b:Bool}{w:List Nat}{t:Tok}(h:toks (kw b w)=[t])(r:List Tok):toks (kw b w)++r=List.cons t r:=by refine ac h ?_;rfl
theorem tk_eq(h1:∀ r,toks p++r=f r)(h:f ts=u):toks p++ts=u:=(h1 ts).trans h
end
noncomputable def vt:List Nat:=[32,40,41,42,43,44,46]
noncomputable def Qq(t k v:List Nat):Bool:=decide ((t,k,v)∈[([34,102,114,111,109,34],ar,[102,114,111,109]),([91,120,32,121,93],ar,[120,32,121]),([96,113,96],ar,[113]),([34,100,34,34,113,34],ar,[100,34,113]),(IN,da,yo),(nU,da,tB)])
noncomputable def Pc.fine:Pc->Bool
 | .sp=>true
 | .sg c=>decide (c∈[40,41,42,43,44,46])
 | .wd w=>(match w with|c::_=>isIn dG c&&!isIn [120,88] c|[]=>false)&&w.all (isIn bJ)
 | .nu n=>decide (n<90)
 | .qu t k v=>Qq t k v
noncomputable def Pc.nx:Pc->Nat
 | .sp|.sg _=>0
 | .nu _=>2
 | _=>1
noncomputable def Pc.can(b:Nat):Pc->Bool
 | .sp=>true
 | .sg c=>!(Nat.beq b 2&&Nat.beq c 46)
 | _=>Nat.beq b 0
noncomputable def a8:Nat->List Pc->Bool
 | _,[]=>true
 | b,p::r=>p.fine&&p.can b&&a8 p.nx r
theorem um{b:Nat}{l:List Pc}(h:a8 2 l=true):a8 b l=true:=by
 induction l with
 | nil=>rfl
 | cons p r=>
  simp only[a8,Bool.and_eq_true] at h⊢
  refine⟨⟨h.1.1,?_⟩,h.2⟩
  have h:=h.1.2
  induction p with
  | sp=>rfl
  | sg c=>
   have hc:Nat.beq c 46=false:=by simpa [Pc.can] using h
   show(!(Nat.beq b 2&&Nat.beq c 46))=true
   refine hc.symm ▸ ?_;simp
  | wd w=>exfalso;cases h
  | nu w=>exact Bool.noConfusion h
  | qu t k v=>exfalso;cases h
theorem aJ:∀ {b:Nat} {x y:List Pc},a8 b x=true->a8 2 y=true->a8 b (x++y)=true
 | b,[],y,_,h=>um h
 | b,p::r,y,h1,h2=>by
  simp only[a8,List.cons_append,Bool.and_eq_true] at h1⊢
  exact⟨h1.1,aJ h1.2 h2⟩
noncomputable def KU(s:List Nat):Prop:=s=[]\/∃ c r,s=c::r/\c∈vt
noncomputable def Dw(s:List Nat):Prop:=s=[]\/∃ c r,s=c::r/\c∈[32,40,41,42,43,44]
theorem Dw.fol{s:List Nat}(h:Dw s):KU s:=by
 rcases h with h|⟨c,r,e,hc⟩
 ·exact .inl h
 ·exact .inr ⟨c,r,e,(by decide:∀ c∈[32,40,41,42,43,44],c∈vt) c hc⟩
theorem qT{b:Nat}{l:List Pc}(hb:b=1\/b=2)(h:a8 b l=true):KU (txt l)/\(b=2->Dw (txt l)):=by
 cases l with
 | nil=>exact⟨.inl rfl,λ_=>.inl rfl⟩
 | cons p r=>
  induction p with
  | sp=>exact⟨.inr ⟨32,txt r,rfl,by decide⟩,λ_=>.inr ⟨32,txt r,rfl,by decide⟩⟩
  | sg c=>
   have h0:c∈[40,41,42,43,44,46]:=of_decide_eq_true (Bool.and_eq_true_iff.mp (Bool.and_eq_true_iff.mp h).1).1
   have h1:=(Bool.and_eq_true_iff.mp (Bool.and_eq_true_iff.mp h).1).2
   refine⟨.inr ⟨c,txt r,rfl,(by decide:∀ c∈[40,41,42,43,44,46],c∈vt) c h0⟩,λz=>.inr ⟨c,txt r,rfl,?_⟩⟩
   subst z
   exact(by decide:∀ c∈[40,41,42,43,44,46],Pc.can 2 (.sg c)=true->c∈[32,40,41,42,43,44]) c h0 h1
  | wd w=>rcases hb with rfl|rfl<;>simp[a8,Pc.can] at h
  | nu w=>rcases hb with rfl|rfl<;>simp[a8,Pc.can] at h
  | qu t k v=>rcases hb with rfl|rfl<;>simp[a8,Pc.can] at h
theorem u3{α:Type}{p:α->Bool} : ∀ {w s:List α},w.all p=true->(∀ c r,s=c::r->p c=false)->(w++s).takeWhile p=w/\(w++s).dropWhile p=s:=by
 intro z_
 induction z_ with
 | nil=>
  intro s _ h
  induction s with
  | nil=>exact⟨rfl,rfl⟩
  | cons c r=>have:=h c r rfl;exact⟨by simp[this],by simp[this]⟩
 | cons x w ihz=>
  intro s hw h
  simp only[List.all_cons,Bool.and_eq_true] at hw
  refine(ihz hw.2 h).elim λh1 h2=>?_
  simp only[List.cons_append,List.takeWhile,List.dropWhile,hw.1,h1,h2]
  exact⟨trivial,trivial⟩
theorem sq{l:List Nat}(hl:(vt.all λc=>!isIn l c)=true){s:List Nat}(h:KU s):∀ c r,s=c::r->isIn l c=false:=by
 rintro c r rfl
 rcases h with h|⟨c',r',h,hc⟩
 ·exfalso;cases h
 ·injection h with h;subst h
  have:=List.all_eq_true.mp hl c hc
  simpa using this
theorem uw{P:List Nat->Prop}{s:List Nat}(h:KU s)(h0:P [])(h1:∀ r,P (32::r))(h2:∀ r,P (40::r))(h3:∀ r,P (41::r))(h4:∀ r,P (42::r))(h5:∀ r,P (43::r))(h6:∀ r,P (44::r))(h7:∀ r,P (46::r)):P s:=by
 rcases h with rfl|⟨c,r,rfl,hc⟩
 ·exact h0
 ·simp only[vt,List.mem_cons,List.not_mem_nil,or_false] at hc
  rcases hc with rfl|rfl|rfl|rfl|rfl|rfl|rfl
  ·exact h1 r
  ·exact h2 r
  ·exact h3 r
  ·exact h4 r
  ·exact h5 r
  ·exact h6 r
  ·exact h7 r
noncomputable def Lx(p:Pc)(s:List Nat):Prop:=∃ c r,p.t=c::r/\mL c (r++s)=some (p.tok,s)
theorem Ml{w s:List Nat}(h:(Pc.wd w).fine=true)(hs:KU s):Lx (.wd w) s:=by
 induction w with
 | nil=>simp[Pc.fine] at h
 | cons c r=>
  refine⟨c,r,rfl,?_⟩
  simp only[Pc.fine,Bool.and_eq_true,Bool.not_eq_true'] at h
  refine h.elim λh1_ h3=>h1_.elim λh1 h2=>?_
  have hb:isIn fi c=false:=by
   have hc:c∈dG:=by simpa [isIn] using h1
   have:=List.all_eq_true.mp (show(dG.all λc=>!isIn fi c)=true from rfl) c hc
   simpa using this
  refine(u3 (p:=isIn bJ) h3 (sq (by rfl) hs)).elim λe1 e2=>?_
  unfold mL
  refine ac hb (ac h1 (ac h2 ?_))
  show(some (some (⟨ar,((c::r)++s |>.takeWhile (isIn bJ)).map eK,.str ((c::r)++s |>.takeWhile (isIn bJ))⟩:Tok),((c::r)++s).dropWhile (isIn bJ)))=_
  rw[e1,e2];rfl
theorem Mm{c:Nat}{s:List Nat}(h:(Pc.sg c).fine=true):Lx (.sg c) s:=by
 refine⟨c,[],rfl,?_⟩
 simp only[Pc.fine,decide_eq_true_eq,List.mem_cons,List.not_mem_nil,or_false] at h
 rcases h with rfl|rfl|rfl|rfl|rfl|rfl
 all_goals (induction s<;>rfl)
theorem sB:((List.range 90).all λn=>(aD 4 n).all (isIn eo)&&(decide (qj (aD 4 n)=some n)&&(match aD 4 n with|c::r=>isIn eo c&&!isIn fi c&&!isIn dG c&&(match r with|[]=>true|d::_=>isIn eo d)|[]=>false)))=true:=by rfl
theorem Mo{n:Nat}{s:List Nat}(h:(Pc.nu n).fine=true)(hsN:Dw s):Lx (.nu n) s:=by
 have hs:=hsN.fol
 simp only[Pc.fine,decide_eq_true_eq] at h
 have ha:=List.all_eq_true.mp sB n (List.mem_range.mpr h)
 simp only[Bool.and_eq_true,decide_eq_true_eq] at ha
 refine C7 ha λh1 h2 h3=>?_
 unfold Lx
 show ∃ c r,aD 4 n=c::r/\_
 cases hd:aD 4 n with
 | nil=>rw[hd] at h3;exfalso;cases h3
 | cons c r=>
  rw[hd] at h1 h2 h3
  simp only[Bool.and_eq_true,Bool.not_eq_true'] at h3
  obtain⟨⟨⟨h4,h5⟩,h6⟩,h7⟩:=h3
  refine⟨c,r,rfl,?_⟩
  refine(u3 (p:=isIn eo) h1 (sq (by rfl) hs)).elim λe1 e2=>?_
  have hx:decide ((c::(r++s)).take 2∈[[48,120],[48,88]])=false:=by
   rw[decide_eq_false_iff_not]
   intro hm
   have h2:∃ d,(c::(r++s)).take 2=[c,d]/\(d=120\/d=88):=by
    simp only[List.mem_cons,List.not_mem_nil,or_false] at hm
    rcases hm with z|z
    ·cases hrs:r++s with
     | nil=>rw[hrs] at z;cases z
     | cons d u=>rw[hrs] at z;exact⟨d,rfl,.inl (by simpa using (List.cons.inj (List.cons.inj z).2).1)⟩
    ·cases hrs:r++s with
     | nil=>rw[hrs] at z;cases z
     | cons d u=>rw[hrs] at z;exact⟨d,rfl,.inr (by simpa using (List.cons.inj (List.cons.inj z).2).1)⟩
   obtain⟨d,hd2,hdx⟩:=h2
   cases r with
   | cons d' r'=>
    have:d'=d:=by simpa using hd2
    subst this
    rcases hdx with rfl|rfl
    ·exact absurd (show isIn eo 120=true from h7) (by decide)
    ·exact absurd (show isIn eo 88=true from h7) (by decide)
   | nil=>
    rcases hs with rfl|⟨c',r',rfl,hc'⟩
    ·simp at hd2
    ·have:c'=d:=by simpa using hd2
     subst this
     rcases hdx with rfl|rfl<;>exact absurd hc' (by decide)
  unfold mL
  refine ac h5 (ac h6 (ac h4 (ac hx ?_)))
  show((ju ((c::r)++s)).map λx=>(some x.1,x.2))=_
  unfold ju
  refine ac e1 (ac e2 (ac h2 ?_))
  clear hx e1 e2 hs
  rcases hsN with rfl|⟨x,u,rfl,hcx⟩
  ·rfl
  ·simp only[List.mem_cons,List.not_mem_nil,or_false] at hcx
   rcases hcx with rfl|rfl|rfl|rfl|rfl|rfl<;>rfl
theorem Mn{t k v:List Nat}{s:List Nat}(h:(Pc.qu t k v).fine=true)(hs:KU s):Lx (.qu t k v) s:=by
 simp only[Pc.fine,Qq,decide_eq_true_eq,List.mem_cons,List.not_mem_nil,or_false,Prod.mk.injEq] at h
 unfold Lx
 rcases h with⟨rfl,rfl,rfl⟩|⟨rfl,rfl,rfl⟩|⟨rfl,rfl,rfl⟩|⟨rfl,rfl,rfl⟩|⟨rfl,rfl,rfl⟩|⟨rfl,rfl,rfl⟩
 all_goals (refine⟨_,_,rfl,?_⟩;refine uw (P:=λs=>mL _ (_++s)=some (_,s)) hs ?_ ?_ ?_ ?_ ?_ ?_ ?_ ?_)
 all_goals (first|rfl|(intro r;rfl))
set_option backward.eqns.nonrecursive true
theorem Cx:∀ (ps:List Pc) (b n:Nat),a8 b ps=true->(txt ps).length<=n->jX n (txt ps)=some (toks ps):=by
 intro z_
 induction z_ with
 | nil=>
  intro b n _ _
  induction n<;>rfl
 | cons p r ihz=>
  intro b n h hn
  simp only[a8,Bool.and_eq_true] at h
  obtain⟨⟨h1,h2⟩,h3⟩:=h
  have lx:Lx p (txt r):=by
   induction p with
   | sp=>exact⟨32,[],rfl,rfl⟩
   | sg c=>exact Mm h1
   | wd w=>exact Ml h1 (qT (.inl rfl) h3).1
   | nu k=>exact Mo h1 ((qT (.inr rfl) h3).2 rfl)
   | qu t k v=>exact Mn h1 (qT (.inl rfl) h3).1
  obtain⟨c,u,e1,e2⟩:=lx
  have et:txt (p::r)=c::(u++txt r):=by
   show(p::r).flatMap Pc.t=_
   refine ac List.flatMap_cons (ac e1 ?_);rfl
  rw[et] at hn⊢
  induction n with
  | zero=>simp at hn
  | succ n=>
   have ih:=ihz p.nx n h3 (by simp at hn;lia)
   show(match mL c (u++txt r) with|none=>none|some (t,r')=>(jX n r').map λl=>t.toList++l)=_
   refine ac e2 ?_
   show(jX n (txt r)).map _=_
   refine ac ih ?_;rfl
theorem xG:∀ ps:List Pc,Il (toks ps)=true:=by
 intro z_
 induction z_ with
 | nil=>
  exact rfl
 | cons p r ihz=>
  have ih:=ihz
  unfold Il at ih⊢
  show(p.tok.toList++toks r).all _=true
  refine ac List.all_append (ac ih ?_)
  induction p<;>rfl
theorem small{l s:List Nat}(h:(l.all λc=>Nat.blt c 128)=true)(hs:∀ x∈s,x∈l):bf s:=λx hx=>Nat.le_of_ble_eq_true (List.all_eq_true.mp h x (hs x hx))
theorem Dm:∀ (ps:List Pc) (b:Nat),a8 b ps=true->bf (txt ps):=by
 intro z_
 induction z_ with
 | nil=>
  intro _ _
  exact λc hc=>nomatch hc
 | cons p r ihz=>
  intro b h
  simp only[a8,Bool.and_eq_true] at h
  obtain⟨⟨h1,h2⟩,h3⟩:=h
  have hp:bf p.t:=by
   induction p with
   | sp=>exact λc hc=>by refine ac (List.mem_singleton.mp hc) ?_;decide
   | sg c=>exact small (l:=[40,41,42,43,44,46]) rfl λx hx=>by refine ac (List.mem_singleton.mp hx) ?_;exact of_decide_eq_true h1
   | wd w=>exact small (l:=bJ) rfl λx hx=>of_decide_eq_true (List.all_eq_true.mp (Bool.and_eq_true_iff.mp h1).2 x hx)
   | nu k=>
    have ha:=List.all_eq_true.mp sB k (List.mem_range.mpr (of_decide_eq_true h1))
    exact small (l:=eo) rfl λx hx=>of_decide_eq_true (List.all_eq_true.mp (Bool.and_eq_true_iff.mp ha).1 x hx)
   | qu t k v=>
    have ht:=(by decide:∀ q∈[([34,102,114,111,109,34],ar,[102,114,111,109]),([91,120,32,121,93],ar,[120,32,121]),([96,113,96],ar,[113]),([34,100,34,34,113,34],ar,[100,34,113]),(IN,da,yo),(nU,da,tB)],(q.1.all λc=>Nat.blt c 128)=true) (t,k,v) (of_decide_eq_true h1)
    exact λx hx=>Nat.le_of_ble_eq_true (List.all_eq_true.mp ht x hx)
  intro x hx
  have hx:x∈p.t++txt r:=hx
  rcases List.mem_append.mp hx with z|z
  ·exact hp x z
  ·exact ihz _ h3 x z
theorem nY{ps:List Pc}(h:a8 0 ps=true):fp (txt ps)=fP (toks ps):=by
 unfold fp
 refine ac (Cx ps 0 _ h (Nat.le_refl _)) ?_
 show(bif Il (toks ps) then fP (toks ps) else none)=_
 refine ac (xG ..) ?_;rfl
theorem xo{ps:List Pc}(h:a8 0 ps=true):fp (txt ps++[32,44])=fP (toks ps++[⟨bp,[44],.none⟩]):=by
 have:=nY (ps:=ps++[.sp,.sg 44]) (aJ h rfl)
 rw[aV,bm] at this
 exact this
theorem eR{b:Nat}{x y:List Pc}(h:a8 b x=true)(h2:a8 0 y=true):a8 b (x++[.sp]++y)=true:=by
 refine ac (List.append_assoc ..) ?_;exact aJ h h2
theorem Pw{y:List Pc}(h2:a8 0 y=true):a8 2 ([.sp]++y)=true:=h2
theorem Qs{b:Nat}{k:List Nat}{y:List Pc}(f:Bool)(hk:(a8 0 (kw true k)&&a8 0 (kw false k))=true)(h2:a8 2 y=true):a8 0 (kw f k++y)=true:=by
 simp only[Bool.and_eq_true] at hk
 refine aJ ?_ h2
 induction f
 ·exact hk.2
 ·exact hk.1
theorem kR{k:List Nat}(f:Bool)(hk:(a8 0 (kw true k)&&a8 0 (kw false k))=true):a8 0 (kw f k)=true:=by
 simp only[Bool.and_eq_true] at hk
 induction f
 ·exact hk.2
 ·exact hk.1
theorem GX{k l:List Nat}(f:Bool)(hk:(a8 0 (f8 true k l)&&a8 0 (f8 false k l))=true):a8 0 (f8 f k l)=true:=by
 simp only[Bool.and_eq_true] at hk
 induction f
 ·exact hk.2
 ·exact hk.1
theorem aU.gl(f:Bool)(e:aU)(h:e.ok):a8 0 (e.ps f)=true:=by
 induction e with
 | num n=>show(decide (n<90)&&true&&true)=true;have h:n<90:=h;simp[h]
 | its=>rfl
 | null=>induction f<;>rfl
 | nn c d=>induction c<;>induction d<;>rfl
 | plus c=>induction c<;>rfl
 | cnt=>rfl
 | sum c=>induction f<;>induction c<;>rfl
 | nm c=>induction c<;>rfl
theorem Al.gl(f:Bool)(a:Al):a8 2 (a.ps f)=true:=by
 induction a with
 | no=>rfl
 | bare c=>induction c<;>rfl
 | own=>induction f<;>rfl
 | as c=>induction f<;>induction c<;>rfl
theorem eU.gl(f:Bool)(a:eU):a8 2 (a.ps f)=true:=by
 induction a with
 | no=>rfl
 | ind c=>induction f<;>induction c<;>rfl
 | scan=>induction f<;>rfl
theorem JK.gl(f:Bool)(a:JK):a8 0 (a.ps f)=true:=by induction a<;>induction f<;>rfl
theorem Op.gl(f:Bool)(a:Op):a8 0 (a.ps f)=true:=by induction a<;>induction f<;>rfl
theorem eC.gl(f:Bool)(a:eC):a8 2 (a.ps f)=true:=by induction a<;>induction f<;>rfl
theorem jc:∀ {l:List (List Pc)},(∀ x∈l,a8 0 x=true)->a8 0 (comma l)=true
 | [],_=>rfl
 | x::r,h=>by
  refine aJ (h x (.head _)) ?_
  have hr:=λy hy=>h y (.tail _ hy)
  clear h
  induction r with
  | nil=>rfl
  | cons y r ih=>
   refine ac List.flatMap_cons ?_
   refine aJ (show a8 2 ([.sg 44,.sp]++y)=true from hr y (.head _)) (ih λz hz=>hr z (.tail _ hz))
section
variable (f:Bool) {L:Lv} (hL:∀ x,L.ok x->a8 0 (L.ps x)=true)
include hL
theorem gU.gl(e:gU L)(h:e.ok):a8 0 (e.ps f)=true:=by
 induction e with
 | b e=>exact e.gl f h
 | s x=>exact aJ (show a8 0 ([.sg 40]++L.ps x)=true from hL x h) rfl
theorem dC.gl(c:dC L)(h:c.ok):a8 0 (c.ps f)=true:=by
 induction c with
 | star=>rfl
 | tst c=>induction c<;>rfl
 | ex e a=>exact aJ (e.gl f hL h) (a.gl f)
theorem gj.gl(s:gj L)(h:s.ok):a8 0 (s.ps f)=true:=by
 induction s with
 | tab c a hh=>exact aJ (aJ (by induction c<;>rfl) (a.gl f)) (hh.gl f)
 | sub x a=>exact aJ (aJ (show a8 0 ([.sg 40]++L.ps x)=true from hL x h.1) rfl) (a.gl f)
omit hL in
theorem On.gl(o:On)(h:o.ok):a8 2 (o.ps f)=true:=by
 induction o with
 | on e=>exact eR (x:=[.sp]++kw f A3) (kR f rfl) (e.gl f h)
 | us c cs=>
  have hc:a8 0 (comma ((c::cs).map λc=>[c.p]))=true:=jc λx hx=>by
   obtain⟨c,_,rfl⟩:=List.mem_map.mp hx
   induction c<;>rfl
  have h1:a8 2 ([.sp]++kw f dI)=true:=kR f rfl
  exact aJ (b:=2) (by rw[show[Pc.sp]++kw f dI++[.sp,.sg 40]++comma ((c::cs).map λc=>[c.p])=([Pc.sp]++kw f dI)++([.sp,.sg 40]++comma ((c::cs).map λc=>[c.p])) from by simp];exact aJ h1 hc) rfl
 | no=>rfl
theorem b9.gl(x:b9 L)(h:x.ok):a8 0 (x.ps f)=true:=by
 unfold b9.ps
 refine aJ (x.a.gl f hL h.1) ?_
 have h2:=h.2
 induction hj:x.j with
 | none=>rfl
 | some y=>
  obtain⟨k,s,o⟩:=y
  rw[hj] at h2
  exact aJ (eR (x:=[.sp]++k.ps f) (k.gl f) (s.gl f hL h2.1)) (o.gl f h2.2)
omit hL in
theorem y3(l:List aU)(h:∀ e∈l,e.ok):a8 0 (comma (l.map (aU.ps f)))=true:=jc λx hx=>by
 obtain⟨e,he,rfl⟩:=List.mem_map.mp hx
 exact e.gl f (h e he)
omit hL in
theorem Hn(e:Option aU)(h:∀ x,e=some x->x.ok):a8 2 (cH f e)=true:=by
 induction e with
 | none=>rfl
 | some e=>exact eR (x:=[.sp]++kw f cO) (kR f rfl) (e.gl f (h e rfl))
omit hL in
theorem JD(e:Option aU)(h:∀ x,e=some x->x.ok):a8 2 (g8 f e)=true:=by
 induction e with
 | none=>rfl
 | some e=>exact eR (x:=[.sp]++kw f cJ) (kR f rfl) (e.gl f (h e rfl))
omit hL in
theorem JE(g:Option (aU×List aU×Option aU))(h:∀ e es h,g=some (e,es,h)->es.length<=1/\(∀ y∈e::es,y.ok)/\∀ y,h=some y->y.ok):a8 2 (dc f g)=true:=by
 induction g with
 | none=>rfl
 | some x=>
  obtain⟨e,es,hv⟩:=x
  refine C7 (h e es hv rfl) λ_ h2 h3=>?_
  exact aJ (eR (x:=[.sp]++f8 f b0 eV) (GX f rfl) (y3 f (e::es) h2)) (JD f hv h3)
theorem fH.gl(x:fH L)(h:x.ok):a8 0 (x.ps f)=true:=by
 refine kS h λh1 h2 h3 h4 h5=>?_
 have hc:a8 0 (comma ((x.c::x.cs).map (dC.ps f L)))=true:=jc λy hy=>by
  refine cG (List.mem_map.mp hy) λc hc eq1_=>?_
  subst eq1_
  exact c.gl f hL (h2 c hc)
 have hw:a8 0 (x.w.ps f++comma ((x.c::x.cs).map (dC.ps f L)))=true:=by
  cases x.w with
  | no=>exact hc
  | dist=>cases f<;>exact hc
  | all=>cases f<;>exact hc
 have hs:a8 2 (cK f L x.src)=true:=by
  cases hs:x.src with
  | none=>rfl
  | some s=>exact eR (x:=[.sp]++kw f dn) (kR f rfl) (s.gl f hL (h3 s hs))
 unfold fH.ps
 refine aJ (aJ (aJ ?_ hs) (Hn f _ h4)) (JE f _ h5)
 refine ac (List.append_assoc ..) ?_
 exact eR (kR f rfl) hw
omit hL in
theorem gX.gl(x:gX)(h:x.ok):a8 0 (x.ps f)=true:=by
 refine eR (kR f rfl) (jc λy hy=>?_)
 obtain⟨e,he,rfl⟩:=List.mem_map.mp hy
 exact aJ (show a8 0 ([.sg 40]++_)=true from y3 f (e.1::e.2) (h.2.2.2 e he)) rfl
theorem ci.gl(x:ci L)(h:x.ok):a8 0 (x.ps f)=true:=by
 induction x with
 | v x=>exact x.gl f h
 | c x=>exact x.gl f hL h
omit hL in
theorem ro:∀ x,gY.ok x->a8 0 (gY.ps x)=true:=λx=>nomatch x
theorem cA.gl(x:cA L)(h:x.ok):a8 0 (x.ps f)=true:=by
 refine C7 h λh1 h2 h3=>?_
 refine aJ (x.b.gl f hL h1) ?_
 clear h1 h2
 generalize x.more=l at h3
 induction l with
 | nil=>rfl
 | cons y l ih=>
  refine List.flatMap_cons.symm ▸ ?_
  exact aJ (eR (x:=[.sp]++y.1.ps f) (y.1.gl f) (y.2.gl f ro (h3 y (.head _)))) (ih λz hz=>h3 z (.tail _ hz))
omit hL in
theorem u8(l:List (aU×eC))(h:∀ y∈l,y.1.ok):a8 2 (bc f l)=true:=by
 cases l with
 | nil=>rfl
 | cons x r=>
  refine aJ (b:=2) (x:=[.sp]++f8 f bZ eV++[.sp]++cU f x) (eR (x:=[.sp]++f8 f bZ eV) (GX f rfl) (aJ (x.1.gl f (h x (.head _))) (x.2.gl f))) ?_
  have h':=λy hy=>h y (.tail _ hy)
  clear h
  induction r with
  | nil=>rfl
  | cons y r ih=>
   refine ac List.flatMap_cons ?_
   have ht:a8 0 (cU f y)=true:=aJ (y.1.gl f (h' y (.head _))) (y.2.gl f)
   exact aJ (show a8 2 ([.sg 44,.sp]++cU f y)=true from ht) (ih λz hz=>h' z (.tail _ hz))
omit hL in
theorem ke.gl(x:ke)(h:x.ok):a8 2 (x.ps f)=true:=by
 induction x with
 | no=>rfl
 | l a=>exact eR (x:=[.sp]++kw f bh) (kR f rfl) (a.gl f h)
 | lo a b=>exact eR (eR (eR (x:=[.sp]++kw f bh) (kR f rfl) (a.gl f h.1)) (kR f rfl)) (b.gl f h.2)
 | lc a b=>
  show a8 2 ([.sp]++kw f bh++[.sp]++b.ps f++[.sg 44,.sp]++a.ps f)=true
  refine ac (List.append_assoc ..) ?_
  exact aJ (eR (x:=[.sp]++kw f bh) (kR f rfl) (b.gl f h.2)) (show a8 2 ([.sg 44,.sp]++a.ps f)=true from a.gl f h.1)
theorem fj.gl(x:fj L)(h:x.ok):a8 0 (x.ps f)=true:=by
 refine kS h λh1 h2 h3 h4 h5=>?_
 exact aJ (x.b.gl f hL h1) (aJ (u8 f _ h3) (x.l.gl f h4))
end
theorem OE(f:Bool):∀ x,(L1 f).ok x->a8 0 ((L1 f).ps x)=true:=λx h=>fj.gl f ro x h
noncomputable def K(f:Bool)(k:List Nat):Tok:=⟨ar,k,.str (dH f k)⟩
noncomputable def S(c:Nat):Tok:=⟨bp,[c],.none⟩
noncomputable def b1(c:c9):Tok:=c.p.tok.getD bE
noncomputable abbrev Hd:=List (List Nat×List Nat)
noncomputable def F(L:Hd)(ts:List Tok):Prop:=∃ w r,ts=w::r/\L.elem (w.k,w.t)=true
noncomputable def LX:Hd:=[(eH,[]),(bp,[44]),(bp,[41]),(ar,dn),(ar,cO),(ar,b0),(ar,cJ),(ar,bZ),(ar,bh),(ar,eQ),(ar,cP),(ar,e9),(ar,cI),(ar,jw),(ar,jx),(ar,i7)]
noncomputable def LE:Hd:=(ar,t8)::(ar,lZ)::(ar,dT)::(ar,rZ)::(ar,[65])::(ar,[84,65,66])::(ar,[])::LX
noncomputable def LN:Hd:=(bp,[43])::LE
theorem F.mono{L L':Hd}{ts:List Tok}(h:F L ts)(hl:(L.all λp=>L'.elem p)=true):F L' ts:=by
 obtain⟨w,r,e,hw⟩:=h
 exact⟨w,r,e,List.all_eq_true.mp hl _ (List.elem_iff.mp hw)⟩
theorem F.k{L:Hd}{ts:List Tok}{s:List Nat}(h:F L ts)(hl:(L.all λp=>!aA s ⟨p.1,p.2,.none⟩)=true):jZ s ts=false:=by
 refine pf h λw r eq1_ hw=>?_
 subst eq1_
 have:=List.all_eq_true.mp hl _ (List.elem_iff.mp hw)
 exact(Bool.not_eq_true' _).mp this
theorem F.s{L:Hd}{ts:List Tok}{s:List Nat}(h:F L ts)(hl:(L.all λp=>!aE s ⟨p.1,p.2,.none⟩)=true):ud s ts=false:=by
 obtain⟨w,r,rfl,hw⟩:=h
 have:=List.all_eq_true.mp hl _ (List.elem_iff.mp hw)
 exact(Bool.not_eq_true' _).mp this
theorem F.one{L:Hd}{w:Tok}{r:List Tok}(h:L.elem (w.k,w.t)=true):F L (w::r):=⟨w,r,rfl,h⟩
section
variable {α β:Type} {s:List Nat} {ts r:List Tok} {w:Tok} {R:aX β}
theorem cj{g:Bool->List Tok->aX β}(h:jZ s ts=false)(q:g false ts=R):aS s ts g=R:=by unfold aS;refine ac h ?_;exact q
theorem eX{g:Bool->List Tok->aX β}(h:aA s w=true)(q:g true r=R):aS s (w::r) g=R:=by unfold aS;refine ac (show jZ s (w::r)=true from h) ?_;exact q
theorem iG{g:Bool->List Tok->aX β}(h:ud s ts=false)(q:g false ts=R):bH s ts g=R:=by unfold bH;refine ac h ?_;exact q
theorem iF{g:Bool->List Tok->aX β}(h:aE s w=true)(q:g true r=R):bH s (w::r) g=R:=by unfold bH;refine ac (show ud s (w::r)=true from h) ?_;exact q
theorem rO{g:List Tok->aX β}(h:aA s w=true)(q:g r=R):bI s (w::r) g=R:=by unfold bI;refine ac (show jZ s (w::r)=true from h) ?_;exact q
theorem oF{g:List Tok->aX β}(h:aE s w=true)(q:g r=R):bg s (w::r) g=R:=by unfold bg;refine ac (show ud s (w::r)=true from h) ?_;exact q
theorem cz{x:aX α}{a:α}{g:α->List Tok->aX β}(h:x=.ok a ts)(q:g a ts=R):x.bind g=R:=by refine ac h ?_;exact q
theorem jF{x:aX α}{g:α->List Tok->aX β}(h:x=.err):x.bind g=.err:=by refine ac h ?_;rfl
end
noncomputable def Fk(p:List Nat×List Nat):Bool:=bif decide (p.1=bp) then decide (cB p.2=0) else !(decide (p.1=ar)&&(jR p.2 (cn 970)).isSome)
theorem Cy:(LE.all Fk)=true:=by rfl
theorem Mr{β:Type}{ts:List Tok}{g:Int->aX β}(h:F LE ts):iR ts g=g 0:=by
 refine pf h λw r eq1_ hw=>?_
 subst eq1_
 have h:=List.all_eq_true.mp Cy _ (List.elem_iff.mp hw)
 unfold Fk at h
 show bu (decide (w.k=bp)) (g (cB w.t)) (bu (decide (w.k=ar)&&(jR w.t (cn 970)).isSome) .unk (g 0))=_
 cases hs:decide (w.k=bp) with
 | true=>
  have h:decide (cB w.t=0)=true:=by rw[hs] at h;exact h
  show g (cB w.t)=_
  exact ac (of_decide_eq_true h) rfl
 | false=>
  have h:(!(decide (w.k=ar)&&(jR w.t (cn 970)).isSome))=true:=by rw[hs] at h;exact h
  show bu (decide (w.k=ar)&&(jR w.t (cn 970)).isSome) .unk (g 0)=_
  exact ac ((Bool.not_eq_true' _).mp h) rfl
theorem j7{β:Type}{d:Nat}{x:aX β}(hd:d+1<=50):bu (decide (d+1>50)) .err x=x:=by
 exact ac (decide_eq_false (Nat.not_lt_of_le hd)) rfl
theorem fa{n d:Nat}{least:Int}{ts ts':List Tok}{x:DT}(hd:d+1<=50)(hl:0<least)(hp:(aj (n+1)).pre (d+1) ts=.ok x ts')(hf:F LE ts'):(aj (n+2)).expr d least ts=.ok x ts':=by
 show bu (decide (d+1>50)) .err (((aj (n+1)).pre (d+1) ts).bind λf ts=>iR ts λl=>(aj (n+1)).ops (d+1) least f l ts)=_
 refine ac (j7 hd) ?_
 refine cz hp ?_
 show iR ts' _=_
 refine ac (Mr hf) ?_
 show bu (decide ((0:Int) ≥ least)) _ (.ok x ts')=_
 exact ac (decide_eq_false (by lia)) rfl
theorem PH(c:c9):toks [c.p]=[b1 c]:=by induction c<;>rfl
theorem fQ{β:Type}{c:c9}{r:List Tok}{g:List Nat->List Tok->aX β} : cW (b1 c::r) g=g c.v r:=by induction c<;>rfl
theorem xr{n d:Nat}{c:c9}{ts:List Tok} : (aj (n+2)).pre d (b1 c::ts)=(aj n).named d (b1 c::ts):=by induction c<;>rfl
theorem rP{n d:Nat}{c:c9}{ts:List Tok}(h:F LN ts):(aj (n+1)).named d (b1 c::ts)=.ok (nmD c) ts:=by
 show ij (aj n) d (b1 c::ts)=_
 unfold ij
 refine ac (fQ ..) ?_
 refine iG (h.s rfl) ?_
 exact iG (h.s rfl) rfl
theorem Fb{n d i:Nat}{least:Int}{ts:List Tok}(hi:i<90)(hd:d+1<=50)(hl:0<least)(hf:F LE ts):(aj (n+3)).expr d least (⟨b7,[],.int i⟩::ts)=.ok (eP (.int i)) ts:=by
 refine fa hd hl ?_ hf
 show bu (decide ((i:Int)=9223372036854775808)) .err (.ok (eP (.int i)) ts)=_
 exact ac (decide_eq_false (by lia)) rfl
noncomputable def aU.tk(f:Bool):aU->List Tok
 | .num n=>[⟨b7,[],.int n⟩]
 | .its=>[⟨da,[],.str yo⟩]
 | .null=>[K f gB]
 | .nn c d=>[b1 c,S 46,b1 d]
 | .plus c=>[b1 c,S 43,⟨b7,[],.int 1⟩]
 | .cnt=>[⟨ar,[67,79,85,78,84],.str [99,111,117,110,116]⟩,S 40,S 42,S 41]
 | .sum c=>[⟨ar,[83,85,77],.str [115,117,109]⟩,S 40,K f be,b1 c,S 41]
 | .nm c=>[b1 c]
theorem aU.tk_eq(f:Bool)(e:aU):toks (e.ps f)=e.tk f:=by
 induction e with
 | num n=>rfl
 | its=>rfl
 | null=>induction f<;>rfl
 | nn c d=>induction c<;>induction d<;>rfl
 | plus c=>induction c<;>rfl
 | cnt=>rfl
 | sum c=>induction f<;>induction c<;>rfl
 | nm c=>induction c<;>rfl
theorem Mf{n d:Nat}{least:Int}{c:c9}{ts:List Tok}(hd:d+1<=50)(hl:0<least)(hf:F LE ts):(aj (n+4)).expr d least (b1 c::ts)=.ok (nmD c) ts:=by
 refine fa hd hl ?_ hf
 refine ac xr ?_
 exact rP (hf.mono rfl)
theorem aU.p{f:Bool}{e:aU}{n d:Nat}{ts:List Tok}(he:e.ok)(hn:10<=n)(hd:d+3<=50)(hf:F LE ts):(aj n).expr d 1 (toks (e.ps f)++ts)=.ok e.row ts:=by
 obtain⟨n,rfl⟩:∃ j,n=j+10:=⟨n-10,aG hn rfl⟩
 refine ac (aU.tk_eq ..) ?_
 induction e with
 | num i=>exact Fb he (uV hd rfl) (by decide) hf
 | its=>exact fa (uV hd rfl) (by decide) rfl hf
 | null=>exact fa (uV hd rfl) (by decide) rfl hf
 | nn c e=>
  refine fa (uV hd rfl) (by decide) ?_ hf
  show(aj (n+9)).pre (d+1) (b1 c::(S 46::b1 e::ts))=_
  refine ac xr ?_
  show ij (aj (n+6)) (d+1) (b1 c::(S 46::b1 e::ts))=_
  unfold ij
  refine ac fQ ?_
  refine iF rfl ?_
  show cW (b1 e::ts) _=_
  refine ac fQ ?_;rfl
 | cnt=>exact fa (uV hd rfl) (by decide) rfl hf
 | nm c=>exact Mf (uV hd rfl) (by decide) hf
 | plus c=>
  show bu (decide (d+1>50)) .err (((aj (n+9)).pre (d+1) (b1 c::(S 43::⟨b7,[],.int 1⟩::ts))).bind λf ts=>iR ts λl=>(aj (n+9)).ops (d+1) 1 f l ts)=_
  refine ac (j7 (uV hd rfl)) (ac xr (ac (rP (F.one rfl)) ?_))
  have e:(aj (n+8)).expr (d+1) (cB [43]+1) (⟨b7,[],.int (1:Nat)⟩::ts)=.ok (eP (.int (1:Nat))) ts:=Fb (by decide) (Nat.le_of_lt hd) (by decide) hf
  show(((aj (n+8)).expr (d+1) (cB [43]+1) (⟨b7,[],.int (1:Nat)⟩::ts)).bind λg ts=>iR ts λl=>(aj (n+8)).ops (d+1) 1 (aP gQ [.str [43],nmD c,g]) l ts)=_
  refine cz e ?_
  show iR ts _=_
  refine ac (Mr hf) ?_;rfl
 | sum c=>
  refine fa (uV hd rfl) (by decide) ?_ hf
  have e:(aj (n+6)).exprs (d+1) (b1 c::S 41::ts)=.ok [nmD c] (S 41::ts):=by
   exact cz (Mf (Nat.le_of_lt hd) (by decide) (F.one rfl)) rfl
  show(((aj (n+6)).exprs (d+1) (b1 c::S 41::ts)).bind λl ts=>bg [41] ts λts=>aX.ok (aP gZ [.str [115,117,109],.tup l,.bool true,.bool false]) ts)=_
  exact cz e rfl
noncomputable def LO:Hd:=(ar,A3)::(ar,dI)::LX
noncomputable def LA:Hd:=(ar,ba)::(ar,gE)::LO
noncomputable def LW:Hd:=[(eH,[]),(bp,[41]),(ar,cO),(ar,b0),(ar,bZ),(ar,bh),(ar,eQ),(ar,cP),(ar,e9)]
noncomputable def cm:List Tok:=[S 44,bE]
noncomputable def G(L:Hd)(ts:List Tok):Prop:=F L ts\/ts=cm
noncomputable def dL{α:Type}(ts:List Tok)(x:aX α)(a:α):Prop:=x=.ok a ts\/(x=.err/\ts=cm)
theorem G.f{L L':Hd}{ts:List Tok}(h:G L ts)(hl:(L'.elem (bp,[44])&&L.all λp=>L'.elem p)=true):F L' ts:=by
 simp only[Bool.and_eq_true] at hl
 rcases h with h|rfl
 ·exact h.mono hl.2
 ·exact F.one hl.1
structure LP(L:Lv)(g dd:Nat):Prop where
 sel:∀ n d x ts,g<=n->d+dd<=50->L.ok x->(aj n).sel d (toks (L.ps x)++S 41::ts)=.ok (L.row x) (S 41::ts)
 head:∀ x,L.ok x->∃ w r,toks (L.ps x)=w::r/\(aA aW w||aA bM w)=true
theorem AU:LP gY 0 0:=⟨(λ_ _ x=>nomatch x),(λx=>nomatch x)⟩
section
variable {f:Bool} {L:Lv} {g dd:Nat} {n d:Nat} {ts:List Tok}
theorem nl(x:List Pc)(ts:List Tok):toks ([.sg 40]++x++[.sg 41])++ts=S 40::(toks x++S 41::ts):=by
 refine ac (bm ..) (ac (bm ..) (ac (List.append_assoc ..) (ac (List.append_assoc ..) ?_)));rfl
theorem gU.p{e:gU L}(hP:LP L g dd)(he:e.ok)(hn:g+6<=n)(hm:10<=n)(hd:d+dd+3<=50)(hf:F LE ts):(aj n).expr d 1 (toks (e.ps f)++ts)=.ok e.row ts:=by
 induction e with
 | b e=>exact e.p he (hm) (mG hd rfl) hf
 | s x=>
  obtain⟨n,rfl⟩:∃ j,n=j+6:=⟨n-6,aG hm rfl⟩
  show(aj (n+6)).expr d 1 (toks ([.sg 40]++L.ps x++[.sg 41])++ts)=_
  refine ac (nl ..) ?_
  refine fa (mG hd rfl) (by decide) ?_ hf
  show xB (aj (n+2)) (d+1) (S 40::(toks (L.ps x)++S 41::ts))=_
  have hs:=hP.sel (n+2) (d+1) x ts (by lia) (by lia) he
  refine pf (hP.head x he) λw r e hw=>?_
  rw[e] at hs⊢
  unfold xB
  refine oF rfl ?_
  show bu (aA aW w||aA bM w) _ _=_
  refine hw.symm ▸ ?_
  exact cz hs rfl
noncomputable def Al.tk(f:Bool):Al->List Tok
 | .no=>[]
 | .bare c=>[b1 c]
 | .own=>[K f rZ,⟨da,[],.str tB⟩]
 | .as c=>[K f rZ,b1 c]
theorem Al.tk_eq(a:Al):toks (a.ps f)=a.tk f:=by
 induction a with
 | no=>rfl
 | bare c=>induction c<;>rfl
 | own=>induction f<;>rfl
 | as c=>induction f<;>induction c<;>rfl
theorem Al.p{a:Al}(hf:F LA ts):eM (toks (a.ps f)++ts)=.ok a.row ts:=by
 refine ac (Al.tk_eq ..) ?_
 induction a with
 | no=>
  refine cj (hf.k rfl) ?_
  refine pf hf λw r eq1_ hw=>?_
  subst eq1_
  have:dU w=false:=by
   have:=List.all_eq_true.mp (show(LA.all λp=>!dU ⟨p.1,p.2,.none⟩)=true from rfl) _ (List.elem_iff.mp hw)
   exact(Bool.not_eq_true' _).mp this
  show bu (dU w) _ (.ok DT.none (w::r))=_
  refine this.symm ▸ ?_;rfl
 | bare c=>induction c<;>rfl
 | own=>rfl
 | as c=>induction c<;>rfl
theorem Al.fo{a:Al}(hf:F LX ts):F LE (toks (a.ps f)++ts):=by
 refine ac (Al.tk_eq ..) ?_
 induction a with
 | no=>exact hf.mono rfl
 | bare c=>induction c<;>exact F.one rfl
 | own=>exact F.one rfl
 | as c=>exact F.one rfl
theorem iA{ts:List Tok}(k:Nat)(h:ts≠[]):∃ w,cb ts k=some w:=by
 unfold cb
 have hl:0<ts.length:=List.length_pos_iff.mpr h
 exact⟨_,List.getElem?_eq_getElem (by lia)⟩
theorem nz{a b:Tok}{r:List Tok} : cb (a::b::r) 1=some b:=by
 unfold cb
 refine ac (show min 1 ((a::b::r).length-1)=1 from by simp) ?_;rfl
theorem AJ{a b c:Tok}{r:List Tok} : cb (a::b::c::r) 2=some c:=by
 unfold cb
 refine ac (show min 2 ((a::b::c::r).length-1)=2 from by simp) ?_;rfl
noncomputable def k7(ts:List Tok):Prop:=ud [42] ts=false/\∃ w r w1 w2,ts=w::r/\cb ts 1=some w1/\cb ts 2=some w2/\(bN w&&(aE [46] w1&&aE [42] w2))=false
theorem iV{w:Tok}{r:List Tok}(h0:aE [42] w=false)(h:bN w=false):k7 (w::r):=by
 refine(iA (ts:=w::r) 1 (by simp)).elim λw1 e1=>?_
 refine(iA (ts:=w::r) 2 (by simp)).elim λw2 e2=>?_
 exact⟨h0,w,r,w1,w2,rfl,e1,e2,by refine ac h ?_;rfl⟩
theorem iU{w w1:Tok}{r:List Tok}(h0:aE [42] w=false)(h:aE [46] w1=false):k7 (w::w1::r):=by
 refine(iA (ts:=w::w1::r) 2 (by simp)).elim λw2 e2=>?_
 exact⟨h0,w,_,w1,w2,rfl,nz,e2,by refine ac h ?_;simp⟩
theorem nk(c:c9):aE [42] (b1 c)=false:=by induction c<;>rfl
theorem gU.star{e:gU L}(hf:F LE ts):k7 (toks (e.ps f)++ts):=by
 induction e with
 | s x=>show k7 (toks ([.sg 40]++L.ps x++[.sg 41])++ts);refine ac (nl ..) ?_;exact iV rfl rfl
 | b e=>
  show k7 (toks (e.ps f)++ts)
  refine ac (aU.tk_eq ..) ?_
  induction e with
  | num i=>exact iV rfl rfl
  | its=>exact iV rfl rfl
  | null=>exact iV rfl rfl
  | nn c e=>exact⟨nk c,_,_,_,_,rfl,nz,AJ,by induction c<;>induction e<;>rfl⟩
  | cnt=>exact iU rfl rfl
  | sum c=>exact iU rfl rfl
  | plus c=>exact iU (nk c) rfl
  | nm c=>
   refine pf hf λw r eq1_ hw=>?_
   subst eq1_
   exact iU (nk c) ((F.one (L:=LE) (r:=r) hw).s rfl)
theorem dC.p{c:dC L}(hP:LP L g dd)(hc:c.ok)(hn:g+7<=n)(hm:11<=n)(hd:d+dd+3<=50)(hf:F LX ts):(aj n).col d (toks (c.ps f)++ts)=.ok c.row ts:=by
 obtain⟨n,rfl⟩:∃ j,n=j+1:=⟨n-1,aG hm rfl⟩
 show qh (aj n) d _=_
 unfold qh
 induction c with
 | star=>exact iF rfl rfl
 | tst c=>
  have e:toks (dC.ps f L (.tst c))++ts=b1 c::S 46::S 42::ts:=by induction c<;>rfl
  refine e.symm ▸ ?_
  refine iG (nk c) ?_
  show ow (b1 c::S 46::S 42::ts) 1 _=_
  unfold ow
  refine ac (nz ..) (ac (AJ ..) ?_)
  show bu (bN (b1 c)&&true) _ _=_
  have hc:bN (b1 c)=true:=by induction c<;>rfl
  refine hc.symm ▸ ?_
  show cW (b1 c::S 46::S 42::ts) _=_
  refine ac fQ ?_;rfl
 | ex e a=>
  have et:toks (dC.ps f L (.ex e a))++ts=toks (e.ps f)++(toks (a.ps f)++ts):=by
   show toks (e.ps f++a.ps f)++ts=_
   exact ac (bm ..) (ac (List.append_assoc ..) rfl)
  refine ac et ?_
  have hE:F LE (toks (a.ps f)++ts):=Al.fo hf
  refine(gU.star (f:=f) (e:=e) hE).elim λh0 h1_=>h1_.elim λw h2_=>h2_.elim λr h3_=>h3_.elim λw1 h4_=>h4_.elim λw2 h5_=>h5_.elim λe0 h6_=>h6_.elim λe1 h7_=>h7_.elim λe2 h3=>?_
  have hx:=e.p (f:=f) hP hc (n:=n) (d:=d) (KI hn rfl) (jQ hm rfl) hd hE
  rw[e0] at h0 e1 e2 hx⊢
  refine iG h0 ?_
  show ow (w::r) 1 _=_
  unfold ow
  refine ac e1 (ac e2 ?_)
  show bu (bN w&&(aE [46] w1&&aE [42] w2)) _ _=_
  refine h3.symm ▸ ?_
  refine cz hx ?_
  exact cz (Al.p (hf.mono rfl)) rfl
end
section
variable {f:Bool} {L:Lv} {g dd:Nat} {n d:Nat} {ts:List Tok}
noncomputable def eU.tk(f:Bool):eU->List Tok
 | .no=>[]
 | .ind c=>[K f ba,K f eV,b1 c]
 | .scan=>[K f gE,K f ba]
theorem eU.tk_eq(a:eU):toks (a.ps f)=a.tk f:=by
 induction a with
 | no=>rfl
 | ind c=>induction f<;>induction c<;>rfl
 | scan=>induction f<;>rfl
theorem eU.p{a:eU}(hf:F LO ts):oq (toks (a.ps f)++ts)=.ok a.row ts:=by
 refine ac (eU.tk_eq ..) ?_
 induction a with
 | no=>
  refine cj (hf.k rfl) ?_
  show bu (jZ gE ts) _ _=_
  refine ac (hf.k rfl) ?_;rfl
 | ind c=>
  refine eX rfl ?_
  refine rO rfl ?_
  show cW (b1 c::ts) _=_
  refine ac fQ ?_;rfl
 | scan=>
  refine cj rfl ?_
  show ow (K f gE::K f ba::ts) 1 _=_
  unfold ow
  refine nz.symm ▸ ?_;rfl
theorem eU.fo{a:eU}(hf:F LO ts):F LA (toks (a.ps f)++ts):=by
 refine ac (eU.tk_eq ..) ?_
 induction a with
 | no=>exact hf.mono rfl
 | ind c=>exact F.one rfl
 | scan=>exact F.one rfl
theorem PI(c:c9):aE [40] (b1 c)=false:=by induction c<;>rfl
theorem gj.p{s:gj L}(hP:LP L g dd)(hs:s.ok)(hn:g+3<=n)(hd:d+dd+3<=50)(hf:F LO ts):(aj n).src d (toks (s.ps f)++ts)=.ok s.row ts:=by
 obtain⟨n,rfl⟩:∃ j,n=j+2:=⟨n-2,aG hn rfl⟩
 show tJ (aj (n+1)) d _=_
 unfold tJ
 induction s with
 | tab c a hh=>
  have et:toks (gj.ps f L (.tab c a hh))++ts=b1 c::(toks (a.ps f)++(toks (hh.ps f)++ts)):=by
   show toks ([c.p]++a.ps f++hh.ps f)++ts=_
   refine ac (bm ..) (ac (bm ..) (ac (PH ..) (ac (List.append_assoc ..) (ac (List.append_assoc ..) ?_))));rfl
  refine ac et ?_
  show bu (aE [40] (b1 c)) _ _=_
  refine ac (PI ..) ?_
  show cW (b1 c::_) _=_
  refine ac fQ ?_
  refine cz (Al.p (eU.fo hf)) ?_
  exact cz (eU.p hf) rfl
 | sub x a=>
  have et:toks (gj.ps f L (.sub x a))++ts=S 40::(toks (L.ps x)++S 41::(toks (a.ps f)++ts)):=by
   show toks ([.sg 40]++L.ps x++[.sg 41]++a.ps f)++ts=_
   exact ac (bm ..) (ac (List.append_assoc ..) (ac (nl ..) rfl))
  refine ac et ?_
  refine cz (ts:=toks (a.ps f)++ts) (a:=L.row x) ?_ ?_
  ·show bg [40] (S 40::(toks (L.ps x)++S 41::(toks (a.ps f)++ts))) (λts=>((aj n).sel d ts).bind λs ts=>bg [41] ts λts=>.ok s ts)=_
   refine oF rfl ?_
   exact cz (hP.sel n d x _ (Qj hn rfl) (by lia) hs.1) rfl
  ·exact cz (Al.p (hf.mono rfl)) rfl
theorem gj.head(s:gj L)(ts:List Tok):∃ w r,toks (s.ps f)++ts=w::r/\aA jv w=false:=by
 induction s with
 | tab c a hh=>induction c<;>exact⟨_,_,rfl,rfl⟩
 | sub x a=>exact⟨_,_,rfl,rfl⟩
noncomputable def JK.tk(f:Bool):JK->List Tok
 | .comma=>[S 44]
 | .join=>[K f cI]
 | .inner=>[K f jw,K f cI]
 | .cross=>[K f jx,K f cI]
 | .left=>[K f i7,K f cI]
 | .louter=>[K f i7,K f jv,K f cI]
theorem JK.tk_eq(a:JK):toks (a.ps f)=a.tk f:=by induction a<;>induction f<;>rfl
theorem JK.p{a:JK} : bx (toks (a.ps f)++ts)=.ok (some a.v) ts:=by
 refine ac (JK.tk_eq ..) ?_
 induction a<;>rfl
theorem JK.fo{a:JK} : F LX (toks (a.ps f)++ts):=by
 refine ac (JK.tk_eq ..) ?_
 induction a<;>exact F.one rfl
theorem CG(hf:F LW ts):bx ts=.ok none ts:=by
 refine iG (hf.s rfl) ?_
 refine cj (hf.k rfl) ?_
 refine cj (hf.k rfl) ?_
 refine cj (hf.k rfl) ?_
 exact cj (hf.k rfl) rfl
theorem CH:bx cm=.ok (some jq) [bE]:=by rfl
theorem On.tk_on(e:aU):toks (On.ps f (.on e))++ts=K f A3::(toks (e.ps f)++ts):=by
 induction f<;>rfl
theorem On.tk_u0(c:c9):toks (On.ps f (.us c []))++ts=K f dI::S 40::b1 c::S 41::ts:=by
 induction f<;>induction c<;>rfl
theorem On.tk_u1(c e:c9):toks (On.ps f (.us c [e]))++ts=K f dI::S 40::b1 c::S 44::b1 e::S 41::ts:=by
 induction f<;>induction c<;>induction e<;>rfl
theorem On.p{o:On}(ho:o.ok)(hn:12<=n)(hd:d+3<=50)(hf:F LX ts):KG (aj n) d (toks (o.ps f)++ts)=.ok (o.on_,o.us_) ts:=by
 unfold KG
 induction o with
 | on e=>
  refine ac (On.tk_on ..) ?_
  refine eX rfl ?_
  exact cz (e.p ho (lU hn rfl) hd (hf.mono rfl)) rfl
 | no=>
  refine cj (hf.k rfl) ?_
  exact cj (hf.k rfl) rfl
 | us c cs=>
  obtain⟨n,rfl⟩:∃ j,n=j+4:=⟨n-4,aG hn rfl⟩
  have h:cs.length<=1:=ho
  rcases rX h with rfl|⟨e,rfl⟩
  ·refine ac (On.tk_u0 ..) ?_
   refine cj rfl (eX rfl ?_)
   refine cz (a:=[c.v]) (ts:=ts) ?_ rfl
   show ig (n+3) (S 40::b1 c::S 41::ts)=_
   unfold ig
   refine oF rfl ?_
   show cW (b1 c::_) _=_
   refine ac fQ ?_;rfl
  ·refine ac (On.tk_u1 ..) ?_
   refine cj rfl (eX rfl ?_)
   refine cz (a:=[c.v,e.v]) (ts:=ts) ?_ rfl
   show ig (n+3) (S 40::b1 c::S 44::b1 e::S 41::ts)=_
   unfold ig
   refine oF rfl ?_
   show cW (b1 c::_) _=_
   refine ac fQ ?_
   refine cz (a:=[c.v,e.v]) (ts:=S 41::ts) ?_ rfl
   refine iF rfl ?_
   show cW (b1 e::_) _=_
   refine ac fQ ?_;rfl
theorem On.fo{o:On}(hf:F LX ts):F LO (toks (o.ps f)++ts):=by
 induction o with
 | on e=>refine ac (On.tk_on ..) ?_;exact F.one rfl
 | no=>exact hf.mono rfl
 | us c cs=>induction f<;>exact F.one rfl
theorem BF{p:fE} : tJ p d [bE]=.err:=by rfl
theorem b9.p{x:b9 L}(hP:LP L g dd)(hs:x.ok)(hn:g+5<=n)(hm:14<=n)(hd:d+dd+3<=50)(hG:G LW ts):dL ts ((aj n).srcs d (toks (x.ps f)++ts)) x.row:=by
 obtain⟨n,rfl⟩:∃ j,n=j+4:=⟨n-4,aG hm rfl⟩
 have hX:F LX ts:=hG.f rfl
 have fin:∀ (m:Nat) (j:DT),dL ts ((bx ts).bind λk ts=>(aj (m+2)).joins d j k ts) j:=λm j=>by
  rcases hG with h|rfl
  ·refine ac (CG h) ?_;exact .inl rfl
  ·refine ac CH ?_
   refine .inr ⟨?_,rfl⟩
   show ik (aj (m+1)) d j (some jq) [bE]=.err
   unfold ik
   exact jF (BF (p:=aj m) (d:=d))
 refine hs.elim λh1 h2=>?_
 show dL ts (((aj (n+3)).src d (toks (x.ps f)++ts)).bind λy ts=>(bx ts).bind λk ts=>(aj (n+3)).joins d y k ts) x.row
 unfold b9.ps b9.row
 induction hj:x.j with
 | none=>
  dsimp only
  refine ac (List.append_nil ..) (ac (gj.p hP h1 (rL hn rfl) hd (hX.mono rfl)) ?_)
  exact fin _ _
 | some y=>
  obtain⟨k,s,o⟩:=y
  rw[hj] at h2
  dsimp only at h2⊢
  have et:toks (x.a.ps f++([.sp]++k.ps f++[.sp]++s.ps f++o.ps f))++ts=toks (x.a.ps f)++(toks (k.ps f)++(toks (s.ps f)++(toks (o.ps f)++ts))):=by
   exact tk_eq (kA kL (kA (kA (kA (kA kL kL) kL) kL) kL)) rfl
  refine ac et (ac (gj.p hP h1 (rL hn rfl) hd (JK.fo.mono rfl)) ?_)
  show dL ts ((bx (toks (k.ps f)++_)).bind _) _
  refine ac JK.p ?_
  show dL ts (ik (aj (n+2)) d x.a.row (some k.v) (toks (s.ps f)++(toks (o.ps f)++ts))) _
  unfold ik
  dsimp only
  refine ac (gj.p hP h2.1 (rL hn rfl) hd (On.fo hX)) ?_
  show dL ts ((KG (aj (n+2)) d (toks (o.ps f)++ts)).bind _) _
  refine ac (On.p h2.2 (Iu hm rfl) (mG hd rfl) hX) ?_
  exact fin _ _
end
theorem dL.bind{α β:Type}{r ts:List Tok}{x:aX α}{a:α}{b:β}{g:α->List Tok->aX β}(h:dL r x a)(hc:r=cm->ts=cm)(q:dL ts (g a r) b):dL ts (x.bind g) b:=by
 rcases h with rfl|⟨rfl,e⟩
 ·exact q
 ·exact .inr ⟨rfl,hc e⟩
theorem dL.bok{α β:Type}{r ts:List Tok}{x:aX α}{a:α}{b:β}{g:α->List Tok->aX β}(h:x=.ok a r)(q:dL ts (g a r) b):dL ts (x.bind g) b:=by
 refine ac h ?_;exact q
theorem ja{n d:Nat}{least:Int}(hd:d+1<=50):(aj (n+5)).expr d least [bE]=.err:=by
 show bu (decide (d+1>50)) .err (((aj (n+4)).pre (d+1) [bE]).bind λf ts=>iR ts λl=>(aj (n+4)).ops (d+1) least f l ts)=_
 refine ac (j7 hd) ?_;rfl
theorem qx{α β:Type}{xl:Nat->List β->List Tok->aX (List β)}{x:Nat->List Tok->aX β}(hx:∀ n acc ts,xl (n+1) acc ts=jP (x n) (xl n) acc ts){tk:α->List Tok}{row:α->β}{B:Nat}{L L':Hd}(hL:L.elem (bp,[44])=true)
 (h44:(L'.all λp=>!aE [44] ⟨p.1,p.2,.none⟩)=true) {ts:List Tok} (hG:G L' ts) (hF:F L ts) (he:∀ n,B<=n->x n [bE]=.err) :
 ∀ (as:List α) (n:Nat) (acc:List β),(∀ n a ts,a∈as->B<=n->F L ts->x n (tk a++ts)=.ok (row a) ts)->B+as.length+1<=n->dL ts (xl n acc (as.flatMap (λa=>S 44::tk a)++ts)) (acc++as.map row):=by
 intro z_
 induction z_ with
 | nil=>
  intro n acc hp hn
  obtain⟨n,rfl⟩:∃ j,n=j+1:=⟨n-1,aG hn rfl⟩
  refine ac (hx ..) ?_
  show dL ts (jP (x n) (xl n) acc ts) (acc++[])
  refine ac (List.append_nil ..) ?_
  rcases hG with h|rfl
  ·exact .inl (iG (h.s h44) rfl)
  ·exact .inr ⟨iF rfl (jF (he n (by simp at hn;exact hn))),rfl⟩
 | cons a as ihz=>
  intro n acc hp hn
  obtain⟨n,rfl⟩:∃ j,n=j+1:=⟨n-1,aG hn rfl⟩
  refine ac (hx ..) ?_
  have ih:=ihz n (acc++[row a]) (λn b ts hb=>hp n b ts (.tail _ hb)) (by simp at hn ⊢;exact hn)
  have hr:F L (as.flatMap (λa=>S 44::tk a)++ts):=by
   induction as with
   | nil=>exact hF
   | cons b bs=>exact F.one hL
  have et:(a::as).flatMap (λa=>S 44::tk a)++ts=S 44::(tk a++(as.flatMap (λa=>S 44::tk a)++ts)):=by
   refine ac List.flatMap_cons ?_;rw[List.cons_append,List.cons_append,List.append_assoc]
  refine ac et ?_
  have e:jP (x n) (xl n) acc (S 44::(tk a++(as.flatMap (λa=>S 44::tk a)++ts)))=xl n (acc++[row a]) (as.flatMap (λa=>S 44::tk a)++ts):=
   iF rfl (cz (hp n a _ (.head _) (by simp at hn;lia) hr) rfl)
  refine ac e ?_
  have e2:acc++(a::as).map row=acc++[row a]++as.map row:=by simp
  refine ac e2 ?_
  exact ih
theorem kU{α:Type}(p:α->List Pc)(x:α)(xs:List α):toks (comma ((x::xs).map p))=toks (p x)++xs.flatMap λa=>S 44::toks (p a):=by
 show toks (p x++(xs.map p).flatMap λy=>[.sg 44,.sp]++y)=_
 refine ac (bm ..) ?_
 congr 1
 induction xs with
 | nil=>rfl
 | cons y xs ih=>
  refine ac (List.map_cons ..) (ac (List.flatMap_cons ..) (ac (List.flatMap_cons ..) (ac (bm ..) (ac (ih ..) ?_))));rfl
noncomputable def LH:Hd:=(ar,cJ)::LW
section
variable {f:Bool} {L:Lv} {g dd:Nat} {n d:Nat} {ts:List Tok}
theorem su{e:aU}{es:List aU}(he:∀ y∈e::es,y.ok)(hl:es.length<=1)(hn:14<=n)(hd:d+3<=50)(hG:G LH ts):dL ts ((aj n).exprs d (toks (comma ((e::es).map (aU.ps f)))++ts)) ((e::es).map aU.row):=by
 obtain⟨n,rfl⟩:∃ j,n=j+1:=⟨n-1,aG hn rfl⟩
 refine ac (kU ..) (ac (List.append_assoc ..) ?_)
 have hF:F LE ts:=hG.f rfl
 have hr:F LE (es.flatMap (λa=>S 44::toks (a.ps f))++ts):=by
  induction es with
  | nil=>exact hF
  | cons b bs=>exact F.one rfl
 show dL ts (((aj n).expr d 1 _).bind λx ts=>(aj n).exprsL d [x] ts) _
 refine dL.bok (e.p (he e (.head _)) (jQ hn rfl) hd hr) ?_
 exact qx (xl:=λn=>(aj n).exprsL d) (x:=λn=>(aj n).expr d 1) (B:=10) (λ_ _ _=>rfl) (L:=LE) (L':=LH) rfl rfl hG hF (λn hn=>by
  obtain⟨n,rfl⟩:∃ j,n=j+5:=⟨n-5,aG hn rfl⟩
  exact ja (uV hd rfl)) es n [e.row] (λn a ts ha hn hF=>a.p (he a (.tail _ ha)) hn hd hF) (by lia)
theorem Av(c:c9):aA be (b1 c)=false/\aA fT (b1 c)=false:=by induction c<;>exact⟨rfl,rfl⟩
theorem gU.hd0(e:gU L):jZ be (toks (e.ps f)++ts)=false/\jZ fT (toks (e.ps f)++ts)=false:=by
 induction e with
 | s x=>exact⟨rfl,rfl⟩
 | b e=>
  show jZ be (toks (e.ps f)++ts)=false/\jZ fT (toks (e.ps f)++ts)=false
  refine ac (aU.tk_eq ..) ?_
  induction e with
  | num i=>exact⟨rfl,rfl⟩
  | its=>exact⟨rfl,rfl⟩
  | null=>exact⟨rfl,rfl⟩
  | nn c e=>exact Av c
  | cnt=>exact⟨rfl,rfl⟩
  | sum c=>exact⟨rfl,rfl⟩
  | plus c=>exact Av c
  | nm c=>exact Av c
theorem dC.hd0(c:dC L):jZ be (toks (c.ps f)++ts)=false/\jZ fT (toks (c.ps f)++ts)=false:=by
 induction c with
 | star=>exact⟨rfl,rfl⟩
 | tst c=>induction c<;>exact⟨rfl,rfl⟩
 | ex e a=>
  have et:toks (dC.ps f L (.ex e a))++ts=toks (e.ps f)++(toks (a.ps f)++ts):=by
   show toks (e.ps f++a.ps f)++ts=_
   exact ac (bm ..) (ac (List.append_assoc ..) rfl)
  refine ac et ?_;exact e.hd0
noncomputable def Wd.tk(f:Bool):Wd->List Tok
 | .no=>[]
 | .dist=>[K f be]
 | .all=>[K f fT]
theorem Wd.tk_eq(w:Wd):toks (w.ps f)=w.tk f:=by induction w<;>induction f<;>rfl
theorem Wd.p{w:Wd}(h:jZ be ts=false/\jZ fT ts=false):xz (toks (w.ps f)++ts)=.ok w.is ts:=by
 refine ac (Wd.tk_eq ..) ?_
 induction w with
 | no=>exact cj h.1 (cj h.2 rfl)
 | dist=>rfl
 | all=>rfl
theorem pU(s:b9 L):toks (cK f L (some s))++ts=K f dn::(toks (s.ps f)++ts):=by
 show toks ([.sp]++kw f dn++[.sp]++s.ps f)++ts=_
 induction f<;>rfl
theorem pH(s:aU):toks (cH f (some s))++ts=K f cO::(toks (s.ps f)++ts):=by
 show toks ([.sp]++kw f cO++[.sp]++s.ps f)++ts=_
 induction f<;>rfl
theorem qR(s:aU):toks (g8 f (some s))++ts=K f cJ::(toks (s.ps f)++ts):=by
 show toks ([.sp]++kw f cJ++[.sp]++s.ps f)++ts=_
 induction f<;>rfl
theorem qS(e:aU)(es:List aU)(h:Option aU):toks (dc f (some (e,es,h)))++ts=K f b0::K f eV::(toks (comma ((e::es).map (aU.ps f)))++(toks (g8 f h)++ts)):=by
 show toks ([.sp]++f8 f b0 eV++[.sp]++comma ((e::es).map (aU.ps f))++g8 f h)++ts=_
 refine ac (bm ..) (ac (List.append_assoc ..) (ac (bm ..) (ac (List.append_assoc ..) ?_)))
 induction f<;>rfl
theorem mO{k:List Nat}{r:List Tok} : K f k::r≠cm:=λz=>by
 have h:=congrArg Tok.k (List.cons.inj z).1
 exact absurd (show ar=bp from h) (by decide)
noncomputable def LB:Hd:=[(eH,[]),(bp,[41]),(ar,bZ),(ar,bh),(ar,eQ),(ar,cP),(ar,e9)]
theorem G.mono{L L':Hd}{ts:List Tok}(h:G L ts)(hl:(L.all λp=>L'.elem p)=true):G L' ts:=by
 rcases h with h|h
 ·exact .inl (h.mono hl)
 ·exact .inr h
theorem G.k{L:Hd}{ts:List Tok}{s:List Nat}(h:G L ts)(hl:(L.all λp=>!aA s ⟨p.1,p.2,.none⟩)=true):jZ s ts=false:=by
 rcases h with h|rfl
 ·exact h.k hl
 ·show aA s (S 44)=false
  rfl
theorem DJ{y:aU×List aU}(he:∀ e∈y.1::y.2,e.ok)(hl:y.2.length<=1)(hn:15<=n)(hd:d+3<=50):(aj n).row d (toks (ed f y)++ts)=.ok (cL y) ts:=by
 obtain⟨n,rfl⟩:∃ j,n=j+1:=⟨n-1,aG hn rfl⟩
 unfold ed
 refine ac (nl ..) ?_
 show bg [40] (S 40::(toks (comma ((y.1::y.2).map (aU.ps f)))++S 41::ts)) (λts=>((aj n).exprs d ts).bind λl ts=>bg [41] ts λts=>.ok l ts)=_
 refine oF rfl ?_
 rcases su (f:=f) (n:=n) (d:=d) (ts:=S 41::ts) he hl (jQ hn rfl) hd (.inl (F.one rfl)) with h|⟨_,h⟩
 ·exact cz h rfl
 ·exact absurd (congrArg Tok.t (List.cons.inj h).1) (by decide)
theorem BW{n:Nat} : (aj (n+1)).row d [bE]=.err:=by rfl
theorem Hs{x:gX}(hx:x.ok)(hn:17<=n)(hd:d+3<=50)(hG:G LB ts):dL ts ((aj n).rows d (toks (comma ((x.r::x.rs).map (ed f)))++ts)) ((x.r::x.rs).map cL):=by
 obtain⟨n,rfl⟩:∃ j,n=j+4:=⟨n-4,aG hn rfl⟩
 obtain⟨h1,h2,h3,h4⟩:=hx
 refine ac (kU ..) (ac (List.append_assoc ..) ?_)
 show dL ts (((aj (n+3)).row d _).bind λx ts=>(aj (n+3)).rowsL d [x] ts) _
 refine dL.bok (DJ (h4 _ (.head _)) h2 (Iu hn rfl) hd) ?_
 have fin:∀ m acc,dL ts ((aj (m+2)).rowsL d acc ts) acc:=λm acc=>by
  show dL ts (kD (aj (m+1)) d acc ts) acc
  unfold kD
  rcases hG with h|rfl
  ·exact .inl (iG (h.s rfl) rfl)
  ·exact .inr ⟨iF rfl (jF BW),rfl⟩
 cases hr:x.rs with
 | nil=>exact fin _ _
 | cons y ys=>
  rw[hr] at h1 h3 h4
  have:ys=[]:=by induction ys with|nil=>rfl|cons _ _=>simp at h1
  subst this
  have hy:=h3 y (.head _)
  have e:(aj (n+3)).rowsL d [cL x.r] ([y].flatMap (λa=>S 44::toks (ed f a))++ts)=(aj (n+2)).rowsL d [cL x.r,cL y] ts:=by
   show kD (aj (n+2)) d [cL x.r] (S 44::((toks (ed f y)++[])++ts))=_
   refine ac (List.append_nil ..) ?_
   unfold kD
   refine iF rfl ?_
   refine cz (DJ (h4 _ (.tail _ (.head _))) (by lia) (Iu hn rfl) hd) ?_
   have hl:decide ((cL y).length=([cL x.r].headD []).length)=true:=by
    refine ac decide_eq_true_eq ?_
    show(cL y).length=(cL x.r).length
    unfold cL
    simp[hy]
   show bu (decide ((cL y).length=([cL x.r].headD []).length)) _ _=_
   refine ac hl ?_;rfl
  refine ac e ?_
  exact fin _ _
theorem ci.p{x:ci L}(hP:LP L g dd)(hx:x.ok)(hn:g+10<=n)(hm:18<=n)(hd:d+dd+3<=50)(hG:G LB ts):dL ts ((aj n).body d (toks (x.ps f)++ts)) (x.isV,x.row):=by
 obtain⟨n,rfl⟩:∃ j,n=j+1:=⟨n-1,aG hm rfl⟩
 show dL ts (ou (aj n) d _) _
 unfold ou
 induction x with
 | v x=>
  have et:toks (ci.ps f L (.v x))++ts=K f bM::(toks (comma ((x.r::x.rs).map (ed f)))++ts):=by
   show toks (kw f bM++[.sp]++comma ((x.r::x.rs).map (ed f)))++ts=_
   refine ac (bm ..) ?_
   induction f<;>rfl
  refine ac et ?_
  have e0:∀ {r:List Tok} {gg:Bool->List Tok->aX (Bool×DT)},aS bM (K f bM::r) gg=gg true r:=λ{r gg}=>eX rfl rfl
  refine ac e0 ?_
  refine dL.bind (Hs hx (jQ hm rfl) (mG hd rfl) hG) (λz=>z) (.inl ?_)
  show aX.ok (true,aP gO [.tup (((x.r::x.rs).map cL).map DT.tup)]) ts=.ok (true,aP gO [.tup ((x.r::x.rs).map λy=>.tup (cL y))]) ts
  refine ac List.map_map ?_;rfl
 | c x=>
  obtain⟨h1,h2,h3,h4,h5⟩:=hx
  have et:toks (ci.ps f L (.c x))++ts=K f aW::(toks (x.w.ps f)++(toks (comma ((x.c::x.cs).map (dC.ps f L)))++(toks (cK f L x.src)++(toks (cH f x.whr)++(toks (dc f x.grp)++ts))))):=by
   exact tk_eq (kA (kA (kA (kA (kA (kA (kW (by cases f<;>rfl)) kL) kL) kL) kL) kL) kL) rfl
  refine ac et ?_
  have e0:∀ {r:List Tok} {gg:Bool->List Tok->aX (Bool×DT)},aS bM (K f aW::r) gg=gg false (K f aW::r):=λ{r gg}=>cj rfl rfl
  refine ac e0 ?_
  dsimp only[bu]
  have e1:∀ {r:List Tok} {gg:List Tok->aX (Bool×DT)},bI aW (K f aW::r) gg=gg r:=λ{r gg}=>rO rfl rfl
  refine ac e1 ?_
  have g3:G ((ar,b0)::LB) (toks (dc f x.grp)++ts):=by
   cases x.grp with
   | none=>exact hG.mono rfl
   | some y=>obtain⟨e,es,h⟩:=y;refine ac (qS ..) ?_;exact .inl (F.one rfl)
  have c3:toks (dc f x.grp)++ts=cm->ts=cm:=by
   cases x.grp with
   | none=>exact λz=>z
   | some y=>obtain⟨e,es,h⟩:=y;refine ac (qS ..) ?_;exact λz=>absurd z mO
  have g2:G LW (toks (cH f x.whr)++(toks (dc f x.grp)++ts)):=by
   cases x.whr with
   | none=>exact g3.mono rfl
   | some y=>refine ac (pH ..) ?_;exact .inl (F.one rfl)
  have c2:toks (cH f x.whr)++(toks (dc f x.grp)++ts)=cm->ts=cm:=by
   cases x.whr with
   | none=>exact c3
   | some y=>refine ac (pH ..) ?_;exact λz=>absurd z mO
  have g1:G ((ar,dn)::LW) (toks (cK f L x.src)++(toks (cH f x.whr)++(toks (dc f x.grp)++ts))):=by
   cases x.src with
   | none=>
    exact g2.mono rfl
   | some y=>refine ac (pU ..) ?_;exact .inl (F.one rfl)
  have c1:toks (cK f L x.src)++(toks (cH f x.whr)++(toks (dc f x.grp)++ts))=cm->ts=cm:=by
   cases x.src with
   | none=>exact c2
   | some y=>refine ac (pU ..) ?_;exact λz=>absurd z mO
  have hX:F LX (toks (cK f L x.src)++(toks (cH f x.whr)++(toks (dc f x.grp)++ts))):=g1.f rfl
  generalize er1:toks (cK f L x.src)++(toks (cH f x.whr)++(toks (dc f x.grp)++ts))=r1 at g1 c1 hX
  refine ac (kU ..) (ac (List.append_assoc ..) ?_)
  refine dL.bok (Wd.p x.c.hd0) ?_
  have hr:F LX (x.cs.flatMap (λa=>S 44::toks (a.ps f))++r1):=by
   cases x.cs with
   | nil=>exact hX
   | cons b bs=>exact F.one rfl
  refine dL.bok (x.c.p hP (h2 _ (.head _)) (KI hn rfl) (jQ hm rfl) hd hr) ?_
  have hcols:dL r1 ((aj n).colsL d [x.c.row] (x.cs.flatMap (λa=>S 44::toks (a.ps f))++r1)) ([x.c.row]++x.cs.map (dC.row L)):=
   qx (xl:=λn=>(aj n).colsL d) (x:=λn=>(aj n).col d) (B:=max 11 (g+7)) (λ_ _ _=>rfl) (L:=LX) (L':=(ar,dn)::LW) rfl rfl g1 hX (λn hn=>by
    obtain⟨n,rfl⟩:∃ j,n=j+6:=⟨n-6,by lia⟩
    show qh (aj (n+5)) d [bE]=_
    unfold qh
    refine iG rfl ?_
    exact jF (ja (mG hd rfl))) x.cs n [x.c.row] (λn a ts ha hn hF=>a.p hP (h2 _ (.tail _ ha)) (by lia) (by lia) hd hF) (by lia)
  refine dL.bind hcols c1 ?_
  subst er1
  have hsrc:dL (toks (cH f x.whr)++(toks (dc f x.grp)++ts)) (cq dn .none ((aj n).srcs d) (toks (cK f L x.src)++(toks (cH f x.whr)++(toks (dc f x.grp)++ts)))) (dN (b9.row L) x.src):=by
   induction hs:x.src with
   | none=>
    exact .inl (cj (g2.k rfl) rfl)
   | some s=>
    refine ac (pU ..) ?_
    have e:cq dn .none ((aj n).srcs d) (K f dn::(toks (s.ps f)++(toks (cH f x.whr)++(toks (dc f x.grp)++ts))))=(aj n).srcs d (toks (s.ps f)++(toks (cH f x.whr)++(toks (dc f x.grp)++ts))):=eX rfl rfl
    refine ac e ?_
    exact s.p hP (h3 s hs) (KI hn rfl) (jQ hm rfl) hd g2
  refine dL.bind hsrc c2 ?_
  have hwhr:cq cO .none ((aj n).expr d 1) (toks (cH f x.whr)++(toks (dc f x.grp)++ts))=.ok (dN aU.row x.whr) (toks (dc f x.grp)++ts):=by
   induction hs:x.whr with
   | none=>
    exact cj (g3.k rfl) rfl
   | some e=>
    refine ac (pH ..) ?_
    refine eX rfl ?_
    exact e.p (h4 e hs) (jQ hm rfl) (mG hd rfl) (g3.f rfl)
  refine dL.bok hwhr ?_
  show dL ts _ (false,aP ez [.tup [.tup ((x.c::x.cs).map (dC.row L)),.bool x.w.is,dN (b9.row L) x.src],dN aU.row x.whr,.tup (mZ x.grp),mY x.grp])
  induction hg:x.grp with
  | none=>
   refine dL.bok (a:=[]) (r:=ts) (cj (hG.k rfl) rfl) ?_
   refine dL.bok (a:=DT.none) (r:=ts) ?_ (.inl rfl)
   unfold jr
   exact ac (hG.k rfl) rfl
  | some y=>
   obtain⟨e,es,h⟩:=y
   obtain⟨k1,k2,k3⟩:=h5 e es h hg
   refine ac (qS ..) ?_
   have hh:G LH (toks (g8 f h)++ts):=by
    induction h with
    | none=>exact hG.mono rfl
    | some y=>refine ac (qR ..) ?_;exact .inl (F.one rfl)
   have hc:toks (g8 f h)++ts=cm->ts=cm:=by
    induction h with
    | none=>exact λz=>z
    | some y=>refine ac (qR ..) ?_;exact λz=>absurd z mO
   have eg:cq b0 [] (λts=>bI eV ts λts=>(aj n).exprs d ts) (K f b0::K f eV::(toks (comma ((e::es).map (aU.ps f)))++(toks (g8 f h)++ts)))=(aj n).exprs d (toks (comma ((e::es).map (aU.ps f)))++(toks (g8 f h)++ts)):=
    eX rfl (rO rfl rfl)
   refine dL.bind (a:=(e::es).map aU.row) (by refine ac eg ?_;exact su k2 k1 (jQ hm rfl) (mG hd rfl) hh) hc ?_
   induction h with
   | none=>
    refine dL.bok (a:=DT.none) (r:=ts) ?_ (.inl rfl)
    show jr _ _ _ ts=_
    unfold jr
    exact ac (hG.k rfl) rfl
   | some y=>
    refine ac (qR ..) ?_
    refine dL.bok (a:=y.row) (r:=ts) ?_ (.inl rfl)
    unfold jr
    show bu ((e::es).map aU.row).isEmpty .err ((aj n).expr d 1 (toks (y.ps f)++ts))=_
    exact y.p (k3 y rfl) (jQ hm rfl) (mG hd rfl) (hG.f rfl)
end
noncomputable def LC:Hd:=[(eH,[]),(bp,[41]),(ar,bZ),(ar,bh)]
noncomputable def LS:Hd:=[(eH,[]),(bp,[41])]
noncomputable def LT:Hd:=[(eH,[]),(bp,[41]),(bp,[44]),(ar,bh)]
section
variable {f:Bool} {L:Lv} {g dd:Nat} {n d:Nat} {ts:List Tok}
noncomputable def Op.tk(f:Bool):Op->List Tok
 | .u=>[K f eQ]
 | .ua=>[K f eQ,K f fT]
 | .i=>[K f cP]
 | .e=>[K f e9]
theorem Op.tk_eq(o:Op):toks (o.ps f)=o.tk f:=by induction o<;>induction f<;>rfl
theorem Op.p{o:Op}(h:jZ fT ts=false):b4 (toks (o.ps f)++ts)=.ok (some o.v) ts:=by
 refine ac (Op.tk_eq ..) ?_
 induction o with
 | u=>exact eX rfl (cj h rfl)
 | ua=>rfl
 | i=>rfl
 | e=>rfl
theorem L4(hG:G LC ts):b4 ts=.ok none ts:=
 cj (hG.k rfl) (cj (hG.k rfl) (cj (hG.k rfl) rfl))
theorem Op.fo(o:Op):F LB (toks (o.ps f)++ts):=by
 refine ac (Op.tk_eq ..) ?_
 induction o<;>exact F.one rfl
theorem Op.ncm(o:Op):toks (o.ps f)++ts≠cm:=by
 refine ac (Op.tk_eq ..) ?_
 induction o<;>exact mO
theorem ci.head(b:ci L):∃ w r,toks (b.ps f)=w::r/\(aA aW w||aA bM w)=true/\aA fT w=false:=by
 induction b with
 | v x=>induction f<;>exact⟨_,_,rfl,rfl,rfl⟩
 | c x=>
  refine⟨K f aW,toks (x.w.ps f)++(toks (comma ((x.c::x.cs).map (dC.ps f L)))++(toks (cK f L x.src)++(toks (cH f x.whr)++(toks (dc f x.grp))))),?_,rfl,rfl⟩
  show toks (kw f aW++[.sp]++x.w.ps f++comma ((x.c::x.cs).map (dC.ps f L))++cK f L x.src++cH f x.whr++dc f x.grp)=_
  simp only[bm,List.append_assoc]
  induction f<;>rfl
noncomputable def lastV(b:Bool)(l:List (Op×ci gY)):Bool:=match l.getLast? with
 | none=>b
 | some y=>y.2.isV
theorem qC(b:Bool)(y:Op×ci gY)(l:List (Op×ci gY)):lastV b (y::l)=lastV y.2.isV l:=by
 unfold lastV
 induction l with
 | nil=>rfl
 | cons z l=>refine(List.getLast?_cons_cons).symm ▸ ?_;cases h:(z::l).getLast? with
  | none=>simp at h
  | some _=>rfl
theorem xV(l:List (Op×ci gY))(hG:G LC ts):G LB (toks (l.flatMap (eO f))++ts)/\(toks (l.flatMap (eO f))++ts=cm->ts=cm):=by
 induction l with
 | nil=>exact⟨hG.mono rfl,λz=>z⟩
 | cons y l=>
  have e:toks ((y::l).flatMap (eO f))++ts=toks (y.1.ps f)++(toks (y.2.ps f)++(toks (l.flatMap (eO f))++ts)):=by
   refine ac List.flatMap_cons ?_
   exact tk_eq (kA (kA (kA (kA kL kL) kL) kL) kL) rfl
  refine e.symm ▸ ?_
  exact⟨.inl y.1.fo,λz=>absurd z y.1.ncm⟩
theorem JR(hd:d+3<=50)(hG:G LC ts):∀ (l:List (Op×ci gY)) (n:Nat) (last:Bool×DT) (b:DT),(∀ y∈l,y.2.ok)->18+l.length<=n->
 dL ts ((b4 (toks (l.flatMap (eO f))++ts)).bind λop ts=>(aj n).comp d last b op ts) (lastV last.1 l,l.foldl kH b):=by
 intro z_
 induction z_ with
 | nil=>
  intro n last b _ hn
  obtain⟨n,rfl⟩:∃ j,n=j+1:=⟨n-1,aG hn rfl⟩
  refine dL.bok (L4 hG) (.inl rfl)
 | cons y l ihz=>
  intro n last b hl hn
  obtain⟨n,rfl⟩:∃ j,n=j+1:=⟨n-1,aG hn rfl⟩
  have e:toks ((y::l).flatMap (eO f))++ts=toks (y.1.ps f)++(toks (y.2.ps f)++(toks (l.flatMap (eO f))++ts)):=by
   refine ac (List.flatMap_cons ..) ?_
   exact tk_eq (kA (kA (kA (kA kL kL) kL) kL) kL) rfl
  refine ac e ?_
  refine(xV (f:=f) l hG).elim λg1 c1=>?_
  have hk:jZ fT (toks (y.2.ps f)++(toks (l.flatMap (eO f))++ts))=false:=by
   refine gf (y.2.head (f:=f)) λw r e _ hw=>?_
   exact e▸hw
  refine dL.bok (Op.p hk) ?_
  refine dL.bind (y.2.p AU (hl y (.head _)) (by simp at hn;lia) (by simp at hn;exact Qj hn rfl) (hd) g1) c1 ?_
  have ih:=ihz n (y.2.isV,y.2.row) (kH b y) (λz hz=>hl z (.tail _ hz)) (by simp at hn ⊢;exact Nat.le_of_lt_succ hn)
  refine ac (qC ..) ?_
  exact ih
noncomputable def eC.tk(f:Bool):eC->List Tok
 | .no=>[]
 | .asc=>[K f t8]
 | .desc=>[K f lZ]
theorem eC.tk_eq(o:eC):toks (o.ps f)=o.tk f:=by induction o<;>induction f<;>rfl
theorem eC.p{o:eC}(h:F LT ts):ot (toks (o.ps f)++ts)=.ok o.is ts:=by
 refine ac (eC.tk_eq ..) ?_
 induction o with
 | no=>exact cj (h.k rfl) (cj (h.k rfl) rfl)
 | asc=>rfl
 | desc=>rfl
theorem eC.fo{o:eC}(h:F LT ts):F LE (toks (o.ps f)++ts):=by
 refine ac (eC.tk_eq ..) ?_
 induction o with
 | no=>exact h.mono rfl
 | asc=>exact F.one rfl
 | desc=>exact F.one rfl
theorem vc{x:aU×eC}(hx:x.1.ok)(hn:11<=n)(hd:d+3<=50)(h:F LT ts):(aj n).term d (toks (cU f x)++ts)=.ok (fk x) ts:=by
 obtain⟨n,rfl⟩:∃ j,n=j+1:=⟨n-1,aG hn rfl⟩
 have e:toks (cU f x)++ts=toks (x.1.ps f)++(toks (x.2.ps f)++ts):=by
  unfold cU;exact ac (bm ..) (ac (List.append_assoc ..) rfl)
 refine ac e ?_
 refine cz (x.1.p hx (jQ hn rfl) hd (eC.fo h)) ?_
 exact cz (eC.p h) rfl
theorem vd(hd:d+1<=50):(aj (n+6)).term d [bE]=.err:=by
 show(((aj (n+5)).expr d 1 [bE]).bind _)=_
 exact jF (ja hd)
noncomputable def LL:Hd:=[(eH,[]),(bp,[41]),(ar,bh)]
theorem Bo{l:List (aU×eC)}(hx:∀ y∈l,y.1.ok)(hl:l.length<=2)(hn:16<=n)(hd:d+3<=50)(hG:G LL ts):dL ts (cq bZ [] (λts=>bI eV ts λts=>(aj n).terms d ts) (toks (bc f l)++ts)) (l.map fk):=by
 cases l with
 | nil=>exact .inl (cj (hG.k rfl) rfl)
 | cons x r=>
  obtain⟨n,rfl⟩:∃ j,n=j+1:=⟨n-1,aG hn rfl⟩
  have et:toks (bc f (x::r))++ts=K f bZ::K f eV::(toks (cU f x)++((r.flatMap λy=>S 44::toks (cU f y))++ts)):=by
   show toks ([.sp]++f8 f bZ eV++[.sp]++cU f x++r.flatMap λy=>[.sg 44,.sp]++cU f y)++ts=_
   have er:toks (r.flatMap λy=>[.sg 44,.sp]++cU f y)=r.flatMap λy=>S 44::toks (cU f y):=by
    clear hx hl
    induction r with
    | nil=>rfl
    | cons y r ih=>refine ac (List.flatMap_cons ..) (ac (List.flatMap_cons ..) (ac (bm ..) (ac (ih ..) ?_)));rfl
   refine ac (bm ..) (ac (er ..) (ac (List.append_assoc ..) (ac (bm ..) (ac (List.append_assoc ..) ?_))))
   induction f<;>rfl
  refine et.symm ▸ ?_
  have e0:cq bZ [] (λts=>bI eV ts λts=>(aj (n+1)).terms d ts) (K f bZ::K f eV::(toks (cU f x)++((r.flatMap λy=>S 44::toks (cU f y))++ts)))=(aj (n+1)).terms d (toks (cU f x)++((r.flatMap λy=>S 44::toks (cU f y))++ts)):=
   eX rfl (rO rfl rfl)
  refine e0.symm ▸ ?_
  have hF:F LT ts:=hG.f rfl
  have hr:F LT ((r.flatMap λy=>S 44::toks (cU f y))++ts):=by
   induction r with
   | nil=>exact hF
   | cons b bs=>exact F.one rfl
  show dL ts (((aj n).term d _).bind λx ts=>(aj n).termsL d [x] ts) _
  refine dL.bok (vc (hx x (.head _)) (jQ hn rfl) hd hr) ?_
  exact qx (xl:=λn=>(aj n).termsL d) (x:=λn=>(aj n).term d) (B:=11) (λ_ _ _=>rfl) (L:=LT) (L':=LL) rfl rfl hG hF (λn hn=>by
   obtain⟨n,rfl⟩:∃ j,n=j+6:=⟨n-6,aG hn rfl⟩
   exact vd (uV hd rfl)) r n [fk x] (λn a ts ha hn hF=>vc (hx a (.tail _ ha)) hn hd hF) (by simp at hl;lia)
theorem Mx(a:aU):toks (ke.ps f (.l a))++ts=K f bh::(toks (a.ps f)++ts):=by
 show toks ([.sp]++kw f bh++[.sp]++a.ps f)++ts=_
 induction f<;>rfl
theorem Fi(a b:aU):toks (ke.ps f (.lo a b))++ts=K f bh::(toks (a.ps f)++K f dT::(toks (b.ps f)++ts)):=by
 exact tk_eq (kA (kA (kA (kA (kA (kA (kA kL (kW (by cases f<;>rfl))) kL) kL) kL) (kW (by cases f<;>rfl))) kL) kL) rfl
theorem Fm(a b:aU):toks (ke.ps f (.lc a b))++ts=K f bh::(toks (b.ps f)++S 44::(toks (a.ps f)++ts)):=by
 exact tk_eq (kA (kA (kA (kA (kA kL (kW (by cases f<;>rfl))) kL) kL) kL) kL) rfl
theorem ke.p{x:ke}(hx:x.ok)(hn:11<=n)(hd:d+3<=50)(hG:G LS ts):dL ts ((aj n).limits d (toks (x.ps f)++ts)) (x.r1,x.r2):=by
 obtain⟨n,rfl⟩:∃ j,n=j+1:=⟨n-1,aG hn rfl⟩
 have hF:F LE ts:=hG.f rfl
 show dL ts (iQ (aj n) d _) _
 unfold iQ
 induction x with
 | no=>exact .inl (cj (hG.k rfl) rfl)
 | l a=>
  refine ac (Mx ..) ?_
  have e0:∀ {r:List Tok} {gg:Bool->List Tok->aX (DT×DT)},aS bh (K f bh::r) gg=gg true r:=λ{r gg}=>eX rfl rfl
  refine ac e0 ?_
  refine dL.bok (a.p hx (jQ hn rfl) hd hF) ?_
  have e1:∀ {gg:Bool->List Tok->aX (DT×DT)},aS dT ts gg=gg false ts:=λ{gg}=>cj (hG.k rfl) rfl
  refine ac e1 ?_
  show dL ts (bH [44] ts λb ts=>bu b (((aj n).expr d 1 ts).bind λy ts=>.ok (y,a.row) ts) (.ok (a.row,DT.none) ts)) _
  rcases hG with h|rfl
  ·exact .inl (iG (h.s rfl) rfl)
  ·obtain⟨n,rfl⟩:∃ j,n=j+5:=⟨n-5,by lia⟩
   exact .inr ⟨iF rfl (jF (ja (uV hd rfl))),rfl⟩
 | lo a b=>
  refine ac (Fi ..) ?_
  refine .inl (eX rfl ?_)
  refine cz (a.p hx.1 (jQ hn rfl) hd (F.one rfl)) ?_
  refine eX rfl ?_
  exact cz (b.p hx.2 (jQ hn rfl) hd hF) rfl
 | lc a b=>
  refine ac (Fm ..) ?_
  refine .inl (eX rfl ?_)
  refine cz (b.p hx.2 (jQ hn rfl) hd (F.one rfl)) ?_
  refine cj rfl (iF rfl ?_)
  exact cz (a.p hx.1 (jQ hn rfl) hd hF) rfl
theorem ke.fo{x:ke}(hG:G LS ts):G LL (toks (x.ps f)++ts)/\(toks (x.ps f)++ts=cm->ts=cm):=by
 induction x with
 | no=>exact⟨hG.mono rfl,λz=>z⟩
 | l a=>refine ac (Mx ..) ?_;exact⟨.inl (F.one rfl),λz=>absurd z mO⟩
 | lo a b=>refine ac (Fi ..) ?_;exact⟨.inl (F.one rfl),λz=>absurd z mO⟩
 | lc a b=>refine ac (Fm ..) ?_;exact⟨.inl (F.one rfl),λz=>absurd z mO⟩
theorem u9{l:List (aU×eC)}(hG:G LL ts):G LC (toks (bc f l)++ts)/\(toks (bc f l)++ts=cm->ts=cm):=by
 induction l with
 | nil=>exact⟨hG.mono rfl,λz=>z⟩
 | cons x r=>
  have:∃ u,toks (bc f (x::r))++ts=K f bZ::u:=by induction f<;>exact⟨_,rfl⟩
  refine this.elim λu e=>?_
  refine e.symm ▸ ?_
  exact⟨.inl (F.one rfl),λz=>absurd z mO⟩
theorem fj.p{x:fj L}(hP:LP L g dd)(hx:x.ok)(hn:g+11<=n)(hm:21<=n)(hd:d+dd+4<=50)(hG:G LS ts):dL ts ((aj n).sel d (toks (x.ps f)++ts)) x.row:=by
 obtain⟨n,rfl⟩:∃ j,n=j+1:=⟨n-1,aG hm rfl⟩
 refine kS hx λh1 h2 h3 h4 h5=>?_
 have et:toks (x.ps f)++ts=toks (x.b.b.ps f)++(toks (x.b.more.flatMap (eO f))++(toks (bc f x.ts)++(toks (x.l.ps f)++ts))):=by
  exact tk_eq (kA (kA kL kL) (kA kL kL)) rfl
 refine ac (et ..) ?_
 refine(ke.fo (f:=f) (x:=x.l) hG).elim λg1 c1=>?_
 refine(u9 (f:=f) (l:=x.ts) g1).elim λg2 c2=>?_
 refine(xV (f:=f) x.b.more g2).elim λg3 c3=>?_
 show dL ts (xy (aj n) d _) _
 unfold xy
 refine ac (j7 (mG hd rfl)) ?_
 refine dL.bind (x.b.b.p hP h1.1 (KI hn rfl) (jQ hm rfl) (by lia) g3) (λz=>c1 (c2 (c3 z))) ?_
 have hc:=JR (f:=f) (d:=d+1) (by lia) g2 x.b.more n (x.b.b.isV,x.b.b.row) x.b.b.row h1.2.2 (by have:=h1.2.1;lia)
 have ea:∀ {α β γ:Type} (u:aX α) (v:α->List Tok->aX β) (w:β->List Tok->aX γ),(u.bind λa t=>(v a t).bind w)=(u.bind v).bind w:=λu v w=>by induction u<;>rfl
 refine ac (ea ..) ?_
 refine dL.bind hc (λz=>c1 (c2 z)) ?_
 show dL ts ((lR (aj n) (d+1) (lastV x.b.b.isV x.b.more) (toks (bc f x.ts)++(toks (x.l.ps f)++ts))).bind λt ts=>.ok (aP dF [.tup [x.b.more.foldl kH x.b.b.row,.tup t.1],t.2.1,t.2.2]) ts) (aP dF [.tup [x.b.row,.tup (x.ts.map fk)],x.l.r1,x.l.r2])
 unfold lR
 cases hv:lastV x.b.b.isV x.b.more with
 | true=>
  refine(h5 hv).elim λe1 e2=>?_
  refine ac e1 (ac e2 ?_)
  exact .inl rfl
 | false=>
  refine ac (ea ..).symm ?_
  refine dL.bind (Bo h3 h2 (jQ hm rfl) (by lia) g1) c1 ?_
  show dL ts ((((aj n).limits (d+1) (toks (x.l.ps f)++ts)).bind λl ts=>.ok (x.ts.map fk,l) ts).bind _) _
  refine ac (ea ..).symm ?_
  exact dL.bind (x.l.p h4 (jQ hm rfl) (by lia) hG) (λz=>z) (.inl rfl)
theorem P9(f:Bool):LP (L1 f) 21 4:=by
 refine⟨λn d x ts hn hd hx=>?_,λx hx=>?_⟩
 ·rcases fj.p (f:=f) (x:=x) (n:=n) (d:=d) (ts:=S 41::ts) AU hx (lU hn rfl) (hn) (hd) (.inl (F.one rfl)) with h|⟨_,h⟩
  ·exact h
  ·exact absurd (congrArg Tok.t (List.cons.inj h).1) (by decide)
 ·refine gf (ci.head (f:=f) x.b.b) λw r e hw _=>?_
  refine⟨w,r++toks (x.b.more.flatMap (eO f)++(bc f x.ts++x.l.ps f)),?_,hw⟩
  show toks ((x.b.b.ps f++x.b.more.flatMap (eO f))++(bc f x.ts++x.l.ps f))=_
  refine ac (List.append_assoc ..) (ac (bm ..) (ac (e ..) ?_));rfl
end
noncomputable def bq(b:Nat)(d:DT):Prop:=d.good=true/\d.dep<=b
noncomputable def fF(b:Nat)(l:List DT):Prop:=DT.goodL l=true/\DT.depL l<=b
theorem bq.mono{b c:Nat}{d:DT}(h:bq b d)(hb:b<=c):bq c d:=⟨h.1,Nat.le_trans h.2 hb⟩
theorem fF.mono{b c:Nat}{d:List DT}(h:fF b d)(hb:b<=c):fF c d:=⟨h.1,Nat.le_trans h.2 hb⟩
theorem fF.nil{b:Nat} : fF b []:=⟨rfl,Nat.zero_le _⟩
theorem fF.cons{b:Nat}{d:DT}{l:List DT}(h:bq b d)(hl:fF b l):fF b (d::l):=by
 refine⟨?_,?_⟩
 ·show(d.good&&DT.goodL l)=true
  refine ac h.1 (ac hl.1 ?_);rfl
 ·show max d.dep (DT.depL l)<=b
  have:=h.2;have:=hl.2;lia
theorem bq.tup{b:Nat}{l:List DT}(h:fF b l):bq (b+1) (.tup l):=⟨h.1,Nat.succ_le_succ h.2⟩
theorem bq.none{b:Nat} : bq b .none:=⟨rfl,Nat.zero_le _⟩
theorem bq.bool{b:Nat}{x:Bool} : bq b (.bool x):=⟨rfl,Nat.zero_le _⟩
theorem bq.int{b:Nat}{x:Int} : bq b (.int x):=⟨rfl,Nat.zero_le _⟩
theorem bq.str{b:Nat}{s:List Nat}(h:(s.all λc=>Nat.blt c 1114112)=true):bq b (.str s):=⟨h,Nat.zero_le _⟩
theorem bq.tag{b:Nat}{s:List Nat}{l:List DT}(hs:(s.all λc=>Nat.blt c 1114112)=true)(h:fF b l):bq (b+1) (aP s l):=.tup (.cons (.str hs) h)
theorem fF.map{α:Type}{b:Nat}{l:List α}{r:α->DT}(h:∀ x∈l,bq b (r x)):fF b (l.map r):=by
 induction l with
 | nil=>exact .nil
 | cons x l ih=>exact .cons (h x (.head _)) (ih λy hy=>h y (.tail _ hy))
theorem rn:∀ x,gY.ok x->bq 0 (gY.row x):=λx=>nomatch x
theorem c9.ni{b:Nat}(c:c9):bq b (.str c.v):=.str (by induction c<;>rfl)
theorem xM(c:c9):bq 1 (nmD c):=.tag rfl (.cons .none (.cons c.ni .nil))
theorem yD{i:Int} : bq 1 (eP (.int i)):=.tup (.cons (.str rfl) (.cons (.str rfl) (.cons .int .nil)))
theorem aU.ni(e:aU):bq 3 e.row:=by
 induction e with
 | num n=>exact yD.mono (by decide)
 | its=>exact bq.mono (b:=1) (.tup (.cons (.str rfl) (.cons (.str rfl) (.cons (.str rfl) .nil)))) (by decide)
 | null=>exact bq.mono (b:=1) (.tup (.cons (.str rfl) (.cons (.str rfl) (.cons .none .nil)))) (by decide)
 | nn c e=>exact bq.mono (b:=1) (.tag rfl (.cons c.ni (.cons e.ni .nil))) (by decide)
 | plus c=>exact bq.mono (b:=2) (.tag rfl (.cons (.str rfl) (.cons (xM c) (.cons yD .nil)))) (by decide)
 | cnt=>exact bq.mono (b:=2) (.tag rfl (.cons (.str rfl) (.cons (.tup .nil) (.cons .bool (.cons .bool .nil))))) (by decide)
 | sum c=>exact .tag rfl (.cons (.str rfl) (.cons (.tup (.cons (xM c) .nil)) (.cons .bool (.cons .bool .nil))))
 | nm c=>exact(xM c).mono (by decide)
theorem Al.ni{b:Nat}(a:Al):bq b a.row:=by
 induction a with
 | no=>exact .none
 | bare c=>exact c.ni
 | own=>exact .str rfl
 | as c=>exact c.ni
theorem eU.ni(a:eU):bq 1 a.row:=by
 induction a with
 | no=>exact .none
 | ind c=>exact .tup (.cons (.str rfl) (.cons c.ni .nil))
 | scan=>exact .tup (.cons (.str rfl) .nil)
theorem JK.ni{b:Nat}(a:JK):bq b (.str a.v):=by induction a<;>exact .str rfl
theorem Op.ni{b:Nat}(a:Op):bq b (.str a.v):=by induction a<;>exact .str rfl
section
variable {L:Lv} {B:Nat} (hL:∀ x,L.ok x->bq B (L.row x))
include hL
theorem gU.ni(e:gU L)(h:e.ok):bq (B+3) e.row:=by
 induction e with
 | b e=>exact e.ni.mono (Nat.le_of_ble_eq_true rfl)
 | s x=>exact bq.mono (b:=B+1) (.tag rfl (.cons (hL x h) .nil)) (by lia)
theorem dC.ni(c:dC L)(h:c.ok):bq (B+4) c.row:=by
 induction c with
 | star=>exact .tag rfl (.cons .none (.cons .none (.cons .none .nil)))
 | tst c=>exact .tag rfl (.cons .none (.cons .none (.cons c.ni .nil)))
 | ex e a=>exact .tag rfl (.cons (e.ni hL h) (.cons a.ni (.cons .none .nil)))
theorem gj.ni(s:gj L)(hs:s.ok):bq (B+2) s.row:=by
 induction s with
 | tab c a h=>exact .tag rfl (.cons c.ni (.cons a.ni (.cons (h.ni.mono (Nat.succ_pos _)) .nil)))
 | sub x a=>exact .tag rfl (.cons ((hL x hs.1).mono (Nat.le_succ _)) (.cons a.ni .nil))
omit hL in
theorem On.ni(o:On):bq 3 o.on_/\bq 3 (.tup (o.us_.map DT.str)):=by
 induction o with
 | on e=>exact⟨e.ni,bq.mono (b:=1) (.tup .nil) (by decide)⟩
 | no=>exact⟨.none,bq.mono (b:=1) (.tup .nil) (by decide)⟩
 | us c cs=>
  refine⟨.none,bq.mono (b:=1) (.tup ?_) (by decide)⟩
  show fF 0 (((c::cs).map c9.v).map DT.str)
  refine ac List.map_map ?_
  exact .map λx _=>x.ni
theorem b9.ni(x:b9 L)(hx:x.ok):bq (B+5) x.row:=by
 obtain⟨h1,h2⟩:=hx
 unfold b9.row
 induction hj:x.j with
 | none=>exact(x.a.ni hL h1).mono (by lia)
 | some y=>
  obtain⟨k,s,o⟩:=y
  rw[hj] at h2
  exact .tag rfl (.cons (bq.mono (b:=B+3) (.tup (.cons k.ni (.cons (x.a.ni hL h1) (.cons (s.ni hL h2.1) .nil)))) (Nat.le_succ _)) (.cons (o.ni.1.mono (Nat.le_of_ble_eq_true rfl)) (.cons (o.ni.2.mono (Nat.le_of_ble_eq_true rfl)) .nil)))
theorem ci.ni(x:ci L)(hx:x.ok):bq (B+8) x.row:=by
 induction x with
 | v x=>
  refine bq.mono (b:=6) (.tag rfl (.cons (.tup ?_) .nil)) (Nat.le_of_ble_eq_true rfl)
  exact .map λy _=>.tup (.map λe _=>e.ni)
 | c x=>
  refine kS hx λo1 o2 o3 o4 o5=>?_
  have h1:bq (B+5) (.tup ((x.c::x.cs).map (dC.row L))):=.tup (.map λc hc=>c.ni hL (o2 c hc))
  have h2:bq (B+6) (dN (b9.row L) x.src):=by
   cases hs:x.src with
   | none=>exact .none
   | some s=>exact(s.ni hL (o3 s hs)).mono (Nat.le_succ _)
  have h3:bq (B+7) (dN aU.row x.whr):=by
   cases x.whr with
   | none=>exact .none
   | some s=>exact s.ni.mono (Nat.le_of_ble_eq_true rfl)
  have h4:bq (B+7) (.tup (mZ x.grp)):=by
   cases x.grp with
   | none=>exact bq.mono (b:=1) (.tup .nil) (Nat.succ_pos _)
   | some s=>obtain⟨e,es,h⟩:=s;exact bq.mono (b:=4) (.tup (.map λe _=>e.ni)) (Nat.le_of_ble_eq_true rfl)
  have h5:bq (B+7) (mY x.grp):=by
   cases x.grp with
   | none=>exact .none
   | some s=>
    obtain⟨e,es,h⟩:=s
    induction h with
    | none=>exact .none
    | some y=>exact y.ni.mono (Nat.le_of_ble_eq_true rfl)
  exact .tag rfl (.cons (.tup (.cons (h1.mono (Nat.le_succ _)) (.cons .bool (.cons h2 .nil)))) (.cons h3 (.cons h4 (.cons h5 .nil))))
omit hL in
theorem Cr{l:List (Op×ci gY)}(hl:∀ y∈l,y.2.ok){C:Nat}(hC:8<=C){d:DT}(h:bq C d):bq (C+l.length) (l.foldl kH d):=by
 induction l generalizing d C with
 | nil=>exact h
 | cons y l ih=>
  have:=ih (λz hz=>hl z (.tail _ hz)) (C:=C+1) (A2 hC rfl) (d:=kH d y) (.tag rfl (.cons y.1.ni (.cons h (.cons ((y.2.ni rn (hl y (.head _))).mono (hC)) .nil))))
  exact this.mono (by simp;lia)
theorem fj.ni(x:fj L)(hx:x.ok):bq (B+12) x.row:=by
 have h1:bq (B+10) x.b.row:=(Cr hx.1.2.2 (Nat.le_of_ble_eq_true rfl) (x.b.b.ni hL hx.1.1)).mono (by have:=hx.1.2.1;lia)
 have h2:bq (B+10) (.tup (x.ts.map fk)):=bq.mono (b:=5) (.tup (.map λt _=>.tag rfl (.cons t.1.ni (.cons .bool .nil)))) (Nat.le_of_ble_eq_true rfl)
 have h3:bq (B+11) x.l.r1:=by
  cases x.l with
  | no=>exact .none
  | l a=>exact a.ni.mono (Nat.le_of_ble_eq_true rfl)
  | lo a b=>exact a.ni.mono (Nat.le_of_ble_eq_true rfl)
  | lc a b=>exact a.ni.mono (Nat.le_of_ble_eq_true rfl)
 have h4:bq (B+11) x.l.r2:=by
  cases x.l with
  | no=>exact .none
  | l a=>exact .none
  | lo a b=>exact b.ni.mono (Nat.le_of_ble_eq_true rfl)
  | lc a b=>exact b.ni.mono (Nat.le_of_ble_eq_true rfl)
 exact .tag rfl (.cons (.tup (.cons h1 (.cons h2 .nil))) (.cons h3 (.cons h4 .nil)))
end
theorem vu{f:Bool}{L:Lv}{g dd B:Nat}(hP:LP L g dd)(hgl:∀ x,L.ok x->a8 0 (L.ps x)=true)(hL:∀ x,L.ok x->bq B (L.row x))(hg:g<=30)(hd:dd<=40)(hB:B<=50)(x:fj L)(hx:x.ok):RT (txt (x.ps f)) x.row:=by
 have hgx:=fj.gl f hgl x hx
 have hn:=(x.ni hL hx).mono (show B+12<=64 by lia)
 refine⟨?_,?_,Dm _ _ hgx,hn.1,hn.2,⟨_,rfl⟩⟩
 ·refine(nY hgx).symm ▸ ?_
  unfold fP
  rcases fj.p (f:=f) (x:=x) (n:=46) (d:=0) (ts:=[bE]) hP hx (by lia) (Nat.le_of_ble_eq_true rfl) (by lia) (.inl (F.one rfl)) with h|⟨_,h⟩
  ·refine ac h ?_;rfl
  ·exfalso;cases h
 ·refine(xo hgx).symm ▸ ?_
  unfold fP
  refine ac (List.append_assoc ..) ?_
  rcases fj.p (f:=f) (x:=x) (n:=46) (d:=0) (ts:=cm) hP hx (by lia) (Nat.le_of_ble_eq_true rfl) (by lia) (.inr rfl) with h|⟨h,_⟩
  ·have h':(aj 46).sel 0 (toks (x.ps f)++([⟨bp,[44],.none⟩]++[bE]))=.ok x.row cm:=h
   refine ac h' ?_;rfl
  ·have h':(aj 46).sel 0 (toks (x.ps f)++([⟨bp,[44],.none⟩]++[bE]))=.err:=h
   exact ac (h' ..) rfl
theorem QF(f:Bool)(x:fj gY)(hx:x.ok):RT (txt (x.ps f)) x.row:=
 vu (B:=0) AU ro rn (Nat.zero_le _) (Nat.zero_le _) (Nat.zero_le _) x hx
theorem QE(f:Bool)(x:fj (L1 f))(hx:x.ok):RT (txt (x.ps f)) x.row:=
 vu (B:=12) (P9 f) (OE f) (λx hx=>x.ni rn hx) (Nat.le_of_ble_eq_true rfl) (Nat.le_of_ble_eq_true rfl) (Nat.le_of_ble_eq_true rfl) x hx
noncomputable def sd(w:List Nat):Bool:=(match fp w with|some none=>true|_=>false)&&(w.all (λc=>Nat.blt c 128)&&Nat.ble w.length 100000)
theorem s0:mj.all sd=true:=by decide +kernel
theorem uY:∀ w∈mj,fp w=some none/\bf w/\w.length<=100000:=λw hw=>by
 have h:=List.all_eq_true.mp s0 w hw
 simp only[sd,Bool.and_eq_true] at h
 obtain⟨h1,h2,h3⟩:=h
 refine⟨?_,λc hc=>Nat.le_of_ble_eq_true (List.all_eq_true.mp h2 c hc),Nat.le_of_ble_eq_true h3⟩
 cases hr:fp w with
 | none=>rw[hr] at h1;cases h1
 | some o=>
  induction o with
  | none=>rfl
  | some d=>rw[hr] at h1;cases h1
theorem yf{H:AH}{a:Nat}{l:List Int}{Q:au}(hl:l.length<=63)(q:∀ H',Q (.bool true) H') :
 wSs (fL a l) (lB a l) cF.body [some (.ref a),none,none,none,none,none,none,none,none] H (λ_ _=>False) Q:=
 Mu hl QF QE uY q
end Mine
namespace Mine
open PySem PySem.W PySem.Calls PyProof.Rows
set_option maxHeartbeats 0
noncomputable def iW(k:Nat):Str:=match eN[k]? with
 | some s=>s
 | none=>⟨Array.replicate (k+1) 35⟩
theorem oH:eN.Nodup:=by decide +kernel
theorem oG:(eN.all λs=>!Nat.beq (s.cps.toList.headD 0) 35)=true:=by decide +kernel
theorem xO(i j:Nat)(h:iW i=iW j):i=j:=by
 have sharp:∀ (k:Nat) (s:Str),s∈eN->s≠⟨Array.replicate (k+1) 35⟩:=λk s hs e=>by
  have:=List.all_eq_true.mp oG s hs
  rw[e] at this
  simp[List.replicate_succ] at this
 unfold iW at h
 match hi:eN[i]? with
 | some s=>
  match hj:eN[j]? with
  | some t=>
   rw[hi,hj] at h
   dsimp only at h
   subst h
   obtain⟨h1,e1⟩:=List.getElem?_eq_some_iff.mp hi
   obtain⟨h2,e2⟩:=List.getElem?_eq_some_iff.mp hj
   rcases Nat.lt_trichotomy i j with q|q|q
   ·exact absurd (e1.trans e2.symm) (List.pairwise_iff_getElem.mp oH i j h1 h2 q)
   ·exact q
   ·exact absurd (e2.trans e1.symm) (List.pairwise_iff_getElem.mp oH j i h2 h1 q)
  | none=>
   rw[hi,hj] at h
   exact absurd h (sharp j s (List.mem_of_getElem? hi))
 | none=>
  match hj:eN[j]? with
  | some t=>
   rw[hi,hj] at h
   exact absurd h.symm (sharp i t (List.mem_of_getElem? hj))
  | none=>
   rw[hi,hj] at h
   have:=congrArg (λs:Str=>s.cps.size) h
   simpa using this
noncomputable def nmN:cy:=⟨iW,xO⟩
theorem sO(n:Str)(k:Nat)(h:eu n=some k):nmN.at_ k=n:=by
 have hm:(n,k)∈eN.zip (List.range eN.length):=aB h
 obtain⟨i,hi,e⟩:=List.mem_iff_getElem.mp hm
 rw[List.getElem_zip] at e
 have e1:=(Prod.mk.inj e).1
 have e2:=(Prod.mk.inj e).2
 rw[List.getElem_range] at e2
 subst e2
 show iW i=n
 unfold iW
 exact ac (List.getElem?_eq_getElem (by simp at hi;omega)) (ac (e1 ..) rfl)
theorem vg:dg nmN:=⟨by kernel_rfl,by kernel_rfl,by kernel_rfl,by kernel_rfl,by kernel_rfl,by kernel_rfl,by kernel_rfl,by kernel_rfl⟩
noncomputable def bt(u:Value):Option (Bool×String):=match u with|.builtin s=>some (false,s)|.type s=>some (true,s)|_=>none
noncomputable def Kg(x y:Option (Bool×String)):Bool:=match x with|some p=>(match y with|some q=>p.1==q.1&&p.2==q.2|none=>false)|none=>false
noncomputable def Q7(x:Bool×String):Value:=match x.1 with|true=>.type x.2|false=>.builtin x.2
theorem Ax{u:Value}{x:Bool×String}(h:bt u=some x):u=Q7 x:=by
 cases u<;>first|exact fI h|(refine ac (Option.some.inj h).symm ?_;rfl)
theorem sI{u v:Value}(h:Kg (bt u) (bt v)=true):u=v:=by
 generalize hu:bt u=x at h
 generalize hv:bt v=y at h
 cases x with
 | none=>exact Bool.noConfusion h
 | some p=>
  cases y with
  | none=>exact Bool.noConfusion h
  | some q=>
   obtain⟨h1,h2⟩:=(Bool.and_eq_true _ _).mp h
   exact ac (Ax hu) (ac (Ax hv) (ac (Prod.ext (eq_of_beq h1) (eq_of_beq h2)) rfl))
noncomputable def Dg(P:Params)(p:Str×GV):Bool:=match p.2 with
 | .fn a=>(match(gi P).nsMap mainGlobals p.1 with|some (.ref b)=>Nat.beq b a|_=>false)&&keepIn (KT P) (.ref a)
 | .cls a=>match(gi P).nsMap mainGlobals p.1 with|some (.ref b)=>Nat.beq b a|_=>false
 | .val v=>!(decide (v=.oth))&&(match(gi P).nsMap mainGlobals p.1 with|some u=>decide (er u=v)|none=>false)
 | .blt b=>((gi P).nsMap mainGlobals p.1).isNone&&(match(gi P).nsMap builtinsNs p.1 with|some u=>Kg (bt u) (bt (iz b))|none=>false)
theorem jd:∀ P,yR.all (Dg P)=true:=λP=>by kernel_rfl
theorem xn{o:Option Value}{a:Nat}(h:(match o with|some (.ref b)=>Nat.beq b a|_=>false)=true):o=some (.ref a):=by
 split at h
 ·exact ac (Nat.eq_of_beq_eq_true h) rfl
 ·cases h
theorem yQ{P:Params}{n:Str}{a:Nat}(h:b8 n=some (.fn a)):(gi P).nsMap mainGlobals n=some (.ref a)/\keepIn (KT P) (.ref a)=true:=by
 have hc:=List.all_eq_true.mp (jd P) _ (aB h)
 unfold Dg at hc
 obtain⟨h1,h2⟩:=Bool.and_eq_true_iff.mp hc
 exact⟨xn h1,h2⟩
theorem ur{P:Params}{n:Str}{a:Nat}(h:b8 n=some (.cls a)):(gi P).nsMap mainGlobals n=some (.ref a):=
 xn (List.all_eq_true.mp (jd P) _ (aB h))
theorem uo{P:Params}{n:Str}{v:AV}(h:b8 n=some (.val v)):v≠.oth/\∃ u,(gi P).nsMap mainGlobals n=some u/\er u=v:=by
 have hc:=List.all_eq_true.mp (jd P) _ (aB h)
 unfold Dg at hc
 obtain⟨h1,h2⟩:=Bool.and_eq_true_iff.mp hc
 refine⟨by simpa using h1,?_⟩
 dsimp only at h2
 induction hu:(gi P).nsMap mainGlobals n with
 | none=>rw[hu] at h2;cases h2
 | some u=>rw[hu] at h2;exact⟨u,rfl,of_decide_eq_true h2⟩
theorem ut{P:Params}{n:Str}{b:uX}(h:b8 n=some (.blt b)):(gi P).nsMap mainGlobals n=none/\(gi P).nsMap builtinsNs n=some (iz b):=by
 have hc:=List.all_eq_true.mp (jd P) _ (aB h)
 unfold Dg at hc
 obtain⟨h1,h2⟩:=Bool.and_eq_true_iff.mp hc
 refine⟨Option.isNone_iff_eq_none.mp h1,?_⟩
 dsimp only at h2
 cases hu:(gi P).nsMap builtinsNs n with
 | none=>rw[hu] at h2;cases h2
 | some u=>rw[hu] at h2;rw[sI h2]
theorem m6{α β:Type}{f g:α->Option β} : ∀ {l:List α},(∀ a∈l,f a=g a)->l.filterMap f=l.filterMap g:=by
 intro z_
 induction z_ with
 | nil=>
  intro _
  exact rfl
 | cons a l ihz=>
  intro h
  exact ac (List.filterMap_cons ..) (ac (List.filterMap_cons ..) (ac (h a (.head _)) (ac (ihz λb hb=>h b (.tail _ hb)) rfl)))
theorem kh{names:List Str}(nd:names.Nodup):∀ {vs:List Value},names.length=vs.length->(names.filterMap λn=>((names.zip vs).lookup n).map (n,·))=names.zip vs/\names.filter (λn=>((names.zip vs).lookup n).isNone)=[]:=by
 induction names with
 | nil=>intro vs _;exact⟨rfl,rfl⟩
 | cons a r ih=>
  intro vs h
  induction vs with
  | nil=>cases h
  | cons v vs=>
   rw[List.nodup_cons] at nd
   have ne:∀ n∈r,(n==a)=false:=λn hn=>beq_eq_false_iff_ne.mpr λe=>nd.1 (e▸hn)
   obtain⟨h1,h2⟩:=ih nd.2 (vs:=vs) (by simpa using h)
   have e1:∀ n∈r,((a,v)::r.zip vs).lookup n=(r.zip vs).lookup n:=λn hn=>by exact ac (List.lookup_cons ..) (ac (ne n hn) rfl)
   constructor
   ·refine ac List.zip_cons_cons (ac List.filterMap_cons ?_)
    refine ac (List.lookup_cons ..) (ac (beq_self_eq_true ..) ?_)
    have e:(r.filterMap λn=>(((a,v)::r.zip vs).lookup n).map (n,·))=r.zip vs:=(m6 λn hn=>by exact ac (e1 n hn) rfl).trans h1
    show(a,v)::(r.filterMap λn=>(((a,v)::r.zip vs).lookup n).map (n,·))=_
    exact ac (e ..) rfl
   ·refine ac (List.zip_cons_cons ..) (ac (List.filter_cons ..) (ac (List.lookup_cons ..) (ac (beq_self_eq_true ..) ?_)))
    show List.filter _ r=[]
    refine ac h2.symm ?_
    refine List.filter_congr λn hn=>?_
    exact ac (e1 n hn) rfl
theorem Cm{a b:Nat}{c:Bool}(h:b=a):¬ ((decide (a>b)&&c)=true):=λz=>absurd (h▸of_decide_eq_true ((Bool.and_eq_true _ _).mp z).1) (Nat.lt_irrefl _)
theorem Cn{α:Type}{P:α->Bool}{l:List α}{k:Nat}(h:l.filter P=[]):¬ ((!((l.take k).filter P).isEmpty)=true):=by
 have:(l.take k).filter P=[]:=List.filter_eq_nil_iff.mpr λx hx=>List.filter_eq_nil_iff.mp h x (List.mem_of_mem_take hx)
 refine ac this ?_;exact Bool.false_ne_true
theorem Co{α β γ δ:Type}{l:List α}{k:Nat}{init:β}{F:α×δ->β->Sem (ForInStep β)}{G:β->Sem γ}{r:Sem γ}(h:G init=r):(forIn (l.zip (List.drop k ([]:List δ))) init F >>= G)=r:=by
 refine ac List.drop_nil (ac List.zip_nil_right ?_);exact h
theorem Cc{α β:Type}{l:List α}{f:α->Option β}{r:List β}(h:l.filterMap f=r):(pure ((l++[]).filterMap f):Sem (List β))=pure r:=by exact ac (List.append_nil ..) (ac (h ..) rfl)
noncomputable def Lb(fd:FuncData)(po:List Arg)(va:Option Arg)(ko:List Arg)(ka:Option Arg)(df:Value):FuncData:={ fd with params:=⟨po,fd.params.args,va,ko,fd.params.kw_defaults,ka,fd.params.defaults⟩,defaults:=df }
noncomputable abbrev Qv(fd:FuncData):FuncData:=Lb fd [] none [] none .none
theorem tu:∀ fd:FuncData,fd=Lb fd fd.params.posonlyargs fd.params.vararg fd.params.kwonlyargs fd.params.kwarg fd.defaults
 | ⟨_,_,⟨_,_,_,_,_,_,_⟩,_,_,_,_,_,_,_,_,_,_,_,_⟩=>rfl
theorem JH{fd:FuncData}(h1:fd.params.posonlyargs=[])(h3:fd.params.vararg=none)(h4:fd.params.kwonlyargs=[])(h5:fd.params.kwarg=none)(hd:fd.defaults=.none):fd=Qv fd:=by
 have e:=tu fd
 rwa [h1,h3,h4,h5,hd] at e
theorem uL{fd:FuncData}{ns:List Str}(hn:ns=fd.params.args.map (·.arg))
 {vs:List Value} (hl:ns.length=vs.length) (e2:ns.filter (λn=>((ns.zip vs).lookup n).isNone)=[]) (e1:(ns.filterMap λn=>((ns.zip vs).lookup n).map (n,·))=ns.zip vs) :
 bindArgs (Qv fd) ⟨vs,[]⟩=pure (ns.zip vs):=by
 subst hn
 exact(if_neg (Cm hl)).trans ((if_neg (Cn e2)).trans (Co (Cc e1)))
theorem AF{fd:FuncData}{names:List Str}(h1:fd.params.posonlyargs=[])(h2:fd.params.args.map (·.arg)=names)(h3:fd.params.vararg=none)(h4:fd.params.kwonlyargs=[])(h5:fd.params.kwarg=none)(hd:fd.defaults=.none)(nd:names.Nodup)
 {vs:List Value} (hl:names.length=vs.length):bindArgs fd ⟨vs,[]⟩=pure (names.zip vs):=by
 refine ac (JH h1 h3 h4 h5 hd) ?_
 exact uL h2.symm hl (kh nd hl).2 (kh nd hl).1
noncomputable def KX(P:Params)(e:Frag):Frag:=KT P++e
noncomputable def ls(o:Option Obj):Option (Str×Arguments×List Stmt×Scope):=match o with
 | some ⟨_,_,.func fd,_⟩=>(match fd.body with|.stmts b=>some (fd.name,fd.params,b,fd.scope)|_=>none)
 | _=>none
noncomputable def MW:Option NameKind->Bool
 | some .local|some .cell=>true
 | _=>false
theorem CN{o:Option NameKind}(h:MW o=true):o=some .local\/o=some .cell:=by
 induction o with
 | none=>exact Bool.noConfusion h
 | some k=>induction k<;>first|exact .inl rfl|exact .inr rfl|exact Bool.noConfusion h
noncomputable def Kc(ps:Arguments)(sc:Scope):Bool:=
 decide (sc.kind=.function)&&(!sc.isCoroutine&&(!sc.isGenerator&&(decide ((sc.names.map (·.1)).Nodup)&&((sc.names.all λp=>decide (p.2≠.free)) &&
  ((ps.args.all λa=>MW (sc.names.lookup a.arg))&&(ps.posonlyargs.isEmpty&&(ps.vararg.isNone&&(ps.kwonlyargs.isEmpty&&(ps.kwarg.isNone&&decide ((ps.args.map (·.arg)).Nodup))))))))))
noncomputable def PG(K:Frag)(fd:FuncData):Bool:=fd.closure.isEmpty&&(Nat.beq fd.globals mainGlobals&&(Nat.beq fd.builtins builtinsNs&&(codeIn K fd.code fd.qualname&&Kc fd.params fd.scope)))
noncomputable def Px(o:Option Obj):Option { fd:FuncData // ∃ oc od osl,o=some ⟨oc,od,.func fd,osl⟩ }:=match o with
 | some ⟨_,_,.func fd,_⟩=>some ⟨fd,_,_,_,rfl⟩
 | _=>none
noncomputable def uH(K:Frag)(f:Addr):Bool:=match Px (K.lookup f) with
 | some fd=>PG K fd.1
 | none=>false
noncomputable def mQ(v:Value):Option (PLift (v=.none)):=match v with
 | .none=>some ⟨rfl⟩
 | _=>none
noncomputable def Ir(o:Option Obj):Bool:=match Px o with
 | some fd=>(mQ fd.1.defaults).isSome
 | none=>false
noncomputable def oA(K:Frag)(f:Addr):Bool:=Ir (K.lookup f)
theorem qK{v:Value}(h:(mQ v).isSome=true):v=.none:=(Option.get _ h).down
theorem fZ{a b:Bool}{G:Prop}(h:(a&&b)=true)(k:a=true->b=true->G):G:=by
 induction a<;>induction b<;>first|exact k rfl rfl|exact Bool.noConfusion h
theorem Mb{b:Bool}(h:(!b)=true):b=false:=by induction b<;>first|rfl|exact Bool.noConfusion h
theorem Pz{α:Type}{l:List α}(h:l.isEmpty=true):l=[]:=by induction l<;>first|rfl|exfalso;cases h
theorem Qp{α:Type}{l:Option α}(h:l.isNone=true):l=none:=by induction l<;>first|rfl|exfalso;cases h
structure OG(ps:Arguments)(sc:Scope):Prop where
 kind:sc.kind=.function
 co:sc.isCoroutine=false
 gen:sc.isGenerator=false
 nodup:(sc.names.map (·.1)).Nodup
 noFree:∀ p∈sc.names,p.2≠.free
 par:∀ p∈ps.args.map (·.arg),sc.names.lookup p=some .local\/sc.names.lookup p=some .cell
 pos:ps.posonlyargs=[]
 var:ps.vararg=none
 kwo:ps.kwonlyargs=[]
 kwa:ps.kwarg=none
 nd:(ps.args.map (·.arg)).Nodup
theorem Dd{ps:Arguments}{sc:Scope}(h:Kc ps sc=true):OG ps sc:=by
 unfold Kc at h
 refine fZ h λh1 h=>fZ h λh2 h=>fZ h λh3 h=>fZ h λh4 h=>fZ h λh5 h=>fZ h λh6 h=>fZ h λh7 h=>fZ h λh8 h=>fZ h λh9 h=>fZ h λh10 h11=>?_
 exact⟨of_decide_eq_true h1,Mb h2,Mb h3,of_decide_eq_true h4,λp hp=>of_decide_eq_true (List.all_eq_true.mp h5 p hp),λp hp=>by
  refine cG (List.mem_map.mp hp) λa ha e=>?_
  exact e▸CN (List.all_eq_true.mp h6 a ha),Pz h7,Qp h8,Pz h9,Qp h10,of_decide_eq_true h11⟩
inductive OH(K:Frag)(f:Addr)(fd:FuncData):Prop
 | mk (oc:Value) (od:Option Addr) (osl:Array (Option Value)) (ho:K.lookup f=some ⟨oc,od,.func fd,osl⟩) (cl:fd.closure=[]) (gl:fd.globals=mainGlobals) (bl:fd.builtins=builtinsNs) (cd:codeIn K fd.code fd.qualname=true) (S:OG fd.params fd.scope):OH K f fd
theorem Dh{K:Frag}{f:Addr}(h:uH K f=true):∃ fd,OH K f fd:=by
 unfold uH at h
 induction hf:Px (K.lookup f) with
 | none=>rw[hf] at h;exact Bool.noConfusion h
 | some fd=>
  rw[hf] at h
  refine Oi fd.2 λoc od osl ho=>?_
  refine fZ h λh1 h=>fZ h λh2 h=>fZ h λh3 h=>fZ h λh4 h=>?_
  exact⟨fd.1,oc,od,osl,ho,Pz h1,Nat.eq_of_beq_eq_true h2,Nat.eq_of_beq_eq_true h3,h4,Dd h⟩
theorem y0{fd:FuncData}{b:List Stmt}(h1:fd.closure=[])(h2:fd.globals=mainGlobals)(h3:fd.builtins=builtinsNs)(h4:fd.body=.stmts b) :
 fd=fnX fd.name fd.qualname fd.params b fd.scope [] fd.defaults fd.kwdefaults fd.doc fd.pyModule fd.annotations fd.code fd.closureTuple:=
 (show fd=⟨fd.name,fd.qualname,fd.params,fd.body,fd.scope,fd.globals,fd.closure,fd.defaults,fd.kwdefaults,fd.doc,fd.pyModule,fd.annotations,fd.code,fd.closureTuple,fd.builtins⟩ from rfl).trans (by exact ac (h1 ..) (ac (h2 ..) (ac (h3 ..) (ac (h4 ..) rfl))))
theorem lW{α β:Type}{f:α->Option β}{l:List α} : ∀ {r:List β},l.mapM f=some r->l.map f=r.map some:=by
 induction l with
 | nil=>intro r h;obtain rfl:=Option.some.inj h;rfl
 | cons a l ih=>
  intro r h
  rw[List.mapM_cons] at h
  refine cG (Option.bind_eq_some_iff.mp h) λb ha h=>?_
  refine cG (Option.bind_eq_some_iff.mp h) λbs hl h=>?_
  exact ac (Option.some.inj h).symm (ac (List.map_cons ..) (ac (List.map_cons ..) (ac (ha ..) (ac (ih hl) rfl))))
theorem yX{K:Frag}{f:Addr}{d:ax}{dfl:List AV}(hc:uH K f=true)(ht:am dfl (ls (K.lookup f))=some d)
 (hb:dfl=[]->oA K f=true)
 (hb2:dfl≠[]->∀ od fd oc osl,K.lookup f=some ⟨oc,od,.func fd,osl⟩->∀ (s:Shared) (vs:List Value),K.In s.heap->d.params.length=(d.fill (vs.map er)).length->nI d fd (fd.params.args.map (·.arg)) s vs):AW K b8 eu f d:=by
 obtain⟨fd,oc,od,osl,ho,cl,gl,bl,cd,S⟩:=Dh hc
 have hb2:=λz=>hb2 z od fd oc osl ho
 have hb:dfl=[]->(mQ fd.defaults).isSome=true:=λz=>by
  have h:=hb z
  unfold oA at h
  rw[ho] at h;exact h
 rw[ho] at ht
 induction hbd:fd.body with
 | stmts b=>
  have ht:am dfl (match fd.body with|.stmts b=>some (fd.name,fd.params,b,fd.scope)|_=>none)=some d:=ht
  rw[hbd] at ht
  have ht:Dk b8 eu fd.params dfl b fd.scope=some d:=ht
  unfold Dk at ht
  refine a7 λGg fin_=>?_
  refine cG (Option.map_eq_some_iff.mp ht) λis hm hd=>?_
  refine fin_ ?_
  have hmap:=lW hm
  refine⟨⟨fd.name,fd.qualname,fd.params,b,fd.scope,fd.defaults,fd.kwdefaults,fd.doc,fd.pyModule,fd.code,fd.closureTuple,fd.annotations,oc,od,osl,fd.params.args.map (·.arg)⟩,?_,cd,S.kind,S.co,S.gen,S.nodup,S.noFree,S.par,?_,by exact ac (hd ..).symm rfl,λs vs hK hl=>?_⟩
  ·refine ho ▸ ?_
   exact congrArg (λx=>some (⟨oc,od,.func x,osl⟩:Obj)) (y0 cl gl bl hbd)
  ·have hp:d.params=is:=by exact ac (hd ..).symm rfl
   refine ac hp (ac hmap.symm (ac List.map_map ?_))
   refine List.map_congr_left λa ha=>?_
   show aL (aF b8 eu fd.scope) a.arg=_
   unfold aL
   rcases S.par a.arg (List.mem_map_of_mem ha) with e|e<;>exact ac (show(aF b8 eu fd.scope).kind a.arg=_ from e) rfl
  ·have hfd:Hl.fd ⟨fd.name,fd.qualname,fd.params,b,fd.scope,fd.defaults,fd.kwdefaults,fd.doc,fd.pyModule,fd.code,fd.closureTuple,fd.annotations,oc,od,osl,fd.params.args.map (·.arg)⟩=fd:=(y0 cl gl bl hbd).symm
   refine hfd.symm ▸ ?_
   by_cases hdf:dfl=[]
   ·have hlen:=congrArg List.length hmap
    simp only[List.length_map] at hlen
    have hp:d.params.length=fd.params.args.length:=by exact hd▸hlen.symm
    have hf:d.fill (vs.map er)=vs.map er:=by
     unfold ax.fill
     rw[show d.dfl=[] from by rw[← hd];exact hdf,List.append_nil,ite_self]
    rw[hf,hp,List.length_map] at hl
    refine⟨[],by refine ac (List.append_nil ..) ?_;exact hf,(λ_ z=>nomatch z),?_⟩
    refine ac (List.append_nil ..) ?_
    exact BindsTo.of_eq (AF S.pos rfl S.var S.kwo S.kwa (qK (hb hdf)) S.nd (by refine ac (List.length_map ..) ?_;exact hl))
   ·exact hb2 hdf s vs hK hl
 | expr e=>
  have ht:am dfl (match fd.body with|.stmts b=>some (fd.name,fd.params,b,fd.scope)|_=>none)=some d:=ht
  rw[hbd] at ht;exact fI ht
theorem As:∀ P e,(kT.all λp=>uH (KX P e) p.1)=true:=λP e=>by kernel_rfl
noncomputable def md(f:Nat):List AV:=bif Nat.beq f 994 then[.int 1] else[]
theorem tQ:∀ P e,(kT.all λp=>Nat.beq p.1 994||oA (KX P e) p.1)=true:=λP e=>by kernel_rfl
theorem u4:∀ P e,(kT.map λp=>am (md p.1) (ls ((KX P e).lookup p.1)))=kT.map λp=>some p.2:=λP e=>by kernel_rfl
theorem pd{β γ δ:Type}{x:δ}{init s':β}{F:δ->β->Sem (ForInStep β)}{G:β->Sem γ}{r:Sem γ}(hF:F x init=pure (.yield s'))(h:G s'=r):(forIn [x] init F >>= G)=r:=by
 refine ac (List.forIn_cons ..) (ac (hF ..) ?_);exact h
theorem oM{β:Type}{a:Str}{v:β}{r:List (Str×β)} : ((a,v)::r).lookup a=some v:=by exact ac (List.lookup_cons ..) (ac (beq_self_eq_true ..) rfl)
theorem ya{β:Type}{a b:Str}{v w:β}{r:List (Str×β)}(e:(b==a)=false):((a,v)::(b,w)::r).lookup b=some w:=by refine ac List.lookup_cons (ac e ?_);exact oM
theorem Fh{α:Type}{P:α->Bool}{a:α}(h:P a=false):¬ ((!(List.filter P [a]).isEmpty)=true):=by
 refine ac List.filter_cons (ac h ?_);exact Bool.false_ne_true
theorem Qt{α β:Type}{f:α->Option β}{a b:α}{x y:β}(h:f a=some x)(k:f b=some y):(pure (List.filterMap f [a,b]):Sem (List β))=pure [x,y]:=by
 refine ac List.filterMap_cons (ac h (ac List.filterMap_cons (ac k ?_)));rfl
noncomputable def Qu(fd:FuncData)(a1 a2:Arg)(T:Addr):FuncData:={ fd with params:=⟨[],[a1,a2],none,[],fd.params.kw_defaults,none,fd.params.defaults⟩,defaults:=.ref T }
theorem AE{fd:FuncData}{a1 a2:Arg}{T:Addr}{s:Shared}{o:Obj}{v0:Value}{n:Nat}(ne:a1.arg≠a2.arg)(ho:s.heap.get? T=some o)(hs:o.data=.seq #[v0] n)(v1:Value) :
 BindsTo s (Qu fd a1 a2 T) ⟨[v1],[]⟩ [(a1.arg,v1),(a2.arg,v0)]/\∀ v2,BindsTo s (Qu fd a1 a2 T) ⟨[v1,v2],[]⟩ [(a1.arg,v1),(a2.arg,v2)]:=by
 have e:(a2.arg==a1.arg)=false:=beq_eq_false_iff_ne.mpr (Ne.symm ne)
 refine⟨BindsTo.of_defaults rfl ho hs rfl ?_,λv2=>BindsTo.of_defaults rfl ho hs rfl ?_⟩
 ·refine(if_neg (Fh (a:=a1.arg) (congrArg Option.isNone oM))).trans ?_
  refine pd (s':=[(a1.arg,v1),(a2.arg,v0)]) (if_pos ?_) (Qt (congrArg (Option.map _) oM) (congrArg (Option.map _) (ya e)))
  show Option.isNone (match a2.arg==a1.arg with|true=>some v1|false=>none)=true
  refine e.symm ▸ ?_;rfl
 ·refine(if_neg (Fh (a:=a1.arg) (congrArg Option.isNone oM))).trans ?_
  exact pd (s':=[(a1.arg,v1),(a2.arg,v2)]) (if_neg (λz=>Bool.false_ne_true ((congrArg Option.isNone (ya e)).symm.trans z))) (Qt (congrArg (Option.map _) oM) (congrArg (Option.map _) (ya e)))
theorem ft{β:Type}{a:Nat}{b:β} : ∀ {l:List (Nat×β)},l.lookup a=some b->(a,b)∈l:=by
 intro z_
 induction z_ with
 | nil=>
  intro h
  exact fI h
 | cons z_2 r ihz=>
  obtain⟨x,y⟩:=z_2
  intro h
  rw[List.lookup_cons] at h
  split at h
  ·rename_i e;obtain rfl:=Option.some.inj h;refine ac (beq_iff_eq.mp e) ?_;exact .head _
  ·exact .tail _ (ihz h)
theorem G2:∀ P e,(KX P e).lookup 994=some (ux (ak 66 1) (oS "ExpressionReader.expression") (.ref 987) bw 993):=λP e=>by kernel_rfl
theorem Om:∀ P e,(KX P e).lookup 987=some (fe (.type "tuple") [iv 1 1603] 0):=λP e=>by kernel_rfl
theorem sD:∃ name a1 a2 kd ds b sc,ak 66 1=some (name,⟨[],[a1,a2],none,[],kd,none,ds⟩,b,sc)/\decide (a1.arg≠a2.arg)=true:=⟨_,_,_,_,_,_,_,rfl,by kernel_rfl⟩
theorem JN{d:ax}(hp:d.params.length=2)(hd:d.dfl=[.int 1]){vs:List Value}(hl:d.params.length=(d.fill (vs.map er)).length):(∃ v,vs=[v]/\d.fill (vs.map er)=[er v,.int 1])\/∃ v w,vs=[v,w]/\d.fill (vs.map er)=[er v,er w]:=by
 unfold ax.fill at hl⊢
 rw[hd,hp] at hl⊢
 match vs with
 | []=>simp at hl
 | [v]=>exact .inl ⟨v,rfl,rfl⟩
 | [v,w]=>exact .inr ⟨v,w,rfl,rfl⟩
 | _::_::_::_=>simp at hl
theorem JO{P:Params}{e:Frag}{d:ax}(ht:am [.int 1] (ak 66 1)=some d){od:Option Addr}{fd:FuncData}{oc:Value}{osl:Array (Option Value)}(ho:(KX P e).lookup 994=some ⟨oc,od,.func fd,osl⟩){s:Shared}{vs:List Value}(hK:(KX P e).In s.heap)
 (hl:d.params.length=(d.fill (vs.map er)).length):nI d fd (fd.params.args.map (·.arg)) s vs:=by
 refine sD.elim λname h1_=>h1_.elim λa1 h2_=>h2_.elim λa2 h3_=>h3_.elim λkd h4_=>h4_.elim λds h5_=>h5_.elim λb h6_=>h6_.elim λsc h7_=>h7_.elim λhd hne=>?_
 rw[hd] at ht
 refine cG (Option.map_eq_some_iff.mp (show Dk b8 eu ⟨[],[a1,a2],none,[],kd,none,ds⟩ [.int 1] b sc=some d from ht)) λis hm2 hd2=>?_
 have hlen:=congrArg List.length (lW hm2)
 simp only[List.length_map,List.length_cons,List.length_nil] at hlen
 have hp:d.params.length=2:=by exact hd2▸hlen.symm
 have hdf:d.dfl=[.int 1]:=by exact ac (hd2 ..).symm rfl
 rw[G2,hd] at ho
 have ho:=Option.some.inj ho
 have hfd:fd=_:=(Data.func.inj (congrArg Obj.data ho)).symm
 subst hfd
 have hT:=hK _ _ (Om P e)
 have hb:=λv1=>AE (fd:=fnX name (oS "ExpressionReader.expression") ⟨[],[a1,a2],none,[],kd,none,ds⟩ b sc [] (.ref 987) .none .none bw none (.ref 993) .none) (a1:=a1) (a2:=a2) (of_decide_eq_true hne) hT rfl v1
 rcases JN hp hdf hl with⟨v,rfl,hf⟩|⟨v,w,rfl,hf⟩
 ·exact⟨[.int 1 1603],hf,(λu hu=>by refine(List.mem_singleton.mp hu).symm ▸ ?_;exact λz=>nomatch z),(hb v).1⟩
 ·exact⟨[],hf,(λ_ z=>nomatch z),(hb v).2 w⟩
theorem yW(P:Params)(e:Frag){f:Nat}{d:ax}(h:bY f=some d):AW (KX P e) b8 eu f d:=by
 have hm:(f,d)∈kT:=ft (show kT.lookup f=some d from h)
 have hc:=List.all_eq_true.mp (As P e) _ hm
 have ht:am (md f) (ls ((KX P e).lookup f))=some d:=by
  have key:∀ (l:List (Nat×ax)),(l.map λp=>am (md p.1) (ls ((KX P e).lookup p.1)))=(l.map λp=>some p.2)->∀ p∈l,am (md p.1) (ls ((KX P e).lookup p.1))=some p.2:=by
   intro l
   induction l with
   | nil=>intro _ p hp;cases hp
   | cons q r ih=>
    intro e p hp
    rw[List.map_cons,List.map_cons] at e
    obtain⟨e1,e2⟩:=List.cons.inj e
    rcases List.mem_cons.mp hp with rfl|hp
    ·exact e1
    ·exact ih e2 p hp
  exact key _ (u4 P e) _ hm
 refine yX hc ht (λhd=>?_) λhd od fd oc osl ho s vs hK hl=>?_
 ·have:=List.all_eq_true.mp (tQ P e) _ hm
  dsimp only at this
  match hf:Nat.beq f 994 with
  | true=>
   unfold md at hd
   rw[hf] at hd;cases hd
  | false=>rw[hf] at this;exact this
 ·have hf:Nat.beq f 994=true:=by
   match hf:Nat.beq f 994 with
   | true=>rfl
   | false=>unfold md at hd;rw[hf] at hd;exact absurd rfl hd
  have hf:=Nat.eq_of_beq_eq_true hf
  subst hf
  have ht:am [.int 1] (ls ((KX P e).lookup 994))=some d:=ht
  rw[G2] at ht
  have hfx:ls (some (ux (ak 66 1) (oS "ExpressionReader.expression") (.ref 987) bw 993))=ak 66 1:=by obtain⟨_,_,_,_,_,_,_,h,_⟩:=sD;refine ac h ?_;rfl
  rw[hfx] at ht
  exact JO ht ho hK hl
noncomputable def ue(o:Option (Option Value)):Bool:=match o with|some none=>true|_=>false
noncomputable def KL(o:Option (Option Value))(s:String):Bool:=match o with|some (some (.builtin t))=>t==s|_=>false
noncomputable def MV(o:Option (Option Value))(a:Nat):Bool:=match o with|some (some (.ref b))=>Nat.beq b a|_=>false
theorem j5{o:Option (Option Value)}(h:ue o=true):o=some none:=by unfold ue at h;split at h;rfl;cases h
theorem mS{o:Option (Option Value)}{s:String}(h:KL o s=true):o=some (some (.builtin s)):=by
 unfold KL at h;split at h
 ·rw[eq_of_beq h]
 ·cases h
theorem qJ{o:Option (Option Value)}{s:Nat}(h:MV o s=true):o=some (some (.ref s)):=by
 unfold MV at h;split at h
 ·rw[Nat.eq_of_beq_eq_true h]
 ·cases h
noncomputable def Di(K:Frag)(p:Nat×Nat):Bool:=plainGet K p.1 (iW p.2)&&(hasDictIn K p.1&&(ue (findIn K (.ref p.1) (iW p.2))&&(KL (findIn K (.ref p.1) "__setattr__") "object.__setattr__" && (plainOver K p.1&&ue (takerIn K p.1 (iW p.2))))))
noncomputable def De(K:Frag)(p:Nat×Nat×Nat):Bool:=plainGet K p.1 (iW p.2.1)&&(MV (findIn K (.ref p.1) (iW p.2.1)) p.2.2&&(isFn K (.ref p.2.2)&&keepIn K (.ref p.2.2)))
noncomputable def Df(K:Frag)(p:Nat×Nat):Bool:=makesIn K p.1&&(MV (findIn K (.ref p.1) "__init__") p.2&&(isFn K (.ref p.2)&&keepIn K (.ref p.1)))
noncomputable def pi(l:List (List Nat×AV)):List (Str×PyData):=l.map λp=>(⟨p.1.toArray⟩,Hg p.2)
noncomputable def rC(d:Data):Option (Array Value×Nat):=match d with|.seq xs n=>some (xs,n)|_=>none
theorem vr{d:Data}{q:Array Value×Nat}(h:rC d=some q):d=.seq q.1 q.2:=by
 induction d<;>first|exact fI h|(rw[← Option.some.inj h])
noncomputable def Lc(o:Option (Array Value×Nat))(k:Array Value->Bool):Bool:=match o with|some q=>k q.1|none=>false
noncomputable def KZ(o:Option Obj)(k:Array Value->Bool):Bool:=match o with
 | some ob=>Kg (bt ob.cls) (bt (.type "tuple"))&&(ob.dict.isNone&&(ob.slots.toList.isEmpty&&Lc (rC ob.data) k))
 | none=>false
theorem BN{d:Data}{k:Array Value->Bool}(h:Lc (rC d) k=true):∃ xs n,d=.seq xs n/\k xs=true:=by
 induction hq:rC d with
 | none=>rw[hq] at h;exact Bool.noConfusion h
 | some q=>rw[hq] at h;exact⟨q.1,q.2,vr hq,h⟩
theorem Bj{o:Option Obj}{k:Array Value->Bool}(h:KZ o k=true):∃ xs n,o=some { cls:=.type "tuple",data:=.seq xs n }/\k xs=true:=by
 induction o with
 | none=>exact Bool.noConfusion h
 | some ob=>
  obtain⟨h1,h⟩:=(Bool.and_eq_true _ _).mp h
  obtain⟨h2,h⟩:=(Bool.and_eq_true _ _).mp h
  obtain⟨h3,h⟩:=(Bool.and_eq_true _ _).mp h
  obtain⟨xs,n,hd,hk⟩:=BN h
  refine⟨xs,n,?_,hk⟩
  obtain⟨c,d,dt,sl⟩:=ob
  obtain rfl:c=_:=sI h1
  obtain rfl:dt=_:=hd
  obtain rfl:d=none:=Option.isNone_iff_eq_none.mp h2
  obtain rfl:sl=#[]:=Array.toList_eq_nil_iff.mp (List.isEmpty_iff.mp h3)
  rfl
noncomputable def Dc(K:Frag)(p:Nat×uS):Bool:=match p.2 with
 | .tStrs l=>KZ (K.lookup p.1) λxs=>decide (xs.toList.map er=l.map AV.str)
 | .tDict l=>KTD.tabLook KTD.flatLooks (λb=>K.lookup b) p.1 (pi l)&&(decide ((pi l).map (·.1)).Nodup&&l.all λq=>decide (q.2=Kp (Hg q.2)))
 | .tInts _=>false
theorem zf:∀ P e,sC.all (Di (KX P e))=true:=λP e=>by kernel_rfl
theorem xX:∀ P e,xY.all (De (KX P e))=true:=λP e=>by kernel_rfl
theorem yH:∀ P e,yI.all (Df (KX P e))=true:=λP e=>by kernel_rfl
theorem kq:∀ P e,kr.all (Dc (KX P e))=true:=λP e=>by kernel_rfl
theorem yP:∀ (w:World) (prog:Program) e,(kr.map λp=>match p.2 with|.tDict l=>KTD.hashesOf (λb=>(KX w.params e).lookup b) p.1|_=>[])=kr.map λp=>match p.2 with|.tDict l=>(pi l).map λq=>(PySem.strKind prog w).hash q.1|_=>[]:=λw prog e=>by kernel_rfl
noncomputable def Kd(K:Frag):Bool:=PySem.W.isIn K (.ref 632) 632&&(kin_not K 608 632&&(plainGet K 608 "__class__" && (hasDictIn K 608&&(KL (findIn K (.ref 608) "__class__") "object.__class__" &&
 (KL (specialIn K (.builtin "object.__class__") "__get__") "getset_descriptor.__get__" && ((match takesIn K (.builtin "object.__class__") with|some true=>true|_=>false)&&(match mroIn K 608 (.type "object") with|some true=>true|_=>false)))))))
theorem IP:∀ P e,Kd (KX P e)=true:=λP e=>by kernel_rfl
theorem DB{o:Option Bool}(h:(match o with|some true=>true|_=>false)=true):o=some true:=by split at h;rfl;cases h
theorem b2{a b:Bool}{C:Prop}(h:(a&&b)=true)(k:a=true->b=true->C):C:=k ((Bool.and_eq_true _ _).mp h).1 ((Bool.and_eq_true _ _).mp h).2
theorem P6{l:List (Nat×Nat)}{C k:Nat}(h:(l.any λp=>Nat.beq p.1 C&&Nat.beq p.2 k)=true):(C,k)∈l:=by
 obtain⟨p,hp,hq⟩:=List.any_eq_true.mp h
 refine b2 hq λh1 h2=>?_
 rw[← Nat.eq_of_beq_eq_true h1,← Nat.eq_of_beq_eq_true h2]
 exact hp
theorem find3{l:List (Nat×Nat×Nat)}{C k f:Nat}(h:(l.find? λp=>Nat.beq p.1 C&&Nat.beq p.2.1 k).map (·.2.2)=some f):(C,k,f)∈l:=by
 obtain⟨p,hp,rfl⟩:=Option.map_eq_some_iff.mp h
 have hq:(Nat.beq p.1 C&&Nat.beq p.2.1 k)=true:=by have:=List.find?_some hp;exact this
 refine b2 hq λh1 h2=>?_
 rw[← Nat.eq_of_beq_eq_true h1,← Nat.eq_of_beq_eq_true h2]
 exact List.mem_of_find?_eq_some hp
theorem x8{α β:Type}{f g:α->β} : ∀ {l:List α},l.map f=l.map g->∀ p∈l,f p=g p
 | _::_,e,_,.head _=>(List.cons.inj e).1
 | _::_,e,p,.tail _ hp=>x8 (List.cons.inj e).2 p hp
theorem C9{P:Params}{e:Frag}{C k:Nat}(h:(C,k)∈sC):plainGet (KX P e) C (iW k)=true/\hasDictIn (KX P e) C=true/\findIn (KX P e) (.ref C) (iW k)=some none/\
 findIn (KX P e) (.ref C) "__setattr__" = some (some (.builtin "object.__setattr__"))/\plainOver (KX P e) C=true/\takerIn (KX P e) C (iW k)=some none:=
 b2 (List.all_eq_true.mp (zf P e) _ h) λc1 hc=>b2 hc λc2 hc=>b2 hc λc3 hc=>b2 hc λc4 hc=>b2 hc λc5 c6=>⟨c1,c2,j5 c3,mS c4,c5,j5 c6⟩
theorem yr{P:Params}{e:Frag} : (kin_not (KX P e) 608 632=true/\plainGet (KX P e) 608 "__class__" = true/\hasDictIn (KX P e) 608=true/\findIn (KX P e) (.ref 608) "__class__" = some (some (.builtin "object.__class__"))/\
 specialIn (KX P e) (.builtin "object.__class__") "__get__" = some (some (.builtin "getset_descriptor.__get__"))/\takesIn (KX P e) (.builtin "object.__class__")=some true/\mroIn (KX P e) 608 (.type "object")=some true)/\PySem.W.isIn (KX P e) (.ref 632) 632=true:=
 b2 (IP P e) λc1 hc=>b2 hc λc2 hc=>b2 hc λc3 hc=>b2 hc λc4 hc=>b2 hc λc5 hc=>b2 hc λc6 hc=>b2 hc λc7 c8=>⟨⟨c2,c3,c4,mS c5,mS c6,DB c7,DB c8⟩,c1⟩
theorem Hx(w:World)(e:Frag)(calm:Prop):eB w (KX w.params e) (az calm) nmN where
 data:=λC k h=>C9 (P6 (show(sC.any λp=>Nat.beq p.1 C&&Nat.beq p.2 k)=true from h))
 meth:=λC k f h=>b2 (List.all_eq_true.mp (xX w.params e) _ (find3 (show(xY.find? λp=>Nat.beq p.1 C&&Nat.beq p.2.1 k).map (·.2.2)=some f from h))) λc1 hc=>b2 hc λc2 hc=>b2 hc λc3 c4=>⟨c1,qJ c2,c3,c4⟩
 init:=λC f h=>b2 (List.all_eq_true.mp (yH w.params e) _ (ft (show yI.lookup C=some f from h))) λc1 hc=>b2 hc λc2 hc=>b2 hc λc3 c4=>⟨c1,qJ c2,c3,c4⟩
 tstrs:=λa l h=>by
  obtain⟨xs,n,ho,hk⟩:=Bj (List.all_eq_true.mp (kq w.params e) _ (ft (show kr.lookup a=some (.tStrs l) from h)))
  exact⟨xs,n,ho,of_decide_eq_true hk⟩
 tdict:=λa l h=>by
  have hm:=ft (show kr.lookup a=some (.tDict l) from h)
  refine b2 (List.all_eq_true.mp (kq w.params e) _ hm) λc1 hc=>b2 hc λc2 c3=>⟨λhh prog X=>?_,λp hp=>of_decide_eq_true (List.all_eq_true.mp c3 p hp)⟩
  have T:=kt_tab_in prog w X c1 (of_decide_eq_true c2) (x8 (yP w prog e) _ hm)
  have e1:(pi l).map (λp=>(PyData.str p.1,p.2))=l.map uB:=by
   unfold pi;rw[List.map_map];rfl
  rw[e1] at T
  exact T
 isi:=λD C h=>b2 (show(Nat.beq C 632&&(Nat.beq D 608||Nat.beq D 632))=true from h) λh1 h2=>by
  obtain rfl:=Nat.eq_of_beq_eq_true h1
  rcases Bool.or_eq_true_iff.mp h2 with h2|h2
  ·obtain rfl:=Nat.eq_of_beq_eq_true h2
   exact .inr ⟨by decide,yr.1⟩
  ·obtain rfl:=Nat.eq_of_beq_eq_true h2
   exact .inl ⟨rfl,yr.2⟩
 tints:=λa l h=>Bool.noConfusion (List.all_eq_true.mp (kq w.params e) _ (ft (show kr.lookup a=some (.tInts l) from h)))
noncomputable def Ot(K:Frag):Bool:=MV (findIn K (.ref 782) "__init__") 779&&(keepIn K (.ref 782)&&(codeIn K (.ref 778) Pt &&
 (KL (findIn K (.ref 782) "__setattr__") "object.__setattr__" && (ue (takerIn K 782 gW)&&ue (takerIn K 782 qt)))))
theorem Ik:∀ P e,Ot (KX P e)=true:=λP e=>by kernel_rfl
theorem Ie:∀ P e,(KX P e).lookup 782=some oj:=λP e=>by kernel_rfl
theorem yG:∀ P e,(KX P e).lookup 779=some Fw:=λP e=>by kernel_rfl
theorem Ij:∀ P e,clsIn (KX P e) 782=some LZ:=λP e=>by kernel_rfl
theorem LY(P:Params)(e:Frag):ly (KX P e):=
 fZ (Ik P e) λc2 h=>fZ h λc3 h=>fZ h λc4 h=>fZ h λc5 h=>fZ h λc6 c7=>
 ⟨Ie P e,qJ c2,yG P e,c4,c3,Ij P e,mS c5,j5 c6,j5 c7⟩
noncomputable def isCls(o:Option GV)(a:Nat):Bool:=match o with|some (.cls b)=>Nat.beq b a|_=>false
theorem oX{o:Option GV}{a:Nat}(h:isCls o a=true):o=some (.cls a):=by
 unfold isCls at h;split at h
 ·exact ac (Nat.eq_of_beq_eq_true h) rfl
 ·exfalso;cases h
theorem lP:∀ P e,ls ((KX P e).lookup 1274)=ak 71 4:=λP e=>by kernel_rfl
theorem nX:∀ P e,ls ((KX P e).lookup 1469)=ak 88 0:=λP e=>by kernel_rfl
theorem o6:∀ P e,(uH (KX P e) 1274&&(oA (KX P e) 1274&&(uH (KX P e) 1469&&oA (KX P e) 1469)))=true:=λP e=>by kernel_rfl
theorem qd:am [] (ak 71 4)=some mU:=by kernel_rfl
theorem tG:am [] (ak 88 0)=some mT:=by kernel_rfl
theorem tI:iM=rJ (ak 71 4):=by kernel_rfl
theorem Hw:tryIS=K4 (ak 88 0):=by kernel_rfl
theorem n9:∃ name ps sc x np e1 e2 cpos pos,ak 71 4=some (name,ps,[.Raise (some (.Call (.Name x np) [e1,e2] [] cpos)) none pos],sc)/\(x==("__debug__" : Str))=false/\[e1,e2].all bU=true/\isCls (bj (aF b8 eu sc) x) 782=true:=
 ⟨_,_,_,_,_,_,_,_,_,rfl,by kernel_rfl,by kernel_rfl,by kernel_rfl⟩
theorem p7:∃ name ps sc s1 s2 x np ck cp rp hpos tpos re rp2,ak 88 0=some (name,ps,[.Try [s1,s2] [.ExceptHandler (some (.Name x np)) none [.Return (some (.Constant .none ck cp)) rp] hpos] [] [] tpos,.Return (some re) rp2],sc)/\(x==("__debug__" : Str))=false/\isCls (bj (aF b8 eu sc) x) 782=true/\(sc.names.all λp=>decide (p.2≠.cell))=true:=
 ⟨_,_,_,_,_,_,_,_,_,_,_,_,_,_,rfl,by kernel_rfl,by kernel_rfl,by kernel_rfl⟩
theorem xp(P:Params)(e:Frag):AW (KX P e) b8 eu 1274 mU:=by
 have h:=o6 P e
 simp only[Bool.and_eq_true] at h
 refine yX (dfl:=[]) h.1 ?_ (λ_=>h.2.1) λz=>absurd rfl z
 refine ac (lP ..) ?_;exact qd
theorem Ca(P:Params)(e:Frag):AW (KX P e) b8 eu 1469 mT:=by
 have h:=o6 P e
 simp only[Bool.and_eq_true] at h
 refine yX (dfl:=[]) h.2.2.1 ?_ (λ_=>h.2.2.2) λz=>absurd rfl z
 refine ac (nX ..) ?_;exact tG
theorem oZ(P:Params)(e:Frag)(X:Prop)(N:Nat):sX (KX P e) b8 eu bY (hdP X) X 782 N:=by
 intro f W hW n ih c Pc hX hPE hN hC dp un hdp hun mm ex vs H s Q M hv hw
 have hf:Nat.beq f 1274=true:=by
  match hf:Nat.beq f 1274 with
  | true=>rfl
  | false=>unfold hdP at hW;rw[hf] at hW;exact fI hW
 have hW':jA X mU iM=W:=by
  unfold hdP at hW;rw[hf] at hW;exact Option.some.inj hW
 have hf:=Nat.eq_of_beq_eq_true hf
 subst hf
 subst hW'
 refine a7 λGg fin_=>?_
 obtain⟨name,ps,sc,x,np,e1,e2,cpos,pos,hd,hx1,hx2,hx3⟩:=n9
 refine fin_ ?_
 refine a7 λGg fin_=>?_
 refine(xp P e).elim λr R=>?_
 refine fin_ ?_
 have hd2:=lP P e
 rw[R.obj,hd] at hd2
 have hd2:some (r.name,r.params,r.body,r.scope)=some (name,ps,[.Raise (some (.Call (.Name x np) [e1,e2] [] cpos)) none pos],sc):=hd2
 refine a7 λGg fin_=>?_
 obtain⟨rfl,rfl,hb,rfl⟩:r.name=name/\r.params=ps/\r.body=[.Raise (some (.Call (.Name x np) [e1,e2] [] cpos)) none pos]/\r.scope=sc:=by simpa using hd2
 have hie:iM=[cE (aF b8 eu r.scope) 30 e1,cE (aF b8 eu r.scope) 30 e2]:=by refine ac tI (ac hd ?_);rfl
 refine fin_ ?_
 rw[hie] at hw
 exact qf hb (λc P' _=>by refine P'.kis.symm ▸ ?_;exact⟨R,LY P e⟩) (oX hx3) hx1 hx2 N n ih c Pc hX hPE hN dp un hdp hun mm ex vs H s Q M hv hw
theorem uk(P:Params)(e:Frag):sX (KX P e) b8 eu bY Od False 782 200:=by
 intro f W hW n ih c Pc hX hPE hN hC dp un hdp hun mm ex vs H s Q M hv hw
 have hf:Nat.beq f 1469=true:=by
  match hf:Nat.beq f 1469 with
  | true=>rfl
  | false=>unfold Od at hW;rw[hf] at hW;exact fI hW
 have hW':kP bY hdP 200 mT tryIS.1 tryIS.2=W:=by
  unfold Od at hW;rw[hf] at hW;exact Option.some.inj hW
 have hf:=Nat.eq_of_beq_eq_true hf
 subst hf
 subst hW'
 refine a7 λGg fin_=>?_
 obtain⟨name,ps,sc,s1,s2,x,np,ck,cp,rp,hpos,tpos,re,rp2,hd,hx1,hx2,hx3⟩:=p7
 refine fin_ ?_
 refine a7 λGg fin_=>?_
 refine(Ca P e).elim λr R=>?_
 refine fin_ ?_
 have hd2:=nX P e
 rw[R.obj,hd] at hd2
 have hd2:some (r.name,r.params,r.body,r.scope)=some (name,ps,[.Try [s1,s2] [.ExceptHandler (some (.Name x np)) none [.Return (some (.Constant .none ck cp)) rp] hpos] [] [] tpos,.Return (some re) rp2],sc):=hd2
 refine a7 λGg fin_=>?_
 obtain⟨rfl,rfl,hb,rfl⟩:r.name=name/\r.params=ps/\r.body=[.Try [s1,s2] [.ExceptHandler (some (.Name x np)) none [.Return (some (.Constant .none ck cp)) rp] hpos] [] [] tpos,.Return (some re) rp2]/\r.scope=sc:=by simpa using hd2
 have hts:tryIS=([cS (aF b8 eu r.scope) 60 s1,cS (aF b8 eu r.scope) 60 s2],cS (aF b8 eu r.scope) 60 (.Return (some re) rp2)):=by refine ac Hw (ac hd ?_);rfl
 refine fin_ ?_
 rw[hts] at hw
 exact tH hb (λc P' _=>by refine P'.kis.symm ▸ ?_;exact⟨R,LY P e⟩) (oX hx2) hx1 (λp hp=>of_decide_eq_true (List.all_eq_true.mp hx3 p hp)) (λX' N'=>oZ P e X' N') n ih c Pc hX hPE hN dp un hdp hun mm ex vs H s Q M hv hw
theorem ID:bY 1474=some cF:=by kernel_rfl
theorem IC:cF.params=[0]/\cF.n=9/\cF.dfl=[]:=⟨by kernel_rfl,by kernel_rfl,by kernel_rfl⟩
theorem xt{f:Nat}{d:ax}(h:oh f=some d):bY f=some d:=by
 cases hf:Nat.beq f 1372 with
 | true=>
  unfold oh at h
  rw[hf] at h
  have hf:=Nat.eq_of_beq_eq_true hf
  subst hf
  have h:some kO=some d:=h
  refine ac h.symm ?_
  kernel_rfl
 | false=>unfold oh at h;rw[hf] at h;exfalso;cases h
theorem yg:∀ P e,ls ((KX P e).lookup 1474)=ak 89 0:=λP e=>by kernel_rfl
theorem t7:(match ak 89 0 with|some (_,_,_,sc)=>sc.names.all λp=>decide (p.2≠.cell)|none=>false)=true:=by kernel_rfl
theorem oY:∀ {vs:List Value} {xs:List Int},vs.map (λv=>match v with|.int i _=>some i|_=>none)=xs.map some->vs.map er=xs.map AV.int
 | [],[],_=>rfl
 | [],_::_,h=>by exfalso;cases h
 | _::_,[],h=>by cases h
 | v::vs,x::xs,h=>by
  rw[List.map_cons,List.map_cons] at h
  refine(List.cons.inj h).elim λh1 h2=>?_
  refine ac List.map_cons (ac List.map_cons (ac (oY h2) ?_))
  induction v with
  | int i t=>obtain rfl:=Option.some.inj h1;rfl
  | _=>exfalso;cases h1
theorem My{P:Params}{h:Heap}{a:Addr}{o:Obj}(hK:(KT P).In h)(ho:h.get? a=some o):(KX P [(a,o)]).In h:=by
 intro b ob hb
 have hl:∀ (l:Frag),(l++[(a,o)]).lookup b=some ob->l.lookup b=some ob\/(b=a/\ob=o):=by
  intro l
  induction l with
  | nil=>
   intro h
   rw[List.nil_append,List.lookup_cons] at h
   split at h
   ·rename_i e;obtain rfl:=Option.some.inj h;exact .inr ⟨beq_iff_eq.mp e,rfl⟩
   ·exfalso;cases h
  | cons p r ih=>
   intro h
   obtain⟨x,y⟩:=p
   rw[List.cons_append,List.lookup_cons] at h
   refine ac List.lookup_cons ?_
   split at h
   ·exact .inl h
   ·exact ih h
 rcases hl _ hb with h1|⟨rfl,rfl⟩
 ·exact hK _ _ h1
 ·exact ho
theorem CD{P:Params}{a:Addr}{o:Obj}(hf:∀ b ob,(KT P).lookup b=some ob->b<1475)(ha:1475<=a):(KX P [(a,o)]).lookup a=some o:=by
 have hl:∀ (l:Frag),l.lookup a=none->(l++[(a,o)]).lookup a=some o:=by
  intro l
  induction l with
  | nil=>intro _;simp
  | cons p r ih=>
   intro h
   obtain⟨x,y⟩:=p
   rw[List.lookup_cons] at h
   refine ac List.cons_append (ac List.lookup_cons ?_)
   split at h
   ·exfalso;cases h
   ·exact ih h
 refine hl _ ?_
 induction hq:(KT P).lookup a with
 | none=>rfl
 | some ob=>exact absurd (Nat.lt_of_lt_of_le (hf _ _ hq) ha) (Nat.lt_irrefl _)
theorem IF(P:Params):∀ b ob,(KT P).lookup b=some ob->b<1475:=by
 have hall:((KT P).all λp=>Nat.blt p.1 1475)=true:=by kernel_rfl
 intro b ob h
 exact Nat.le_of_ble_eq_true (List.all_eq_true.mp hall _ (ft h))
theorem K5(w:World){K:Frag}{a:Addr}{o:Obj}{vs:List Value}{xs:List Int}(hl:K.lookup a=some o)(hc:o.cls=.type "list")(hd:∃ n,o.data=.seq vs.toArray n)(hv:vs.map er=xs.map AV.int)(hf:xs.length<=63):eB w K (fL a xs) nmN:=by
 refine⟨(λC k h=>nomatch h),(λC k f h=>nomatch h),(λC f h=>nomatch h),λb l h=>?_,λb l h=>?_,(λD C h=>nomatch h),λb l h=>?_⟩
 ·replace h:(bif Nat.beq b a then some (uS.tInts xs) else none)=some (.tStrs l):=h
  cases hb:Nat.beq b a<;>rw[hb] at h<;>cases h
 ·replace h:(bif Nat.beq b a then some (uS.tInts xs) else none)=some (.tDict l):=h
  cases hb:Nat.beq b a<;>rw[hb] at h<;>cases h
 ·replace h:(bif Nat.beq b a then some (uS.tInts xs) else none)=some (.tInts l):=h
  cases hb:Nat.beq b a with
  | false=>rw[hb] at h;exact fI h
  | true=>
   rw[hb] at h
   cases h
   have hb:=Nat.eq_of_beq_eq_true hb
   subst hb
   obtain⟨n,hd⟩:=hd
   exact⟨o,vs.toArray,n,hl,hc,hd,by simpa using hv,by lia⟩
theorem yi:∀ P e,(yR.all λp=>match p.2 with|.fn a=>keepIn (KX P e) (.ref a)|_=>true)=true:=λP e=>by kernel_rfl
theorem uq{P:Params}{e:Frag}{n:Str}{a:Nat}(h:b8 n=some (.fn a)):(gi P).nsMap mainGlobals n=some (.ref a)/\keepIn (KX P e) (.ref a)=true:=
 ⟨(yQ h).1,List.all_eq_true.mp (yi P e) _ (aB h)⟩
noncomputable def Mv(w:World)(K:Frag)(T2:aT)(C2:CS)(env:Env)(L:Addr)(h:Heap)(x:ch)(gens:Array GenState)(os:OsState):Fc:=
 { prog:=P0,w,K,T:=T2,nm:=nmN,C:=C2,X:=False,dp:=302,un:=7,gd:=some [],fenv:=env,outer:=[],L,env,h₀:=h,base:=h,G₀:=h,PE:=782,ex:=[],x,inv:=λ_ _=>True,gens,os }
theorem law_walk:nG:=λw s a o vs xs B=>by
 have hK:(KX w.params [(a,o)]).In s.heap:=My B.K B.obj
 refine a7 λGg fin_=>?_
 refine(yW w.params [(a,o)] ID).elim λr R=>?_
 refine fin_ ?_
 refine a7 λGg fin_=>?_
 refine C7 IC λlp ln ld=>?_
 refine fin_ ?_
 have hfl:cF.fill ([Value.ref a].map er)=[.ref a]:=by
  unfold ax.fill
  refine ac lp (ac ld ?_);rfl
 obtain⟨dvs,hfill,hdv,hb⟩:=R.bind s [.ref a] hK (by refine ac hfl (ac lp ?_);rfl)
 have hd0:dvs=[]:=by
  have:=congrArg List.length hfill
  rw[hfl] at this
  simp at this
  exact this
 subst hd0
 rw[List.append_nil] at hb
 have hps:=R.len (vs:=[.ref a]) (dvs:=[]) (by refine ac hfl (ac lp ?_);rfl) hfill
 have hnc:∀ p∈r.scope.names,p.2≠.cell:=by
  have hd:=yg w.params [(a,o)]
  rw[R.obj] at hd
  have hd:some (r.name,r.params,r.body,r.scope)=ak 89 0:=hd
  have hc:=t7
  rw[← hd] at hc
  exact λp hp=>of_decide_eq_true (List.all_eq_true.mp hc p hp)
 have parL:=R.plain hnc
 refine codeAny_call_def (fd:=r.fd) (A:=callerA) (show 301<1000 from by decide) (hK _ _ R.obj) rfl B.lim (codeRec_of hK R.code) rfl hb hnc (λp hp=>parL p.1 (List.of_mem_zip hp).1) (λh₁ hns hk₁=>?_) R.co R.gen R.kind
 let L':=s.heap.objs.size
 let env2:=callEnv r.fd L' 1474
 let cc:aT->CS->Fc:=λT2 C2=>Mv w (KX w.params [(a,o)]) T2 C2 env2 L' s.heap (aF b8 eu r.scope) s.gens s.os
 have gl:∀ T2 C2,pC (cc T2 C2):=λT2 C2=>⟨_,_,B.mg,B.mb,λn b h=>uq h,λn b h=>ur h,λn v h=>uo h,λn b h=>ut h⟩
 have pre:∀ (F:Nat->Option ax) T2 C2,(∀ f d,F f=some d->bY f=some d)->eB w (KX w.params [(a,o)]) T2 nmN->uW (KX w.params [(a,o)]) b8 eu F (cc T2 C2):=λF T2 C2 hF tp=>
  ⟨hK,tp,vg,sO,gl T2 C2,rfl,rfl,⟨rfl,λb o e=>e,trivial⟩,rfl,R.kind,B.lim,λb o e=>e,λ_ z=>z,λf d h=>yW w.params [(a,o)] (hF f d h),rfl⟩
 have d2:∀ T2 C2,(cc T2 C2).Def:=λT2 C2=>lQ R hnc rfl rfl rfl λ_ _=>trivial
 have tpS:=K5 w (vs:=vs) (xs:=xs) (CD (o:=o) (IF w.params) B.fresh) B.cls B.data (oY B.its) B.few
 have c1:∀ dp un,dp<=303->un<=15->iD (cc (fL a xs) (pD a xs 200)) dp un:=λdp un h1 h2=>
  je (hd:=Qh) (X:=False) (PE:=782) (N:=200) (λf W hW=>nomatch hW) 200 _ (pre oh (fL a xs) _ (λf d h=>xt h) tpS) rfl rfl rfl rfl dp un (by unfold recursionLimit;lia) (by unfold cLine;lia)
 have c2:∀ dp un,dp<=303->un<=15->iD (cc (az True) (CL 200)) dp un:=λdp un h1 h2=>
  je (uk w.params [(a,o)]) 200 _ (pre bY (az True) _ (λf d h=>h) (Hx w [(a,o)] True)) rfl rfl rfl rfl dp un (by unfold recursionLimit;lia) (by unfold cLine;lia)
 have P2:=pre bY (fL a xs) (lB a xs) (λf d h=>h) tpS
 have ok:(cc (fL a xs) (lB a xs)).Ok:={
  K:=hK,top:=tpS,aid:=sO,std:=vg,glob:=gl _ _,below:=⟨rfl,λb o e=>e,trivial⟩,frame:=rfl,fkind:=R.kind,ekind:=R.kind,eglob:=rfl,eblt:=rfl,lim:=B.lim,G:=λb o e=>e
  units:=by show 7+100<cLine;decide
  depth:=by show 302+2<recursionLimit;decide
  calls:=λdp un h1 h2 mm ex f vs H s Q M hv h=>by
   rcases h with h|h
   ·exact c1 dp un h1 h2 mm ex f vs H s Q M hv h
   ·exact c2 dp un h1 h2 mm ex f vs H s Q M hv h
  calm:=λ_ z=>z
  globk:=λ_ h=>h
  def_:=λ_=>d2 _ _
  slotsLt:=λnm i h=>jB h }
 have S1:St (cc (fL a xs) (lB a xs)) (Mine.bindL cF.n cF.params (cF.fill ([Value.ref a].map er))) (λ_=>none) { s with heap:=h₁,toks:=s.toks+(r.ps.zip [Value.ref a]).length }:=
  ⟨_,[],cv.fresh (s:={ s with heap:=h₁,toks:=s.toks+(r.ps.zip [Value.ref a]).length }) ⟨hns,hk₁,Nat.le_refl _⟩ rfl rfl,oi (vs:=[.ref a]) (dvs:=[]) R hnc rfl rfl (λ_ _=>trivial) hps hfill (λv hv=>by refine(List.mem_singleton.mp hv).symm ▸ ?_;exact λz=>nomatch z) hdv⟩
 have hw:wSs (fL a xs) (lB a xs) cF.body (Mine.bindL cF.n cF.params (cF.fill ([Value.ref a].map er))) (λ_=>none) (λ_ _=>False) (λv _=>v=.bool true):=by
  refine ac hfl (ac lp (ac ln ?_))
  exact yf B.few λ_=>rfl
 rw[R.body_] at hw
 have run:=mw (f:=cS (aF b8 eu r.scope) 60) r.body (λst _=>fM fB j1 60 _ ok (d2 _ _) st) _ _ _ _ _ S1 hw
 refine wpAny_mono run (λfl s' hfl2=>?_) λe s' he=>he.1.elim
 induction fl with
 | ret v=>
  refine a7 λGg fin_=>?_
  obtain⟨m',H',⟨mm',lc',M',lo'⟩,ho,hq⟩:=hfl2
  refine fin_ ?_
  have hv:=fV hq
  subst hv
  exact⟨rfl,M'.fr.keep,M'.os,M'.gens.trans B.gens⟩
 | next=>obtain⟨_,_,_,z⟩:=hfl2;exact z.elim
 | brk=>exact hfl2.elim
 | cont=>exact hfl2.elim
end Mine
namespace Mine
open PySem PySem.W
set_option maxHeartbeats 0
noncomputable abbrev pQ:Program:=PySem.Challenge.rw_pb0466_01.prog
noncomputable abbrev bQ:List Stmt:=Module.body (Program.main pQ)
theorem uZ:(!R.allR (Fast.tw5923862056798008813 bQ) (Fast.tw3471404346716756564 Fast.tw17691160309236699985))=false:=by kernel_rfl
theorem Ho:R.filterR (Fast.tw13343964577679436407 pQ bQ) [{ cps:={ toList:=[118,97,114,115] } },{ cps:={ toList:=[100,105,114] } },{ cps:={ toList:=[108,111,99,97,108,115] } }]=[]:=by kernel_rfl
theorem Ba:Fast.tw8326940854005059898 { strict:=false,foot:=none,bare:=[] } bQ=true:=by kernel_rfl
theorem Bb:Fast.tw17119622794617984870 pQ bQ (λ(x:Scope) (n:Str)=>Fast.tw17868728402115742887 n)=true:=by kernel_rfl
theorem KV:Fast.tw8377067652309620493 pQ=true:=by kernel_rfl
theorem tz:Fast.tw12908688711261696721 pQ=true:=by
 delta Fast.tw12908688711261696721
 refine look_both (look_both (look_both (look_both (by kernel_rfl) KV) (by kernel_rfl)) ?_) Bb
 show Fast.tw8326940854005059898 { strict:=!R.allR (Fast.tw5923862056798008813 bQ) (Fast.tw3471404346716756564 Fast.tw17691160309236699985),foot:=none,bare:=R.filterR (Fast.tw13343964577679436407 pQ bQ) [{ cps:={ toList:=[118,97,114,115] } },{ cps:={ toList:=[100,105,114] } },{ cps:={ toList:=[108,111,99,97,108,115] } }] } bQ=true
 rw[uZ,Ho]
 exact Ba
theorem ty:Fast.tw2436336058641802641 (Fast.tw2368527892694137696 PySem.Challenge.rw_pb0466_01)=true:=by
 delta Fast.tw2436336058641802641
 iterate 13 refine look_both ?_ (by kernel_rfl)
 exact tz
theorem vw:Fast.tw17960256430627541270 (Fast.tw2368527892694137696 PySem.Challenge.rw_pb0466_01)=true:=by
 delta Fast.tw17960256430627541270
 exact look_both (look_both ty (by kernel_rfl)) (by kernel_rfl)
theorem said:PySem.Challenge.rw_pb0466_01.wellSaid=true:=by
 rw[Fast.te9446332074065402090]
 delta Fast.tw9446332074065402090
 iterate 18 refine look_both ?_ (by kernel_rfl)
 exact vw
end Mine
theorem PySem.Challenge.cw_pb0466_01_holds : PySem.Challenge.rw_pb0466_01.Holds :=
 Mine.law_holds Mine.law_walk Mine.said
