import PyProof.Rows.All
import PyProof.FactsBase
import PyProof.PlainAttrs
import PyProof.TableTree
import PyProof.FactsTree
import Wide.FinOn
import OpenK.AllK
import Wide.All
import Lean
import PySem.Challenge.RW_nt0574_01
set_option Elab.async false
set_option compiler.extract_closed false
set_option genSizeOf false
set_option genInjectivity false
section
set_option autoImplicit true
namespace Mine
theorem bx {a b g:Prop} (h:a∧b) (k:a->b->g):g:=k h.1 h.2
theorem md {a b c g:Prop} (h:a∧b∧c) (k:a->b->c->g):g:=k h.1 h.2.1 h.2.2
theorem vv {a b c d g:Prop} (h:a∧b∧c∧d) (k:a->b->c->d->g):g:=k h.1 h.2.1 h.2.2.1 h.2.2.2
theorem R6 {a b c d e g:Prop} (h:a∧b∧c∧d∧e) (k:a->b->c->d->e->g):g:=k h.1 h.2.1 h.2.2.1 h.2.2.2.1 h.2.2.2.2
theorem FZ {a b c d e f g:Prop} (h:a∧b∧c∧d∧e∧f) (k:a->b->c->d->e->f->g):g:=k h.1 h.2.1 h.2.2.1 h.2.2.2.1 h.2.2.2.2.1 h.2.2.2.2.2
theorem R7 {a b c d e f f' g:Prop} (h:a∧b∧c∧d∧e∧f∧f') (k:a->b->c->d->e->f->f'->g):g:=bx h fun x y=>FZ y (k x)
theorem jg {α:Sort u} {a:α->Prop} {g:Prop} (h:∃ x,a x) (k:∀ x,a x->g):g:=h.elim k
theorem aA {α:Sort u} {a b:α->Prop} {g:Prop} (h:∃ x,a x∧b x) (k:∀ x,a x->b x->g):g:=h.elim fun x q=>k x q.1 q.2
theorem jT {α:Sort u} {a b c:α->Prop} {g:Prop} (h:∃ x,a x∧b x∧c x) (k:∀ x,a x->b x->c x->g):g:=h.elim fun x q=>md q (k x)
theorem O9 {α:Sort u} {a b c d:α->Prop} {g:Prop} (h:∃ x,a x∧b x∧c x∧d x) (k:∀ x,a x->b x->c x->d x->g):g:=h.elim fun x q=>vv q (k x)
theorem Ru {α:Sort u} {a b c d e:α->Prop} {g:Prop} (h:∃ x,a x∧b x∧c x∧d x∧e x) (k:∀ x,a x->b x->c x->d x->e x->g):g:=h.elim fun x q=>R6 q (k x)
theorem ES {α:Sort u} {β:Sort v} {a:α->β->Prop} {g:Prop} (h:∃ x y,a x y) (k:∀ x y,a x y->g):g:=h.elim fun x q=>q.elim (k x)
theorem dy {α:Sort u} {β:Sort v} {a b:α->β->Prop} {g:Prop} (h:∃ x y,a x y∧b x y) (k:∀ x y,a x y->b x y->g):g:=h.elim fun x q=>aA q (k x)
theorem nH {α:Sort u} {β:Sort v} {a b c:α->β->Prop} {g:Prop} (h:∃ x y,a x y∧b x y∧c x y) (k:∀ x y,a x y->b x y->c x y->g):g:=h.elim fun x q=>jT q (k x)
theorem JQ {α:Sort u} {β:Sort v} {a b c d:α->β->Prop} {g:Prop} (h:∃ x y,a x y∧b x y∧c x y∧d x y) (k:∀ x y,a x y->b x y->c x y->d x y->g):g:=h.elim fun x q=>O9 q (k x)
theorem uz {α:Sort u} {β:Sort v} {a b c d e:α->β->Prop} {g:Prop} (h:∃ x y,a x y∧b x y∧c x y∧d x y∧e x y) (k:∀ x y,a x y->b x y->c x y->d x y->e x y->g):g:=h.elim fun x q=>Ru q (k x)
theorem R0 {α:Sort u} {β:Sort v} {γ:Sort w} {a:α->β->γ->Prop} {g:Prop} (h:∃ x y z,a x y z) (k:∀ x y z,a x y z->g):g:=h.elim fun x q=>ES q (k x)
theorem Pa {α:Sort u} {β:Sort v} {γ:Sort w} {a b:α->β->γ->Prop} {g:Prop} (h:∃ x y z,a x y z∧b x y z) (k:∀ x y z,a x y z->b x y z->g):g:=h.elim fun x q=>dy q (k x)
theorem n9 {α:Sort u} {β:Sort v} {γ:Sort w} {a b c:α->β->γ->Prop} {g:Prop} (h:∃ x y z,a x y z∧b x y z∧c x y z) (k:∀ x y z,a x y z->b x y z->c x y z->g):g:=h.elim fun x q=>nH q (k x)
theorem ip {α:Sort u} {β:Sort v} {γ:Sort w} {a b c d:α->β->γ->Prop} {g:Prop} (h:∃ x y z,a x y z∧b x y z∧c x y z∧d x y z) (k:∀ x y z,a x y z->b x y z->c x y z->d x y z->g):g:=h.elim fun x q=>JQ q (k x)
theorem Kr {α:Sort u} {β:Sort v} {γ:Sort w} {a b c d e:α->β->γ->Prop} {g:Prop} (h:∃ x y z,a x y z∧b x y z∧c x y z∧d x y z∧e x y z) (k:∀ x y z,a x y z->b x y z->c x y z->d x y z->e x y z->g):g:=h.elim fun x q=>uz q (k x)
theorem Qq {α0:Sort u0} {p0 p1 p2 p3 p4 p5:α0->Prop} {g:Prop} (h:∃ x0,p0 x0∧p1 x0∧p2 x0∧p3 x0∧p4 x0∧p5 x0) (k:∀ x0,p0 x0->p1 x0->p2 x0->p3 x0->p4 x0->p5 x0->g):g:=h.elim fun x q=>FZ q (k x)
theorem RZ {α0:Sort u0} {α1:Sort u1} {p0 p1 p2 p3 p4 p5:α0->α1->Prop} {g:Prop} (h:∃ x0 x1,p0 x0 x1∧p1 x0 x1∧p2 x0 x1∧p3 x0 x1∧p4 x0 x1∧p5 x0 x1) (k:∀ x0 x1,p0 x0 x1->p1 x0 x1->p2 x0 x1->p3 x0 x1->p4 x0 x1->p5 x0 x1->g):g:=h.elim fun x q=>Qq q (k x)
theorem uA {α0:Sort u0} {α1:Sort u1} {α2:Sort u2} {p0 p1 p2 p3 p4 p5:α0->α1->α2->Prop} {g:Prop} (h:∃ x0 x1 x2,p0 x0 x1 x2∧p1 x0 x1 x2∧p2 x0 x1 x2∧p3 x0 x1 x2∧p4 x0 x1 x2∧p5 x0 x1 x2) (k:∀ x0 x1 x2,p0 x0 x1 x2->p1 x0 x1 x2->p2 x0 x1 x2->p3 x0 x1 x2->p4 x0 x1 x2->p5 x0 x1 x2->g):g:=h.elim fun x q=>RZ q (k x)
theorem R1 {α0:Sort u0} {α1:Sort u1} {α2:Sort u2} {α3:Sort u3} {p0:α0->α1->α2->α3->Prop} {g:Prop} (h:∃ x0 x1 x2 x3,p0 x0 x1 x2 x3) (k:∀ x0 x1 x2 x3,p0 x0 x1 x2 x3->g):g:=h.elim fun x q=>R0 q (k x)
theorem Rv {α0:Sort u0} {α1:Sort u1} {α2:Sort u2} {α3:Sort u3} {p0 p1 p2:α0->α1->α2->α3->Prop} {g:Prop} (h:∃ x0 x1 x2 x3,p0 x0 x1 x2 x3∧p1 x0 x1 x2 x3∧p2 x0 x1 x2 x3) (k:∀ x0 x1 x2 x3,p0 x0 x1 x2 x3->p1 x0 x1 x2 x3->p2 x0 x1 x2 x3->g):g:=h.elim fun x q=>n9 q (k x)
theorem FY {α0:Sort u0} {α1:Sort u1} {α2:Sort u2} {α3:Sort u3} {p0 p1 p2 p3:α0->α1->α2->α3->Prop} {g:Prop} (h:∃ x0 x1 x2 x3,p0 x0 x1 x2 x3∧p1 x0 x1 x2 x3∧p2 x0 x1 x2 x3∧p3 x0 x1 x2 x3) (k:∀ x0 x1 x2 x3,p0 x0 x1 x2 x3->p1 x0 x1 x2 x3->p2 x0 x1 x2 x3->p3 x0 x1 x2 x3->g):g:=h.elim fun x q=>ip q (k x)
theorem R5 {α0:Sort u0} {α1:Sort u1} {α2:Sort u2} {α3:Sort u3} {p0 p1 p2 p3 p4:α0->α1->α2->α3->Prop} {g:Prop} (h:∃ x0 x1 x2 x3,p0 x0 x1 x2 x3∧p1 x0 x1 x2 x3∧p2 x0 x1 x2 x3∧p3 x0 x1 x2 x3∧p4 x0 x1 x2 x3) (k:∀ x0 x1 x2 x3,p0 x0 x1 x2 x3->p1 x0 x1 x2 x3->p2 x0 x1 x2 x3->p3 x0 x1 x2 x3->p4 x0 x1 x2 x3->g):g:=h.elim fun x q=>Kr q (k x)
theorem Pb {α0:Sort u0} {α1:Sort u1} {α2:Sort u2} {α3:Sort u3} {p0 p1 p2 p3 p4 p5:α0->α1->α2->α3->Prop} {g:Prop} (h:∃ x0 x1 x2 x3,p0 x0 x1 x2 x3∧p1 x0 x1 x2 x3∧p2 x0 x1 x2 x3∧p3 x0 x1 x2 x3∧p4 x0 x1 x2 x3∧p5 x0 x1 x2 x3) (k:∀ x0 x1 x2 x3,p0 x0 x1 x2 x3->p1 x0 x1 x2 x3->p2 x0 x1 x2 x3->p3 x0 x1 x2 x3->p4 x0 x1 x2 x3->p5 x0 x1 x2 x3->g):g:=h.elim fun x q=>uA q (k x)
theorem R8 {α0:Sort u0} {α1:Sort u1} {α2:Sort u2} {α3:Sort u3} {α4:Sort u4} {p0:α0->α1->α2->α3->α4->Prop} {g:Prop} (h:∃ x0 x1 x2 x3 x4,p0 x0 x1 x2 x3 x4) (k:∀ x0 x1 x2 x3 x4,p0 x0 x1 x2 x3 x4->g):g:=h.elim fun x q=>R1 q (k x)
theorem Qt {α0:Sort u0} {α1:Sort u1} {α2:Sort u2} {α3:Sort u3} {α4:Sort u4} {p0 p1 p2 p3 p4 p5:α0->α1->α2->α3->α4->Prop} {g:Prop} (h:∃ x0 x1 x2 x3 x4,p0 x0 x1 x2 x3 x4∧p1 x0 x1 x2 x3 x4∧p2 x0 x1 x2 x3 x4∧p3 x0 x1 x2 x3 x4∧p4 x0 x1 x2 x3 x4∧p5 x0 x1 x2 x3 x4) (k:∀ x0 x1 x2 x3 x4,p0 x0 x1 x2 x3 x4->p1 x0 x1 x2 x3 x4->p2 x0 x1 x2 x3 x4->p3 x0 x1 x2 x3 x4->p4 x0 x1 x2 x3 x4->p5 x0 x1 x2 x3 x4->g):g:=h.elim fun x q=>Pb q (k x)
theorem Rw {α0:Sort u0} {α1:Sort u1} {α2:Sort u2} {α3:Sort u3} {α4:Sort u4} {α5:Sort u5} {p0:α0->α1->α2->α3->α4->α5->Prop} {g:Prop} (h:∃ x0 x1 x2 x3 x4 x5,p0 x0 x1 x2 x3 x4 x5) (k:∀ x0 x1 x2 x3 x4 x5,p0 x0 x1 x2 x3 x4 x5->g):g:=h.elim fun x q=>R8 q (k x)
theorem R9 {α0:Sort u0} {α1:Sort u1} {α2:Sort u2} {α3:Sort u3} {α4:Sort u4} {α5:Sort u5} {α6:Sort u6} {p0:α0->α1->α2->α3->α4->α5->α6->Prop} {g:Prop} (h:∃ x0 x1 x2 x3 x4 x5 x6,p0 x0 x1 x2 x3 x4 x5 x6) (k:∀ x0 x1 x2 x3 x4 x5 x6,p0 x0 x1 x2 x3 x4 x5 x6->g):g:=h.elim fun x q=>Rw q (k x)
theorem Sb {α0:Sort u0} {α1:Sort u1} {α2:Sort u2} {α3:Sort u3} {α4:Sort u4} {α5:Sort u5} {α6:Sort u6} {α7:Sort u7} {p0:α0->α1->α2->α3->α4->α5->α6->α7->Prop} {g:Prop} (h:∃ x0 x1 x2 x3 x4 x5 x6 x7,p0 x0 x1 x2 x3 x4 x5 x6 x7) (k:∀ x0 x1 x2 x3 x4 x5 x6 x7,p0 x0 x1 x2 x3 x4 x5 x6 x7->g):g:=h.elim fun x q=>R9 q (k x)
end Mine
end
section
open PySem PySem.W PySem.Calls PyProof.Rows
set_option Elab.async false
set_option genSizeOf false
set_option genInjectivity false
set_option maxRecDepth 100000
namespace Mine
inductive AV where
 | none
 | bool (b:Bool)
 | int (i:Int)
 | bytes (b:List UInt8)
 | ref (a:Addr)
 deriving DecidableEq,Inhabited
inductive VR:Value->AV->Prop where
 | none:VR .none .none
 | bool (b:Bool):VR (.bool b) (.bool b)
 | int (i:Int) (t:Tok):VR (.int i t) (.int i)
 | bytes (b:List UInt8) (t:Tok):VR (.bytes b.toArray t) (.bytes b)
 | ref (a:Addr):VR (.ref a) (.ref a)
inductive cK:List Value->List AV->Prop where
 | nil:cK [] []
 | cons {v:Value} {a:AV} {vs:List Value} {as:List AV}:VR v a->cK vs as->cK (v::vs) (a::as)
theorem cK.length {vs:List Value} {as:List AV} (h:cK vs as):vs.length=as.length:=by
 induction h with
 | nil=>rfl
 | cons _ _ ih=>simp [ih]
theorem cK.get {vs:List Value} {as:List AV} (h:cK vs as):∀ {i:Nat} {a:AV},as[i]?=some a->∃ v,vs[i]?=some v∧VR v a:=by
 induction h with
 | nil=>intro i a e;trivial
 | cons hv _ ih =>
  intro i a e
  cases i with
  | zero=>simp only [List.getElem?_cons_zero,Option.some.injEq] at e;subst e;exact⟨_,rfl,hv⟩
  | succ i=>skip;exact ih e
theorem cK.append {vs ws:List Value} {as bs:List AV} (h:cK vs as) (k:cK ws bs):cK (vs++ws) (as++bs):=by
 induction h with
 | nil=>exact k
 | cons hv _ ih=>exact .cons hv ih
theorem cK.set {vs:List Value} {as:List AV} (h:cK vs as) {v:Value} {a:AV} (hv:VR v a):∀ (i:Nat),cK (vs.set i v) (as.set i a):=by
 induction h with
 | nil=>intro i;exact .nil
 | cons hw hr ih =>
  intro i
  cases i with
  | zero=>exact .cons hv hr
  | succ i=>exact .cons hw (ih i)
theorem cK.take {vs:List Value} {as:List AV} (h:cK vs as):∀ (n:Nat),cK (vs.take n) (as.take n):=by
 induction h with
 | nil=>intro n;simp only [List.take_nil];exact .nil
 | cons hv hr ih=>intro n;cases n with
  | zero=>exact .nil
  | succ n=>exact .cons hv (ih n)
theorem cK.drop {vs:List Value} {as:List AV} (h:cK vs as):∀ (n:Nat),cK (vs.drop n) (as.drop n):=by
 induction h with
 | nil=>intro n;simp only [List.drop_nil];exact .nil
 | cons hv hr ih=>intro n;cases n with
  | zero=>exact .cons hv hr
  | succ n=>exact ih n
inductive AO where
 | list (xs:List AV)
 | tup (xs:List AV)
 | inst (C:Addr) (fs:List (Nat×AV))
 | aB (b:List UInt8)
 | az (aF:List (Int×AV))
 | aC (aF:List (List Int×AV))
 | bg (S:Int->Bool) (n:Nat)
 | range (a b c:Int)
noncomputable abbrev Hp:=Addr->Option AO
noncomputable def Hp.set (h:Hp) (a:Addr) (o:AO):Hp:=fun b=>if b=a then some o else h b
@[simp] theorem Hp.aG (h:Hp) (a:Addr) (o:AO):h.set a o a=some o:=by simp [Hp.set]
theorem Hp.aE (h:Hp) {a b:Addr} (o:AO) (n:b≠a):h.set a o b=h b:=by simp [Hp.set,n]
noncomputable def SA:Addr:=810
structure sW where
 pin:List Value
 nm:Nat->Str
 attr:Addr->Nat->Bool
 aQ:Addr->Nat->Option Addr
 init:Addr->Option Addr
 KY:∀ C x y f,aQ C x=some f->attr C y=true->nm y≠nm x
 inj:∀ C i j,attr C i=true->attr C j=true->nm i=nm j->i=j
inductive FR (T:sW) (P:Params) (C:Addr):List DictEntry->List (Nat×AV)->Prop where
 | nil:FR T P C [] []
 | cons {x:Nat} {t:Tok} {v:Value} {a:AV} {es:List DictEntry} {fs:List (Nat×AV)}:T.attr C x=true->VR v a->FR T P C es fs->FR T P C (⟨PyData.keyHash P (T.nm x),.str (T.nm x) t,v⟩::es) ((x,a)::fs)
theorem FR.length {T:sW} {P:Params} {C:Addr} {es:List DictEntry} {fs:List (Nat×AV)} (h:FR T P C es fs):es.length=fs.length:=by
 induction h with
 | nil=>rfl
 | cons _ _ _ ih=>simp [ih]
noncomputable def sq (x:Nat) (a:AV):List (Nat×AV)->List (Nat×AV)
 | []=>[(x,a)]
 | p::r=>if p.1=x then (x,a)::r else p::sq x a r
noncomputable def rQ (x:Nat):List (Nat×AV)->Option AV
 | []=>none
 | p::r=>if p.1=x then some p.2 else rQ x r
theorem sr {x:Nat} {a:AV} {p:Nat×AV} {r:List (Nat×AV)}:sq x a (p::r)=if p.1=x then (x,a)::r else p::sq x a r:=rfl
theorem oW {x:Nat} {p:Nat×AV} {r:List (Nat×AV)}:rQ x (p::r)=if p.1=x then some p.2 else rQ x r:=rfl
theorem fN (x y:Str) (t:Tok):(Value.str x t).isStr y=true↔x=y:=by
 refine (?_:(x==y)=true↔_)
 exact beq_iff_eq
theorem FR.get {T:sW} {P:Params} {C:Addr} {es:List DictEntry} {fs:List (Nat×AV)} (h:FR T P C es fs) (x:Nat) (hx:T.attr C x=true) :
  ∃ r,getL (T.nm x) es=some r∧(match rQ x fs with | some a=>∃ v,r=some v∧VR v a | none=>r=none):=by
 induction h with
 | nil=>exact⟨none,rfl,rfl⟩
 | @cons y t v a es fs hy hv hr ih =>
  by_cases hxy:y=x
  ·subst hxy
   refine⟨some v,?_,?_⟩
   ·unfold getL
    simp only [List.find?_cons,(fN (T.nm y) (T.nm y) t).mpr rfl]
   ·simp only [oW,if_true];exact⟨v,rfl,hv⟩
  ·refine aA ih fun r h1 h2=>?_
   have e:(Value.str (T.nm y) t).isStr (T.nm x)=false:=by
    cases q:(Value.str (T.nm y) t).isStr (T.nm x) with
    | false=>rfl
    | true=>exact absurd (T.inj C y x hy hx ((fN _ _ t).mp q)) hxy
   refine⟨r,?_,by rw [oW,if_neg hxy];exact h2⟩
   unfold getL at h1 ⊢
   simp only [List.find?_cons,e]
   split at h1
   ·rename_i q;rw [q];exact h1
   ·rename_i q
    rw [q]
    skip
    skip
    skip;exact h1
theorem FR.has {T:sW} {P:Params} {C:Addr} {es:List DictEntry} {fs:List (Nat×AV)} (h:FR T P C es fs) {x:Nat} {a:AV} (e:rQ x fs=some a):T.attr C x=true:=by
 induction h with
 | nil=>contradiction
 | cons hy _ _ ih =>
  rw [oW] at e
  split at e
  ·rename_i q;dsimp only at q;refine q.symm▸?_;exact hy
  ·exact ih e
theorem FR.miss {T:sW} {P:Params} {C:Addr} {es:List DictEntry} {fs:List (Nat×AV)} (h:FR T P C es fs) (x:Str) (hx:∀ y,T.attr C y=true->T.nm y≠x):getL x es=some none:=by
 induction h with
 | nil=>rfl
 | @cons y t v a es fs hy hv hr ih =>
  have e:(Value.str (T.nm y) t).isStr x=false:=by
   cases q:(Value.str (T.nm y) t).isStr x with
   | false=>rfl
   | true=>exact absurd ((fN _ _ t).mp q) (hx y hy)
  unfold getL at ih ⊢
  simp only [List.find?_cons,e]
  split at ih
  ·exact nomatch ih
  ·rename_i q
   rw [q]
   skip
   skip
   skip;exact ih
theorem FR.put {T:sW} {P:Params} {C:Addr} {es:List DictEntry} {fs:List (Nat×AV)} (h:FR T P C es fs) (x:Nat) (hx:T.attr C x=true) (t:Tok) {v:Value} {a:AV} (hv:VR v a) :
  FR T P C (putL (T.nm x) (PyData.keyHash P (T.nm x)) (.str (T.nm x) t) v es) (sq x a fs):=by
 induction h with
 | nil=>exact .cons hx hv .nil
 | @cons y u w b es fs hy hw hr ih =>
  dsimp only [putL,sr]
  by_cases hxy:y=x
  ·subst hxy
   rw [if_pos ((fN (T.nm y) (T.nm y) u).mpr rfl),if_pos rfl]
   exact .cons hx hv hr
  ·rw [if_neg (fun q=>hxy (T.inj C y x hy hx ((fN _ _ u).mp q))),if_neg hxy]
   exact .cons hy hw ih
theorem lM (x:Nat) (a:AV):∀ fs:List (Nat×AV),(sq x a fs).length≤fs.length+1
 | []=>Nat.le_refl _
 | p::r=>by
  rw [sr]
  split
  ·simp
  ·have:=lM x a r;simp only [List.length_cons];omega
noncomputable abbrev rr (its:Array Value) (n:Nat):Obj:={ cls := .type "tuple",data := .seq its n }
noncomputable abbrev aW (b:Array UInt8):Obj:={ cls := .type "bytearray",data := .bytearray b }
noncomputable abbrev mi (a b c:Int) (t u v:Tok):Obj:={ cls := .type "range",data := .fields #[.int a t,.int b u,.int c v] }
inductive KR {κ:Type}:List (κ×Value)->List (κ×AV)->Prop where
 | nil:KR [] []
 | cons {k:κ} {v:Value} {a:AV} {r:List (κ×Value)} {q:List (κ×AV)}:VR v a->KR r q->KR ((k,v)::r) ((k,a)::q)
variable (T:sW) (prog:Program) (w:World)
inductive Rep (led:List (Addr×Obj)) (d a:Addr):AO->Prop where
 | list {xs:List AV} {vs:List Value} {n:Nat}:(a,listOf vs.toArray n)∈led->cK vs xs->Rep led d a (.list xs)
 | tup {xs:List AV} {vs:List Value} {n:Nat}:(a,rr vs.toArray n)∈led->cK vs xs->Rep led d a (.tup xs)
 | inst {C:Addr} {fs:List (Nat×AV)} {es:List DictEntry} {n:Nat}:(a,instObj C d)∈led->(d,dictOf es n)∈led->FR T w.params C es fs->Rep led d a (.inst C fs)
 | aB {b:List UInt8}:(a,aW b.toArray)∈led->Rep led d a (.aB b)
 | az {aF:List (Int×AV)} {o:Obj} {kv:List (Int×Value)}:(a,o)∈led->o.IsDictOf (intKind prog w) kv->KR kv aF->(a==sysModules)=false->Rep led d a (.az aF)
 | bg {S:Int->Bool} {n:Nat} {o:Obj}:(a,o)∈led->o.SetObjOf (intKind prog w) S n->Rep led d a (.bg S n)
 | range {x y z:Int} {t u v:Tok}:(a,mi x y z t u v)∈led->Rep led d a (.range x y z)
 | aC {aF:List (List Int×AV)} {o:Obj} {es:Array DictEntry} {ep:Nat} {xs:List (List Int×Addr×Value)}:(a,o)∈led->o.ExactDict->o.data = .dict es ep->es.toList=xs.map (entryOfKey (tupleKind (intKind prog w))) →
   (∀ x∈xs,∃ its n,(x.2.1,rr its n)∈led∧ItemsAre (intKind prog w) x.1 its.toList)->(xs.map (·.1)).Nodup->KR (xs.map fun x=>(x.1,x.2.2)) aF->Rep led d a (.aC aF)
noncomputable abbrev Led:=List (Addr×Obj)
noncomputable def bS (l:Led) (d:Addr) (o':Obj):Led:=l.map fun p=>if p.1=d then (d,o') else p
noncomputable abbrev keys (l:Led):List Addr:=l.map (·.1)
theorem og (l:Led) (d:Addr) (o':Obj):keys (bS l d o')=keys l:=by
 induction l with
 | nil=>rfl
 | cons p r ih =>
  simp only [keys,bS,List.map_cons,List.map_map] at ih ⊢
  simp only [List.cons.injEq]
  refine⟨?_,ih⟩
  by_cases h:p.1=d<;>simp [h]
theorem gj (l:Led) (d:Addr) (o':Obj) (h:d ∉ keys l):bS l d o'=l:=by
 induction l with
 | nil=>rfl
 | cons p r ih =>
  rw [keys,List.map_cons,List.mem_cons,not_or] at h
  have:=ih h.2
  simp only [bS,List.map_cons] at this ⊢
  rw [if_neg (fun e=>h.1 e.symm),this]
theorem eN (l r:Led) (d:Addr) (o':Obj):bS (l++r) d o'=bS l d o'++bS r d o':=by simp [bS]
theorem bc {l:Led} {d:Addr} {o':Obj} {p:Addr×Obj} (h:p∈l) (n:p.1≠d):p∈bS l d o' :=
 List.mem_map.mpr ⟨p,h,by exact (if_neg n)⟩
theorem bE {l:Led} {d:Addr} {o o':Obj} (h:(d,o)∈l):(d,o')∈bS l d o' :=
 List.mem_map.mpr ⟨(d,o),h,by exact (if_pos rfl)⟩
theorem cj {l:Led} (n:(keys l).Nodup) {a:Addr} {o o':Obj} (h:(a,o)∈l) (h':(a,o')∈l):o=o':=by
 induction l with
 | nil=>contradiction
 | cons p r ih =>
  rw [keys,List.map_cons,List.nodup_cons] at n
  rcases List.mem_cons.mp h with e | h
  ·rcases List.mem_cons.mp h' with e' | h'
   ·rw [← e] at e';exact (Prod.mk.inj e').2.symm
   ·exact absurd (List.mem_map.mpr ⟨_,h',by rw [← e]⟩) n.1
  ·rcases List.mem_cons.mp h' with e' | h'
   ·exact absurd (List.mem_map.mpr ⟨_,h,by rw [← e']⟩) n.1
   ·exact ih n.2 h h'
theorem jn {l:Led} (n:(keys l).Nodup) {d:Addr} {o:Obj} (h:(d,o)∈l):UpdF d o l (fun o'=>bS l d o'):=by
 induction l with
 | nil=>contradiction
 | cons p r ih =>
  simp only [keys,List.map_cons,List.nodup_cons] at n
  refine Or.elim (List.mem_cons.mp h) (fun e=>?_) (fun h=>?_)
  ·subst e
   have hr:=fun p hp e=>n.1 (List.mem_map.mpr ⟨p,hp,e⟩)
   have e:(fun o'=>bS ((d,o)::r) d o')=fun o'=>(d,o')::r:=by
    funext o'
    refine (?_:(if (d,o).1=d then (d,o') else (d,o))::bS r d o'=_)
    rw [if_pos rfl,gj r d o' (fun q=>by refine aA (List.mem_map.mp q) fun p hp e=>?_;exact hr p hp e)]
   rw [e]
   exact .head hr
  ·have hp:p.1≠d:=fun e=>n.1 (List.mem_map.mpr ⟨_,h,e.symm⟩)
   have e:(fun o'=>bS (p::r) d o')=fun o'=>p::bS r d o':=by
    funext o'
    refine (?_:(if p.1=d then (d,o') else p)::bS r d o'=_)
    rw [if_neg hp]
   rw [e]
   exact .tail hp (ih n.2 h)
theorem zK {l:Led} (n:(keys l).Nodup) {d:Addr} {o:Obj} (o':Obj) (h:(d,o)∈l):Upd d o o' l (bS l d o'):=by
 induction l with
 | nil=>contradiction
 | cons p r ih =>
  simp only [keys,List.map_cons,List.nodup_cons] at n
  refine Or.elim (List.mem_cons.mp h) (fun e=>?_) (fun h=>?_)
  ·subst e
   have hr:=fun p hp e=>n.1 (List.mem_map.mpr ⟨p,hp,e⟩)
   have e:bS ((d,o)::r) d o'=(d,o')::r:=by
    refine (?_:(if (d,o).1=d then (d,o') else (d,o))::bS r d o'=_)
    rw [if_pos rfl,gj r d o' (fun q=>by refine aA (List.mem_map.mp q) fun p hp e=>?_;exact hr p hp e)]
   simp only [e]
   exact .head hr
  ·have hp:p.1≠d:=fun e=>n.1 (List.mem_map.mpr ⟨_,h,e.symm⟩)
   have e:bS (p::r) d o'=p::bS r d o':=by
    refine (?_:(if p.1=d then (d,o') else p)::bS r d o'=_)
    rw [if_neg hp]
   simp only [e]
   exact .tail hp (ih n.2 h)
theorem zI {Z ce ne:Led} (n:(keys (Z++(ce++ne))).Nodup) {d:Addr} {o:Obj} (h:(d,o)∈ne) (o':Obj) :
  bS (Z++(ce++ne)) d o'=Z++(ce++bS ne d o'):=by
 simp only [keys,List.map_append] at n
 have hd:d∈ne.map (·.1):=List.mem_map.mpr ⟨_,h,rfl⟩
 refine md (List.nodup_append.mp n) fun _ n2 n3=>?_
 skip;have n5:=(List.nodup_append.mp n2).2.2
 simp only [eN,eN,gj Z d o' (fun q=>n3 d q d (List.mem_append_right _ hd) rfl),gj ce d o' (fun q=>n5 d q d hd rfl)]
theorem O4 {Z ce ne:Led} (n:(keys (Z++(ce++ne))).Nodup) {d:Addr} {o:Obj} (h:(d,o)∈ce) (o':Obj) :
  bS (Z++(ce++ne)) d o'=Z++(bS ce d o'++ne):=by
 simp only [keys,List.map_append] at n
 have hd:d∈ce.map (·.1):=List.mem_map.mpr ⟨_,h,rfl⟩
 refine md (List.nodup_append.mp n) fun _ n2 n3=>?_
 skip;have n5:=(List.nodup_append.mp n2).2.2
 simp only [eN,eN,gj Z d o' (fun q=>n3 d q d (List.mem_append_left _ hd) rfl),gj ne d o' (fun q=>n5 d hd d q rfl)]
theorem fP {Z ce ne:Led} (d:Addr) (o':Obj):keys (Z++(ce++bS ne d o'))=keys (Z++(ce++ne)):=by
 have e:=og ne d o'
 simp only [keys,List.map_append] at e ⊢
 rw [e]
theorem rV {Z ce ne:Led} (d:Addr) (o':Obj):keys (Z++(bS ce d o'++ne))=keys (Z++(ce++ne)):=by
 have e:=og ce d o'
 simp only [keys,List.map_append] at e ⊢
 rw [e]
theorem bP {Z ce ne:Led} {p:Addr×Obj} (h:p∈ne):p∈Z++(ce++ne):=List.mem_append_right _ (List.mem_append_right _ h)
theorem lL {Z ce ne:Led} {p:Addr×Obj} (h:p∈ce):p∈Z++(ce++ne):=List.mem_append_right _ (List.mem_append_left _ h)
theorem i9 {Z ce ne:Led} (n:(keys (Z++(ce++ne))).Nodup):(keys ne).Nodup:=by
 simp only [keys,List.map_append] at n
 exact (List.nodup_append.mp (List.nodup_append.mp n).2.1).2.1
noncomputable def AO.bI:AO->Bool
 | .inst .. => true
 | _=>false
theorem eM {a b:String} (h:a≠b):(Value.type a:Value)≠Value.type b:=fun e=>h (by injection e)
noncomputable def AO.isTup:AO->Bool
 | .tup _=>true
 | _=>false
variable (T:sW) (prog:Program) (w:World)
structure HR (ne:Led) (δ:Addr->Addr) (hp:Hp):Prop where
 rep:∀ a o,hp a=some o->Rep T prog w ne (δ a) a o
 dn:∀ a o,hp a=some o->o.bI=true->hp (δ a)=none
 inj:∀ a b o o',hp a=some o->o.bI=true->hp b=some o'->o'.bI=true->δ a=δ b->a=b
 pn:(SA,listOf T.pin.toArray 0)∈ne
variable {T:sW} {prog:Program} {w:World} {ne:Led} {δ:Addr->Addr} {hp:Hp}
theorem Rep.key {d a:Addr} {o:AO} (r:Rep T prog w ne d a o):a∈keys ne:=by
 cases r with
 | list h _ | tup h _ | inst h _ _ | aB h | az h _ _ _ | bg h _ | range h | aC h _ _ _ _ _ _=>exact List.mem_map.mpr ⟨_,h,rfl⟩
theorem Rep.Am {d a:Addr} {o:AO} (r:Rep T prog w ne d a o) (i:o.bI=true):d∈keys ne:=by
 cases r with
 | inst _ h _=>exact List.mem_map.mpr ⟨_,h,rfl⟩
 | list | tup | aB | az | bg | range | aC=>contradiction
theorem Rep.mono {ne':Led} {d a:Addr} {o:AO} (r:Rep T prog w ne d a o) (h1:∀ p∈ne,p.1=a->p∈ne') (h2:o.bI=true->∀ p∈ne,p.1=d->p∈ne') (h3:∀ p∈ne,p.2.cls = .type "tuple" → p∈ne'):Rep T prog w ne' d a o:=by
 cases r with
 | list h v=>exact .list (h1 _ h rfl) v
 | tup h v=>exact .tup (h1 _ h rfl) v
 | inst h k v=>exact .inst (h1 _ h rfl) (h2 rfl _ k rfl) v
 | aB h=>exact .aB (h1 _ h rfl)
 | az h q v lo=>exact .az (h1 _ h rfl) q v lo
 | bg h q=>exact .bg (h1 _ h rfl) q
 | range h=>exact .range (h1 _ h rfl)
 | aC h q1 q2 q3 q4 q5 q6=>exact .aC (h1 _ h rfl) q1 q2 q3 (fun x hx=>dy (q4 x hx) fun its n r z=>⟨its,n,h3 _ r rfl,z⟩) q5 q6
theorem Rep.QG {d d' a:Addr} {o:AO} (r:Rep T prog w ne d a o) (i:o.bI=false):Rep T prog w ne d' a o:=by
 cases r with
 | list h v=>exact .list h v
 | tup h v=>exact .tup h v
 | inst h k v=>contradiction
 | aB h=>exact .aB h
 | az h q v lo=>exact .az h q v lo
 | bg h q=>exact .bg h q
 | range h=>exact .range h
 | aC h q1 q2 q3 q4 q5 q6=>exact .aC h q1 q2 q3 q4 q5 q6
theorem Rep.Gx {d a:Addr} {o:AO} (r:Rep T prog w ne d a o) (i:o.isTup=false):∃ x,(a,x)∈ne∧x.cls ≠ .type "tuple" := by
 cases r with
 | list h v=>exact⟨_,h,eM (by decide)⟩
 | tup h v=>contradiction
 | inst h k v=>exact⟨_,h,by intro e;contradiction⟩
 | aB h=>exact⟨_,h,eM (by decide)⟩
 | az h q v lo=>exact⟨_,h,by refine dy q fun es ep he _=>?_;rw [he.1];exact eM (by decide)⟩
 | bg h q=>exact⟨_,h,by rw [q.1.1];exact eM (by decide)⟩
 | range h=>exact⟨_,h,eM (by decide)⟩
 | aC h q1 _ _ _ _ _=>exact⟨_,h,by rw [q1.1];exact eM (by decide)⟩
theorem HR.key (H:HR T prog w ne δ hp) {a:Addr} {o:AO} (h:hp a=some o):a∈keys ne:=(H.rep a o h).key
theorem HR.off (H:HR T prog w ne δ hp) (nd:(keys ne).Nodup) {a:Addr} {o:Obj} (h:(a,o)∈ne) (hc:o.cls ≠ .type "list"):a≠SA:=fun e=>hc ((congrArg Obj.cls (cj nd (o:=o) (e▸h:(SA,o)∈ne) H.pn)).trans rfl)
theorem HR.sS (H:HR T prog w ne δ hp) {a:Addr} {ao ao':AO} {o':Obj} (hs:a≠SA) (h:hp a=some ao) (i':ao'.bI=false) (hnt:∀ o,(a,o)∈ne->o.cls ≠ .type "tuple")
  (r:Rep T prog w (bS ne a o') a a ao'):HR T prog w (bS ne a o') δ (hp.set a ao'):=by
 have off:∀ b ob,hp b=some ob->b≠a->ob.bI=true->δ b≠a:=fun b ob hb n hi e=>by
  have:=H.dn b ob hb hi
  replace this:=h▸e▸this;contradiction
 refine⟨fun b ob hb=>?_,fun b ob hb hi=>?_,fun b c ob oc hb hi hc hi' e=>?_,bc H.pn (Ne.symm hs)⟩
 ·by_cases n:b=a
  ·subst n
   rw [Hp.aG] at hb;have hb:=Option.some.inj hb;subst hb
   exact r.QG i'
  ·replace hb:=(Hp.aE _ _ n)▸hb
   exact (H.rep b ob hb).mono (fun p hp e=>bc hp (by rw [e];exact n)) (fun hi p hp e=>bc hp (by rw [e];exact off b ob hb n hi)) fun p hp hc=>bc hp fun e=>hnt p.2 (e▸hp) hc
 ·by_cases n:b=a
  ·cases n
   rw [Hp.aG] at hb;have hb:=Option.some.inj hb;subst hb
   replace hi:=i'▸hi;contradiction
  ·rw [Hp.aE _ _ n] at hb
   rw [Hp.aE _ _ (off b ob hb n hi)]
   exact H.dn b ob hb hi
 ·have nb:b≠a:=by intro zr0;cases zr0;rw [Hp.aG] at hb;have hb:=Option.some.inj hb;subst hb;replace hi:=i'▸hi;contradiction
  have nc:c≠a:=by intro zr0;cases zr0;rw [Hp.aG] at hc;have hc:=Option.some.inj hc;subst hc;rw [i'] at hi';contradiction
  rw [Hp.aE _ _ nb] at hb
  rw [Hp.aE _ _ nc] at hc
  exact H.inj b c ob oc hb hi hc hi' e
theorem HR.Rd (H:HR T prog w ne δ hp) (nd:(keys ne).Nodup) {a C:Addr} {fs fs':List (Nat×AV)} {es es':List DictEntry} {n n':Nat} (h:hp a=some (.inst C fs)) (ho:(δ a,dictOf es n)∈ne) (f:FR T w.params C es' fs') :
  HR T prog w (bS ne (δ a) (dictOf es' n')) δ (hp.set a (.inst C fs')):=by
 have dn:=H.dn a _ h rfl
 have na:δ a≠a:=fun e=>by replace dn:=h▸e▸dn;contradiction
 refine⟨fun b ob hb=>?_,fun b ob hb hi=>?_,fun b c ob oc hb hi hc hi' e=>?_,bc H.pn (Ne.symm (H.off nd ho (eM (by decide))))⟩
 ·by_cases nb:b=a
  ·subst nb
   rw [Hp.aG] at hb;have hb:=Option.some.inj hb;subst hb
   cases H.rep _ _ h with
   | inst h1 h2 _=>exact .inst (bc h1 (Ne.symm na)) (bE ho) f
  ·replace hb:=(Hp.aE _ _ nb)▸hb
   have bd:b≠δ a:=fun e=>by replace dn:=hb▸e.symm▸dn;contradiction
   exact (H.rep b ob hb).mono (fun p hp e=>bc hp (by rw [e];exact bd)) (fun hi p hp e=>bc hp (by rw [e];exact fun q=>nb (H.inj b a ob _ hb hi h rfl q))) fun p hp hc=>bc hp fun e=>by
    have:=cj nd (a:=δ a) (o:=p.2) (e▸hp) ho
    rw [this] at hc;exact eM (by decide) hc
 ·by_cases nb:b=a
  ·subst nb
   rw [Hp.aG] at hb;have hb:=Option.some.inj hb;subst hb
   rw [Hp.aE _ _ na];exact dn
  ·rw [Hp.aE _ _ nb] at hb
   have q:=H.dn b ob hb hi
   rw [Hp.aE _ _ (fun e=>by replace q:=h▸e▸q;contradiction)]
   exact q
 ·have key:∀ b ob,(hp.set a (.inst C fs')) b=some ob->ob.bI=true->∃ o2,hp b=some o2∧o2.bI=true:=fun b ob hb hi=>by
   by_cases nb:b=a
   ·cases nb;exact⟨_,h,rfl⟩
   ·rw [Hp.aE _ _ nb] at hb;exact⟨_,hb,hi⟩
  refine aA (key b ob hb hi) fun o1 h1 i1=>?_
  refine aA (key c oc hc hi') fun o2 h2 i2=>?_
  exact H.inj b c o1 o2 h1 i1 h2 i2 e
theorem HR.jI (H:HR T prog w ne δ hp) {a:Addr} {ao:AO} {o:Obj} (ha:a ∉ keys ne) (i:ao.bI=false) (r:∀ ne',(a,o)∈ne'->Rep T prog w ne' a a ao):HR T prog w ((a,o)::ne) δ (hp.set a ao):=by
 have off:∀ b ob,hp b=some ob->ob.bI=true->δ b≠a:=fun b ob hb hi e=>ha (e▸(H.rep b ob hb).Am hi)
 refine⟨fun b ob hb=>?_,fun b ob hb hi=>?_,fun b c ob oc hb hi hc hi' e=>?_,.tail _ H.pn⟩
 ·by_cases n:b=a
  ·subst n
   rw [Hp.aG] at hb;have hb:=Option.some.inj hb;subst hb
   exact (r _ (.head _)).QG i
  ·rw [Hp.aE _ _ n] at hb
   exact (H.rep b ob hb).mono (fun p hp _ => .tail _ hp) (fun _ p hp _ => .tail _ hp) fun p hp _ => .tail _ hp
 ·by_cases n:b=a
  ·subst n
   rw [Hp.aG] at hb;have hb:=Option.some.inj hb;subst hb
   replace hi:=i▸hi;contradiction
  ·rw [Hp.aE _ _ n] at hb
   refine (Hp.aE _ _ (off b ob hb hi))▸?_
   exact H.dn b ob hb hi
 ·have nb:b≠a:=by intro zr0;cases zr0;rw [Hp.aG] at hb;have hb:=Option.some.inj hb;subst hb;rw [i] at hi;contradiction
  have nc:c≠a:=by intro zr0;cases zr0;rw [Hp.aG] at hc;have hc:=Option.some.inj hc;subst hc;rw [i] at hi';contradiction
  rw [Hp.aE _ _ nb] at hb
  rw [Hp.aE _ _ nc] at hc
  exact H.inj b c ob oc hb hi hc hi' e
theorem HR.more (H:HR T prog w ne δ hp) (p:Addr×Obj):HR T prog w (p::ne) δ hp :=
 ⟨fun a o h=>(H.rep a o h).mono (fun _ hp _=>List.mem_cons_of_mem _ hp) (fun _ _ hp _=>List.mem_cons_of_mem _ hp) fun _ hp _=>List.mem_cons_of_mem _ hp,H.dn,H.inj,.tail _ H.pn⟩
theorem HR.QD (H:HR T prog w ne δ hp) {x dx C:Addr} (hx:x ∉ keys ne) (hd:dx ∉ keys ne) (hxd:x≠dx) :
  HR T prog w ((x,instObj C dx)::(dx,dictOf [] 0)::ne) (fun b=>if b=x then dx else δ b) (hp.set x (.inst C [])):=by
 have nd:∀ b ob,hp b=some ob->b≠dx:=fun b ob hb e=>hd (e▸H.key hb)
 have ox:∀ b ob,hp b=some ob->ob.bI=true->δ b≠x:=fun b ob hb hi e=>hx (e▸(H.rep b ob hb).Am hi)
 have od:∀ b ob,hp b=some ob->ob.bI=true->δ b≠dx:=fun b ob hb hi e=>hd (e▸(H.rep b ob hb).Am hi)
 have hpd:hp dx=none:=by
  cases q:hp dx with
  | none=>rfl
  | some o=>exact absurd rfl (nd dx o q)
 refine⟨fun b ob hb=>?_,fun b ob hb hi=>?_,fun b c ob oc hb hi hc hi' e=>?_,.tail _ (.tail _ H.pn)⟩
 ·by_cases n:b=x
  ·subst n
   rw [Hp.aG] at hb;have hb:=Option.some.inj hb;subst hb
   rw [if_pos rfl]
   exact .inst (.head _) (.tail _ (.head _)) .nil
  ·replace hb:=(Hp.aE _ _ n)▸hb
   refine (if_neg n)▸?_
   exact (H.rep b ob hb).mono (fun p hp _ => .tail _ (.tail _ hp)) (fun _ p hp _ => .tail _ (.tail _ hp)) fun p hp _ => .tail _ (.tail _ hp)
 ·by_cases n:b=x
  ·subst n
   refine (if_pos rfl)▸(Hp.aE _ _ (Ne.symm hxd))▸?_;exact hpd
  ·rw [Hp.aE _ _ n] at hb
   refine (if_neg n)▸(Hp.aE _ _ (ox b ob hb hi))▸?_
   exact H.dn b ob hb hi
 ·by_cases n:b=x
  ·by_cases n':c=x
   ·exact n▸n'▸rfl
   ·rw [Hp.aE _ _ n'] at hc
    rw [if_pos n,if_neg n'] at e
    exact absurd e.symm (od c oc hc hi')
  ·rw [Hp.aE _ _ n] at hb
   by_cases n':c=x
   ·rw [if_neg n,if_pos n'] at e
    exact absurd e (od b ob hb hi)
   ·rw [Hp.aE _ _ n'] at hc
    rw [if_neg n,if_neg n'] at e
    exact H.inj b c ob oc hb hi hc hi' e
theorem HR.less (H:HR T prog w ne δ hp) {hp':Hp} (h:∀ a o,hp' a=some o->hp a=some o):HR T prog w ne δ hp' :=
 by
 refine⟨fun a o e=>H.rep a o (h a o e),fun a o e i=>?_,fun a b o o' e i e' i' d=>H.inj a b o o' (h a o e) i (h b o' e') i' d,H.pn⟩
 cases q:hp' (δ a) with
 | none=>rfl
 | some o' =>
  have z:=h _ _ q
  replace z:=(H.dn a o (h a o e) i)▸z
  exact (nomatch z)
end Mine
end
section
open PySem PySem.W PySem.Calls PyProof.Rows
set_option Elab.async false
set_option genSizeOf false
set_option genInjectivity false
set_option maxRecDepth 100000
set_option autoImplicit false
namespace Mine
structure Tp where
 T:sW
 prog:Program
 w:World
 K:Frag
 p:Program
 loose:List Str
 uE:ExcName->Option Value
 mg:Str->Option Value
 mb:Str->Option Value
 gens:Array GenState
 drawn:Drawn
 os:OsState
structure Cx extends Tp where
 A₀:Around
 base:Heap
 hz:Heap
 outer:List Env
 A:Around
 L:Addr
 rP:Env
 fn:Bool
 env:Env
 fm:Str->Option Value
noncomputable abbrev Cx.M (C:Cx):Model:=model C.prog C.w
structure Cx.Hm (C:Cx) (m mf:Str->Option Value):Prop where
 t:C.fn=true->m=mf
 f:C.fn=false->mf=C.fm
noncomputable abbrev Cx.names (C:Cx):List (Str×NameKind):=C.env.scope.names
structure O7 (T:sW) (K:Frag):Prop where
 pg:∀ C x,T.attr C x=true->∀ y,plainGet K C y=true
 hd:∀ C x,T.attr C x=true->hasDictIn K C=true
 fa:∀ C x,T.attr C x=true->findIn K (.ref C) (T.nm x)=some none
 sa:∀ C x,T.attr C x=true->findIn K (.ref C) "__setattr__" = some (some (.builtin "object.__setattr__"))
 po:∀ C x,T.attr C x=true->plainOver K C=true
 mt:∀ C x f,T.aQ C x=some f->(∀ y,plainGet K C y=true)∧findIn K (.ref C) (T.nm x)=some (some (.ref f))∧isFn K (.ref f)=true
 RA:∀ C f,T.init C=some f->makesIn K C=true∧findIn K (.ref C) "__init__" = some (some (.ref f))∧isFn K (.ref f)=true∧keepIn K (.ref C)=true
structure Cx.Ok (C:Cx) (n:Nat):Prop where
 k:O7 C.T C.K
 B:Below C.A₀ C.base C.outer C.hz
 X:C.K.In C.hz
 top:Top C.p C.loose C.uE C.mg C.mb C.hz
 hA:C.A.frames=some (C.rP::C.outer)
 hh:C.A.handled=none
 hf:C.rP.frame=some C.L
 Qv:C.rP.scope.kind = .function
 hk:C.env.scope.kind = .function
 gl:C.env.globals=mainGlobals
 bi:C.env.builtins=builtinsNs
 dep:C.A.depth+n<recursionLimit
 zG:C.A.units+100+2*n<cLine
 nd:(C.names.map (·.1)).Nodup
 lo:C.fn=true->C.env.locals=C.L
theorem Cx.Ok.less {C:Cx} {n k:Nat} (h:C.Ok n) (e:k≤n):C.Ok k :=
 { h with dep:=by have:=h.dep;omega,zG:=by have:=h.zG;omega }
structure AS where
 loc:List (Option AV)
 hp:Hp
noncomputable def Fq (o:Obj) (m:Str->Option Value):Prop:=∃ es ep,o.data = .dict es ep∧StrKeys es∧∀ name,nsFind es name=m name
theorem ph {h:Heap} {a:Addr} {o:Obj} {m:Str->Option Value} (e:h.get? a=some o) (n:Fq o m):h.Ns a m:=ES n fun es ep r=>⟨o,es,ep,e,r⟩
structure LR (C:Cx) (Z:Led) (m:Str->Option Value) (ce:Led) (loc:List (Option AV)):Prop where
 q:C.fn=false->∃ o,(C.env.locals,o)∈Z∧Fq o m
 l:∀ (i:Nat) (x:Str),C.names[i]?=some (x,NameKind.local)->∀ av,loc[i]?=some (some av)->∃ v,m x=some v∧VR v av
 c:∀ (i:Nat) (x:Str),C.names[i]?=some (x,NameKind.cell)->∃ c o v,C.env.cells.lookup x=some c∧((c,o)∈ce∨C.fn=false∧(c,o)∈Z)∧o.data = .cell v∧∀ av,loc[i]?=some (some av)->∃ u,v=some u∧VR u av
 i:∀ x y c,C.env.cells.lookup x=some c->C.env.cells.lookup y=some c->x=y
theorem LR.ce {C:Cx} {Z:Led} {m:Str->Option Value} {ce:Led} {loc:List (Option AV)} (Lr:LR C Z m ce loc) {i:Nat} {x:Str} (hx:C.names[i]?=some (x,NameKind.cell)) {G:Prop}
  (k:∀ c o v,C.env.cells.lookup x=some c->((c,o)∈ce∨C.fn=false∧(c,o)∈Z)->o.data = .cell v->(∀ av,loc[i]?=some (some av)->∃ u,v=some u∧VR u av)->G):G:=ip (Lr.c i x hx) fun c o v h1 h2 h3 h4=>k c o v h1 h2 h3 h4
noncomputable def St (C:Cx) (Z:Led) (s:Shared) (σ:AS):Prop :=
 (∃ mf m ce ne δ,Fr C.hz C.L s.heap mf∧C.Hm m mf∧News C.hz C.L s.heap (Z++(ce++ne))∧(keys (Z++(ce++ne))).Nodup∧HR C.T C.prog C.w ne δ σ.hp∧LR C Z m ce σ.loc) ∧
 s.gens=C.gens∧s.drawn=C.drawn∧s.os=C.os
noncomputable def LE (C:Cx) (Z:Led) (Q:AV->AS->Prop) (v:Value) (s:Shared):Prop:=∃ av σ,VR v av∧St C Z s σ∧Q av σ
noncomputable abbrev NE:Value->Shared->Prop:=fun _ _=>False
theorem bQ {l:List (Str×NameKind)} (n:(l.map (·.1)).Nodup):∀ {i:Nat} {x:Str} {k:NameKind},l[i]?=some (x,k)->l.lookup x=some k:=by
 induction l with
 | nil=>intro i x k h;trivial
 | cons p r ih =>
  intro i x k h
  rw [List.map_cons,List.nodup_cons] at n
  cases i with
  | zero =>
   simp only [List.getElem?_cons_zero,Option.some.injEq] at h
   subst h
   skip;simp
  | succ i =>
   simp only [List.getElem?_cons_succ] at h
   have cn:(x==p.1)=false:=by
    apply Bool.eq_false_iff.mpr
    intro q
    exact n.1 (List.mem_map.mpr ⟨(x,k),List.mem_of_getElem? h,beq_iff_eq.mp q⟩)
   rw [List.lookup_cons,cn]
   exact ih n.2 h
theorem lg {l:List (Str×NameKind)} (n:(l.map (·.1)).Nodup) {i j:Nat} {x:Str} {k k':NameKind} (h:l[i]?=some (x,k)) (h':l[j]?=some (x,k')):i=j:=by
 induction l generalizing i j with
 | nil=>trivial
 | cons p r ih =>
  rw [List.map_cons,List.nodup_cons] at n
  have off:∀ {i:Nat} {k:NameKind},r[i]?=some (x,k)->p.1≠x:=fun q e=>n.1 (List.mem_map.mpr ⟨_,List.mem_of_getElem? q,e.symm⟩)
  cases i with
  | zero =>
   simp only [List.getElem?_cons_zero,Option.some.injEq] at h
   cases j with
   | zero=>rfl
   | succ j =>
    simp only [List.getElem?_cons_succ] at h'
    exact absurd (by exact congrArg _ h) (off h')
  | succ i =>
   simp only [List.getElem?_cons_succ] at h
   cases j with
   | zero =>
    simp only [List.getElem?_cons_zero,Option.some.injEq] at h'
    exact absurd (by exact congrArg _ h') (off h)
   | succ j =>
    simp only [List.getElem?_cons_succ] at h'
    exact congrArg _ (ih n.2 h h')
section
variable {C:Cx} {n:Nat} {Z:Led} {s:Shared} {σ:AS}
theorem St.of {mf m:Str->Option Value} {ce ne:Led} {δ:Addr->Addr} (F:Fr C.hz C.L s.heap mf) (hm:C.Hm m mf) (N:News C.hz C.L s.heap (Z++(ce++ne))) (nd:(keys (Z++(ce++ne))).Nodup) (H:HR C.T C.prog C.w ne δ σ.hp) (Lr:LR C Z m ce σ.loc) (r:s.gens=C.gens∧s.drawn=C.drawn∧s.os=C.os):St C Z s σ:=⟨⟨mf,m,ce,ne,δ,F,hm,N,nd,H,Lr⟩,r⟩
theorem St.at (h:St C Z s σ):∃ mf m ce ne δ,Fr C.hz C.L s.heap mf∧C.Hm m mf∧News C.hz C.L s.heap (Z++(ce++ne))∧(keys (Z++(ce++ne))).Nodup∧HR C.T C.prog C.w ne δ σ.hp∧LR C Z m ce σ.loc:=h.1
theorem St.elim {G:Prop} (h:St C Z s σ) (k:∀ mf m ce ne δ,Fr C.hz C.L s.heap mf->C.Hm m mf->News C.hz C.L s.heap (Z++(ce++ne))->(keys (Z++(ce++ne))).Nodup->HR C.T C.prog C.w ne δ σ.hp->LR C Z m ce σ.loc->G):G :=
 Qt h.at fun mf m ce ne δ F hm N nd H Lr =>
 k mf m ce ne δ F hm N nd H Lr
theorem St.mk {h':Heap} {tk:Nat} {σ':AS} {mf m:Str->Option Value} {ce ne:Led} {δ:Addr->Addr} (h:St C Z s σ) (F:Fr C.hz C.L h' mf) (hm:C.Hm m mf) (N:News C.hz C.L h' (Z++(ce++ne))) (nd:(keys (Z++(ce++ne))).Nodup)
  (H:HR C.T C.prog C.w ne δ σ'.hp) (Lr:LR C Z m ce σ'.loc):St C Z { s with heap:=h',toks:=tk } σ':=⟨⟨mf,m,ce,ne,δ,F,hm,N,nd,H,Lr⟩,h.2⟩
theorem St.tok {tk:Nat} (h:St C Z s σ):St C Z { s with toks:=tk } σ:=⟨h.1,h.2⟩
theorem qC {Z ce ne:Led} {p:Addr×Obj} (h:p∈Z):p∈Z++(ce++ne):=List.mem_append_left _ h
theorem LR.ns {mf m:Str->Option Value} {ce ne:Led} {loc:List (Option AV)} (ok:C.Ok n) (Lr:LR C Z m ce loc) (F:Fr C.hz C.L s.heap mf) (hm:C.Hm m mf) (N:News C.hz C.L s.heap (Z++(ce++ne))):s.heap.Ns C.env.locals m:=by
 cases e:C.fn with
 | true=>simp only [ok.lo e,hm.t e];exact F.ns
 | false =>
  refine aA (Lr.q e) fun o ho hn=>?_
  exact ph (N.get (qC ho)) hn
theorem qm (ok:C.Ok n) {i:Nat} {x:Str} {pos:Pos} {av:AV} {Q:AV->AS->Prop} (st:St C Z s σ) (hx:C.names[i]?=some (x,NameKind.local)) (hd:(x==("__debug__" : Str))=false)
  (hl:σ.loc[i]?=some (some av)) (h:Q av σ):wpAny C.M C.A (eval (.Name x pos) C.env) (LE C Z Q) NE s:=by
 refine st.elim fun mf m ce ne δ F hm N nd H Lr=>?_
 refine aA (Lr.l i x hx av hl) fun v hv hr=>?_
 exact wpAny_Name (wpAny_loadName_local ok.hk (bQ ok.nd hx) (Lr.ns ok F hm N) hv ⟨av,σ,hr,st,h⟩) hd
theorem Ap (ok:C.Ok n) {i:Nat} {x:Str} {pos:Pos} {av:AV} {Q:AV->AS->Prop} (st:St C Z s σ) (hx:C.names[i]?=some (x,NameKind.cell)) (hd:(x==("__debug__" : Str))=false)
  (hl:σ.loc[i]?=some (some av)) (h:Q av σ):wpAny C.M C.A (eval (.Name x pos) C.env) (LE C Z Q) NE s:=by
 refine st.elim fun mf m ce ne δ F hm N nd H Lr=>?_
 refine ip (Lr.c i x hx) fun c o v hc hmm hv hr=>?_
 refine aA (hr av hl) fun u zp1 hu=>?_;subst zp1
 exact wpAny_Name (wpAny_loadName_cell ok.hk (bQ ok.nd hx) hc ⟨o,N.get (hmm.elim lL fun q=>qC q.2),hv⟩ ⟨av,σ,hu,st,h⟩) hd
theorem oS (ok:C.Ok n) {x:Str} {pos:Pos} {v:Value} {Q:Value->Shared->Prop} (st:St C Z s σ) (hx:C.names.lookup x=some .globalImplicit) (hd:(x==("__debug__" : Str))=false)
  (hg:nsIn C.K mainGlobals x=some (some v)) (h:Q v s):wpAny C.M C.A (eval (.Name x pos) C.env) Q NE s:=by
 refine st.elim fun mf m ce ne δ F hm N nd H Lr=>?_
 exact Name_function_global ok.hk hx (loadGlobal_global (by rw [ok.gl];exact ok.top.g.keeps F.keep) (mg_of ok.X ok.top.g hg) h) hd
theorem F4 (ok:C.Ok n) {x:Str} {pos:Pos} {v:Value} {Q:Value->Shared->Prop} (st:St C Z s σ) (hx:C.names.lookup x=some .globalImplicit) (hd:(x==("__debug__" : Str))=false)
  (hg:nsIn C.K mainGlobals x=some none) (hv:bootBuiltins x=some v) (hn:x ≠ "__name__") (h:Q v s):wpAny C.M C.A (eval (.Name x pos) C.env) Q NE s:=by
 refine st.elim fun mf m ce ne δ F hm N nd H Lr=>?_
 exact Name_function_global ok.hk hx (loadGlobal_builtin (by rw [ok.gl];exact ok.top.g.keeps F.keep) (mg_none_of ok.X ok.top.g hg) (by rw [ok.bi];exact ok.top.b.keeps F.keep) ((ok.top.builtins x hn).trans hv) h) hd
theorem LR.QV {m:Str->Option Value} {ce:Led} {loc:List (Option AV)} (Lr:LR C Z m ce loc) (hfn:C.fn=true) (nd:(C.names.map (·.1)).Nodup) {i:Nat} {x:Str} {v:Value} {av:AV} (hx:C.names[i]?=some (x,NameKind.local)) (hv:VR v av) :
  LR C Z (fun y=>if y=x then some v else m y) ce (loc.set i (some av)):=by
 refine⟨(fun e=>absurd (hfn.symm.trans e) (by decide)),fun j y hy bv hb=>?_,fun j y hy=>?_,Lr.i⟩
 ·by_cases e:j=i
  ·subst e
   replace hy:=hx▸hy;cases hy
   replace hb:=List.getElem?_set_self'▸hb
   cases q:loc[j]? with
   | none=>replace hb:=q▸hb;contradiction
   | some _=>replace hb:=q▸hb;cases hb;exact⟨v,by simp,hv⟩
  ·rw [List.getElem?_set_ne (Ne.symm e)] at hb
   refine aA (Lr.l j y hy bv hb) fun u hu hr=>?_
   refine⟨u,?_,hr⟩
   have:y≠x:=by rintro rfl;exact e (lg nd hy hx)
   refine (if_neg this)▸?_;exact hu
 ·refine ip (Lr.c j y hy) fun c o v' h1 h2 h3 h4=>?_
  refine⟨c,o,v',h1,h2,h3,fun bv hb=>?_⟩
  have e:i≠j:=by rintro rfl;replace hy:=hx▸hy;cases hy
  rw [List.getElem?_set_ne e] at hb
  exact h4 bv hb
theorem LR.setC {m:Str->Option Value} {ce:Led} {loc:List (Option AV)} (Lr:LR C Z m ce loc) (hfn:C.fn=true) (nd:(C.names.map (·.1)).Nodup) {i:Nat} {x:Str} {v:Value} {av:AV} {c:Addr} {o o':Obj} (hx:C.names[i]?=some (x,NameKind.cell)) (hv:VR v av)
  (hc:C.env.cells.lookup x=some c) (ho:(c,o)∈ce) (ho':o'.data = .cell (some v)):LR C Z m (bS ce c o') (loc.set i (some av)):=by
 refine⟨Lr.q,fun j y hy bv hb=>?_,fun j y hy=>?_,Lr.i⟩
 ·have e:i≠j:=by rintro rfl;replace hy:=hx▸hy;cases hy
  rw [List.getElem?_set_ne e] at hb
  exact Lr.l j y hy bv hb
 ·by_cases e:j=i
  ·subst e
   replace hy:=hx▸hy;cases hy
   refine⟨c,o',some v,hc,.inl (bE ho),ho',fun bv hb=>?_⟩
   replace hb:=List.getElem?_set_self'▸hb
   cases q:loc[j]? with
   | none=>replace hb:=q▸hb;contradiction
   | some _=>replace hb:=q▸hb;cases hb;exact⟨v,rfl,hv⟩
  ·refine ip (Lr.c j y hy) fun c' o1 v' h1 h2 h3 h4=>?_
   have ne:c'≠c:=by
    rintro rfl
    exact e (lg nd (Lr.i y x c' h1 hc▸hy) hx)
   refine⟨c',o1,v',h1,.inl (bc (h2.elim id fun q=>absurd (hfn.symm.trans q.1) (by decide)) ne),h3,fun bv hb=>?_⟩
   rw [List.getElem?_set_ne (Ne.symm e)] at hb
   exact h4 bv hb
noncomputable def dZ (σ:AS) (i:Nat) (av:AV):AS:={ σ with loc:=σ.loc.set i (some av) }
theorem zm (ok:C.Ok n) (hfn:C.fn=true) {i:Nat} {x:Str} {v:Value} {av:AV} {Q:Unit->Shared->Prop} (st:St C Z s σ) (hx:C.names[i]?=some (x,NameKind.local)) (hv:VR v av)
  (h:∀ s',St C Z s' (dZ σ i av)->Q () s'):wpAny C.M C.A (storeName C.env x v) Q NE s:=by
 refine st.elim fun mf m ce ne δ F hm N nd H Lr=>?_
 cases hm.t hfn
 have e:=ok.lo hfn
 refine wpAny_storeName_local (bQ ok.nd hx) (by exact e▸F.ns) (fun h' hn hs=>?_) (by refine ok.hk▸?_;rfl)
 rw [e] at hn hs
 exact h _ (st.mk (F.set hn hs) ⟨fun _=>rfl,fun e=>absurd (hfn.symm.trans e) (by decide)⟩ (N.set hs) nd H (Lr.QV hfn ok.nd hx hv))
theorem Eo (ok:C.Ok n) (hfn:C.fn=true) {i:Nat} {x:Str} {v:Value} {av:AV} {Q:Unit->Shared->Prop} (st:St C Z s σ) (hx:C.names[i]?=some (x,NameKind.cell)) (hv:VR v av)
  (h:∀ s',St C Z s' (dZ σ i av)->Q () s'):wpAny C.M C.A (storeName C.env x v) Q NE s:=by
 refine st.elim fun mf m ce ne δ F hm N nd H Lr=>?_
 refine ip (Lr.c i x hx) fun c o v' hc hmm hd hr=>?_
 replace hmm:=hmm.elim id fun q=>absurd (hfn.symm.trans q.1) (by decide)
 have hmem:=N (c,o) (lL hmm)
 refine wpAny_storeName_cell ok.hk (bQ ok.nd hx) hc ⟨o,hmem.1,hd⟩ fun h' hv' hs=>?_
 refine aA hv' fun o' ho' hd'=>?_
 refine JQ ((jn nd (lL hmm)).split) fun own rest e1 hg h1 h2=>?_
 have e2:=hg o'
 rw [O4 nd hmm] at e2
 have N':News C.hz C.L h' (Z++(bS ce c o'++ne)):=by simp only [e2];simp only [e1] at N;exact N.setAt h1 h2 hs ho'
 refine h _ (st.mk (tk:=s.toks) ⟨F.ns.sameBut hs (Ne.symm hmem.2.1),fun b ob e=>(hs.2 b (fun q=>?_)).trans (F.keep b ob e),F.above⟩ hm N' (by rw [rV];exact nd) H (Lr.setC hfn ok.nd hx hv hc hmm hd'))
 replace e:=hmem.2.2▸q▸e;contradiction
theorem F9 (ok:C.Ok n) {a K:Addr} {x:Nat} {fs:List (Nat×AV)} {av:AV} {ex:Bool} {Q:AV->AS->Prop} (st:St C Z s σ) (ha:σ.hp a=some (.inst K fs)) (hx:C.T.attr K x=true) (hf:rQ x fs=some av) (h:Q av σ) :
  wpAny C.M C.A (getAttr (.ref a) (C.T.nm x) ex) (LE C Z Q) NE s:=by
 refine st.elim fun mf m ce ne δ F hm N nd H Lr=>?_
 cases H.rep _ _ ha with
 | inst h1 h2 fr =>
  refine aA (fr.get x hx) fun r e1 e2=>?_
  simp only [hf] at e2
  obtain⟨v,rfl,hv⟩:=e2
  refine get_own F ok.X (InstAt.of_news N (bP h1) (bP h2)) (ok.k.pg K x hx _) (ok.k.hd K x hx) (ok.k.fa K x hx) rfl e1 ?_ ⟨av,σ,hv,st.tok,h⟩
  cases hv<;>rfl
theorem JA (ok:C.Ok n) {a K:Addr} {x:Nat} {fs:List (Nat×AV)} {v:Value} {av:AV} {Q:Unit->Shared->Prop} (st:St C Z s σ) (ha:σ.hp a=some (.inst K fs)) (hx:C.T.attr K x=true) (hv:VR v av) (hz:fs.length<100)
  (h:∀ s',St C Z s' { σ with hp:=σ.hp.set a (.inst K (sq x av fs)) }->Q () s'):wpAny C.M C.A (setAttr (.ref a) (C.T.nm x) v) Q NE s:=by
 refine st.elim fun mf m ce ne δ F hm N nd H Lr=>?_
 cases H.rep _ _ ha with
 | @inst _ _ es k h1 h2 fr =>
  refine aA (fr.get x hx) fun r e1 e2=>?_
  have fr':=fr.put x hx (s.toks+1) hv
  refine set_dict F ok.X N (InstAt.of_news N (bP h1) (bP h2)) rfl (ok.k.sa K x hx) (ok.k.po K x hx) ?_ (ok.k.hd K x hx) (by rw [e1];rfl) rfl (zK nd _ (bP h2)) ?_ (fun h' F' N'=>?_)
  ·unfold takerIn;rw [ok.k.fa K x hx];rfl
  ·rw [fr'.length]
   have:=lM x av fs
   omega
  ·rw [zI nd h2] at N'
   exact h _ (st.mk F' hm N' (by rw [fP];exact nd) (H.Rd (i9 nd) ha h2 fr') Lr)
end
section
variable {C:Cx} {n:Nat} {Z:Led} {s:Shared} {σ:AS}
theorem St.sS (st:St C Z s σ) {a:Addr} {ao ao':AO} {h':Heap} {tk:Nat} {o':Obj} (hsa:a≠SA) (ha:σ.hp a=some ao) (it:ao.isTup=false) (i':ao'.bI=false) (hs:Heap.SameBut a s.heap h') (ho':h'.get? a=some o')
  (r:∀ ne,(a,o')∈ne->Rep C.T C.prog C.w ne a a ao'):St C Z { s with heap:=h',toks:=tk } { σ with hp:=σ.hp.set a ao' }:=by
 refine st.elim fun mf m ce ne δ F hm N nd H Lr=>?_
 refine aA ((H.rep _ _ ha).Gx it) fun o ho hnt=>?_
 skip
 refine JQ ((jn nd (bP ho)).split) fun pre post e1 hg h1 h2=>?_
 have e2:=hg o'
 rw [zI nd ho] at e2
 have N':News C.hz C.L h' (Z++(ce++bS ne a o')):=by simp only [e2];simp only [e1] at N;exact N.setAt h1 h2 hs ho'
 exact st.mk (F.change hs (N _ (bP (Z:=Z) (ce:=ce) ho)).2.1 (N _ (bP (Z:=Z) (ce:=ce) ho)).2.2) hm N' (by rw [fP];exact nd) (H.sS hsa ha i' (fun o' h'=>cj (i9 nd) h' ho▸hnt) (r _ (bE ho))) Lr
theorem St.jI (st:St C Z s σ) {mf m:Str->Option Value} {ce ne:Led} {δ:Addr->Addr} (hm:C.Hm m mf) (nd:(keys (Z++(ce++ne))).Nodup) (H:HR C.T C.prog C.w ne δ σ.hp) (Lr:LR C Z m ce σ.loc)
  {x:Addr} {o:Obj} {ao:AO} {h':Heap} {tk:Nat} (F':Fr C.hz C.L h' mf) (N':News C.hz C.L h' ((x,o)::(Z++(ce++ne)))) (lt:∀ p∈Z++(ce++ne),p.1<x) (i:ao.bI=false)
  (r:∀ ne,(x,o)∈ne->Rep C.T C.prog C.w ne x x ao):St C Z { s with heap:=h',toks:=tk } { σ with hp:=σ.hp.set x ao }∧σ.hp x=none:=by
 have off:∀ l:Led,(∀ p∈l,p.1<x)->x ∉ keys l:=fun l hl q=>by
  refine aA (List.mem_map.mp q) fun p hp e=>?_
  exact absurd (e▸hl p hp) (Nat.lt_irrefl _)
 skip
 refine⟨st.mk F' hm (ne:=(x,o)::ne) (fun p hp=>N' p ?_) ?_ (H.jI (off _ fun p hp=>lt p (bP hp)) i r) Lr,?_⟩
 ·rcases List.mem_append.mp hp with h | h
  ·exact .tail _ (List.mem_append_left _ h)
  ·refine Or.elim (List.mem_append.mp h) (fun h=>?_) (fun h=>?_)
   ·exact .tail _ (lL h)
   ·rcases List.mem_cons.mp h with rfl | h
    ·exact .head _
    ·exact .tail _ (bP h)
 ·have hxx:=off _ lt
  simp only [keys,List.map_append,List.map_cons] at nd hxx ⊢
  rw [List.perm_middle.append_left _ |>.nodup_iff,List.perm_middle.nodup_iff,List.nodup_cons]
  exact⟨hxx,nd⟩
 ·cases q:σ.hp x with
  | none=>rfl
  | some ao=>exact absurd (H.key q) (off _ fun p hp=>lt p (bP hp))
theorem AG {vs:List Value} {xs:List AV} {Q:AV->AS->Prop} (st:St C Z s σ) (hv:cK vs xs) (hz:xs.length≤1000000) (h:∀ r,σ.hp r=none->Q (.ref r) { σ with hp:=σ.hp.set r (.list xs) }) :
  wpAny C.M C.A (newList vs) (LE C Z Q) NE s:=by
 refine st.elim fun mf m ce ne δ F hm N nd H Lr=>?_
 refine newList_K F N (fun l h' F' N' lt=>?_) (by simp only [hv.length,sizeLine_eq];omega)
 refine bx (st.jI (tk:=s.toks) hm nd H Lr F' N' lt (ao := .list xs) rfl fun ne hn => .list hn hv) fun st' e=>?_
 exact⟨_,_,.ref l,st',h l e⟩
theorem xh {vs:List Value} {xs:List AV} {Q:AV->AS->Prop} (st:St C Z s σ) (hv:cK vs xs) (hz:xs.length≤1000000) (h:∀ r,σ.hp r=none->Q (.ref r) { σ with hp:=σ.hp.set r (.tup xs) }) :
  wpAny C.M C.A (newTuple vs) (LE C Z Q) NE s:=by
 refine st.elim fun mf m ce ne δ F hm N nd H Lr=>?_
 refine newTuple_N F N (fun h' F' N'=>?_) (by simp only [hv.length,sizeLine_eq];omega)
 refine bx (st.jI (tk:=s.toks) hm nd H Lr F' N' (fun p hp=>Heap.lt_size (N p hp).1) (ao := .tup xs) rfl fun ne hn => .tup hn hv) fun st' e=>?_
 exact⟨_,_,.ref _,st',h _ e⟩
theorem St.isList (st:St C Z s σ) {a:Addr} {xs:List AV} (ha:σ.hp a=some (.list xs)):∃ vs k,s.heap.get? a=some (listOf vs.toArray k)∧cK vs xs:=by
 refine st.elim fun mf m ce ne δ F hm N nd H Lr=>?_
 cases H.rep _ _ ha with
 | list h v=>exact⟨_,_,N.get (bP h),v⟩
theorem St.isTup (st:St C Z s σ) {a:Addr} {xs:List AV} (ha:σ.hp a=some (.tup xs)):∃ vs k,s.heap.get? a=some (rr vs.toArray k)∧cK vs xs:=by
 refine st.elim fun mf m ce ne δ F hm N nd H Lr=>?_
 cases H.rep _ _ ha with
 | tup h v=>exact⟨_,_,N.get (bP h),v⟩
theorem aR {h:Heap} {a:Addr} {vs:Array Value} {k:Nat} (e:h.get? a=some (listOf vs k)):h.IsList a vs:=⟨_,e,rfl,_,rfl⟩
theorem i5 {h:Heap} {a:Addr} {vs:Array Value} {k:Nat} (e:h.get? a=some (rr vs k)):IsTup h a vs:=⟨_,e,rfl,_,rfl⟩
theorem Aw {a:Addr} {xs:List AV} {k:Int} {t:Tok} {av:AV} {Q:AV->AS->Prop} (st:St C Z s σ) (ha:σ.hp a=some (.list xs)) (h0:0≤k) (hi:k<1000000) (hx:xs[k.toNat]?=some av) (h:Q av σ) :
  wpAny C.M C.A (getItem (.ref a) (.int k t)) (LE C Z Q) NE s:=by
 refine dy (st.isList ha) fun vs c e hv=>?_
 refine aA (hv.get hx) fun v hv1 hv2=>?_
 exact getItem_listL (aR e) h0 (by omega) hv1 ⟨_,_,hv2,st,h⟩
theorem Gb {a:Addr} {xs:List AV} {k:Int} {t:Tok} {av:AV} {Q:AV->AS->Prop} (st:St C Z s σ) (ha:σ.hp a=some (.tup xs)) (h0:0≤k) (hi:k<1000000) (hx:xs[k.toNat]?=some av) (h:Q av σ) :
  wpAny C.M C.A (getItem (.ref a) (.int k t)) (LE C Z Q) NE s:=by
 refine dy (st.isTup ha) fun vs c e hv=>?_
 refine aA (hv.get hx) fun v hv1 hv2=>?_
 have hlt:k.toNat<vs.length:=(List.getElem?_eq_some_iff.mp hv1).1
 refine getItem_tuple (i5 e) (by omega) (by omega) (j:=k.toNat) ?_ (by simpa using hv1) ⟨_,_,hv2,st,h⟩
 unfold seqIndex?
 have e1:¬ (k<0):=by omega
 have e2:(decide (0≤k)&&decide (k<((vs.toArray.size:Nat):Int)))=true:=by
  simp only [Bool.and_eq_true,decide_eq_true_eq,List.size_toArray];omega
 exact (if_neg e1)▸(if_pos e2)▸rfl
theorem DV {a:Addr} {xs:List AV} {k:Int} {t:Tok} {v:Value} {av:AV} {Q:Unit->Shared->Prop} (st:St C Z s σ) (hsa:a≠SA) (ha:σ.hp a=some (.list xs)) (h0:0≤k) (hi:k<1000000) (hn:k.toNat<xs.length) (hv:VR v av)
  (h:∀ s',St C Z s' { σ with hp:=σ.hp.set a (.list (xs.set k.toNat av)) }->Q () s'):wpAny C.M C.A (setItem (.ref a) (.int k t) v) Q NE s:=by
 refine dy (st.isList ha) fun vs c e hr=>?_
 have hl:=hr.length
 have hr':=hr.set hv k.toNat
 refine ki_setAt e h0 (by omega) (by rw [List.size_toArray];omega) (h _ ?_)
 skip
 refine st.sS (tk:=s.toks) (o':=listOf (vs.set k.toNat v).toArray c) hsa ha rfl rfl (Heap.SameBut.update ..) ?_ fun ne hn => .list hn hr'
 have e':Obj.mapSeq (·.setIfInBounds k.toNat v) (listOf vs.toArray c)=listOf (vs.set k.toNat v).toArray c:=by
  delta Obj.mapSeq PySem.W.listOf
  simp
 simp only [← e']
 exact Heap.get?_update_self _ e (by skip;rfl)
noncomputable def small (a:Int):Prop := -(2^64)<a∧a<2^64
noncomputable def RE (op:Operator) (a b:Int):Option (Prop×Int):=match op with
 | .Add=>some (True,a+b)
 | .Sub=>some (True,a-b)
 | .Mult=>some (small a∨small b,a*b)
 | .FloorDiv=>some (0<b∧b<1073741824,a.fdiv b)
 | .Mod=>some (b≠0,a.fmod b)
 | .Pow=>some (0≤b∧b≤1000000∧small a,a^b.toNat)
 | .LShift=>some (0≤b∧b≤1000000∧small a,a*2^b.toNat)
 | .RShift=>some (0≤b,a.fdiv (2^b.toNat))
 | .BitAnd=>some (True,Builtin.bitAnd a b)
 | .BitOr=>some (True,Builtin.bitOr a b)
 | _=>none
theorem j7 {a:Int} (h:small a):a.natAbs<2^64:=by
 unfold small at h;omega
theorem KZ {a b:Int} (h:small a∨small b):IntMulOk a b:=by
 refine Or.elim h (fun h=>?_) (fun h=>?_)
 ·exact IntMulOk.of_left (intBits_le_64 h.1 h.2)
 ·exact IntMulOk.of_right (intBits_le_64 h.1 h.2)
theorem FL {op:Operator} {a b c:Int} {t u:Tok} {P:Prop} {Q:AV->AS->Prop} (st:St C Z s σ) (ho:RE op a b=some (P,c)) (hP:P) (h:Q (.int c) σ):wpAny C.M C.A (binaryOp op (.int a t) (.int b u)) (LE C Z Q) NE s:=by
 have fin:∀ k tk,LE C Z Q (.int c k) { s with toks:=tk }:=fun k tk=>⟨_,_,.int c k,st.tok,h⟩
 cases op<;>first | (cases ho;done) | (refine bx (Prod.mk.inj (Option.some.inj ho)) fun zp0 zp1=>?_;subst zp0;subst zp1)
 ·exact PyProof.Rows.add_int (fin _ _)
 ·exact PyProof.Rows.sub_int (fin _ _)
 ·exact PySem.P.mul_int (fin _ _) (KZ hP)
 ·exact mod_int' hP (fin _ _)
 ·exact pow_int_small hP.1 hP.2.1 (j7 hP.2.2) (fin _ _)
 ·exact lshift_int_small hP.1 hP.2.1 (j7 hP.2.2) (fin _ _)
 ·exact rshift_int hP (fin _ _)
 ·exact or_int (fin _ _)
 ·exact and_int (fin _ _)
 ·exact floordiv_int (by omega) (fin _ _) (.inl (PyProof.noPylong_small (by omega)))
noncomputable def Kj (op:CmpOp) (a b:Int):Option Bool:=match op with
 | .Eq=>some (decide (a=b))
 | .NotEq=>some (decide (a≠b))
 | .Lt=>some (decide (a<b))
 | .LtE=>some (decide (a≤b))
 | .Gt=>some (decide (b<a))
 | .GtE=>some (decide (b≤a))
 | _=>none
theorem FU {op:CmpOp} {a b:Int} {t u:Tok} {c:Bool} {Q:Value->Shared->Prop} (ho:Kj op a b=some c) (h:Q (.bool c) s):wpAny C.M C.A (compareOp op (.int a t) (.int b u)) Q NE s:=by
 cases op<;>first | (cases ho;done) | (obtain rfl:=Option.some.inj ho)
 ·refine PyProof.Rows.eq_int ?_
  rwa [show (a==b)=decide (a=b) from rfl]
 ·refine PyProof.Rows.ne_int ?_
  rwa [show (a != b)=decide (a≠b) by simp [bne,BEq.beq]]
 ·exact PyProof.Rows.lt_int h
 ·exact PyProof.Rows.le_int h
 ·exact PyProof.Rows.gt_int h
 ·exact PyProof.Rows.ge_int h
theorem FV {v:Value} {av:AV} {Q:Value->Shared->Prop} (hv:VR v av) (h:Q (.bool (decide (av = .none))) s):wpAny C.M C.A (compareOp .Is v .none) Q NE s:=by
 cases hv with
 | none=>exact is_none_none (by simpa using h)
 | _=>exact is_none_ne (by intro x;cases x) (by simpa using h)
theorem FK {a b:Addr} {xs ys:List AV} {Q:AV->AS->Prop} (st:St C Z s σ) (ha:σ.hp a=some (.list xs)) (hb:σ.hp b=some (.list ys)) (hz:xs.length+ys.length≤1000000)
  (h:∀ r,σ.hp r=none->Q (.ref r) { σ with hp:=σ.hp.set r (.list (xs++ys)) }):wpAny C.M C.A (binaryOp .Add (.ref a) (.ref b)) (LE C Z Q) NE s:=by
 refine dy (st.isList ha) fun vs c e hv=>?_
 refine dy (st.isList hb) fun ws d e' hw=>?_
 refine st.elim fun mf m ce ne δ F hm N nd H Lr=>?_
 have l1:=hv.length
 have l2:=hw.length
 refine add_arrays F N (aR e) (aR e') (fun h' F' N'=>?_) (by simp only [List.size_toArray,sizeLine_eq];omega)
 refine bx (st.jI (tk:=s.toks) hm nd H Lr F' N' (fun p hp=>Heap.lt_size (N p hp).1) (ao := .list (xs++ys)) rfl fun ne hn => .list hn (hv.append hw)) fun st' e=>?_
 exact⟨_,_,.ref _,st',h _ e⟩
theorem mK (items:Array Value):∀ (n:Nat) (acc:Array Value),(List.foldl (fun x1 x2=>x1++x2) acc (List.replicate n items))=acc++(List.replicate n items.toList).flatten.toArray
 | 0,acc=>by rfl
 | n+1,acc=>by
  simp only [List.replicate_succ,List.foldl_cons,mK items n,List.replicate_succ,List.flatten_cons]
  apply Array.toList_inj.mp
  simp
theorem cK.rep {vs:List Value} {xs:List AV} (h:cK vs xs):∀ n:Nat,cK (List.replicate n vs).flatten (List.replicate n xs).flatten
 | 0 => .nil
 | n+1=>by skip;exact h.append (h.rep n)
theorem FN {a:Addr} {x:AV} {k:Int} {u:Tok} {Q:AV->AS->Prop} (st:St C Z s σ) (ha:σ.hp a=some (.list [x])) (hz:k≤1000000) (hl : -1000000≤k)
  (h:∀ r,σ.hp r=none->Q (.ref r) { σ with hp:=σ.hp.set r (.list (List.replicate k.toNat x)) }):wpAny C.M C.A (binaryOp .Mult (.ref a) (.int k u)) (LE C Z Q) NE s:=by
 refine dy (st.isList ha) fun vs c e hv=>?_
 refine st.elim fun mf m ce ne δ F hm N nd H Lr=>?_
 have l1:vs.length=1:=hv.length
 refine mul_list F N e (by omega) (by omega) (by rw [List.size_toArray];rw [l1,Nat.one_mul];omega) (fun h' F' N'=>?_)
 have e1:vs.toArray.isEmpty=false:=by cases vs with | nil=>cases l1 | cons=>rfl
 rw [e1,mK] at N'
 simp only [Bool.false_eq_true,if_false] at N'
 have hr:=hv.rep k.toNat
 have e2:(List.replicate k.toNat [x]).flatten=List.replicate k.toNat x:=by
  generalize k.toNat=j
  induction j with
  | zero=>rfl
  | succ j ih=>simp only [List.replicate_succ,List.flatten_cons,ih];rfl
 simp only [e2] at hr
 have e3 : #[]++(List.replicate k.toNat vs.toArray.toList).flatten.toArray=(List.replicate k.toNat vs).flatten.toArray:=by simp
 rw [e3] at N'
 refine bx (st.jI (tk:=s.toks) hm nd H Lr F' N' (fun p hp=>Heap.lt_size (N p hp).1) (ao := .list (List.replicate k.toNat x)) rfl fun ne hn => .list hn hr) fun st' e=>?_
 exact⟨_,_,.ref _,st',h _ e⟩
end
section
variable {C:Cx} {n:Nat} {Z:Led} {s:Shared} {σ:AS}
theorem p9 {a:Addr} {xs:List AV} {Q:AV->AS->Prop} (st:St C Z s σ) (ha:σ.hp a=some (.list xs)) (hz:xs.length≤1000000) (h:Q (.int xs.length) σ):wpAny C.M C.A (call (.builtin "len") [.ref a]) (LE C Z Q) NE s:=by
 refine dy (st.isList ha) fun vs c e hv=>?_
 have l:=hv.length
 refine call_len_list (aR e) (by rw [List.size_toArray];omega) ⟨_,_,.int _ _,st.tok,?_⟩
 rw [List.size_toArray,l];exact h
theorem rG {a:Addr} {xs:List AV} {Q:AV->AS->Prop} (st:St C Z s σ) (ha:σ.hp a=some (.tup xs)) (hz:xs.length≤1000000) (h:Q (.int xs.length) σ):wpAny C.M C.A (call (.builtin "len") [.ref a]) (LE C Z Q) NE s:=by
 refine dy (st.isTup ha) fun vs c e hv=>?_
 have l:=hv.length
 refine PyProof.Rows.len_tuple (i5 e) (by rw [List.size_toArray];omega) ⟨_,_,.int _ _,st.tok,?_⟩
 rw [List.size_toArray,l];exact h
theorem oH {b:List UInt8} {t:Tok} {Q:AV->AS->Prop} (st:St C Z s σ) (hz:b.length≤1000000) (h:Q (.int b.length) σ):wpAny C.M C.A (call (.builtin "len") [.bytes b.toArray t]) (LE C Z Q) NE s:=by
 refine len_bytes (by rw [List.size_toArray];omega) ⟨_,_,.int _ _,st.tok,?_⟩
 skip;exact h
theorem wH {b:List UInt8} {t u:Tok} {k:Int} {c:UInt8} {Q:AV->AS->Prop} (st:St C Z s σ) (h0:0≤k) (hz:b.length≤1000000) (hx:b[k.toNat]?=some c) (h:Q (.int (c.toNat:Nat)) σ) :
  wpAny C.M C.A (getItem (.bytes b.toArray t) (.int k u)) (LE C Z Q) NE s:=by
 have hlt:=(List.getElem?_eq_some_iff.mp hx).1
 refine getItem_bytes (l:=b) ((Nat.le_trans (by assumption) (by decide))) h0 (by omega) ⟨_,_,.int _ _,st.tok,?_⟩
 rw [List.getD_eq_getElem?_getD,hx];exact h
theorem FA {i:Int} {t:Tok} {Q:AV->AS->Prop} (st:St C Z s σ) (h:Q (.int (i.natAbs:Nat)) σ):wpAny C.M C.A (call (.builtin "abs") [.int i t]) (LE C Z Q) NE s:=by
 refine call_abs_int fun u tk=>⟨_,_,.int _ _,st.tok,?_⟩
 have e:(if i<0 then -i else i)=((i.natAbs:Nat):Int):=by split<;>omega
 rw [e];exact h
theorem rF {i:Int} {t:Tok} {Q:AV->AS->Prop} (st:St C Z s σ) (h:Q (.int i) σ):wpAny C.M C.A (call (.type "int") [.int i t]) (LE C Z Q) NE s :=
 call_int_int ⟨_,_,.int _ _,st,h⟩
theorem p8 {b:Bool} {Q:AV->AS->Prop} (st:St C Z s σ) (h:Q (.int (if b then 1 else 0)) σ):wpAny C.M C.A (call (.type "int") [.bool b]) (LE C Z Q) NE s :=
 call_int_bool ⟨_,_,.int _ _,st.tok,h⟩
theorem Ab {i:Int} {t:Tok} {Q:AV->AS->Prop} (st:St C Z s σ) (h:Q (.int (Builtin.Int.intBits i:Nat)) σ):wpAny C.M C.A (call (.builtin "int.bit_length") [.int i t]) (LE C Z Q) NE s :=
 call_int_bit_length ⟨_,_,.int _ _,st.tok,h⟩
theorem z9 {a:Addr} {xs:List AV} {Q:AV->AS->Prop} (st:St C Z s σ) (ha:σ.hp a=some (.list xs)) (hz:xs.length≤1000000) (h:∀ r,σ.hp r=none->Q (.ref r) { σ with hp:=σ.hp.set r (.list xs) }) :
  wpAny C.M C.A (call (.type "list") [.ref a]) (LE C Z Q) NE s:=by
 refine dy (st.isList ha) fun vs c e hv=>?_
 refine st.elim fun mf m ce ne δ F hm N nd H Lr=>?_
 have l:=hv.length
 refine list_copyK F N (aR e) (fun D c' h' F' N' lt=>?_) (by simp only [List.size_toArray,sizeLine_eq];omega)
 refine bx (st.jI (tk:=s.toks) hm nd H Lr F' N' lt (ao := .list xs) rfl fun ne hn => .list hn hv) fun st' e=>?_
 exact⟨_,_,.ref _,st',h _ e⟩
theorem vR {a:Addr} {xs:List AV} {Q:AV->AS->Prop} (st:St C Z s σ) (ha:σ.hp a=some (.list xs)) (hz:xs.length≤1000000) (h:∀ r,σ.hp r=none->Q (.ref r) { σ with hp:=σ.hp.set r (.tup xs) }) :
  wpAny C.M C.A (call (.type "tuple") [.ref a]) (LE C Z Q) NE s:=by
 refine dy (st.isList ha) fun vs c e hv=>?_
 have l:=hv.length
 refine call_tuple_list (aR e) (fun h₁ hk=>?_) (by simp only [List.size_toArray,sizeLine_eq];omega)
 refine st.elim fun mf m ce ne δ F hm N nd H Lr=>?_
 have F':=F.keeps hk
 have N':News C.hz C.L h₁ (Z++(ce++ne)):=fun p hp=>⟨hk _ _ (N p hp).1,(N p hp).2⟩
 refine bx (st.jI (tk:=s.toks) hm nd H Lr (F'.push _) (N'.push F' (rr vs.toArray 0)) (fun p hp=>Heap.lt_size (N' p hp).1) (ao := .tup xs) rfl fun ne hn => .tup hn hv) fun st' e=>?_
 exact⟨_,_,.ref _,st',h _ e⟩
theorem cK.ints {vs:List Value}:∀ {ns:List Int},cK vs (ns.map AV.int)->IntsAre vs ns:=by
 induction vs with
 | nil=>intro ns h;cases ns with
  | nil=>exact .nil
  | cons=>contradiction
 | cons v r ih=>intro ns h;cases ns with
  | nil=>contradiction
  | cons n ns =>
   cases h with
   | cons h1 h2=>cases h1 with
    | int i t=>exact .cons _ t (ih h2)
theorem FC {a:Addr} {ns:List Int} {Q:AV->AS->Prop} (ok:C.Ok n) (st:St C Z s σ) (ha:σ.hp a=some (.list (ns.map .int))) (cn:0<ns.length) (h:∀ m,m∈ns->(∀ b∈ns,m≤b)->Q (.int m) σ) :
  wpAny C.M C.A (call (.builtin "min") [.ref a]) (LE C Z Q) NE s:=by
 refine dy (st.isList ha) fun vs c e hv=>?_
 refine st.elim fun mf m ce ne δ F hm N nd H Lr=>?_
 exact min_list_N ok.hh F N (aR e) hv.ints cn fun h' M t tk F' N' h1 h2=>⟨_,_,.int _ _,st.mk F' hm N' nd H Lr,h M h1 h2⟩
theorem FE {a:Addr} {ns:List Int} {Q:AV->AS->Prop} (ok:C.Ok n) (st:St C Z s σ) (ha:σ.hp a=some (.list (ns.map .int))) (h:Q (.int ns.sum) σ) :
  wpAny C.M C.A (call (.builtin "sum") [.ref a]) (LE C Z Q) NE s:=by
 refine dy (st.isList ha) fun vs c e hv=>?_
 refine st.elim fun mf m ce ne δ F hm N nd H Lr=>?_
 exact sumK ok.hh F N (aR e) hv.ints fun h' tk t F' N'=>⟨_,_,.int _ _,st.mk F' hm N' nd H Lr,h⟩
theorem uo {a:Addr} {xs:List AV} {v:Value} {av:AV} {Q:AV->AS->Prop} (st:St C Z s σ) (hsa:a≠SA) (ha:σ.hp a=some (.list xs)) (hv:VR v av) (hz:xs.length≤1000000) (h:Q .none { σ with hp:=σ.hp.set a (.list (xs++[av])) }) :
  wpAny C.M C.A (call (.builtin "list.append") [.ref a,v]) (LE C Z Q) NE s:=by
 refine st.elim fun mf m ce ne δ F hm N nd H Lr=>?_
 cases H.rep _ _ ha with
 | @list _ vs k h1 hr =>
  have l:=hr.length
  refine append_K F N (zK nd _ (bP h1)) (fun h' F' N'=>?_) (by simp only [List.size_toArray,sizeLine_eq];omega)
  rw [zI nd h1] at N'
  refine⟨_,{ σ with hp:=σ.hp.set a (.list (xs++[av])) },.none,st.mk (tk:=s.toks) F' hm N' (by rw [fP];exact nd) (H.sS (ao' := .list (xs++[av])) hsa ha rfl (fun o' h'=>cj (i9 nd) h' h1▸eM (by decide)) ?_) Lr,h⟩
  exact .list (vs:=vs++[v]) (n:=k+1) (by rw [show (vs++[v]).toArray=vs.toArray.push v by simp];exact bE h1) (hr.append (.cons hv .nil))
theorem uB {a:Addr} {xs:List AV} {pl:Sem Bool} {Q:Value×List Value->Shared->Prop} (st:St C Z s σ) (ha:σ.hp a=some (.list xs)) (h:Q (.builtin "list.append",[.ref a]) s) :
  wpAny C.M C.A (getMethod (.ref a) (Str.ofString "append") pl) Q NE s:=by
 refine dy (st.isList ha) fun vs c e hv=>?_
 refine st.elim fun mf m ce ne δ F hm N nd H Lr=>?_
 cases H.rep _ _ ha with
 | @list _ vs k h1 hr=>exact listMethod_K N (bP h1) PySem.F.slot_list_append PySem.F.type_list_append h
theorem Ay {i:Int} {t:Tok} {pl:Sem Bool} {Q:Value×List Value->Shared->Prop} (h:Q (.builtin "int.bit_length",[.int i t]) s):wpAny C.M C.A (getMethod (.int i t) (Str.ofString "bit_length") pl) Q NE s :=
 getMethod_int_bit_length h
end
section
variable {C:Cx} {n:Nat} {Z:Led} {s:Shared} {σ:AS}
noncomputable def notStar (e:Expr):Bool := !Nat.beq e.ctorIdx 22
theorem nN {e:Expr} {r:List Expr} {env:Env} (h:notStar e=true):starEach (e::r) env=(false,eval e env)::starEach r env:=by
 cases e<;>first | rfl | contradiction
theorem bA {pos:Pos} {env:Env}:∀ {es:List Expr},es.all notStar=true->backTo pos (starEach es env)=es.map fun e=>(false,eval e env)
 | [],_=>rfl
 | e::r,h=>by
  simp only [List.all_cons,Bool.and_eq_true] at h
  rw [nN h.1]
  refine (?_:(false,eval e env)::backTo pos (starEach r env)=_)
  rw [bA h.2];rfl
theorem qF {pos:Pos} {env:Env} {es:List Expr} (he:es.all notStar=true):(backTo pos (starEach es env)).any (·.1)=false:=by
 rw [bA he]
 induction es with
 | nil=>rfl
 | cons e r ih =>
  simp only [List.all_cons,Bool.and_eq_true] at he
  rw [List.map_cons,List.any_cons,ih he.2];rfl
theorem Gg (ok:C.Ok n) {a K f:Addr} {x:Nat} {fs:List (Nat×AV)} {pl:Sem Bool} {Q:Value×List Value->Shared->Prop} (st:St C Z s σ) (ha:σ.hp a=some (.inst K fs)) (hm:C.T.aQ K x=some f) (h:Q (.ref f,[.ref a]) s) :
  wpAny C.M C.A (getMethod (.ref a) (C.T.nm x) pl) Q NE s:=by
 refine st.elim fun mf m ce ne δ F hmm N nd H Lr=>?_
 cases H.rep _ _ ha with
 | inst h1 h2 fr =>
  refine md (ok.k.mt K x f hm) fun e1 e2 e3=>?_
  exact method_inst F ok.X (InstAt.of_news N (bP h1) (bP h2)) (e1 _) e2 e3 (fr.miss _ fun y hy=>C.T.KY K x y f hm hy) h
noncomputable def eL (e:Expr):Bool:=by
 cases e with
 | Call _ as _ _=>exact !as.isEmpty
 | _=>exact true
theorem pY {o:Expr} {x:Str} {env:Env} {t:Sem Value} (h:eL o=true):attributeBase o x env t=t:=by
 cases o with
 | Call f as ks p =>
  cases as with
  | nil=>contradiction
  | cons=>cases f<;>rfl
 | _=>rfl
end
section
variable {C:Cx} {n:Nat} {Z:Led} {s:Shared} {σ:AS}
noncomputable def _root_.Mine.Cx.Off (C:Cx) (it:Addr):Prop:=C.fn=false->it≠C.env.locals∧∀ (i:Nat) (x:Str),C.names[i]?=some (x,NameKind.cell)->C.env.cells.lookup x≠some it
theorem gr {it:Addr} {o:Obj} {m:Str->Option Value} {ce:Led} {loc:List (Option AV)} (Lr:LR C ((it,o)::Z) m ce loc) (cn:C.Off it):LR C Z m ce loc :=
 ⟨fun e=>by
  refine aA (Lr.q e) fun o1 h1 h2=>?_
  rcases List.mem_cons.mp h1 with q | h1
  ·exact absurd (Prod.mk.inj q).1.symm (cn e).1
  ·exact⟨o1,h1,h2⟩,Lr.l,fun i x hx=>by
  refine n9 (Lr.c i x hx) fun c o1 v h1 h2 h3=>?_
  refine⟨c,o1,v,h1,h2.imp id (fun q=>⟨q.1,?_⟩),h3⟩
  rcases List.mem_cons.mp q.2 with z | h
  ·exact absurd ((Prod.mk.inj z).1▸h1) ((cn q.1).2 i x hx)
  ·exact h,Lr.i⟩
theorem St.grown (st:St C Z s σ) {h':Heap} {tk:Nat} (hk:∀ b o,s.heap.get? b=some o->h'.get? b=some o):St C Z { s with heap:=h',toks:=tk } σ:=by
 refine st.elim fun mf m ce ne δ F hm N nd H Lr=>?_
 exact st.mk (F.keeps hk) hm (fun p hp=>⟨hk _ _ (N p hp).1,(N p hp).2⟩) nd H Lr
theorem LR.tL {m:Str->Option Value} {ce:Led} {loc:List (Option AV)} (Lr:LR C Z m ce loc) (p:Addr×Obj):LR C (p::Z) m ce loc :=
 ⟨fun e=>aA (Lr.q e) fun o h1 h2=>⟨o,.tail _ h1,h2⟩,Lr.l,fun i x hx=>n9 (Lr.c i x hx) fun c o v h1 h2 h3=>⟨c,o,v,h1,h2.imp id (fun q=>⟨q.1,.tail _ q.2⟩),h3⟩,Lr.i⟩
theorem St.qL (st:St C Z s σ) (o:Obj) (hf:o.isFreed=false) {tk:Nat}:St C ((s.heap.objs.size,o)::Z) { s with heap:=s.heap.push o,toks:=tk } σ∧C.Off s.heap.objs.size:=by
 refine st.elim fun mf m ce ne δ F hm N nd H Lr=>?_
 have lt:=fun p hp=>Heap.lt_size (N p hp).1
 refine⟨⟨⟨mf,m,ce,ne,δ,F.push _,hm,?_,?_,H,Lr.tL _⟩,st.2⟩,fun e=>⟨fun q=>?_,fun i x hx q=>?_⟩⟩
 ·exact N.push F o hf
 ·simp only [keys,List.cons_append,List.map_cons,List.nodup_cons] at nd ⊢
  refine⟨fun q=>?_,nd⟩
  refine aA (List.mem_map.mp q) fun p hp e=>?_
  exact absurd (e▸lt p hp) (Nat.lt_irrefl _)
 ·refine aA (Lr.q e) fun o' h1 _=>?_
  exact absurd (q▸lt _ (qC h1)) (Nat.lt_irrefl _)
 ·refine n9 (Lr.c i x hx) fun c o' v h1 h2 _=>?_
  skip
  replace q:=h1▸q;have q:=Option.some.inj q;subst q
  exact absurd (lt _ (h2.elim lL fun q=>qC q.2)) (Nat.lt_irrefl _)
theorem St.zJ {it:Addr} {o o':Obj} (st:St C ((it,o)::Z) s σ) (cn:C.Off it) {h':Heap} {tk:Nat} (hs:Heap.SameBut it s.heap h') (ho:h'.get? it=some o'):St C ((it,o')::Z) { s with heap:=h',toks:=tk } σ:=by
 refine st.elim fun mf m ce ne δ F hm N nd H Lr=>?_
 have z:=N (it,o) (.head _)
 have nd':=nd
 simp only [keys,List.cons_append,List.map_cons,List.nodup_cons] at nd'
 refine⟨⟨mf,m,ce,ne,δ,F.change hs z.2.1 z.2.2,hm,?_,?_,H,(gr Lr cn).tL _⟩,st.2⟩
 ·intro p hp
  rcases List.mem_cons.mp hp with rfl | hp
  ·exact⟨ho,z.2⟩
  ·skip
   exact⟨(hs.2 _ (fun e=>nd'.1 (List.mem_map.mpr ⟨p,hp,e⟩))).trans (N p (.tail _ hp)).1,(N p (.tail _ hp)).2⟩
 ·skip
  exact nd
theorem St.ER {it:Addr} {o:Obj} (st:St C ((it,o)::Z) s σ) (cn:C.Off it):St C Z s σ:=by
 refine st.elim fun mf m ce ne δ F hm N nd H Lr=>?_
 refine⟨⟨mf,m,ce,(it,o)::ne,δ,F,hm,?_,?_,H.more _,gr Lr cn⟩,st.2⟩
 ·intro p hp
  refine N p ?_
  rcases List.mem_append.mp hp with h | h
  ·exact .tail _ (List.mem_append_left _ h)
  ·refine Or.elim (List.mem_append.mp h) (fun h=>?_) (fun h=>?_)
   ·exact .tail _ (lL h)
   ·rcases List.mem_cons.mp h with rfl | h
    ·exact .head _
    ·exact .tail _ (bP h)
 ·simp only [keys,List.map_append,List.map_cons,List.cons_append,List.nodup_cons] at nd ⊢
  rw [List.perm_middle.append_left _ |>.nodup_iff,List.perm_middle.nodup_iff,List.nodup_cons]
  exact nd
theorem St.nL {p:Addr×Obj} (st:St C Z s σ) (h:p∈Z):s.heap.get? p.1=some p.2:=by
 refine st.elim fun mf m ce ne δ F hm N nd H Lr=>?_
 exact N.get (a:=p.1) (o:=p.2) (qC h)
theorem St.tI {it:Addr} {o:Obj} (st:St C ((it,o)::Z) s σ) (cn:C.Off it) {h':Heap} {tk:Nat} (hs:Heap.ExtBut it s.heap h'):St C Z { s with heap:=h',toks:=tk } σ:=by
 refine st.elim fun mf m ce ne δ F hm N nd H Lr=>?_
 skip
 simp only [keys,List.cons_append,List.map_cons,List.nodup_cons] at nd
 skip
 refine Pa F.ns fun oL es ep hL r=>?_
 refine⟨⟨mf,m,ce,ne,δ,⟨⟨oL,es,ep,hs _ _ (Ne.symm (N (it,o) (.head _)).2.1) hL,r⟩,fun b x e=>hs b x (fun q=>?_) (F.keep b x e),F.above⟩,hm,?_,nd.2,H,gr Lr cn⟩,st.2⟩
 ·replace e:=(N (it,o) (.head _)).2.2▸q▸e;contradiction
 ·intro p hp
  skip
  exact⟨hs _ _ ((fun p hp e=>nd.1 (List.mem_map.mpr ⟨p,hp,e⟩)) p hp) (N p (.tail _ hp)).1,(N p (.tail _ hp)).2⟩
structure PR (C:Cx) (it:Addr) (N:Nat) (item:Nat->AV) (P:AS->Prop) (Ob:Nat->Obj->Prop):Prop where
 cn:C.Off it
 next:∀ k o Z s σ Q,k<N->Ob k o->St C ((it,o)::Z) s σ->P σ->(∀ v o' s',VR v (item k)->Ob (k+1) o'->St C ((it,o')::Z) s' σ->Q (some v) s')->wpAny C.M C.A (pyNext (.ref it)) Q NE s
 done:∀ o Z s σ Q,Ob N o->St C ((it,o)::Z) s σ->P σ->(∀ s',St C Z s' σ->Q none s')->wpAny C.M C.A (pyNext (.ref it)) Q NE s
noncomputable def RX (l:Addr) (k:Nat) (o:Obj):Prop:=o.cls = .type "list_iterator" ∧ o.data = .fields #[.ref l,.int k 0]
theorem wO (hh:C.A.handled=none) {it l:Addr} {xs:List AV} (cn:C.Off it):PR C it xs.length (fun k=>xs.getD k .none) (fun σ=>σ.hp l=some (.list xs)) (RX l):=by
 refine⟨cn,?_,?_⟩
 ·intro k o Z s σ Q hk zr7 st hp h;refine bx zr7 fun ho1 ho2=>?_
  refine dy (st.isList hp) fun vs c e hv=>?_
  skip
  have hx:xs[k]?=some xs[k]:=List.getElem?_eq_getElem hk
  refine aA (hv.get hx) fun v hv1 hv2=>?_
  refine wpAny_pyNext_list_item (⟨_,st.nL (.head _),ho1,ho2⟩) (aR e) (by simpa using hv1) fun h' hit' hs=>?_
  refine jT hit' fun o' ho' hc' hd'=>?_
  refine h v o' _ ?_ ⟨hc',hd'⟩ (st.zJ (tk:=s.toks) cn hs ho')
  rw [List.getD_eq_getElem?_getD,hx];exact hv2
 ·intro o Z s σ Q zr5 st hp h;refine bx zr5 fun ho1 ho2=>?_
  refine dy (st.isList hp) fun vs c e hv=>?_
  have hl:=hv.length
  skip
  exact wpAny_pyNext_list_end hh (⟨_,st.nL (.head _),ho1,ho2⟩) (aR e) (by simp;omega) fun h' he=>h _ (st.tI (tk:=s.toks) cn he)
noncomputable def Rj (a st:Int) (N k:Nat) (o:Obj):Prop:=o={ cls := .type "range_iterator",data := .fields #[rawInt (a+k*st),rawInt ((N:Int)-k),rawInt st] }
theorem uD (hh:C.A.handled=none) {it:Addr} {a step:Int} {N:Nat} (cn:C.Off it):PR C it N (fun k => .int (a+k*step)) (fun _=>True) (Rj a step N):=by
 refine⟨cn,?_,?_⟩
 ·intro k o Z s σ Q hk zr7 st _ h;subst zr7
  refine wpAny_pyNext_range_item (st.nL (.head _)) (by omega) fun h' hit' hs=>?_
  refine h _ _ _ (.int _ _) ?_ (st.zJ cn hs hit')
  refine (?_:_=_)
  have e1:a+(k:Int)*step+step=a+((k+1:Nat):Int)*step:=by
   simp only [Int.natCast_succ,Int.add_mul,Int.one_mul,Int.add_assoc]
  have e2:(N:Int)-(k:Int)-1=(N:Int)-((k+1:Nat):Int):=by omega
  exact e1▸e2▸rfl
 ·intro o Z s σ Q zr5 st _ h;subst zr5
  exact wpAny_pyNext_range_end hh (st.nL (.head _)) (by omega) fun h' he=>h _ (st.tI (tk:=s.toks) cn he)
end
end Mine
end
section
open PySem PySem.W PySem.Calls PyProof.Rows
set_option Elab.async false
set_option genSizeOf false
set_option genInjectivity false
set_option maxRecDepth 100000
set_option autoImplicit false
set_option linter.unusedVariables false
namespace Mine
section
variable {C:Cx} {n:Nat} {Z:Led} {s:Shared} {σ:AS}
theorem DS (n:Nat) {y:Int} (h:0≤y):sliceBounds none (some y) none n=(((0:Nat):Int),((min y.toNat n:Nat):Int),1):=by
 simp only [sliceBounds,Option.getD_none,show (1:Int)>0 by decide,if_true,if_neg (by omega:¬ (y<0))]
 congr 1
 congr 1
 omega
theorem DQ (n:Nat) {x:Int} (h:0≤x):sliceBounds (some x) none none n=(((min x.toNat n:Nat):Int),((n:Nat):Int),1):=by
 simp only [sliceBounds,Option.getD_none,show (1:Int)>0 by decide,if_true,if_neg (by omega:¬ (x<0))]
 congr 1
 omega
theorem DZ {vs:List Value} {xs:List AV} (hv:cK vs xs) {y:Int} (h:0≤y):cK (slicePick vs.toArray none (some y) none).toList (xs.take y.toNat):=by
 rw [kmk_pick_nat _ (DS _ h)]
 refine (?_:cK ((vs.drop 0).take (min y.toNat vs.toArray.size-0)) _)
 rw [List.drop_zero,Nat.sub_zero,List.size_toArray,kmk_take_min]
 exact hv.take _
theorem DY {vs:List Value} {xs:List AV} (hv:cK vs xs) {x:Int} (h:0≤x):cK (slicePick vs.toArray (some x) none none).toList (xs.drop x.toNat):=by
 rw [kmk_pick_nat _ (DQ _ h)]
 refine (?_:cK ((vs.drop (min x.toNat vs.toArray.size)).take (vs.toArray.size-min x.toNat vs.toArray.size)) _)
 rw [List.size_toArray,kmk_drop_min,List.take_of_length_le (by rw [List.length_drop];omega)]
 exact hv.drop _
theorem jc {value slice:Expr} {o i:Value} {T id:String} {Q:Value->Shared->Prop} (hT:s.TypeIs o T) (hl:typeLookup (.type T) "__getitem__" = pure (some (.builtin id))) (hg:wpAny C.M C.A (getItem o i) Q NE s)
  {ops:List Value} (hs:subscripted slice false o i=operate ops (getItem o i)):wpAny C.M C.A (subscriptTail value slice o i) Q NE s:=tail_any hT hl hg hs
theorem t6 {a:Addr} {xs ys:List AV} {value slice:Expr} {vl vu:Value} {lo hi:Option Int} {Q:AV->AS->Prop} (hslice:slice = .Slice none none none default∨∃ l u p,slice = .Slice l u none p) (st:St C Z s σ) (ha:σ.hp a=some (.list xs)) (pl:IsPart vl lo) (pu:IsPart vu hi)
  (hp:∀ vs:List Value,cK vs xs->cK (slicePick vs.toArray lo hi none).toList ys) (hz:xs.length≤1000000) (h:∀ r,σ.hp r=none->Q (.ref r) { σ with hp:=σ.hp.set r (.list ys) }) {tk:Nat} :
  wpAny C.M C.A (subscriptTail value slice (.ref a) (.ref s.heap.objs.size)) (LE C Z Q) NE { s with heap:=s.heap.push { cls := .type "slice",data := .fields #[vl,vu,.none] },toks:=tk }:=by
 refine dy (st.isList ha) fun vs c e hv=>?_
 refine st.elim fun mf m ce ne δ F hm N nd H Lr=>?_
 have l:=hv.length
 skip
 skip
 refine jc (Heap.IsList.typeIs (s:={ s with heap:=s.heap.push { cls := .type "slice",data := .fields #[vl,vu,.none] },toks:=tk }) ((aR e).push _)) list_getitem_lookup
  (wpAny_getItem_list_slice ((aR e).push _) (Heap.IsSliceOf.new ..) pl pu .none (by trivial) ?_ (by simp only [List.size_toArray,sizeLine_eq];omega)) (ops:=[.ref s.heap.objs.size,.ref a]) ?_
 ·have N1:=News.push (F.push { cls := .type "slice",data := .fields #[vl,vu,.none] }) (N.grown fun _ _ e=>Heap.get?_push_of_some _ e) { cls := .type "list",data := .seq (slicePick vs.toArray lo hi none) }
  rw [Heap.size_push] at N1
  rw [show (slicePick vs.toArray lo hi none)=(slicePick vs.toArray lo hi none).toList.toArray by rfl] at N1
  refine bx (st.jI (tk:=tk) hm nd H Lr ((F.push _).push _) N1 (fun p hp=>Nat.lt_succ_of_lt (Heap.lt_size (N p hp).1)) (ao := .list ys) rfl fun ne hn => .list hn (hp vs hv)) fun st' e=>?_
  refine⟨_,_,?_,st',h _ e⟩
  rw [Heap.size_push]
  exact .ref _
 ·rcases hslice with rfl | ⟨l,u,p,rfl⟩<;>rfl
noncomputable def dj (e:Expr):Bool := !Nat.beq e.ctorIdx 26
theorem pM {slice:Expr} {o i:Value} (h:dj slice=true):subscripted slice false o i=operate [o,i] (getItem o i):=by
 cases slice<;>first | rfl | contradiction
theorem Ex {a:Addr} {xs:List AV} {k:Int} {t:Tok} {av:AV} {value slice:Expr} {Q:AV->AS->Prop} (hns:dj slice=true) (st:St C Z s σ) (ha:σ.hp a=some (.list xs)) (h0:0≤k) (hi:k<1000000) (hx:xs[k.toNat]?=some av) (h:Q av σ) :
  wpAny C.M C.A (subscriptTail value slice (.ref a) (.int k t)) (LE C Z Q) NE s:=by
 refine dy (st.isList ha) fun vs c e hv=>?_
 exact jc (aR e).typeIs list_getitem_lookup (Aw st ha h0 hi hx h) (pM hns)
theorem JG {a:Addr} {xs:List AV} {k:Int} {t:Tok} {av:AV} {value slice:Expr} {Q:AV->AS->Prop} (hns:dj slice=true) (st:St C Z s σ) (ha:σ.hp a=some (.tup xs)) (h0:0≤k) (hi:k<1000000) (hx:xs[k.toNat]?=some av) (h:Q av σ) :
  wpAny C.M C.A (subscriptTail value slice (.ref a) (.int k t)) (LE C Z Q) NE s:=by
 refine dy (st.isTup ha) fun vs c e hv=>?_
 exact jc (i5 e).typeIs slot_tuple_getitem.lookup (Gb st ha h0 hi hx h) (pM hns)
theorem zy {b:List UInt8} {t u:Tok} {k:Int} {c:UInt8} {value slice:Expr} {Q:AV->AS->Prop} (hns:dj slice=true) (st:St C Z s σ) (h0:0≤k) (hz:b.length≤1000000) (hx:b[k.toNat]?=some c) (h:Q (.int (c.toNat:Nat)) σ) :
  wpAny C.M C.A (subscriptTail value slice (.bytes b.toArray t) (.int k u)) (LE C Z Q) NE s :=
 jc (T := "bytes") rfl PySem.W.FB.slot_bytes_getitem.lookup (wH st h0 hz hx h) (pM hns)
theorem KR.valueAt {aF:List (Int×Value)} {as:List (Int×AV)} (h:KR aF as) (k:Int):(PySem.valueAt aF k=none∧as.lookup k=none)∨∃ v a,PySem.valueAt aF k=some v∧as.lookup k=some a∧VR v a:=by
 induction h with
 | nil=>exact .inl ⟨rfl,rfl⟩
 | @cons j v a r q hv _ ih =>
  by_cases e:j=k
  ·subst e
   refine .inr ⟨v,a,?_,?_,hv⟩
   ·simp [PySem.valueAt]
   ·simp [List.lookup]
  ·have e1:(k==j)=false:=by simp;omega
   have e2:PySem.valueAt ((j,v)::r) k=PySem.valueAt r k:=by simp [PySem.valueAt,e]
   rw [e2,List.lookup_cons,e1]
   exact ih
theorem KR.length {aF:List (Int×Value)} {as:List (Int×AV)} (h:KR aF as):aF.length=as.length:=by
 induction h with
 | nil=>rfl
 | cons _ _ ih=>simp [ih]
theorem KR.app {aF qs:List (Int×Value)} {as bs:List (Int×AV)} (h:KR aF as) (k:KR qs bs):KR (aF++qs) (as++bs):=by
 induction h with
 | nil=>exact k
 | cons hv _ ih=>exact .cons hv ih
theorem xf (ok:C.Ok n) {pos:Pos} {Q:AV->AS->Prop} (st:St C Z s σ) (h:∀ r,σ.hp r=none->Q (.ref r) { σ with hp:=σ.hp.set r (.az []) }):wpAny C.M C.A (eval (.Dict [] [] pos) C.env) (LE C Z Q) NE s:=by
 refine st.elim fun mf m ce ne δ F hm N nd H Lr=>?_
 refine newDict_K F N ok.top.nolimit fun d h' o F' N' lt lo _ _ hd _=>?_
 refine bx (st.jI (tk:=s.toks) hm nd H Lr F' N' lt (ao := .az []) rfl fun ne hn => .az hn hd .nil lo) fun st' e=>?_
 exact⟨_,_,.ref d,st',h _ e⟩
theorem Gf {a:Addr} {aF:List (Int×AV)} {pl:Sem Bool} {Q:Value×List Value->Shared->Prop} (st:St C Z s σ) (ha:σ.hp a=some (.az aF)) (h:Q (.builtin "dict.get",[.ref a]) s) :
  wpAny C.M C.A (getMethod (.ref a) (Str.ofString "get") pl) Q NE s:=by
 refine st.elim fun mf m ce ne δ F hm N nd H Lr=>?_
 cases H.rep _ _ ha with
 | az h1 hd kr lo=>exact kdg_method N (bP h1) hd h
theorem FJ {a:Addr} {aF:List (Int×AV)} {k:Int} {t:Tok} {Q:AV->AS->Prop} (st:St C Z s σ) (ha:σ.hp a=some (.az aF)) (h:Q ((aF.lookup k).getD .none) σ):wpAny C.M C.A (call (.builtin "dict.get") [.ref a,.int k t]) (LE C Z Q) NE s:=by
 refine st.elim fun mf m ce ne δ F hm N nd H Lr=>?_
 cases H.rep _ _ ha with
 | @az _ o kv h1 hd kr lo =>
  refine kdg_get1 N (bP h1) hd lo (intKind_is _ _ _ _) _ rfl ?_
  refine Or.elim (kr.valueAt k) (fun zq0=>bx zq0 fun e1 e2=>?_) (fun zq1=>nH zq1 fun v b e1 e2 hv=>?_)
  ·rw [e1];rw [e2] at h;exact⟨_,_,.none,st.tok,h⟩
  ·rw [e1];rw [e2] at h;exact⟨_,_,hv,st.tok,h⟩
theorem yV {a:Addr} {aF:List (Int×AV)} {k:Int} {t:Tok} {v:Value} {av:AV} {Q:Unit->Shared->Prop} (st:St C Z s σ) (ha:σ.hp a=some (.az aF)) (hn:aF.lookup k=none) (hv:VR v av) (hz:aF.length≤1000000)
  (h:∀ s',St C Z s' { σ with hp:=σ.hp.set a (.az (aF++[(k,av)])) }->Q () s'):wpAny C.M C.A (setItem (.ref a) (.int k t) v) Q NE s:=by
 refine st.elim fun mf m ce ne δ F hm N nd H Lr=>?_
 cases H.rep _ _ ha with
 | @az _ o kv h1 hd kr lo =>
  have l:=kr.length
  refine kda_set F N (jn nd (bP h1)) hd (intKind_is _ _ _ _) (by simp only [sizeLine_eq];omega) fun h' o' F' N' hd'=>?_
  rw [zI nd h1] at N'
  have hs:stored kv k v=kv++[(k,v)]:=by
   refine Or.elim (kr.valueAt k) (fun zq0=>bx zq0 fun e1 e2=>?_) (fun zq1=>nH zq1 fun v b e1 e2 hv=>?_)
   ·unfold stored
    rw [if_neg ?_]
    intro q
    rw [List.any_eq_true] at q
    refine aA q fun p hp hk=>?_
    unfold PySem.valueAt at e1
    rw [Option.map_eq_none_iff,List.find?_eq_none] at e1
    exact e1 p hp hk
   ·replace e2:=hn▸e2;contradiction
  rw [hs] at hd'
  refine h _ (st.mk (tk:=s.toks+1) F' hm N' (by rw [fP];exact nd) (H.sS (ao' := .az (aF++[(k,av)])) (H.off (i9 nd) h1 (by refine dy hd fun es ep he _=>?_;rw [he.1];exact eM (by decide))) ha rfl (fun o2 h2=>by rw [cj (i9 nd) h2 h1];refine dy hd fun es ep he _=>?_;rw [he.1];exact eM (by decide)) ?_) Lr)
  exact .az (bE h1) hd' (kr.app (.cons hv .nil)) lo
theorem FD {Q:AV->AS->Prop} (st:St C Z s σ) (h:∀ r,σ.hp r=none->Q (.ref r) { σ with hp:=σ.hp.set r (.bg (fun _=>false) 0) }):wpAny C.M C.A (call (.type "set") []) (LE C Z Q) NE s:=by
 refine st.elim fun mf m ce ne δ F hm N nd H Lr=>?_
 refine kse_new F N fun D h' led F' N' lt hs _=>?_
 refine bx (st.jI (tk:=s.toks) hm nd H Lr F' N' lt (ao := .bg (fun _=>false) 0) rfl fun ne hn => .bg hn hs) fun st' e=>?_
 exact⟨_,_,.ref D,st',h _ e⟩
theorem Ge {a:Addr} {S:Int->Bool} {c:Nat} {pl:Sem Bool} {Q:Value×List Value->Shared->Prop} (st:St C Z s σ) (ha:σ.hp a=some (.bg S c)) (hz:c<4000) (h:Q (.builtin "set.add",[.ref a]) s) :
  wpAny C.M C.A (getMethod (.ref a) (Str.ofString "add") pl) Q NE s:=by
 refine st.elim fun mf m ce ne δ F hm N nd H Lr=>?_
 cases H.rep _ _ ha with
 | bg h1 hs=>exact kse_method N (jn nd (bP h1)) hs (by unfold scanBound;omega) h
theorem FI {a:Addr} {S:Int->Bool} {c:Nat} {k:Int} {t:Tok} {Q:AV->AS->Prop} (st:St C Z s σ) (ha:σ.hp a=some (.bg S c)) (hz:c<4000) (h:Q .none { σ with hp:=σ.hp.set a (.bg (fun k'=>S k'||decide (k'=k)) (if S k then c else c+1)) }) :
  wpAny C.M C.A (call (.builtin "set.add") [.ref a,.int k t]) (LE C Z Q) NE s:=by
 refine st.elim fun mf m ce ne δ F hm N nd H Lr=>?_
 cases H.rep _ _ ha with
 | bg h1 hs =>
  refine kse_add F N (jn nd (bP h1)) hs (by unfold scanBound;omega) (intKind_is _ _ _ _) rfl fun h' so' F' N' hs'=>?_
  rw [zI nd h1] at N'
  refine⟨_,{ σ with hp:=σ.hp.set a (.bg (fun k'=>S k'||decide (k'=k)) (if S k then c else c+1)) },.none,st.mk (tk:=s.toks+1) F' hm N' (by rw [fP];exact nd) (H.sS (H.off (i9 nd) h1 (by rw [hs.1.1];exact eM (by decide))) ha rfl (fun o2 h2=>by rw [cj (i9 nd) h2 h1,hs.1.1];exact eM (by decide)) (.bg (bE h1) hs')) Lr,h⟩
theorem Kk {a:Addr} {S:Int->Bool} {c:Nat} {k:Int} {t:Tok} {Q:Value->Shared->Prop} (st:St C Z s σ) (ha:σ.hp a=some (.bg S c)) (hz:c<4000) (h:Q (.bool (S k)) { s with toks:=s.toks+1 }) :
  wpAny C.M C.A (compareOp .In (.int k t) (.ref a)) Q NE s:=by
 refine st.elim fun mf m ce ne δ F hm N nd H Lr=>?_
 cases H.rep _ _ ha with
 | bg h1 hs=>exact kse_in N (jn nd (bP h1)) hs (by unfold scanBound;omega) (intKind_is _ _ _ _) rfl h
theorem uj {b:Int} {u:Tok} {Q:AV->AS->Prop} (st:St C Z s σ) (h:∀ r,σ.hp r=none->Q (.ref r) { σ with hp:=σ.hp.set r (.range 0 b 1) }):wpAny C.M C.A (call (.type "range") [.int b u]) (LE C Z Q) NE s:=by
 refine st.elim fun mf m ce ne δ F hm N nd H Lr=>?_
 refine call_range_1 ?_
 refine bx (st.jI (tk:=s.toks+1+1) hm nd H Lr (F.push (mi 0 b 1 s.toks u (s.toks+1))) (N.push F _) (fun p hp=>Heap.lt_size (N p hp).1) (ao := .range 0 b 1) rfl fun ne hn => .range hn) fun st' e=>?_
 exact⟨_,_,.ref _,st',h _ e⟩
theorem uk {a b:Int} {t u:Tok} {Q:AV->AS->Prop} (st:St C Z s σ) (h:∀ r,σ.hp r=none->Q (.ref r) { σ with hp:=σ.hp.set r (.range a b 1) }):wpAny C.M C.A (call (.type "range") [.int a t,.int b u]) (LE C Z Q) NE s:=by
 refine st.elim fun mf m ce ne δ F hm N nd H Lr=>?_
 refine call_range_2 ?_
 refine bx (st.jI (tk:=s.toks+1) hm nd H Lr (F.push (mi a b 1 t u s.toks)) (N.push F _) (fun p hp=>Heap.lt_size (N p hp).1) (ao := .range a b 1) rfl fun ne hn => .range hn) fun st' e=>?_
 exact⟨_,_,.ref _,st',h _ e⟩
theorem um {a b c:Int} {t u v:Tok} {Q:AV->AS->Prop} (hc:c = -1) (st:St C Z s σ) (h:∀ r,σ.hp r=none->Q (.ref r) { σ with hp:=σ.hp.set r (.range a b c) }):wpAny C.M C.A (call (.type "range") [.int a t,.int b u,.int c v]) (LE C Z Q) NE s:=by
 refine st.elim fun mf m ce ne δ F hm N nd H Lr=>?_
 refine call_range_3 (by omega) ?_ (.inl (PyProof.noPylong_small (by omega)))
 refine bx (st.jI (tk:=s.toks) hm nd H Lr (F.push (mi a b c t u v)) (N.push F _) (fun p hp=>Heap.lt_size (N p hp).1) (ao := .range a b c) rfl fun ne hn => .range hn) fun st' e=>?_
 exact⟨_,_,.ref _,st',h _ e⟩
end
section
variable {C:Cx} {n:Nat} {Z:Led} {s:Shared} {σ:AS}
noncomputable def mn (C:Cx) (i:Nat) (x:Str):Prop:=∃ k,C.names[i]?=some (x,k)∧(k=NameKind.local∨k=NameKind.cell)∧C.fn=true
theorem t8 (ok:C.Ok n) {i:Nat} {x:Str} {v:Value} {av:AV} {Q:Unit->Shared->Prop} (st:St C Z s σ) (hx:mn C i x) (hv:VR v av) (h:∀ s',St C Z s' (dZ σ i av)->Q () s') :
  wpAny C.M C.A (storeName C.env x v) Q NE s:=by
 refine jT hx fun k hk zp2 hf=>?_;obtain (rfl | rfl):=zp2
 ·exact zm ok hf st hk hv h
 ·exact Eo ok hf st hk hv h
theorem oD (ok:C.Ok n) {i:Nat} {x:Str} {pos:Pos} {v:Value} {av:AV} {Q:Unit->Shared->Prop} (st:St C Z s σ) (hx:mn C i x) (hv:VR v av) (h:∀ s',St C Z s' (dZ σ i av)->Q () s') :
  wpAny C.M C.A (assign (.Name x pos) C.env v) Q NE s:=wpAny_assign_Name (t8 ok st hx hv h)
noncomputable def bR (σ:AS):List Nat->List AV->AS
 | i::is,a::as=>bR (dZ σ i a) is as
 | _,_=>σ
@[simp] theorem m7:∀ (is:List Nat) (as:List AV) (σ:AS),(bR σ is as).hp=σ.hp
 | [],_,_=>rfl
 | _::_,[],_=>rfl
 | i::is,a::as,σ=>by show (bR (dZ σ i a) is as).hp=_;rw [m7 is as];rfl
inductive b0 (C:Cx):List Expr->List Nat->List Str->Prop where
 | nil:b0 C [] [] []
 | cons {x:Str} {pos:Pos} {i:Nat} {ts:List Expr} {is:List Nat} {xs:List Str}:mn C i x->b0 C ts is xs->b0 C (.Name x pos::ts) (i::is) (x::xs)
theorem b0.each {ts:List Expr} {is:List Nat} {xs:List Str} (h:b0 C ts is xs) (env:Env):assignEach ts env=ts.map fun t=>(false,assign t env):=by
 induction h with
 | nil=>rfl
 | cons _ _ ih=>refine (?_:(false,_)::assignEach _ env=_);simp only [ih];rfl
theorem vL (ok:C.Ok n) {ts:List Expr} {is:List Nat} {xs:List Str} (h:b0 C ts is xs):∀ {vs:List Value} {as:List AV} {s:Shared} {σ:AS} {Q:Unit->Shared->Prop},St C Z s σ->cK vs as->vs.length=ts.length →
  (∀ s',St C Z s' (bR σ is as)->Q () s')->wpAny C.M C.A (assignInOrder (ts.map fun t=>assign t C.env) vs) Q NE s:=by
 induction h with
 | nil =>
  intro vs as s σ Q st hv hl k
  cases hv with
  | nil=>exact fun _ _ _=>k s st
  | cons=>contradiction
 | cons hx _ ih =>
  intro vs as s σ Q st hv hl k
  cases hv with
  | nil=>contradiction
  | cons h1 h2 =>
   skip
   exact wpAny_bind (wpAny_holding (oD ok st hx h1 fun s' st'=>ih st' h2 (by simpa using hl) k))
theorem p7 (ok:C.Ok n):∀ {xs:List Str} {is:List Nat} {vs:List Value} {as:List AV} {s:Shared} {σ:AS} {Q:Unit->Shared->Prop},(∀ (j:Nat) (x:Str) (i:Nat),xs[j]?=some x->is[j]?=some i->mn C i x)->is.length=xs.length->St C Z s σ->cK vs as->vs.length=xs.length →
  (∀ s',St C Z s' (bR σ is as)->Q () s')->wpAny C.M C.A (assignInOrder (xs.map fun x=>bindName C.env x) vs) Q NE s
 | [],is,vs,as,s,σ,Q,hx,hi,st,hv,hl,k=>by
  cases hv with
  | nil=>cases is with
   | nil=>exact fun _ _ _=>k s st
   | cons=>contradiction
  | cons=>contradiction
 | x::xs,is,vs,as,s,σ,Q,hx,hi,st,hv,hl,k=>by
  cases hv with
  | nil=>contradiction
  | cons h1 h2 =>
   cases is with
   | nil=>contradiction
   | cons i is =>
    skip
    exact wpAny_bind (wpAny_holding (wpAny_bindName (t8 ok st (hx 0 x i rfl rfl) h1 fun s' st'=>p7 ok (fun j y i' e1 e2=>hx (j+1) y i' e1 e2) (by simpa using hi) st' h2 (by simpa using hl) k)))
theorem vM (ok:C.Ok n) {ts:List Expr} {is:List Nat} {xs:List Str} {k:Nat} {pos:Pos} {t:Addr} {as:List AV} {Q:Unit->Shared->Prop} (h:b0 C ts is xs) (st:St C Z s σ) (ht:σ.hp t=some (.tup as)) (hl:as.length=ts.length)
  (hk:∀ s',St C Z s' (bR σ is as)->Q () s'):wpAny C.M C.A (assign (.Tuple ts k pos) C.env (.ref t)) Q NE s:=by
 refine dy (st.isTup ht) fun vs c e hv=>?_
 have l:=hv.length
 refine assign_Tuple_tuple ok.hh (i5 e) ?_ ?_ fun h' he=>?_
 ·rw [h.each];simp;omega
 ·rw [h.each]
  have:∀ l:List Expr,List.findIdx? (fun x=>x.1) (l.map fun t=>(false,assign t C.env))=none:=fun l=>by
   rw [List.findIdx?_eq_none_iff]
   intro x hx
   refine aA (List.mem_map.mp hx) fun _ _ zp2=>?_;subst zp2
   rfl
  exact this ts
 ·rw [h.each,List.map_map]
  exact vL ok h (st.grown (tk:=s.toks) fun b o e=>he b o (Nat.ne_of_lt (Heap.lt_size e)) e) hv (by omega:vs.length=ts.length) hk
end
end Mine
end
section
open PySem PySem.W PySem.Calls PyProof.Rows
set_option Elab.async false
set_option genSizeOf false
set_option genInjectivity false
set_option maxRecDepth 100000
set_option autoImplicit false
set_option linter.unusedVariables false
open PySem.Sem (wp)
namespace Mine
/-! A logic beside wpAny: the stack holds no code that j6 a bytearray's memory out.
  (wpAny speaks of all stacks,so that a bytearray's resize cannot be shown in it.) -/
noncomputable def dA:List String:=["bytearray.__contains__","bytearray.__mod__","bytearray.__rmod__","_struct.pack_into.held","bytearray.find.held"]++Builtin.Bytes.decodersThatHold
noncomputable def j6:Code->Bool
 | .builtin id _=>dA.contains id
 | _=>false
noncomputable def PL (l:List (Code×Pos)):Prop:=∀ x∈l,j6 x.1=false
structure Cl (Γ:Ctx):Prop where
 c:j6 Γ.code=false
 b:PL Γ.below
noncomputable def RW {α:Type} (M:Model) (A:Around) (t:Sem α) (Q:α->Shared->Prop) (s:Shared):Prop :=
 ∀ Γ p,Γ.In A->Cl Γ->wp M Γ t (fun a _ s'=>Q a s') (fun _ _ _=>False) p s
noncomputable def RC (M:Model) (A:Around) (c:Code) (P:Result->Shared->Prop) (s:Shared):Prop :=
 ∀ Γ p,Γ.code=c->Γ.Below A->PL Γ.below->wpCode M Γ P p s
section
variable {α β:Type} {M:Model} {A:Around} {s:Shared}
theorem RW.of {t:Sem α} {Q:α->Shared->Prop} (h:wpAny M A t Q NE s):RW M A t Q s:=fun Γ p hΓ _=>h Γ p hΓ
theorem RW.pure {a:α} {Q:α->Shared->Prop} (h:Q a s):RW M A (Pure.pure a) Q s:=fun _ _ _ _=>h
theorem RW.mono {t:Sem α} {Q Q':α->Shared->Prop} (h:RW M A t Q s) (k:∀ a s,Q a s->Q' a s):RW M A t Q' s :=
 fun Γ p hΓ hc=>Sem.wp_mono M Γ t (fun a _ s=>k a s) (fun _ _ _ x=>x) p s (h Γ p hΓ hc)
theorem RW.bind {m:Sem α} {f:α->Sem β} {Q:β->Shared->Prop} (h:RW M A m (fun a s'=>RW M A (f a) Q s') s):RW M A (m>>=f) Q s:=fun Γ p hΓ hc=>by
 simp only [Sem.wp_bind']
 exact Sem.wp_mono M Γ m (fun a p' s' h'=>h' Γ p' hΓ hc) (fun _ _ _ h'=>h') p s (h Γ p hΓ hc)
theorem RW.onRaise {m:Sem α} {k:Value->Sem Unit} {Q:α->Shared->Prop} (h:RW M A m Q s):RW M A (m.onRaise k) Q s:=fun Γ p hΓ hc=>by
 simp only [Sem.wp_onRaise]
 exact Sem.wp_mono M Γ m (fun _ _ _ h'=>h') (fun e p' s' h'=>h'.elim) p s (h Γ p hΓ hc)
theorem RW.attempt {m:Sem α} {Q:Except Value α->Shared->Prop} (h:RW M A m (fun a=>Q (.ok a)) s):RW M A m.attempt Q s:=fun Γ p hΓ hc=>by
 simp only [Sem.wp_attempt]
 exact Sem.wp_mono M Γ m (fun _ _ _ h'=>h') (fun e p' s' h'=>h'.elim) p s (h Γ p hΓ hc)
theorem RW.holding {vs:List Value} {m:Sem α} {Q:α->Shared->Prop} (h:RW M A m Q s):RW M A (PySem.holding vs m) Q s :=
 fun Γ p hΓ hc=>by simp only [Sem.wp_holding];exact h Γ p hΓ hc
theorem RW.standAt {pos:Pos} {Q:Unit->Shared->Prop} (h:Q () s):RW M A (PySem.standAt pos) Q s:=fun _ _ _ _=>h
theorem RW.point {Q:Unit->Shared->Prop} (h:Q () s):RW M A PySem.point Q s:=fun _ _ _ _=>h
theorem RW.ofEq {m:Sem α} {a:α} {Q:α->Shared->Prop} (e:m=Pure.pure a) (h:Q a s):RW M A m Q s:=by rw [e];exact .pure h
theorem RW.release {vs keep:List Value} {Q:Unit->Shared->Prop} (h:Q () s):RW M A (PySem.release vs keep) Q s := .of (wpAny_release' h)
theorem RW.operate {vs:List Value} {m:Sem Value} {Q:Value->Shared->Prop} (h:RW M A m Q s):RW M A (PySem.operate vs m) Q s:=fun Γ p hΓ hc=>by
 simp only [Sem.wp_operate];exact h Γ p hΓ hc
theorem RC.mono {c:Code} {P P':Result->Shared->Prop} (h:RC M A c P s) (k:∀ r s,P r s->P' r s):RC M A c P' s:=fun Γ p hc hΓ hb=>wpCode_mono k (h Γ p hc hΓ hb)
theorem Cl.enter {Γ:Ctx} (h:Cl Γ) (c:Code) (hd:Option Value) (p:Pos):PL (Γ.enter c hd p).below:=fun x hx=>by
 rcases List.mem_cons.mp (hx) with rfl | hx
 ·exact h.c
 ·exact h.b x hx
theorem RW.run {c:Code} {Q:Flow->Shared->Prop} (h:RC M A c (fun r s'=>match r with | .ok f=>Q f s' | .error _=>False) s):RW M A (PySem.run c none) Q s:=fun Γ p hΓ hc=>by
 skip
 refine wpCode_mono (fun r s' hr=>?_) (h _ p rfl (hΓ.enter c none p (by intro x;contradiction)) (hc.enter c none p))
 cases r<;>exact hr
theorem RW.call {f:Value} {pos:List Value} {kw:List (Str×Value)} {Q:Value->Shared->Prop} (h:RC M A (.call f ⟨pos,kw⟩) (fun r s'=>match r with | .ok (.ret v)=>Q v s' | _=>False) s):RW M A (PySem.call f pos kw) Q s:=fun Γ p hΓ hc=>by
 refine (?_:wp M Γ (runValue _) _ _ p s)
 rw [Sem.wp_runValue]
 refine wpCode_mono (fun r s' hr=>?_) (h _ p rfl (hΓ.enter _ none p (by intro x;contradiction)) (hc.enter _ none p))
 rcases r with e | (v | _ | _ | _)<;>exact hr
theorem RC.tree {c:Code} {P:Result->Shared->Prop} (hb:j6 c=false)
  (h:RW M (A.under c) (M.den c) (fun fin s'=>match fin with | .done f=>P (.ok f) s' | .again c'=>c'.quiet=true∧RC M A c' P s') s):RC M A c P s:=fun Γ p hc hΓ hl=>by
 rw [wpCode_iff_wp,hc]
 refine Sem.wp_mono M Γ _ (fun fin p' s' h'=>?_) (fun _ _ _ h'=>h'.elim) p s (h Γ p (hc▸hΓ.in) ⟨by refine hc▸?_;exact hb,hl⟩)
 cases fin with
 | done f=>exact h'
 | again c'=>exact⟨h'.1,h'.2 (Γ.goto c') p' rfl (hΓ.goto c') hl⟩
theorem RC.loop {c:Code} {P:Result->Shared->Prop} (hb:j6 c=false) (hq:c.quiet=true) (I:Nat->Shared->Prop)
  (turn:∀ n s,I n s->RW M (A.under c) (M.den c) (fun fin s'=>match fin with | .done f=>P (.ok f) s' | .again c'=>(c'=c∧∃ m,m<n∧I m s')∨(c'.quiet=true∧RC M A c' P s')) s)
  (n:Nat) (h:I n s):RC M A c P s:=by
 induction n using Nat.strongRecOn generalizing s with
 | ind n ih =>
  refine .tree hb ((turn n s h).mono fun fin s' hf=>?_)
  cases fin with
  | done f=>exact hf
  | again c' =>
   rcases hf with ⟨rfl,m,hm,hI⟩ | ⟨h1,h2⟩
   ·exact⟨hq,ih m hm hI⟩
   ·exact⟨h1,h2⟩
end
end Mine
end
section
open PySem PySem.W PySem.Calls PyProof.Rows
open PySem.Sem (wp)
set_option Elab.async false
set_option genSizeOf false
set_option genInjectivity false
set_option maxRecDepth 100000
set_option autoImplicit false
set_option linter.unusedVariables false
namespace Mine
section
variable {prog:Program} {w:World} {A:Around} {s:Shared} {env:Env}
theorem DI {α:Type} {vs:List Value} {m:Sem α} {Q:α->Shared->Prop} (h:RW (model prog w) A m Q s):RW (model prog w) A (m.keep vs) Q s:=fun Γ p hΓ hc=>by simp only [Sem.wp_keep];exact h Γ p hΓ hc
theorem fU {α β:Type} {t:Sem α} {r:α} {f:α->Sem β} {Q:β->Shared->Prop} (x:Looks (model prog w) s.heap t r) (h:RW (model prog w) A (f r) Q s):RW (model prog w) A (t>>=f) Q s :=
 .bind (.of (x A _ _ s (fun _ _ e=>e) h))
theorem Jl {l op r pos} {Q:Value->Shared->Prop} (h:RW (model prog w) A (eval l env) (fun a s₁=>RW (model prog w) A (eval r env) (fun b s₂=>RW (model prog w) A (binaryOp op a b) Q s₂) s₁) s):RW (model prog w) A (eval (.BinOp l op r pos) env) Q s:=by
 skip
 exact .bind (h.mono fun a s₁ h₁ => .bind (.holding (h₁.mono fun b s₂ h₂ => .bind (.standAt (.operate h₂)))))
theorem NH {op x pos} {Q:Value->Shared->Prop} (h:RW (model prog w) A (eval x env) (fun a s₁=>RW (model prog w) A (unaryOp op a) Q s₁) s):RW (model prog w) A (eval (.UnaryOp op x pos) env) Q s:=by
 skip
 exact .bind (h.mono fun a s₁ h₁ => .bind (.standAt (.holding h₁)))
theorem NG {t a b pos} {Q:Value->Shared->Prop} (h:RW (model prog w) A (isTrue t env (eval t env)) (fun c s₁=>if c then RW (model prog w) A (eval a env) Q s₁ else RW (model prog w) A (eval b env) Q s₁) s):RW (model prog w) A (eval (.IfExp t a b pos) env) Q s:=by
 skip
 refine .bind (h.mono fun c s₁ h₁=>?_)
 cases c<;>exact h₁
theorem Jm {l op r pos} {Q:Value->Shared->Prop} (hm:behindInMarks op r=false) (h:RW (model prog w) A (eval l env) (fun a s₁=>RW (model prog w) A (eval r env) (fun b s₂=>RW (model prog w) A (compareOp op a b) Q s₂) s₁) s):RW (model prog w) A (eval (.Compare l [op] [r] pos) env) Q s:=by
 skip
 refine .bind (h.mono fun a s₁ h₁=>?_)
 rw [show evalEach [r] env=[eval r env] from rfl,markedEach_of_false [op] [r] _ (by exact hm)]
 exact .bind (.holding (h₁.mono fun b s₂ h₂ => .bind (.standAt (.operate h₂))))
theorem Dy {o x pos} {Q:Value->Shared->Prop} (hb:eL o=true) (h:RW (model prog w) A (eval o env) (fun v s₁=>RW (model prog w) A (getAttr v x true) Q s₁) s):RW (model prog w) A (eval (.Attribute o x pos) env) Q s:=by
 rw [arm_eval_Attribute,pY hb]
 refine .bind (h.mono fun v s₁ h₁ => .bind (.standAt (.bind (.holding (h₁.mono fun r s₂ h₂=>?_)))))
 exact .bind (.of (wpAny_letTemporaryGo (RW.pure h₂)))
theorem sx {o i pos} {Q:Value->Shared->Prop} (h:RW (model prog w) A (eval o env) (fun v s₁=>RW (model prog w) A (eval i env) (fun u s₂=>RW (model prog w) A (subscriptTail o i v u) Q s₂) s₁) s):RW (model prog w) A (eval (.Subscript o i pos) env) Q s:=by
 skip
 exact .bind (h.mono fun v s₁ h₁ => .bind (.holding (h₁.mono fun u s₂ h₂ => .bind (.standAt h₂))))
theorem Dz {es pos} {Q:Value->Shared->Prop} (h:RW (model prog w) A (spliced (backTo pos (starEach es env))) (fun vs s₁=>RW (model prog w) A (newList vs) Q s₁) s):RW (model prog w) A (eval (.List es pos) env) Q s:=by
 skip
 exact .bind (.standAt (.bind h))
theorem Jn {es k pos} {Q:Value->Shared->Prop} (h:RW (model prog w) A (spliced (backTo pos (starEach es env))) (fun vs s₁=>RW (model prog w) A (newTuple vs) Q s₁) s):RW (model prog w) A (eval (.Tuple es k pos) env) Q s:=by
 skip
 exact .bind (.standAt (.bind h))
theorem pF {x p pos} {es:List Expr} {Q:Value->Shared->Prop} (h:RW (model prog w) A (eval (.Name x p) env) (fun f s'=>RW (model prog w) A (callWith pos f [] (backTo pos (starEach es env)) []) Q s') s):RW (model prog w) A (eval (.Call (.Name x p) es [] pos) env) Q s:=by
 skip
 exact .bind h
theorem qQ {op e pos} {Q:Value->Shared->Prop} (h:RW (model prog w) A (eval e env) Q s):RW (model prog w) A (eval (.BoolOp op [e] pos) env) Q s:=h
theorem tV {op e₁ e₂ rest pos} {Q:Value->Shared->Prop} (h:RW (model prog w) A (eval e₁ env) (fun v s₁=>RW (model prog w) A (truthy v) (fun c s₂=>if c=(op == .And) then RW (model prog w) A (eval (.BoolOp op (e₂::rest) pos) env) Q s₂ else Q v s₂) s₁) s) :
  RW (model prog w) A (eval (.BoolOp op (e₁::e₂::rest) pos) env) Q s:=by
 skip
 skip
 refine .bind (h.mono fun v s₁ h₁ => .bind (.standAt (.bind (.holding (h₁.mono fun c s₂ h₂=>?_)))))
 cases op<;>cases c<;>first | exact h₂ | exact RW.pure h₂
theorem Jt {Q:List Value->Shared->Prop} (h:Q [] s):RW (model prog w) A (spliced []) Q s := .pure h
theorem DH {x:Sem Value} {rest:List (Bool×Sem Value)} {Q:List Value->Shared->Prop} (h:RW (model prog w) A x (fun v s₁=>RW (model prog w) A (spliced rest) (fun vs s₂=>Q (v::vs) s₂) s₁) s):RW (model prog w) A (spliced ((false,x)::rest)) Q s:=by
 skip
 refine .bind (h.mono fun v s₁ h₁=>?_)
 exact .bind (.pure (.bind (.holding (h₁.mono fun vs s₂ h₂ => .pure h₂))))
theorem DE {f:Value} {pos:Pos} {es:List Expr} {Q:Args->Shared->Prop} (he:es.all notStar=true) (h:RW (model prog w) A (spliced (es.map fun e=>(false,eval e env))) (fun vs s'=>Q ⟨vs,[]⟩ s') s) :
  RW (model prog w) A (evalArgs f true (backTo pos (starEach es env)) []) Q s:=by
 refine (bA he)▸?_
 have main:RW (model prog w) A (spliced (es.map fun e=>(false,eval e env))>>=fun pos=>(Pure.pure (pos,(none:Option Value)):Sem _)>>=fun x=>holding (x.1++x.2.toList) (do
   let kw:=(([]:List (Option Str×Sem Value)).filterMap (·.1)).zip (← evalAll (([]:List (Option Str×Sem Value)).map (·.2)))
   return ⟨← (match x.2 with | none=>Pure.pure x.1 | some s=>do
    if←notIterableAtAll s then
     rule "call.star.not-iterable"
     raiseError "TypeError" s!"{← functionStr f} argument after * must be an iterable, not {← typeNameOf s}"
    holding (kw.map (·.2)) (collect s)),kw⟩)) Q s :=
  .bind (h.mono fun vs s' h' => .bind (.pure (.holding (.bind (.pure (.bind (.pure (.pure h'))))))))
 cases es with
 | nil=>exact main
 | cons e r=>exact main
theorem dm {P:Heap->Prop} {pos:Pos} {f:Value} {first:List Value} {es:List Expr} {Q:Value->Shared->Prop} (he:es.all notStar=true)
  (hk:∀ h,P h->∃ k,(k=Keeper.frame∨k=Keeper.machine∨k=Keeper.boundFrame)∧Looks (model prog w) h (keeperOf f) k)
  (h:RW (model prog w) A (spliced (es.map fun e=>(false,eval e env))) (fun vs s₁=>P s₁.heap∧RW (model prog w) A (call f (first++vs) []) Q s₁) s):RW (model prog w) A (callWith pos f first (backTo pos (starEach es env)) []) Q s:=by
 skip
 refine .bind (.holding ((DE (Q:=fun a s₁=>P s₁.heap∧RW (model prog w) A (call f (first++a.pos) a.kw) Q s₁) he h).mono fun a s₁ h₁ => .bind (.standAt ?_)))
 refine aA (hk _ h₁.1) fun k hk' L=>?_
 rw [qF he,List.any_nil,Bool.or_false]
 refine fU L ?_
 have tail:∀ {t:Sem Value},RW (model prog w) A t Q s₁->RW (model prog w) A (t>>=fun r=>holding [r] point>>=fun _=>pure r) Q s₁ :=
  fun ht => .bind (ht.mono fun r s₂ hr => .bind (.holding (.point (.pure hr))))
 have marked (mk:Value):RW (model prog w) A (callMarked mk f (first++a.pos) a.kw) Q s₁:=by skip;exact DI h₁.2
 rcases hk' with rfl | rfl | rfl<;>dsimp only<;>first | exact tail h₁.2 | (split<;>first | exact tail h₁.2 | exact tail (marked _))
theorem tW {o:Expr} {x:Str} {apos pos:Pos} {es:List Expr} {Q:Value->Shared->Prop} (hb:eL o=true) (hl:(apos.endLine==pos.line)=true) (he:es.all notStar=true) (hlen:es.length<30)
  (h:RW (model prog w) A (eval o env) (fun v s₁=>∀ pl,RW (model prog w) A (getMethod v x pl) (fun r s''=>RW (model prog w) A (callWith pos r.1 r.2 (backTo pos (starEach es env)) []) Q s'') s₁) s):RW (model prog w) A (eval (.Call (.Attribute o x apos) es [] pos) env) Q s:=by
 rw [arm_eval_Call,pY hb]
 refine .bind (h.mono fun v s' hv => .bind (.standAt ?_))
 have hform:methodCallForm (es.length+([]:List Keyword).length) (backTo pos (starEach es env)) (backToKw pos (keywordEach [] env))=true:=by
  unfold methodCallForm
  simp only [List.length_nil,Nat.add_zero,Bool.and_eq_true]
  refine⟨⟨?_,rfl⟩,?_⟩
  ·rw [bA he];simp
  ·exact decide_eq_true (by refine (?_:es.length+0<30);omega)
 have hpos:methodCallPos true o env apos pos=pure pos:=by unfold methodCallPos;simp [hl]
 unfold methodCall
 refine hform▸?_
 refine .bind (.holding ((hv _).mono fun r s'' hr=>?_))
 refine hpos▸?_
 exact .bind (.pure hr)
theorem Jv {x pos whole} {Q:Bool->Shared->Prop} (h:RW (model prog w) A (isTrue x env (eval x env)) (fun c s'=>Q (!c) s') s):RW (model prog w) A (isTrue (.UnaryOp .Not x pos) env whole) Q s:=by
 skip
 exact .bind (h.mono fun c s' h' => .pure h')
theorem qV {op x pos whole} {Q:Bool->Shared->Prop} (h:RW (model prog w) A (isTrue x env (eval x env)) Q s):RW (model prog w) A (isTrue (.BoolOp op [x] pos) env whole) Q s:=by
 skip
 refine .bind (h.mono fun c s' h'=>?_)
 cases op<;>cases c<;>exact RW.pure h'
theorem pK {op x y rest pos whole} {Q:Bool->Shared->Prop} (h:RW (model prog w) A (isTrue x env (eval x env)) (fun c s'=>if c=(op == .And) then RW (model prog w) A (isTrue (.BoolOp op (y::rest) pos) env whole) Q s' else Q c s') s) :
  RW (model prog w) A (isTrue (.BoolOp op (x::y::rest) pos) env whole) Q s:=by
 skip
 refine .bind (h.mono fun c s' h'=>?_)
 cases op<;>cases c<;>first | exact h' | exact RW.pure h'
theorem Ju {l op r pos whole} {Q:Bool->Shared->Prop} (hm:behindInMarks op r=false) (h:RW (model prog w) A (eval l env) (fun a s₁=>RW (model prog w) A (eval r env) (fun b s₂=>RW (model prog w) A (compareOp op a b) (fun c s₃=>RW (model prog w) A (truthy c) Q s₃) s₂) s₁) s) :
  RW (model prog w) A (isTrue (.Compare l [op] [r] pos) env whole) Q s:=by
 skip
 refine .bind (h.mono fun a s₁ h₁=>?_)
 rw [show evalEach [r] env=[eval r env] from rfl,markedEach_of_false [op] [r] _ (by exact hm)]
 exact .bind (.holding (h₁.mono fun b s₂ h₂ => .bind (.standAt (.bind (.operate (h₂.mono fun c s₃ h₃ => .holding h₃))))))
theorem DJ {l op op' r r' pos whole} {Q:Bool->Shared->Prop} (hm:behindInMarks op' r'=false)
  (h:RW (model prog w) A (eval l env) (fun a s₁=>RW (model prog w) A (eval r env) (fun b s₂=>RW (model prog w) A (compareOp op a b) (fun c s₃=>RW (model prog w) A (truthy c) (fun t s₄=>if t then RW (model prog w) A (eval r' env) (fun d s₅=>RW (model prog w) A (compareOp op' b d) (fun e s₆=>RW (model prog w) A (truthy e) Q s₆) s₅) s₄ else Q false s₄) s₃) s₂) s₁) s) :
  RW (model prog w) A (isTrue (.Compare l [op,op'] [r,r'] pos) env whole) Q s:=by
 skip
 refine .bind (h.mono fun a s₁ h₁=>?_)
 rw [show evalEach [r,r'] env=[eval r env,eval r' env] from rfl,markedEach_of_false [op,op'] [r,r'] _ (by exact hm)]
 refine .bind (.holding (h₁.mono fun b s₂ h₂ => .bind (.standAt (.bind (.holding (h₂.mono fun c s₃ h₃ => .bind (.release (.bind (.holding (h₃.mono fun t s₄ h₄=>?_))))))))))
 cases t with
 | false=>exact .pure h₄
 | true=>exact .bind (.holding (h₄.mono fun d s₅ h₅ => .bind (.standAt (.bind (.operate (h₅.mono fun e s₆ h₆ => .holding h₆))))))
noncomputable def bl (e:Expr):Bool := !(Nat.ble 8 e.ctorIdx&&Nat.ble e.ctorIdx 10)
theorem gV {e:Expr} {t:Option Expr} {l:Nat} (h:bl e=true):swapsWith e t l env=pure false:=by
 cases e<;>first | rfl | contradiction
theorem DN {e pos} {Q:Flow->Shared->Prop} (hc:bl e=true) (hk:env.scope.kind = .function) (h:RW (model prog w) A (eval e env) (fun _ s₁=>Q .next s₁) s):RW (model prog w) A (exec (.Expr e pos) env) Q s:=by
 skip
 have hi:interactive env=false:=by unfold interactive;refine hk▸?_;rfl
 refine .bind (.standAt ?_)
 refine hi▸(gV hc)▸?_
 refine .bind (.pure ?_)
 refine .bind (h.mono fun v s₁ h₁=>?_)
 exact .of (wpAny_dropValue h₁)
theorem DO {pos} {Q:Flow->Shared->Prop} (h:Q .next s):RW (model prog w) A (exec (.Pass pos) env) Q s := .bind (.standAt (.pure h))
theorem Jz {e pos} {Q:Flow->Shared->Prop} (h:RW (model prog w) A (eval e env) (fun v s₁=>Q (.ret v) s₁) s):RW (model prog w) A (exec (.Return (some e) pos) env) Q s:=by
 skip
 exact .bind (.standAt (.bind (h.mono fun v s₁ h₁ => .pure h₁)))
theorem NJ {t a b pos} {Q:Flow->Shared->Prop} (h:RW (model prog w) A (isTrue t env (eval t env)) (fun c s₁=>if c then RW (model prog w) A (execs a env) Q s₁ else RW (model prog w) A (execs b env) Q s₁) s):RW (model prog w) A (exec (.If t a b pos) env) Q s:=by
 skip
 refine .bind (.standAt (.bind (h.mono fun c s₁ h₁=>?_)))
 cases c<;>exact h₁
theorem sH {Q:Flow->Shared->Prop} (h:Q .next s):RW (model prog w) A (execs [] env) Q s := .pure h
theorem DM {st r} {Q:Flow->Shared->Prop} (h:RW (model prog w) A (exec st env) (fun f s₁=>match f with | .next=>RW (model prog w) A (execs r env) Q s₁ | f=>Q f s₁) s):RW (model prog w) A (execs (st::r) env) Q s:=by
 skip
 refine .bind (h.mono fun f s₁ h₁=>?_)
 cases f<;>first | exact h₁ | exact RW.pure h₁
noncomputable def lh (e:Expr):Bool:=Nat.ble 20 e.ctorIdx&&Nat.ble e.ctorIdx 23 && !Nat.beq e.ctorIdx 22
theorem Jh {t e:Expr} (h:lh t=true):swappedStores [t] e env=pure none:=by
 cases t<;>first | rfl | contradiction
theorem Jf {t:Expr} (h:lh t=true):(assignEach [t] env).map (·.2)=[assign t env]:=by
 cases t<;>first | rfl | contradiction
theorem ly {t e pos} {Q:Flow->Shared->Prop} (ht:lh t=true) (hc:bl e=true) (h:RW (model prog w) A (eval e env) (fun v s₁=>RW (model prog w) A (assign t env v) (fun _ s₂=>Q .next s₂) s₁) s):RW (model prog w) A (exec (.Assign [t] e pos) env) Q s:=by
 skip
 refine .bind (.standAt ?_)
 rw [show swapsWithSole [t] e pos.line env=swapsWith e (some t) pos.line env from rfl,gV hc]
 refine .bind (.pure ?_)
 refine .bind (h.mono fun v s₁ h₁=>?_)
 rw [Jh ht,Jf ht]
 exact .bind (.pure (.bind (h₁.mono fun _ s₂ h₂ => .pure h₂)))
theorem yR {ts k tp e pos} {Q:Flow->Shared->Prop} (hc:bl e=true) (hw:swappedStores [.Tuple ts k tp] e env=pure none) (h:RW (model prog w) A (eval e env) (fun v s₁=>RW (model prog w) A (assign (.Tuple ts k tp) env v) (fun _ s₂=>Q .next s₂) s₁) s):RW (model prog w) A (exec (.Assign [.Tuple ts k tp] e pos) env) Q s:=by
 skip
 refine .bind (.standAt ?_)
 rw [show swapsWithSole [.Tuple ts k tp] e pos.line env=swapsWith e (some (.Tuple ts k tp)) pos.line env from rfl,gV hc]
 refine .bind (.pure ?_)
 refine .bind (h.mono fun v s₁ h₁=>?_)
 rw [hw]
 exact .bind (.pure (.bind (h₁.mono fun _ s₂ h₂ => .pure h₂)))
theorem DP {ts k tp e pos} {names:List Str} {Q:Flow->Shared->Prop} (hc:bl e=true) (hw:swappedStores [.Tuple ts k tp] e env=pure (some names))
  (h:RW (model prog w) A (eval e env) (fun v s₁=>RW (model prog w) A (unpackItems v names.length none) (fun items s₂=>RW (model prog w) A (assignInOrder (names.reverse.map fun n=>bindName env n) items.reverse) (fun _ s₃=>Q .next s₃) s₂) s₁) s):RW (model prog w) A (exec (.Assign [.Tuple ts k tp] e pos) env) Q s:=by
 skip
 refine .bind (.standAt ?_)
 rw [show swapsWithSole [.Tuple ts k tp] e pos.line env=swapsWith e (some (.Tuple ts k tp)) pos.line env from rfl,gV hc]
 refine .bind (.pure ?_)
 refine .bind (h.mono fun v s₁ h₁=>?_)
 rw [hw]
 refine .bind (.pure ?_)
 refine (?_:RW (model prog w) A (rule "assign.swapped-stores" >>= fun _=>unpackItems v names.length none>>=fun items=>assignInOrder (names.reverse.map fun n=>bindName env n) items.reverse>>=fun _=>pure .next) Q s₁)
 exact .bind (.of (wpAny_rule (.bind (h₁.mono fun items s₂ h₂ => .bind (h₂.mono fun _ s₃ h₃ => .pure h₃)))))
theorem Ds {o x p v} {Q:Unit->Shared->Prop} (h:RW (model prog w) A (eval o env) (fun ov s₁=>RW (model prog w) A (setAttr ov x v) Q s₁) s):RW (model prog w) A (assign (.Attribute o x p) env v) Q s:=by
 skip
 exact .bind (.holding (h.mono fun ov s₁ h₁ => .bind (.standAt (.bind (.holding (h₁.mono fun _ s₂ h₂ => .release h₂))))))
theorem Jj {o i p v} {Q:Unit->Shared->Prop} (h:RW (model prog w) A (eval o env) (fun ov s₁=>RW (model prog w) A (eval i env) (fun iv s₂=>RW (model prog w) A (setItem ov iv v) Q s₂) s₁) s):RW (model prog w) A (assign (.Subscript o i p) env v) Q s:=by
 skip
 exact .bind (.holding (h.mono fun ov s₁ h₁ => .bind (.holding (h₁.mono fun iv s₂ h₂ => .bind (.standAt (.bind (.holding (h₂.mono fun _ s₃ h₃ => .release h₃))))))))
theorem yQ {c:Code} {Q:Flow->Shared->Prop} (h:RC (model prog w) A c (fun r s'=>match r with | .ok f=>Q f s' | .error _=>False) s):RW (model prog w) A (runOwn c env) Q s := .onRaise (.run h)
theorem yS {t b pos} {Q:Flow->Shared->Prop} (h:RC (model prog w) A (.whileLoop t b [] env) (fun r s'=>match r with | .ok f=>Q f s' | .error _=>False) s):RW (model prog w) A (exec (.While t b [] pos) env) Q s:=by
 skip
 exact .bind (.standAt (yQ h))
noncomputable def eZ (e:Expr):Bool := !Nat.beq e.ctorIdx 7
theorem As {it:Expr} {x:Value} (h:eZ it=true):foldedSetIterable it env x=pure x:=by
 cases it<;>first | rfl | contradiction
theorem Jy {tg it b pos} {Q:Flow->Shared->Prop} (hn:eZ it=true) (h:RW (model prog w) A (eval it env) (fun x s₁=>RW (model prog w) A (pyIter x) (fun i s₂=>RC (model prog w) A (.forLoop tg i b [] env) (fun r s'=>match r with | .ok f=>Q f s' | .error _=>False) s₂) s₁) s) :
  RW (model prog w) A (exec (.For tg it b [] pos) env) Q s:=by
 skip
 refine .bind (.standAt (.bind (h.mono fun x s₁ h₁=>?_)))
 rw [As hn]
 exact .bind (.pure (.bind (.standAt (.bind (.holding (h₁.mono fun i s₂ h₂=>yQ h₂))))))
theorem yF {t b} {P:Result->Shared->Prop} (I:Nat->Shared->Prop)
  (turn:∀ n s,I n s->RW (model prog w) A (isTrue t env (eval t env)) (fun c s₂=>if c then RW (model prog w) A (execs b env) (fun f s₃=>match f with
   | .next | .cont=>∃ m,m<n∧I m s₃
   | .brk=>P (.ok .next) s₃
   | .ret v=>P (.ok (.ret v)) s₃) s₂ else P (.ok .next) s₂) s)
  (n:Nat) (h:I n s):RC (model prog w) A (.whileLoop t b [] env) P s:=by
 refine .loop rfl rfl I (fun n s hI=>?_) n h
 refine (?_:RW (model prog w) A ((whileTurn t b [] env).onRaise (fun x=>do noteFrame x env;theTreesLotGoes x)) _ _)
 refine .onRaise ?_
 skip
 refine .bind ((turn n s hI).mono fun c s₂ h₂=>?_)
 cases c with
 | false=>exact .bind (sH (.pure h₂))
 | true =>
  skip
  refine .bind (h₂.mono fun f s₃ h₃=>?_)
  cases f with
  | next=>exact RW.pure (.inl ⟨rfl,h₃⟩)
  | cont=>exact RW.pure (.inl ⟨rfl,h₃⟩)
  | brk=>exact RW.pure h₃
  | ret v=>exact RW.pure h₃
theorem yE {b} {P:Result->Shared->Prop} (h:RW (model prog w) A (execs b env) (fun f s'=>P (.ok f) s') s):RC (model prog w) A (.block b env) P s:=by
 refine .tree rfl ?_
 refine (?_:RW (model prog w) A (do return Fin.done (← (execs b env).onRaise (fun x=>do noteFrame x env;theTreesLotGoes x))) _ _)
 exact .bind (.onRaise (h.mono fun f s' h' => .pure h'))
end
section
variable {prog:Program} {w:World} {A:Around} {s:Shared}
theorem NF {a:Addr} {args:Args} {o:Obj} {fd:FuncData} {body:List Stmt} {P:Result->Shared->Prop} (hroom:A.depth<recursionLimit) (ho:s.heap.get? a=some o) (hd':o.data = .func fd)
  (hco:fd.scope.isCoroutine=false) (hgen:fd.scope.isGenerator=false) (hbody:fd.body = .stmts body) (hcd:s.heap.CodeRec fd.code fd.qualname)
  (h:wpAny (model prog w) A.in1 (bindArgs fd args) (fun binds s₁=>wpAny (model prog w) A.in1 (newFunctionEnv fd.scope fd.globals fd.closure binds (fd.qualname ++ ".<locals>.") (some a) fd.code none fd.builtins)
   (fun env s₂=>s₂.heap.NoLimit∧RC (model prog w) A (.func body env) P s₂) NE s₁) NE s):RC (model prog w) A (.call (.ref a) args) P s:=by
 refine .tree rfl (.of ?_)
 refine (?_:wpAny _ A.in1 (callAny (.ref a) args) _ _ s)
 skip
 refine wpAny_bind (wpAny_load ho ?_)
 refine FY hcd fun c oc vs tq hc hoc hdc hq=>?_
 simp only [hd',callFunction,hco,hgen,hbody,hc]
 rw [hc] at h
 refine wpAny_bind (m:=field (.ref c) 1) (wpAny_field hoc hdc hq (wpAny_bind (wpAny_pure ?_)))
 exact wpAny_bind (wpAny_mono h (fun binds s₁ h₁=>wpAny_bind (wpAny_mono h₁ (fun env s₂ h₂=>wpAny_bind (wpAny_enterFrame h₂.1 hroom (wpAny_pure (And.intro rfl h₂.2)))) fun _ _ h'=>h')) fun _ _ h'=>h')
theorem Dw {body:List Stmt} {env:Env} {P:Result->Shared->Prop} (h:RW (model prog w) (A.deeper env) (execs body env) (fun f s'=>P (.ok (.ret (match f with | .ret v=>v | _ => .none))) s') s):RC (model prog w) A (.func body env) P s:=by
 refine .tree rfl ?_
 refine (?_:RW _ (A.deeper env) (do point;match←(execs body env).onRaise (leaving env) with | .ret v=>ret v | _=>ret .none) _ s)
 refine .bind (.point (.bind (.onRaise (h.mono fun f s' h'=>?_))))
 cases f<;>exact RW.pure h'
end
inductive Fl where
 | next | brk | cont
 | ret (a:AV)
inductive EG:Flow->Fl->Prop where
 | next:EG .next .next
 | brk:EG .brk .brk
 | cont:EG .cont .cont
 | ret {v:Value} {a:AV}:VR v a->EG (.ret v) (.ret a)
noncomputable def Fl.val:Fl->AV
 | .ret a=>a
 | _ => .none
theorem EG.val:∀ {f:Flow} {a:Fl},EG f a->VR (match f with | .ret v=>v | _ => .none) a.val
 | _,_,.ret h=>h
 | _,_,.next => .none
 | _,_,.brk => .none
 | _,_,.cont => .none
noncomputable def LF (C:Cx) (Z:Led) (Q:Fl->AS->Prop) (f:Flow) (s:Shared):Prop:=∃ fl σ,EG f fl∧St C Z s σ∧Q fl σ
noncomputable def RB (C:Cx) (Z:Led) (Q:AV->AS->Prop) (r:Result) (s:Shared):Prop:=match r with
 | .ok (.ret v)=>LE C Z Q v s
 | _=>False
noncomputable def cq (P:Tp) (n:Nat) (f:Addr) (args:List AV) (Q:AV->Hp->Prop) (hp:Hp):Prop :=
 keepIn P.K (.ref f)=true∧∀ (C:Cx) (Z:Led) (s:Shared) (σ:AS) (vals:List Value),C.toTp=P->C.Ok (20*n)->St C Z s σ->σ.hp=hp->cK vals args →
  RC C.M C.A (.call (.ref f) ⟨vals,[]⟩) (RB C Z fun v σ'=>σ'.loc=σ.loc∧Q v σ'.hp) s
theorem LE.mono {C:Cx} {Z:Led} {Q Q':AV->AS->Prop} {v:Value} {s:Shared} (h:LE C Z Q v s) (k:∀ a σ,Q a σ->Q' a σ):LE C Z Q' v s:=nH h fun a σ h1 h2 h3=>⟨a,σ,h1,h2,k a σ h3⟩
theorem cq.mono {P:Tp} {n:Nat} {f:Addr} {args:List AV} {Q Q':AV->Hp->Prop} {hp:Hp} (h:cq P n f args Q hp) (k:∀ a hp',Q a hp'->Q' a hp'):cq P n f args Q' hp:=by
 refine⟨h.1,fun C Z s σ vals e ok st eh hv=>?_⟩
 refine (h.2 C Z s σ vals e ok st eh hv).mono fun r s' hr=>?_
 rcases r with e | (v | _ | _ | _)<;>first | exact hr | (exact LE.mono hr fun a σ' q=>⟨q.1,k _ _ q.2⟩)
theorem cq.up {P:Tp} {n k:Nat} {f:Addr} {args:List AV} {Q:AV->Hp->Prop} {hp:Hp} (h:cq P n f args Q hp) (e:n≤k):cq P k f args Q hp :=
 ⟨h.1,fun C Z s σ vals eP ok st eh hv=>h.2 C Z s σ vals eP (ok.less (by omega)) st eh hv⟩
theorem HR.vS {T:sW} {prog:Program} {w:World} {ne ne':Led} {δ:Addr->Addr} {hp:Hp} (H:HR T prog w ne δ hp) (h:∀ p∈ne,p∈ne'):HR T prog w ne' δ hp :=
 ⟨fun a o e=>(H.rep a o e).mono (fun p hp _=>h p hp) (fun _ p hp _=>h p hp) fun p hp _=>h p hp,H.dn,H.inj,h _ H.pn⟩
structure Rg where
 oc:Value
 od:Option Addr
 Nz:Array (Option Value)
 name:Str
 qual:Str
 params:Arguments
 dV:Value
 kV:Value
 doc:Value
 pm:Value
 an:Option Addr
 vt:Value
 ct:Value
structure FnAt (K:Frag) (f:Addr) (sc:Scope) (body:List Stmt) (pn:List Str):Prop where
 at_:∃ d:Rg,K.lookup f=some ⟨d.oc,d.od,.func (fnX d.name d.qual d.params body sc [] d.dV d.kV d.doc d.pm d.an d.vt d.ct),d.Nz⟩∧codeIn K d.vt d.qual=true ∧
  ∀ vals:List Value,vals.length=pn.length->bindArgs (fnX d.name d.qual d.params body sc [] d.dV d.kV d.doc d.pm d.an d.vt d.ct) ⟨vals,[]⟩=pure (pn.zip vals)
 par:sc.names.take pn.length=pn.map fun x=>(x,NameKind.local)
 nd:(sc.names.map (·.1)).Nodup
 kind:sc.kind = .function
 co:sc.isCoroutine=false
 gen:sc.isGenerator=false
theorem FnAt.elim {K:Frag} {f:Addr} {sc:Scope} {body:List Stmt} {pn:List Str} {G:Prop} (fa:FnAt K f sc body pn) (k:∀ d:Rg,K.lookup f=some ⟨d.oc,d.od,.func (fnX d.name d.qual d.params body sc [] d.dV d.kV d.doc d.pm d.an d.vt d.ct),d.Nz⟩->codeIn K d.vt d.qual=true →
  (∀ vals:List Value,vals.length=pn.length->bindArgs (fnX d.name d.qual d.params body sc [] d.dV d.kV d.doc d.pm d.an d.vt d.ct) ⟨vals,[]⟩=pure (pn.zip vals))->G):G:=jT fa.at_ fun d h1 h2 h3=>k d h1 h2 h3
theorem ny:∀ {pn:List Str} {vals:List Value},pn.Nodup->∀ {i:Nat} {x:Str} {v:Value},pn[i]?=some x->vals[i]?=some v->(pn.zip vals).lookup x=some v
 | [],_,_,_,_,_,h,_=>by simp at h
 | _::_,[],_,_,_,_,_,h=>by simp at h
 | p::pn,u::vals,nd,i,x,v,h1,h2=>by
  rw [List.nodup_cons] at nd
  cases i with
  | zero =>
   simp only [List.getElem?_cons_zero,Option.some.injEq] at h1 h2
   subst h1 h2
   simp [List.zip_cons_cons]
  | succ i =>
   simp only [List.getElem?_cons_succ] at h1 h2
   have:(x==p)=false:=Bool.eq_false_iff.mpr fun q=>nd.1 (beq_iff_eq.mp q▸List.mem_of_getElem? h1)
   simp only [List.zip_cons_cons,List.lookup_cons,this]
   exact ny nd.2 h1 h2
theorem nV (kindOf:Str->Option NameKind):∀ (l:List (Str×Value)) (m:Str->Option Value) (x:Str),x ∉ l.map (·.1)->bindL kindOf l m x=m x
 | [],_,_,_=>rfl
 | (n,v)::r,m,x,h=>by
  rw [List.map_cons,List.mem_cons,not_or] at h
  simp only [bindL,nV kindOf r _ x h.2]
  split
  ·simp only [if_neg h.1]
  ·rfl
theorem qa (kindOf:Str->Option NameKind):∀ (l:List (Str×Value)) (m:Str->Option Value),(l.map (·.1)).Nodup->(∀ p∈l,kindOf p.1=some .local)->∀ (x:Str) (v:Value),l.lookup x=some v->bindL kindOf l m x=some v
 | [],_,_,_,_,_,h=>by cases h
 | (n,u)::r,m,nd,hk,x,v,h=>by
  simp only [List.map_cons,List.nodup_cons] at nd
  rw [bindL,if_pos (hk _ List.mem_cons_self)]
  rw [List.lookup_cons] at h
  by_cases e:x=n
  ·subst e
   simp only [BEq.rfl,Option.some.injEq] at h
   subst h
   rw [nV kindOf r _ x nd.1];simp
  ·have e':(x==n)=false:=Bool.eq_false_iff.mpr fun q=>e (beq_iff_eq.mp q)
   rw [e'] at h
   exact qa kindOf r _ nd.2 (fun p hp=>hk p (List.mem_cons_of_mem _ hp)) x v h
theorem my (kindOf:Str->Option NameKind):∀ (l:List (Str×Value)) (m:Str->Option Value),(∀ p∈l,kindOf p.1=some .local)->bindC kindOf l m=m
 | [],_,_=>rfl
 | (n,u)::r,m,hk=>by rw [bindC,if_pos (hk _ List.mem_cons_self)];exact my kindOf r m fun p hp=>hk p (List.mem_cons_of_mem _ hp)
theorem eU:∀ (names:List (Str×NameKind)) (n:Nat) (acc:List (Str×Addr)),(∀ p∈acc,p.2<n)->(acc.map (·.2)).Nodup →
  ((cellsFrom n names acc).map (·.2)).Nodup∧(∀ p∈cellsFrom n names acc,p∈acc∨(n≤p.2∧(p.1,NameKind.cell)∈names))∧(∀ x,(x,NameKind.cell)∈names->∃ c,(x,c)∈cellsFrom n names acc)∧(∀ p∈acc,p∈cellsFrom n names acc)
 | [],n,acc,_,nd=>⟨nd,fun p hp => .inl hp,(fun x h=>by cases h),fun p hp=>hp⟩
 | (y,k)::r,n,acc,hlt,nd=>by
  unfold cellsFrom
  by_cases hk:(k==NameKind.cell)=true
  ·rw [if_pos hk]
   have hk':k=NameKind.cell:=by simpa using hk
   subst hk'
   refine vv (eU r (n+1) ((y,n)::acc) (fun p hp=>by
    rcases List.mem_cons.mp hp with rfl | hp
    ·exact Nat.lt_succ_self _
    ·exact Nat.lt_succ_of_lt (hlt p hp)) (by
    rw [List.map_cons,List.nodup_cons]
    refine⟨fun q=>?_,nd⟩
    refine aA (List.mem_map.mp q) fun p hp e=>?_
    exact absurd (e▸hlt p hp) (Nat.lt_irrefl _))) fun i1 i2 i3 i4=>?_
   refine⟨i1,fun p hp=>?_,fun x hx=>?_,fun p hp=>i4 p (List.mem_cons_of_mem _ hp)⟩
   ·refine Or.elim (i2 p hp) (fun h=>?_) (fun h=>?_)
    ·rcases List.mem_cons.mp h with rfl | h
     ·exact .inr ⟨Nat.le_refl _,List.mem_cons_self⟩
     ·exact .inl h
    ·exact .inr ⟨by omega,List.mem_cons_of_mem _ h.2⟩
   ·refine Or.elim (List.mem_cons.mp hx) (fun e=>?_) (fun hx=>?_)
    ·cases e;exact⟨n,i4 _ List.mem_cons_self⟩
    ·exact i3 x hx
  ·rw [if_neg hk]
   refine vv (eU r n acc hlt nd) fun i1 i2 i3 i4=>?_
   refine⟨i1,fun p hp=>(i2 p hp).imp id fun h=>⟨h.1,List.mem_cons_of_mem _ h.2⟩,fun x hx=>?_,i4⟩
   refine Or.elim (List.mem_cons.mp hx) (fun e=>?_) (fun hx=>?_)
   ·cases e;exact absurd rfl hk
   ·exact i3 x hx
theorem CellsAre.at {cm:Str->Option Value} {cs:List (Str×Addr)} {cells:List (Addr×Obj)} (h:CellsAre cm cs cells):(∀ p∈cs,∃ o,(p.2,o)∈cells∧o.data = .cell (cm p.1))∧cells.map (·.1)=cs.map (·.2):=by
 induction h with
 | nil=>exact⟨(fun p hp=>by contradiction),rfl⟩
 | @cons n c o cs cells hd _ ih =>
  refine⟨fun p hp=>?_,by simp only [List.map_cons,List.map_cons,ih.2]⟩
  rcases List.mem_cons.mp hp with rfl | hp
  ·exact⟨o,List.mem_cons_self,hd⟩
  ·refine aA (ih.1 p hp) fun o' h1 h2=>?_;exact⟨o',List.mem_cons_of_mem _ h1,h2⟩
theorem oX {cs:List (Str×Addr)} (nd:(cs.map (·.2)).Nodup) {x y:Str} {c:Addr} (h1:(x,c)∈cs) (h2:(y,c)∈cs):x=y:=by
 induction cs with
 | nil=>contradiction
 | cons p r ih =>
  rw [List.map_cons,List.nodup_cons] at nd
  rcases List.mem_cons.mp h1 with e1 | h1
  ·rcases List.mem_cons.mp h2 with e2 | h2
   ·simp only [← e1] at e2;exact (Prod.mk.inj e2).1.symm
   ·exact absurd (List.mem_map.mpr ⟨_,h2,by rw [← e1]⟩) nd.1
  ·rcases List.mem_cons.mp h2 with e2 | h2
   ·exact absurd (List.mem_map.mpr ⟨_,h1,by rw [← e2]⟩) nd.1
   ·exact ih nd.2 h1 h2
theorem mem_of_lookup {cs:List (Str×Addr)} {x:Str} {c:Addr} (h:cs.lookup x=some c):(x,c)∈cs:=by
 refine dy (List.lookup_eq_some_iff.mp h) fun l1 l2 e _=>?_
 rw [e];simp
noncomputable def pa (args:List AV) (N:Nat):List (Option AV):=args.map some++List.replicate (N-args.length) none
section
variable {C:Cx} {n:Nat} {Z:Led} {s:Shared} {σ:AS}
theorem nZ {C₀:Cx} {n:Nat} {Z ne:Led} {s:Shared} {vals:List Value} {f:Addr} {args:List AV} {hp:Hp} {δ:Addr->Addr} {sc:Scope} {body:List Stmt} {pn:List Str} {Q:Fl->AS->Prop} {Pr:Result->Shared->Prop}
  (fa:FnAt C₀.K f sc body pn) (hlen:args.length=pn.length) (hv:cK vals args) (B:Below C₀.A₀ C₀.base C₀.outer C₀.hz) (hA:C₀.A₀.frames=some C₀.outer) (hh:C₀.A₀.handled=none) (hk:O7 C₀.T C₀.K) (X:C₀.K.In C₀.hz) (top:Top C₀.p C₀.loose C₀.uE C₀.mg C₀.mb C₀.hz)
  (hdep:C₀.A₀.depth+20*(n+1)<recursionLimit) (huni:C₀.A₀.units+100+2*(20*(n+1))<cLine) (N:∀ p∈Z++ne,s.heap.get? p.1=some p.2) (hg:C₀.hz=hideAll s.heap (keys (Z++ne))) (nd:(keys (Z++ne)).Nodup) (H:HR C₀.T C₀.prog C₀.w ne δ hp) (hs:s.gens=C₀.gens∧s.drawn=C₀.drawn∧s.os=C₀.os)
  (h:∀ (C:Cx) (Z:Led) (s:Shared),C.toTp=C₀.toTp->C.fn=true->C.env.scope=sc->C.Ok (20*n+10)->St C Z s ⟨pa args sc.names.length,hp⟩->RW C.M C.A (execs body C.env) (LF C Z Q) s)
  (post:∀ env L' f' s',LF { C₀ with A:=C₀.A₀.deeper env,L:=L',rP:=env,fn:=true,env:=env } Z Q f' s'->Pr (.ok (.ret (match f' with | .ret v=>v | _ => .none))) s') :
  RC (model C₀.prog C₀.w) C₀.A₀ (.call (.ref f) ⟨vals,[]⟩) Pr s:=by
 refine fa.elim fun d hlk hcd hbind=>?_
 have hvl:=hv.length
 have hb:=hbind vals (by omega)
 have key:∀ (i:Nat) (x:Str),pn[i]?=some x->sc.names[i]?=some (x,NameKind.local):=fun i x hx=>by
  have hi:=(List.getElem?_eq_some_iff.mp hx).1
  have e:(sc.names.take pn.length)[i]?=(pn.map fun x=>(x,NameKind.local))[i]?:=by rw [fa.par]
  rw [List.getElem?_take,if_pos hi,List.getElem?_map,hx] at e
  exact e
 have pnd:pn.Nodup:=by
  have e:(sc.names.take pn.length).map (·.1)=pn:=by
   simp only [fa.par,List.map_map]
   exact (List.map_congr_left (fun _ _=>rfl)).trans (List.map_id pn)
  rw [← e,List.map_take]
  exact List.Sublist.nodup (List.take_sublist _ _) fa.nd
 have hz:((pn.zip vals).map (·.1))=pn:=by exact (List.map_fst_zip (by omega))
 have hloc:∀ y∈pn.zip vals,sc.names.lookup y.1=some .local:=fun y hy=>by
  have hy1:y.1∈pn:=by rw [← hz];exact List.mem_map.mpr ⟨y,hy,rfl⟩
  refine jg (List.getElem?_of_mem hy1) fun i hi=>?_
  exact bQ fa.nd (key i _ hi)
 have keep:∀ b o,C₀.hz.get? b=some o->s.heap.get? b=some o:=fun b o e=>of_hideAll _ (hg▸e)
 have hlim:=top.nolimit
 skip
 have hcr:=codeRec_of (X.keeps keep) hcd
 refine NF (by omega) ((X.keeps keep) _ _ hlk) rfl fa.co fa.gen rfl hcr ((BindsTo.of_eq hb) _ _ _ _ ?_)
 refine wpAny_newFunctionEnv_cells fa.kind (fun y hy => .inl (hloc y hy)) fun env' he s' x=>?_
 subst he
 refine⟨(hlim.keeps keep).keeps x.toInCall.keep,Dw ?_⟩
 refine dy x.done fun h₁ tk zp2 _=>?_;subst zp2
 have hk₁:=x.toInCall.keep
 refine vv (eU sc.names (s.heap.objs.size+1) [] (fun p hp=>by cases hp) List.nodup_nil) fun c1 c2 c3 c4=>?_
 have hnd:((cellsFrom (s.heap.objs.size+1) sc.names []).map (·.1)).Nodup:=by
  have:∀ (names:List (Str×NameKind)) (n:Nat) (acc:List (Str×Addr)),(names.map (·.1)).Nodup->(acc.map (·.1)).Nodup->(∀ x∈acc.map (·.1),x ∉ names.map (·.1))->((cellsFrom n names acc).map (·.1)).Nodup:=by
   intro names
   induction names with
   | nil=>intro n acc _ h _;exact h
   | cons q r ih =>
    intro n acc h1 h2 h3
    obtain⟨y,k⟩:=q
    rw [List.map_cons,List.nodup_cons] at h1
    unfold cellsFrom
    have h3':∀ x∈acc.map (·.1),x ∉ r.map (·.1):=fun x hx q=>h3 x hx (List.mem_cons_of_mem _ q)
    split
    ·refine ih _ _ h1.2 ?_ ?_
     ·simp only [List.map_cons,List.nodup_cons]
      exact⟨fun q=>h3 y q List.mem_cons_self,h2⟩
     ·intro x hx
      rcases List.mem_cons.mp hx with rfl | hx
      ·exact h1.1
      ·exact h3' x hx
    ·exact ih _ _ h1.2 h2 h3'
  exact this _ _ _ fa.nd List.nodup_nil (fun x hx=>by contradiction)
 refine aA (Cl.news (h₀:=s.heap) (Nat.le_refl _) fun n c hm=>⟨x.cell n c (lookup_of_mem_nodup hnd hm),x.above n c hm⟩) fun cells NC Y=>?_
 have hY:=CellsAre.at Y
 let L':=s.heap.objs.size
 let env':Env:=newEnv sc s.heap.objs.size mainGlobals (cellsFrom (s.heap.objs.size+1) sc.names []) (d.qual ++ ".<locals>.") (some f) d.vt none builtinsNs
 let C':Cx:={ C₀ with A:=C₀.A₀.deeper env',L:=L',rP:=env',fn:=true,env:=env' }
 have lt:∀ p∈Z++ne,p.1<L':=fun p hp=>Heap.lt_size (N p hp)
 have F':Fr C₀.hz L' h₁ (bindL (Env.kindOf env') (pn.zip vals) fun _=>none):=⟨x.toInCall.ns,fun b o e=>hk₁ b o (keep b o e),Nat.le_of_eq (by refine hg▸?_;exact hideAll_size _ _)⟩
 have ok':C'.Ok (20*n+10):=by
  refine⟨hk,B,X,top,Around.frames_deeper hA,hh,rfl,fa.kind,fa.kind,rfl,rfl,?_,?_,fa.nd,fun _=>rfl⟩
  ·refine (?_:C₀.A₀.depth+1+(20*n+10)<recursionLimit)
   omega
  ·refine (?_:C₀.A₀.units+3+100+2*(20*n+10)<cLine)
   omega
 have st':St C' Z { s with heap:=h₁,toks:=tk } ⟨pa args sc.names.length,hp⟩:=by
  refine⟨⟨_,_,cells,ne,δ,F',⟨fun _=>rfl,fun e=>by contradiction⟩,?_,?_,H,?_⟩,hs⟩
  ·intro p hp
   have:p∈cells∨p∈Z++ne:=by
    simp only [List.mem_append] at hp ⊢
    refine Or.elim hp (fun h=>?_) fun zo=>Or.elim zo (fun h=>?_) (fun h=>?_)
    ·exact .inr (.inl h)
    ·exact .inl h
    ·exact .inr (.inr h)
   rcases this with hp | hp
   ·refine⟨(NC p hp).1,(NC p hp).2.1,?_⟩
    cases q:C₀.hz.get? p.1 with
    | none=>rfl
    | some o=>have:=keep _ _ q;replace this:=((NC p hp).2.2)▸this;contradiction
   ·exact⟨hk₁ _ _ (N p hp),Nat.ne_of_lt (Heap.lt_size (N p hp)),hg▸hideAll_none _ (List.mem_map_of_mem hp)⟩
  ·have e:(keys (Z++(cells++ne))).Perm (cells.map (·.1)++keys (Z++ne)):=by
    simp only [keys,List.map_append]
    rw [← List.append_assoc,← List.append_assoc]
    exact List.Perm.append_right _ List.perm_append_comm
   rw [e.nodup_iff,List.nodup_append]
   refine⟨by rw [hY.2];exact c1,nd,fun a ha b hb q=>?_⟩
   subst q
   replace ha:=hY.2▸ha
   refine aA (List.mem_map.mp ha) fun p hp zp2=>?_;subst zp2
   refine aA (List.mem_map.mp hb) fun q hq e=>?_
   have l1:=lt q hq
   refine Or.elim (c2 p hp) (fun h=>?_) (fun h=>?_)
   ·cases h
   ·have:L'+1≤p.2:=h.1
    rw [e] at l1
    exact absurd (Nat.lt_trans l1 this) (Nat.lt_irrefl _)
  ·refine⟨(fun e=>by contradiction),fun i x' hx av hav=>?_,fun i x' hx=>?_,fun x' y c e1 e2=>oX c1 (mem_of_lookup e1) (mem_of_lookup e2)⟩
   ·have hi:i<args.length:=by
     apply Nat.lt_of_not_le
     intro hle
     unfold pa at hav
     rw [List.getElem?_append_right (by simpa using hle)] at hav
     have:=List.mem_of_getElem? hav
     rw [List.mem_replicate] at this
     cases this.2
    unfold pa at hav
    rw [List.getElem?_append_left (by simpa using hi),List.getElem?_map] at hav
    cases q:args[i]? with
    | none=>replace hav:=q▸hav;contradiction
    | some a =>
     rw [q] at hav
     simp only [Option.map_some,Option.some.injEq] at hav
     subst hav
     refine aA (hv.get q) fun v hv1 hv2=>?_
     have hpi:i<pn.length:=by omega
     have hpx:pn[i]?=some pn[i]:=List.getElem?_eq_getElem hpi
     have e:=key i _ hpx
     have hx':sc.names[i]?=some (x',NameKind.local):=hx
     rw [e] at hx'
     simp only [Option.some.injEq,Prod.mk.injEq,and_true] at hx'
     refine⟨v,?_,hv2⟩
     rw [← hx']
     exact qa _ _ _ (by simp only [hz];exact pnd) hloc _ _ (ny pnd hpx hv1)
   ·have hx':sc.names[i]?=some (x',NameKind.cell):=hx
    refine jg (c3 x' (List.mem_of_getElem? hx')) fun c hc=>?_
    refine aA (hY.1 _ hc) fun o ho1 ho2=>?_
    rw [my _ _ _ hloc] at ho2
    refine⟨c,o,none,lookup_of_mem_nodup hnd hc,.inl ho1,ho2,fun av hav=>?_⟩
    have hi:i<args.length:=by
     apply Nat.lt_of_not_le
     intro hle
     unfold pa at hav
     rw [List.getElem?_append_right (by simpa using hle)] at hav
     have:=List.mem_of_getElem? hav
     rw [List.mem_replicate] at this
     cases this.2
    skip
    rw [key i _ (List.getElem?_eq_getElem (by omega))] at hx'
    cases hx'
 exact (h C' Z _ rfl rfl rfl ok' st').mono fun fl s' hl=>post env' L' fl s' hl
theorem ur {P:Tp} {n:Nat} {f:Addr} {args:List AV} {Q:AV->Hp->Prop} {hp:Hp} {sc:Scope} {body:List Stmt} {pn:List Str} (fa:FnAt P.K f sc body pn) (hlen:args.length=pn.length)
  (h:∀ (C:Cx) (Z:Led) (s:Shared),C.toTp=P->C.fn=true->C.env.scope=sc->C.Ok (20*n+10)->St C Z s ⟨pa args sc.names.length,hp⟩ →
   RW C.M C.A (execs body C.env) (LF C Z fun fl σ=>Q fl.val σ.hp) s):cq P (n+1) f args Q hp:=by
 refine⟨?_,fun C Z s σ vals eP ok st eh hv=>?_⟩
 ·refine fa.elim fun d hlk _ _=>?_
  unfold keepIn
  dsimp only
  rw [hlk]
 subst eP eh
 refine st.elim fun mf m ce ne δ F hm N nd H Lr=>?_
 refine vv (groundX (R:=RB C Z fun v σ'=>σ'.loc=σ.loc∧Q v σ'.hp) ok.B F N ok.hA ok.hf ok.Qv) fun FG BG stay lv=>?_
 rw [← List.append_assoc] at nd
 refine nZ (C₀:={ C with A₀:=C.A,base:=C.base,hz:=hideAll s.heap ((Z++(ce++ne)).map (·.1)),outer:=C.rP::C.outer }) (Z:=Z++ce) (ne:=ne) fa hlen hv BG ok.hA ok.hh ok.k (ok.X.keeps stay) (ok.top.keeps stay) ok.dep ok.zG (fun p hp=>(N p (by rw [← List.append_assoc];exact hp)).1) (by rw [← List.append_assoc]) nd H st.2 h fun env' L' fl s' hl=>?_
 refine nH hl fun afl σ' hfl zp3 hq=>?_;refine bx zp3 fun zp0 hrest=>?_;refine Qt zp0 fun mf' m' ce' ne' δ' F'' hm' N'' nd'' H' Lr'=>?_
 refine lv _ _ ⟨L',mf',_,F'',N'',fun F3 N3=>?_⟩
 skip
 refine⟨afl.val,⟨σ.loc,σ'.hp⟩,hfl.val,⟨⟨mf,m,ce,ce'++ne',δ',F3,hm,?_,?_,H'.vS (fun p hp=>List.mem_append_right _ hp),Lr⟩,hrest⟩,rfl,hq⟩
 ·rw [List.append_assoc] at N3;exact N3
 ·rw [List.append_assoc] at nd'';exact nd''
end
section
variable {prog:Program} {w:World} {A:Around} {s:Shared}
noncomputable def JX (x:Addr) (P:Result->Shared->Prop) (r:Result) (s':Shared):Prop:=match r with
 | .ok (.ret v)=>v = .none∧P (.ok (.ret (.ref x))) s'
 | _=>False
theorem RC.gy {id:String} {args:Args} {b:Builtin} {P:Result->Shared->Prop} (hl:j6 (.builtin id args)=false) (hq:(Code.builtin id args).quiet=true) (hb:entryFor table id=some b)
  (h:wpAny (model prog w) A.in1 (checkBuiltinCall id args) (fun _ s₁=>RW (model prog w) (A.under (.builtin id args)) (b args)
   (fun fin s'=>match fin with | .done f=>P (.ok f) s' | .again c'=>c'.quiet=true∧RC (model prog w) A c' P s') s₁) NE s):RC (model prog w) A (.call (.builtin id) args) P s:=by
 refine .tree rfl (.of ?_)
 refine wpAny_bind (wpAny_mono h (fun _ s₁ h₁=>wpAny_pure (And.intro hq (RC.tree hl ?_))) fun _ _ h'=>h')
 refine (?_:RW _ _ (match entryFor table id with | some b=>b args | none=>unsupported ((withoutEnding? id "#data").getD id)) _ s₁)
 refine hb▸?_;exact h₁
variable {C:Addr} {h:Heap} {g:Array GenState} {d:Drawn} {t:Nat} {os:OsState}
theorem Dx {rest:List Value} {fI:Addr} {P:Result->Shared->Prop} (Y:Makes (model prog w) h C) (hi:Looks (model prog w) h (typeLookup (.ref C) "__init__") (some (.ref fI))) (hb:∀ self,Looks (model prog w) h (bindSpecial (.ref fI) self) (.ref fI,[self]))
  (hq:RC (model prog w) (A.under (.builtin "type.__call__" ⟨.ref C::rest,[]⟩)) (.call (.ref fI) ⟨.ref (h.objs.size+1)::rest,[]⟩) (JX (h.objs.size+1) P) ⟨(h.push emptyDict).push (instObj C h.objs.size),g,d,t,os⟩) :
  RC (model prog w) A (.call (.ref C) ⟨rest,[]⟩) P ⟨h,g,d,t,os⟩:=by
 have Y':=Y
 obtain⟨⟨oc,od,cd,sl,hC,e1,e2,e4⟩,made,base,self,top,call,typ⟩:=Y
 refine .tree rfl (.of ?_)
 refine nd_load hC ?_
 show wpAny _ _ (callAny.viaDunder (.ref C) _) _ _ _
 refine wpAny_bind (call.at ?_)
 dsimp only
 rw [tc_bind]
 refine wpAny_bind (wpAny_pure (wpAny_bind (wpAny_pure ?_)))
 refine wpAny_pure (a:=Fin.again (.call (.builtin "type.__call__") ⟨.ref C::rest,[]⟩)) (And.intro rfl ?_)
 refine RC.gy (show dA.contains "type.__call__" = false by decide +kernel) (Code.quiet_builtin _ (by decide +kernel)) entry_typeCall (check_slot tc_kind tc_split typ (tc_args _ _ _) ?_)
 have hm:Looks (model prog w) h (mroOf (.ref C)) cd.mro:=((Looks.ld (part:=none) hC).andThen .now).andThen .now
 have k:∀ b o,h.get? b=some o->((h.push emptyDict).push (instObj C h.objs.size)).get? b=some o:=fun b o e=>Heap.get?_push_of_some _ (Heap.get?_push_of_some _ e)
 have hx:((h.push emptyDict).push (instObj C h.objs.size)).get? (h.objs.size+1)=some (instObj C h.objs.size):=by heap_get
 have t1:Looks (model prog w) ((h.push emptyDict).push (instObj C h.objs.size)) (typeOf (.ref (h.objs.size+1))) (.ref C):=(Looks.ld hx).andThen .now
 have s1:=self.keeps k
 have i1:=hi.keeps k
 have b1:=(hb (.ref (h.objs.size+1))).keeps k
 refine fU hm ?_
 simp only [e4,Bool.false_eq_true,if_false]
 refine fU made ?_
 refine .bind (.pure (.bind (.holding (.of (wpAny_call (new_K Y' hi (.inl rfl) ?_))))))
 refine .bind (fU t1 (.of (s1 _ _ _ _ (fun _ _ e=>e) ?_)))
 refine .bind (.holding ?_)
 refine fU (r:=some (.ref fI)) ?_ ?_
 ·exact t1.andThen i1
 refine .holding (fU b1 ?_)
 refine .bind (.call ?_)
 refine hq.mono fun r s' z=>?_
 rcases r with e | (v | _ | _ | _)<;>first | exact z.elim | skip
 obtain⟨rfl,z⟩:=z
 exact RW.pure (RW.pure z)
end
section
variable {C:Cx} {n:Nat} {Z:Led} {s:Shared} {σ:AS}
theorem wb {k:Nat} (ok:C.Ok (20*k+10)) {K fI:Addr} {vs:List Value} {as:List AV} {Q:AV->AS->Prop} (st:St C Z s σ) (hi:C.T.init K=some fI) (hv:cK vs as)
  (h:∀ x,σ.hp x=none->cq C.toTp k fI (.ref x::as) (fun v hp'=>v = .none∧Q (.ref x) { σ with hp:=hp' }) (σ.hp.set x (.inst K []))) :
  RW C.M C.A (call (.ref K) vs []) (LE C Z Q) s:=by
 refine st.elim fun mf m ce ne δ F hm N nd H Lr=>?_
 refine vv (ok.k.RA K fI hi) fun h1 h2 h3 _=>?_
 have X:=ok.X.keeps F.keep
 obtain⟨hh,gg,dd,tt,oo⟩:=s
 let x:Addr:=hh.objs.size+1
 let dx:Addr:=hh.objs.size
 have hhd:=st.2
 have F':Fr C.hz C.L ((hh.push emptyDict).push (instObj K dx)) mf:=(F.push _).push _
 have N':News C.hz C.L ((hh.push emptyDict).push (instObj K dx)) ((x,instObj K dx)::(dx,dictOf [] 0)::(Z++(ce++ne))):=by
  have:=(N.push F emptyDict).push (F.push _) (instObj K hh.objs.size)
  rwa [Heap.size_push] at this
 have lt:∀ p∈Z++(ce++ne),p.1<dx:=fun p hp=>Heap.lt_size (N p hp).1
 have lx:dx<x:=Nat.lt_succ_self _
 let C':Cx:={ C with A:=C.A.under (.builtin "type.__call__" ⟨.ref K::vs,[]⟩) }
 have ok':C'.Ok (20*k):=by
  refine { ok with dep:=?_,zG:=?_,hA:=ok.hA,hh:=ok.hh,B:=ok.B,X:=ok.X,top:=ok.top }
  ·show (C.A.under _).depth+_<_
   rw [depth_under_make]
   have:=ok.dep
   omega
  ·show (C.A.under _).units+100+_<_
   rw [units_under_make]
   have:=ok.zG
   omega
 have off:∀ (l:Led) (b:Addr),(∀ p∈l,p.1<b)->b ∉ keys l:=fun l b hl q=>by
  refine aA (List.mem_map.mp q) fun p hp e=>?_
  exact absurd (e▸hl p hp) (Nat.lt_irrefl _)
 have hd:dx ∉ keys ne:=off _ _ fun p hp=>lt p (bP hp)
 have hx:x ∉ keys ne:=off _ _ fun p hp=>Nat.lt_trans (lt p (bP hp)) lx
 have hxd:x≠dx:=Nat.ne_of_gt lx
 have st':St C' Z ⟨(hh.push emptyDict).push (instObj K dx),gg,dd,tt,oo⟩ { σ with hp:=σ.hp.set x (.inst K []) }:=by
  refine⟨⟨mf,m,ce,_,_,F',⟨hm.t,hm.f⟩,?_,?_,H.QD hx hd hxd,⟨Lr.q,Lr.l,Lr.c,Lr.i⟩⟩,hhd⟩
  ·intro p hp
   refine N' p ?_
   rcases List.mem_append.mp hp with h | h
   ·exact .tail _ (.tail _ (List.mem_append_left _ h))
   ·refine Or.elim (List.mem_append.mp h) (fun h=>?_) (fun h=>?_)
    ·exact .tail _ (.tail _ (lL h))
    ·rcases List.mem_cons.mp h with rfl | h
     ·exact .head _
     ·rcases List.mem_cons.mp h with rfl | h
      ·exact .tail _ (.head _)
      ·exact .tail _ (.tail _ (bP h))
  ·have a1:=off _ _ lt
   have a2:x ∉ keys (Z++(ce++ne)):=off _ _ fun p hp=>Nat.lt_trans (lt p hp) lx
   simp only [keys,List.map_append,List.map_cons] at nd a1 a2 ⊢
   rw [List.perm_middle.append_left _ |>.nodup_iff,List.perm_middle.nodup_iff,List.nodup_cons,List.perm_middle.append_left _ |>.nodup_iff,List.perm_middle.nodup_iff,List.nodup_cons]
   refine⟨?_,a1,nd⟩
   intro q
   have:x=dx∨x∈(List.map (fun x=>x.fst) Z++(List.map (fun x=>x.fst) ce++List.map (fun x=>x.fst) ne)):=by
    simp only [List.mem_append,List.mem_cons] at q ⊢
    rcases q with q | q | q | q
    ·exact .inr (.inl q)
    ·exact .inr (.inr (.inl q))
    ·exact .inl q
    ·exact .inr (.inr (.inr q))
   exact this.elim hxd a2
 have hn:σ.hp x=none:=by
  cases q:σ.hp x with
  | none=>rfl
  | some ao=>exact absurd (H.key q) hx
 refine .call (Dx (makes_of X h1) (looks_findIn X h2) (fun self=>bind_fn X self (beq_iff_eq.mp h3)) (((h x hn).2 C' Z _ _ (.ref x::vs) rfl ok' st' rfl (.cons (.ref x) hv)).mono fun r s' hr=>?_))
 rcases r with e | (v | _ | _ | _)<;>first | exact hr.elim | skip
 refine uz hr fun a σ' r1 r2 r3 zp5 r4=>?_;subst zp5
 cases r1
 refine⟨rfl,.ref x,σ',.ref x,⟨?_,r2.2⟩,?_⟩
 ·refine Qt r2.at fun mf2 m2 ce2 ne2 δ2 F2 hm2 N2 nd2 H2 L2=>?_
  exact⟨mf2,m2,ce2,ne2,δ2,F2,⟨hm2.t,hm2.f⟩,N2,nd2,H2,⟨L2.q,L2.l,L2.c,L2.i⟩⟩
 ·have e:{ σ with hp:=σ'.hp }=σ':=by
   have:σ'.loc=σ.loc:=r3
   rw [← this]
  rw [← e];exact r4
theorem Ah {k:Nat} (ok:C.Ok (20*k)) {f:Addr} {vs:List Value} {as:List AV} {Q:AV->AS->Prop} (st:St C Z s σ) (hv:cK vs as) (h:cq C.toTp k f as (fun v hp'=>Q v { σ with hp:=hp' }) σ.hp) :
  RW C.M C.A (call (.ref f) vs []) (LE C Z Q) s:=by
 refine .call ((h.2 C Z s σ vs rfl ok st rfl hv).mono fun r s' hr=>?_)
 rcases r with e | (v | _ | _ | _)<;>first | exact hr.elim | skip
 exact LE.mono hr fun a σ' q=>by
  have e:{ σ with hp:=σ'.hp }=σ':=by rw [← q.1]
  rw [← e];exact q.2
end
theorem l0:PlainAttrs "bytearray" :=
 ⟨⟨"bytearray.__getattribute__",by rw [typeLookup_type,builtinLookup_eq_fast];kernel_rfl,by decide +kernel⟩,by rw [typeLookup_type,builtinLookup_eq_fast];kernel_rfl⟩
theorem sf:Manifest.owners.lookup (String.ofList ['y','a','r','r','a','e','t','y','b'].reverse)=some Manifest.sig_bytearray:=by kernel_rfl
theorem fW:Slot "bytearray" "append" "bytearray.append" :=
 .of (owner := "bytearray") (n := "append") (by rw [typeLookup_type,builtinLookup_eq_fast];kernel_rfl) (by decide +kernel) (by decide +kernel) (by decide +kernel)
  (by first | exact .inl (by decide +kernel) | exact .inr (by decide +kernel)) (by rw [isSubtype_type];kernel_rfl)
theorem lG:typeOf (.builtin "bytearray.append")=pure (.type "method_descriptor"):=by show builtinType _=_;rw [builtinType_eq_fast];kernel_rfl
theorem jU:entryFor table "bytearray.append" = some Builtin.«bytearray.append» := entryFor_of_tree (by kernel_rfl)
theorem kS (a b:Value):argsOk "bytearray.append" ⟨[a,b],[]⟩:=by
 unfold argsOk;rw [signature?_of (id := "bytearray.append") (n:=['d','n','e','p','p','a']) (o:=['y','a','r','r','a','e','t','y','b']) (by kernel_rfl) sf];kernel_rfl
theorem cH:Slot "bytearray" "__init__" "bytearray.__init__" :=
 .of (owner := "bytearray") (n := "__init__") (by rw [typeLookup_type,builtinLookup_eq_fast];kernel_rfl) (by decide +kernel) (by decide +kernel) (by decide +kernel)
  (by first | exact .inl (by decide +kernel) | exact .inr (by decide +kernel)) (by rw [isSubtype_type];kernel_rfl)
theorem lX:entryFor table "bytearray.__init__" = some Builtin.«bytearray.__init__» := entryFor_of_tree (by kernel_rfl)
theorem mq (a:Value):argsOk "bytearray.__init__" ⟨[a],[]⟩:=by unfold argsOk;kernel_rfl
theorem mQ:mroOf (.type "bytearray")=pure [.type "bytearray",.type "object"]:=by rw [mroOf_type];kernel_rfl
theorem lY:typeLookup (.type "bytearray") "__new__" = pure (some (.builtin "bytearray.__new__")):=by rw [typeLookup_type,builtinLookup_eq_fast];kernel_rfl
theorem eH:TypeCalled "bytearray" "bytearray.__new__" "bytearray.__init__" :=
 ⟨by decide +kernel,by decide +kernel,⟨_,_,mQ⟩,madeBy_type mQ lY (by decide +kernel),by decide +kernel,by rw [isSubtype_type];kernel_rfl,cH⟩
theorem nR:checkTypeCall "bytearray" ⟨[],[]⟩=pure ():=by kernel_rfl
theorem pf:checkBuiltinCall "bytearray.__new__" ⟨[.type "bytearray"],[]⟩=pure ():=by kernel_rfl
theorem mG:entryFor table "bytearray.__new__" = some Builtin.«list.__new__» := entryFor_alias (id' := "list.__new__") (by rw [fastTable_eq_tree];kernel_rfl) (by kernel_rfl) (by kernel_rfl) (by rw [fastTable_eq_tree];kernel_rfl)
theorem mW:plainId "bytearray.__new__" = true:=by decide +kernel
theorem kx:isSubtype (.type "bytearray") (.type "bytearray")=pure true:=by rw [isSubtype_type];kernel_rfl
set_option maxRecDepth 1000000 in
set_option maxHeartbeats 4000000 in
theorem mV:("bytearray.__new__".splitOn ".__new__").headD "" = "bytearray" := by simp +decide [String.splitOn,String.splitOnAux]
section
variable {prog:Program} {w:World} {A:Around} {s:Shared}
theorem AB {id:String} (h:dA.contains id=false):id ≠ "bytearray.__contains__" ∧ id ≠ "bytearray.__mod__" ∧ id ≠ "bytearray.__rmod__" ∧ id ≠ "_struct.pack_into.held" ∧ id ≠ "bytearray.find.held" ∧ Builtin.Bytes.decodersThatHold.contains id=false:=by
 have h':id ∉ dA:=by
  intro q
  rw [List.contains_iff_mem.mpr q] at h
  contradiction
 simp only [dA,List.mem_append,List.mem_cons,List.not_mem_nil,or_false,not_or] at h'
 refine⟨h'.1.1,h'.1.2.1,h'.1.2.2.1,h'.1.2.2.2.1,h'.1.2.2.2.2,?_⟩
 cases q:Builtin.Bytes.decodersThatHold.contains id with
 | false=>rfl
 | true=>exact absurd (List.contains_iff_mem.mp q) h'.2
theorem F5 (x:Bool):¬ (x&&false)=true:=by cases x<;>exact Bool.false_ne_true
theorem lN {a:Addr} {Q:Bool->Shared->Prop} (h:Q false s):RW (model prog w) A (Builtin.Bytes.exported (.ref a)) Q s:=fun Γ p hΓ hc=>by
 refine (congrArg (Q · s) (List.any_eq_false.mpr fun x hx=>?_)).mpr h
 have hl:j6 x.1=false:=by rcases List.mem_cons.mp hx with rfl | hx;exact hc.c;exact hc.b x hx
 clear hx
 obtain⟨c,q⟩:=x
 cases c<;>try exact Bool.false_ne_true
 rename_i id args
 refine FZ (AB hl) fun h1 h2 h3 h4 h5 h6=>?_
 obtain⟨ps,kw⟩:=args
 delta Builtin.Bytes.exported.match_1 Builtin.Bytes.exported._sparseCasesOn_1
 dsimp only
 rw [dif_neg h1,dif_neg h2,dif_neg h3,dif_neg h4,dif_neg h5,h6]
 cases ps with
 | nil=>exact Bool.false_ne_true
 | cons v r=>exact F5 _
theorem mY {a:Addr} {b:Array UInt8} {o:Obj} {Q:Nat->Shared->Prop} (ho:s.heap.get? a=some o) (hd:o.data = .bytearray b) (h:Q 0 s):wpAny (model prog w) A (Builtin.Bytes.exportsOf (.ref a)) Q NE s:=by
 refine (?_:wpAny _ _ (load a>>=_) Q NE s)
 refine wpAny_bind (wpAny_load ho ?_)
 refine hd▸?_
 exact wpAny_pure h
theorem yD {a:Addr} {b:Array UInt8} {o:Obj} {Q:Unit->Shared->Prop} (ho:s.heap.get? a=some o) (hd:o.data = .bytearray b) (h:Q () s):RW (model prog w) A (Builtin.Bytes.checkResize (.ref a)) Q s:=by
 skip
 refine .bind (.bind (lN ?_))
 refine .of (wpAny_bind (mY ho hd (wpAny_pure ?_)))
 exact RW.pure h
theorem qN {a:Addr} {b:Array UInt8} {o:Obj} {f:Array UInt8->Array UInt8} {Q:Unit->Shared->Prop} (ho:s.heap.get? a=some o) (hd:o.data = .bytearray b) (hz:(f b).size≤2000000)
  (h:Q () { s with heap:=s.heap.update a (Obj.mapBytearray f) }):wpAny (model prog w) A (Builtin.Bytes.write (.ref a) f) Q NE s:=by
 refine (?_:wpAny _ _ (updateBytearray a f) Q NE s)
 skip
 refine wpAny_bind (wpAny_load ho ?_)
 skip
 obtain⟨c,d,dt,sl⟩:=o
 simp only at hd;subst hd
 refine wpAny_bind (wpAny_update ho ?_)
 refine wpAny_lookBehind (o:=Obj.mapBytearray f ⟨c,d,.bytearray b,sl⟩) (Heap.get?_update_self _ ho rfl) ?_ h
 refine (?_:(if (f b).size>sizeLine then some "bytearray:memory" else none)=none)
 rw [if_neg (by rw [sizeLine_eq];omega)]
end
section
variable {C:Cx} {n:Nat} {Z:Led} {s:Shared} {σ:AS}
theorem rI {a:Addr} {b:List UInt8} {k:Int} {t:Tok} {Q:AV->AS->Prop} (st:St C Z s σ) (ha:σ.hp a=some (.aB b)) (h0:0≤k) (h1:k<256) (hz:b.length≤1000000)
  (h:Q .none { σ with hp:=σ.hp.set a (.aB (b++[UInt8.ofNat k.toNat])) }):RW C.M C.A (call (.builtin "bytearray.append") [.ref a,.int k t] []) (LE C Z Q) s:=by
 refine st.elim fun mf m ce ne δ F hm N nd H Lr=>?_
 have ho:s.heap.get? a=some (aW b.toArray):=by
  cases H.rep _ _ ha with
  | aB h1=>exact N.get (bP h1)
 have hT:s.TypeIs (.ref a) "bytearray" := ⟨_,ho,rfl⟩
 refine .call (RC.gy (by decide +kernel:dA.contains "bytearray.append" = false) (Code.quiet_builtin _ (by decide +kernel)) jU (fW.check _ _ _ _ _ _ _ _ hT (kS _ _) ?_))
 refine (?_:RW _ _ (Builtin.Bytes.byteValue (.int k t)>>=_) _ _)
 refine .bind ?_
 refine (?_:RW _ _ (if (decide (k<0)||decide (k≥256))=true then _ else _) _ _)
 rw [if_neg (by simp;omega)]
 refine .pure (.bind (yD ho rfl (.bind (.of (qN ho rfl (by simp;omega) (.pure ?_))))))
 skip
 refine⟨.none,{ σ with hp:=σ.hp.set a (.aB (b++[UInt8.ofNat k.toNat])) },.none,st.sS (tk:=s.toks) (ao' := .aB (b++[UInt8.ofNat k.toNat])) (o':=aW (b++[UInt8.ofNat k.toNat]).toArray) (by cases H.rep _ _ ha with | aB h1=>exact H.off (i9 nd) h1 (eM (by decide))) ha rfl rfl (Heap.SameBut.update ..) ?_ fun ne hn => .aB hn,h⟩
 have e':Obj.mapBytearray (·.push k.toNat.toUInt8) (aW b.toArray)=aW (b++[UInt8.ofNat k.toNat]).toArray:=by
  delta Obj.mapBytearray aW
  simp [Nat.toUInt8]
 rw [← e']
 exact Heap.get?_update_self _ ho (by skip;rfl)
theorem rT {a:Addr} {b:List UInt8} {pl:Sem Bool} {Q:Value×List Value->Shared->Prop} (st:St C Z s σ) (ha:σ.hp a=some (.aB b)) (h:Q (.builtin "bytearray.append",[.ref a]) s) :
  wpAny C.M C.A (getMethod (.ref a) (Str.ofString "append") pl) Q NE s:=by
 refine st.elim fun mf m ce ne δ F hm N nd H Lr=>?_
 have ho:s.heap.get? a=some (aW b.toArray):=by
  cases H.rep _ _ ha with
  | aB h1=>exact N.get (bP h1)
 exact getMethod_builtin ⟨_,ho,rfl⟩ l0 fW lG (fun _ e=>by cases e;exact⟨_,ho,rfl⟩) h
end
theorem nE:typeLookup (.type "bytearray") "__bytes__" = pure none:=by skip;kernel_rfl
theorem nF:typeLookup (.type "bytearray") "__index__" = pure none:=by skip;kernel_rfl
theorem iW:typeLookup (.type "bytearray") "__buffer__" = pure (some (.builtin "bytearray.__buffer__")):=by skip;kernel_rfl
theorem oG:typeLookup (.type "bytearray") "__release_buffer__" = pure (some (.builtin "bytearray.__release_buffer__")):=by skip;kernel_rfl
section
variable {prog:Program} {w:World} {A:Around} {s:Shared}
theorem own_buffer {a:Addr} {b:Array UInt8} {Q:Bool->Shared->Prop} (ho:s.heap.get? a=some (aW b)) (h:Q true s):wpAny (model prog w) A (Builtin.Bytes.slotIsOwn (.ref a) "__buffer__") Q NE s:=by
 have hT:s.TypeIs (.ref a) "bytearray" := ⟨_,ho,rfl⟩
 skip
 refine wpAny_bind (wpAny_specialOf hT iW ?_)
 skip
 refine bm_if_false (by decide +kernel) ?_
 refine (by decide +kernel:("bytearray.__buffer__".dropRight ("__buffer__".length+1)) = "bytearray")▸?_
 exact wpAny_isInstance hT kx h
theorem own_release {a:Addr} {b:Array UInt8} {Q:Bool->Shared->Prop} (ho:s.heap.get? a=some (aW b)) (h:Q false s):wpAny (model prog w) A (Builtin.Bytes.ownRelease (.ref a)) Q NE s:=by
 have hT:s.TypeIs (.ref a) "bytearray" := ⟨_,ho,rfl⟩
 skip
 refine wpAny_bind ?_
 skip
 refine wpAny_bind (wpAny_specialOf hT oG ?_)
 skip
 refine bm_if_false (by decide +kernel) ?_
 refine (by decide +kernel:("bytearray.__release_buffer__".dropRight ("__release_buffer__".length+1)) = "bytearray")▸?_
 exact wpAny_isInstance hT kx (wpAny_pure h)
theorem sv {a:Addr} {b:Array UInt8} {Q:Array UInt8->Shared->Prop} (ho:s.heap.get? a=some (aW b)) (h:Q b s):wpAny (model prog w) A (Builtin.Bytes.payload (.ref a)) Q NE s:=by
 skip
 refine wpAny_bind ?_
 refine (?_:wpAny _ _ (load a>>=_) _ _ _)
 exact wpAny_bind (wpAny_load ho (wpAny_pure (wpAny_pure h)))
theorem Jk {a:Addr} {b:Array UInt8} {Q:Value->Shared->Prop} (ho:s.heap.get? a=some (aW b)) (hz:b.size≤1000000) (h:∀ t k,Q (.bytes b t) { s with toks:=k }) :
  codeAny (model prog w) A (.call (.builtin "bytes.__new__") ⟨[.type "bytes",.ref a],[]⟩) (wants Q NE) s:=by
 refine codeAny_of_tree ?_
 refine (?_:wpAny _ A.in1 (do checkBuiltinCall "bytes.__new__" ⟨[.type "bytes",.ref a],[]⟩;again (.builtin "bytes.__new__" ⟨[.type "bytes",.ref a],[]⟩)) _ _ s)
 refine wpAny_bind (wpAny_of_eq (PySem.F.bm_newCall _) (wpAny_pure ⟨plainId_quiet PySem.F.bm_plain _,codeAny_builtin PySem.F.bm_entry ?_⟩))
 skip
 have hT:s.TypeIs (.ref a) "bytearray" := ⟨_,ho,rfl⟩
 skip
 refine wpAny_bind (wpAny_of_eq (a:=true) rfl ?_)
 refine bm_if_false rfl ?_
 refine wpAny_bind (wpAny_of_eq PySem.F.bm_sub ?_)
 refine bm_if_false rfl ?_
 refine wpAny_bind (wpAny_of_eq (PySem.F.bm_bind _) ?_)
 refine wpAny_bind (wpAny_of_eq (a:=()) rfl ?_)
 refine wpAny_bind (wpAny_of_eq (a:=()) rfl ?_)
 refine bm_if_false rfl ?_
 refine wpAny_bind (wpAny_specialOf hT nE ?_)
 refine wpAny_bind (wpAny_bind ?_)
 refine (?_:wpAny _ _ (load a>>=_) _ _ _)
 refine wpAny_bind (wpAny_load ho ?_)
 refine wpAny_pure (wpAny_pure ?_)
 refine bm_if_false rfl ?_
 refine wpAny_bind (wpAny_specialOf hT nF ?_)
 refine bm_if_true rfl ?_
 first
  | refine (?_:wpAny _ _ (Builtin.Bytes.buffer? "bytes.__new__" (.ref a) true>>=_) _ _ _)
  | (refine wpAny_bind ?_;show wpAny _ _ (Builtin.Bytes.buffer? "bytes.__new__" (.ref a) true>>=_) _ _ _)
 refine wpAny_bind ?_
 skip
 refine wpAny_bind (wpAny_specialOf hT iW ?_)
 skip
 refine wpAny_bind (wpAny_mono (own_buffer ho ?_) (fun _ _ x=>x) fun _ _ x=>x.elim)
 refine bm_if_false rfl ?_
 refine wpAny_bind (wpAny_specialOf hT iW ?_)
 skip
 refine wpAny_bind (wpAny_mono (own_release ho ?_) (fun _ _ x=>x) fun _ _ x=>x.elim)
 refine bm_if_false rfl ?_
 refine wpAny_bind (wpAny_mono (sv ho ?_) (fun _ _ x=>x) fun _ _ x=>x.elim)
 refine wpAny_pure ?_
 refine (?_:wpAny _ _ (rule _>>=_) _ _ _)
 refine wpAny_bind (wpAny_rule (wpAny_bind (wpAny_mkBytes ?_ (by simp only [sizeLine_eq];omega))))
 exact wpAny_pure (h _ _)
theorem yC {a:Addr} {b:Array UInt8} {Q:Value->Shared->Prop} (ho:s.heap.get? a=some (aW b)) (hz:b.size≤1000000) (h:∀ t k,Q (.bytes b t) { s with toks:=k }):wpAny (model prog w) A (call (.type "bytes") [.ref a]) Q NE s:=by
 refine callType_codes (Q₁:=fun obj s₁=>s₁.TypeIs obj "bytes" ∧ Q obj s₁) PySem.F.bm_called (PySem.F.bm_typeCall _) PySem.F.entry_object_init
  (Jk ho hz fun t k=>⟨PySem.W.typeIs_bytes _ _ _,h t k⟩) fun obj s₁ h₁=>?_
 exact⟨h₁.1,PySem.F.args_object_init_2 obj _,object_init_meets PySem.F.bm_called.init.lookup PySem.F.bm_called.made (by decide) prog w A.in1 _ s₁ ⟨h₁.1,rfl,h₁.2⟩⟩
end
section
variable {C:Cx} {n:Nat} {Z:Led} {s:Shared} {σ:AS}
theorem vQ {a:Addr} {b:List UInt8} {Q:AV->AS->Prop} (st:St C Z s σ) (ha:σ.hp a=some (.aB b)) (hz:b.length≤1000000) (h:Q (.bytes b) σ):wpAny C.M C.A (call (.type "bytes") [.ref a]) (LE C Z Q) NE s:=by
 refine st.elim fun mf m ce ne δ F hm N nd H Lr=>?_
 have ho:s.heap.get? a=some (aW b.toArray):=by
  cases H.rep _ _ ha with
  | aB h1=>exact N.get (bP h1)
 exact yC ho (by exact hz) fun t k=>⟨_,_,.bytes b t,st.tok,h⟩
end
section
variable {prog:Program} {w:World} {A:Around} {s:Shared}
theorem nG {Q₁:Value->Shared->Prop}
  (h:Q₁ (.ref s.heap.objs.size) { s with heap:=s.heap.push (aW #[]) }) :
  codeAny (model prog w) A (.call (.builtin "bytearray.__new__") ⟨[.type "bytearray"],[]⟩) (wants Q₁ NE) s:=by
 refine codeAny_of_tree ?_
 refine (?_:wpAny _ A.in1 (do checkBuiltinCall "bytearray.__new__" ⟨[.type "bytearray"],[]⟩;again (.builtin "bytearray.__new__" ⟨[.type "bytearray"],[]⟩)) _ _ s)
 refine wpAny_bind (wpAny_of_eq pf (wpAny_pure ⟨plainId_quiet mW _,codeAny_builtin_stack mG rfl fun p st=>?_⟩))
 skip
 have hsub:=kx
 have hown:=mV
 have hp:=s.1;have g:=s.2;have d:=s.3;have tk:=s.4;have os:=s.5
 simp only [hown]
 wp_walk
 exact h
theorem ui:Builtin.Bytes.bindOptional "bytearray.__init__" "bytearray" ["source","encoding","errors"] [] []=pure [none,none,none]:=by kernel_rfl
theorem Dt {a:Addr} {P:Fin->Shared->Prop} (ho:s.heap.get? a=some (aW #[])) (h:∀ h',Heap.SameBut a s.heap h'->h'.get? a=some (aW #[])->P (.done (.ret .none)) { s with heap:=h' }):RW (model prog w) A (Builtin.«bytearray.__init__» ⟨[.ref a],[]⟩) P s:=by
 refine .bind (.of (own_release ho ?_))
 refine .bind (.ofEq ui ?_)
 refine .bind (.ofEq (a:=()) rfl ?_)
 refine .bind (.ofEq (a:=()) rfl ?_)
 refine .bind (.bind (lN ?_))
 refine .of (wpAny_bind (mY ho rfl (wpAny_pure ?_)))
 refine .bind (.of (qN ho rfl (Nat.zero_le _) ?_))
 refine .bind (.pure ?_)
 refine RW.pure (h _ (Heap.SameBut.update ..) ?_)
 exact Heap.get?_update_self (Obj.mapBytearray fun _ => #[]) ho rfl
theorem RW.Rz {α:Type} {M:Model} {c:Bool} {t e:Sem α} {P:α->Shared->Prop} (h:c=false) (k:RW M A e P s):RW M A (if c=true then t else e) P s:=by
 subst h;exact k
theorem wz:entryFor table "type.__call__" = some Builtin.«type.__call__» := entry_typeCall
theorem zx (args:Args):j6 (.builtin "type.__call__" args)=false:=show dA.contains "type.__call__" = false by decide +kernel
theorem qj {id:String} {args:Args} {b:Builtin} (hb:entryFor table id=some b):(model prog w).den (.builtin id args)=b args:=by
 refine (?_:(match entryFor table id with | some b=>b args | none=>unsupported ((withoutEnding? id "#data").getD id))=_)
 exact hb▸rfl
theorem Du {P:Result->Shared->Prop} (h:∀ h':Heap,Heap.SameBut s.heap.objs.size (s.heap.push (aW #[])) h'->h'.get? s.heap.objs.size=some (aW #[])->P (.ok (.ret (.ref s.heap.objs.size))) { s with heap:=h' }) :
  RC (model prog w) A (.call (.type "bytearray") ⟨[],[]⟩) P s:=by
 refine ES eH.mro fun c tl hmro=>?_
 refine .tree rfl (.of ?_)
 refine (?_:wpAny _ _ (callAny (.type "bytearray") _) _ _ _)
 have hl:j6 (.builtin "type.__call__" ⟨[.type "bytearray"],[]⟩)=false:=zx _
 refine wpAny_pure (a:=Fin.again (.builtin "type.__call__" ⟨[.type "bytearray"],[]⟩)) ⟨Code.quiet_builtin _ (by decide +kernel),?_⟩
 refine RC.tree hl ?_
 refine (qj wz)▸?_
 unfold Builtin.«type.__call__»
 skip
 refine RW.Rz eH.notType ?_
 refine RW.Rz eH.canCreate ?_
 refine .bind (.ofEq nR ?_)
 refine .bind (.ofEq mQ ?_)
 refine .bind (.ofEq eH.made ?_)
 refine .bind (.pure ?_)
 refine .bind (.holding (.of (wpAny_call (codeAny_mono (nG (Q₁:=fun v s₁=>v = .ref s.heap.objs.size∧s₁={ s with heap:=s.heap.push (aW #[]) }) ⟨rfl,rfl⟩) fun r s' hr=>?_))))
 rcases r with e | (v | _ | _ | _)<;>first | exact hr.elim | skip
 obtain⟨rfl,rfl⟩:=hr
 have ho:(s.heap.push (aW #[])).get? s.heap.objs.size=some (aW #[]):=Heap.get?_push_size _ rfl
 have hT:Shared.TypeIs { s with heap:=s.heap.push (aW #[]) } (.ref s.heap.objs.size) "bytearray" := ⟨_,ho,rfl⟩
 refine .bind (.of (wpAny_isInstance hT kx ?_))
 refine .bind (.holding ?_)
 refine .bind (.of (wpAny_specialOf hT cH.lookup ?_))
 refine .holding (.bind (.ofEq (cH.bind _) ?_))
 refine .bind (.call ?_)
 refine RC.gy (by decide +kernel:dA.contains "bytearray.__init__" = false) (Code.quiet_builtin _ (by decide +kernel)) lX (cH.check _ _ _ _ _ _ _ _ hT (mq _) ?_)
 refine Dt ho fun h' hs hg=>?_
 exact RW.pure (RW.pure (h h' hs hg))
end
section
variable {C:Cx} {n:Nat} {Z:Led} {s:Shared} {σ:AS}
theorem z8 {Q:AV->AS->Prop} (st:St C Z s σ) (h:∀ r,σ.hp r=none->Q (.ref r) { σ with hp:=σ.hp.set r (.aB []) }):RW C.M C.A (call (.type "bytearray") [] []) (LE C Z Q) s:=by
 refine st.elim fun mf m ce ne δ F hm N nd H Lr=>?_
 refine .call (Du fun h' hs hg=>?_)
 skip
 skip
 have N1:News C.hz C.L (s.heap.push (aW #[])) ((s.heap.objs.size,aW #[])::(Z++(ce++ne))):=N.push F (aW #[]) rfl
 have z:=N1 (s.heap.objs.size,aW #[]) (.head _)
 have F':=(F.push (aW #[])).change hs z.2.1 z.2.2
 have N':News C.hz C.L h' ((s.heap.objs.size,aW #[])::(Z++(ce++ne))):=fun p hp=>by
  rcases List.mem_cons.mp hp with rfl | hp
  ·exact⟨hg,z.2⟩
  ·skip
   exact⟨(hs.2 _ (Nat.ne_of_lt (Heap.lt_size (N p hp).1))).trans (N1 p (.tail _ hp)).1,(N1 p (.tail _ hp)).2⟩
 obtain⟨st',e⟩:=st.jI (tk:=s.toks) hm nd H Lr F' N' (fun p hp=>Heap.lt_size (N p hp).1) (ao := .aB []) rfl fun ne hn => .aB hn
 exact⟨_,_,.ref _,st',h _ e⟩
end
section
variable {C:Cx} {n:Nat} {Z:Led} {s:Shared} {σ:AS}
theorem St.adopt {d:Addr} {o:Obj} (st:St C ((d,o)::Z) s σ) (cn:C.Off d) {ao:AO} (i:ao.bI=false)
  (r:∀ ne δ,HR C.T C.prog C.w ne δ σ.hp->Rep C.T C.prog C.w ((d,o)::ne) d d ao):St C Z s { σ with hp:=σ.hp.set d ao }∧σ.hp d=none:=by
 refine st.elim fun mf m ce ne δ F hm N nd H Lr=>?_
 have nd':=nd
 simp only [keys,List.cons_append,List.map_cons,List.nodup_cons] at nd'
 have hx:d ∉ keys ne:=fun q=>nd'.1 (by simp only [List.map_append,List.mem_append];exact .inr (.inr q))
 skip
 have off:∀ b ob,σ.hp b=some ob->ob.bI=true->δ b≠d:=fun b ob hb hi e=>hx (e▸(H.rep b ob hb).Am hi)
 have H':HR C.T C.prog C.w ((d,o)::ne) δ (σ.hp.set d ao):=by
  refine⟨fun b ob hb=>?_,fun b ob hb hi=>?_,fun b c ob oc hb hi hc hi' e=>?_,.tail _ H.pn⟩
  ·by_cases n:b=d
   ·cases n
    rw [Hp.aG] at hb;have hb:=Option.some.inj hb;subst hb
    exact (r ne δ H).QG i
   ·rw [Hp.aE _ _ n] at hb
    exact (H.rep b ob hb).mono (fun p hp _ => .tail _ hp) (fun _ p hp _ => .tail _ hp) fun p hp _ => .tail _ hp
  ·by_cases n:b=d
   ·cases n
    rw [Hp.aG] at hb;have hb:=Option.some.inj hb;subst hb
    replace hi:=i▸hi;contradiction
   ·rw [Hp.aE _ _ n] at hb
    rw [Hp.aE _ _ (off b ob hb hi)]
    exact H.dn b ob hb hi
  ·have nb:b≠d:=by intro zr0;cases zr0;rw [Hp.aG] at hb;have hb:=Option.some.inj hb;subst hb;rw [i] at hi;contradiction
   have nc:c≠d:=by intro zr0;cases zr0;rw [Hp.aG] at hc;have hc:=Option.some.inj hc;subst hc;rw [i] at hi';contradiction
   rw [Hp.aE _ _ nb] at hb
   rw [Hp.aE _ _ nc] at hc
   exact H.inj b c ob oc hb hi hc hi' e
 refine⟨⟨⟨mf,m,ce,(d,o)::ne,δ,F,hm,?_,?_,H',gr Lr cn⟩,st.2⟩,?_⟩
 ·intro p hp
  refine N p ?_
  rcases List.mem_append.mp hp with h | h
  ·exact .tail _ (List.mem_append_left _ h)
  ·refine Or.elim (List.mem_append.mp h) (fun h=>?_) (fun h=>?_)
   ·exact .tail _ (lL h)
   ·rcases List.mem_cons.mp h with rfl | h
    ·exact .head _
    ·exact .tail _ (bP h)
 ·simp only [keys,List.map_append,List.map_cons]
  rw [List.perm_middle.append_left _ |>.nodup_iff,List.perm_middle.nodup_iff,List.nodup_cons]
  simp only [List.map_append] at nd'
  exact nd'
 ·cases q:σ.hp d with
  | none=>rfl
  | some ao=>exact absurd (H.key q) hx
theorem St.QB {hp':Hp} (st:St C Z s σ) (h:∀ a o,hp' a=some o->σ.hp a=some o):St C Z s { σ with hp:=hp' }:=by
 refine st.elim fun mf m ce ne δ F hm N nd H Lr=>?_
 exact⟨⟨mf,m,ce,ne,δ,F,hm,N,nd,H.less h,Lr⟩,st.2⟩
theorem cK.items {vs:List Value}:∀ {ns:List Int},cK vs (ns.map AV.int)->ItemsAre (intKind C.prog C.w) ns vs:=by
 induction vs with
 | nil=>intro ns h;cases ns with
  | nil=>exact .nil
  | cons=>contradiction
 | cons v r ih=>intro ns h;cases ns with
  | nil=>contradiction
  | cons n ns =>
   cases h with
   | cons h1 h2=>cases h1 with
    | int i t=>exact .cons (intKind_is _ _ _ _) (ih h2)
theorem St.sQ (st:St C Z s σ) {k:Addr} {ns:List Int} (hk:σ.hp k=some (.tup (ns.map .int))):IsTupleKey (intKind C.prog C.w) s.heap ns k:=by
 refine dy (st.isTup hk) fun vs c e hv=>?_
 exact⟨_,vs.toArray,c,e,rfl,rfl,by exact hv.items (C:=C)⟩
theorem KR.atKey {xs:List (List Int×Addr×Value)} {aF:List (List Int×AV)} (h:KR (xs.map fun x=>(x.1,x.2.2)) aF) {ks:List Int} {av:AV} (hl:aF.lookup ks=some av):∃ p:Addr×Value,PySem.atKey xs ks=some p∧VR p.2 av:=by
 induction xs generalizing aF with
 | nil=>cases h;contradiction
 | cons x r ih =>
  obtain⟨k,a,v⟩:=x
  cases h with
  | @cons _ _ b _ q hv hr =>
   rw [List.lookup_cons] at hl
   by_cases e:ks=k
   ·subst e
    simp only [BEq.rfl,Option.some.injEq] at hl
    subst hl
    exact⟨(a,v),by simp [PySem.atKey],hv⟩
   ·have e':(ks==k)=false:=by simpa using e
    simp only [e'] at hl
    refine aA (ih hr hl) fun p h1 h2=>?_
    refine⟨p,?_,h2⟩
    have e2:decide (k=ks)=false:=by simp [Ne.symm e]
    simpa [PySem.atKey,List.find?_cons,e2] using h1
theorem wI (ok:C.Ok n) {d k:Addr} {aF:List (List Int×AV)} {ks:List Int} {av:AV} {Q:AV->AS->Prop} (st:St C Z s σ) (hd:σ.hp d=some (.aC aF)) (hk:σ.hp k=some (.tup (ks.map .int))) (hl:aF.lookup ks=some av) (h:Q av σ) :
  wpAny C.M C.A (getItem (.ref d) (.ref k)) (LE C Z Q) NE s:=by
 skip
 refine st.elim fun mf m ce ne δ F hm N nd H Lr=>?_
 have huni:=ok.zG
 cases H.rep _ _ hd with
 | aC h1 q1 q2 q3 q4 q5 q6 =>
  refine aA (q6.atKey hl) fun p hp hv=>?_
  refine wpAny_getItem_heap (knd:=tupleKind (intKind C.prog C.w)) (tupleKind_room_in1 (by omega)) (st.sQ hk) ⟨_,_,_,N.get (bP h1),q1,q2,q3,fun x hx=>?_,q5⟩ hp ⟨_,_,hv,st.tok,h⟩
  refine dy (q4 x hx) fun its c hm' hi=>?_
  exact⟨_,its,c,N.get (bP hm'),rfl,rfl,hi⟩
theorem zA (ok:C.Ok n) {d k:Addr} {aF:List (List Int×AV)} {ks:List Int} {av:AV} {value slice:Expr} {Q:AV->AS->Prop} (hns:dj slice=true) (st:St C Z s σ) (hd:σ.hp d=some (.aC aF)) (hk:σ.hp k=some (.tup (ks.map .int))) (hl:aF.lookup ks=some av) (h:Q av σ) :
  wpAny C.M C.A (subscriptTail value slice (.ref d) (.ref k)) (LE C Z Q) NE s:=by
 have hT:s.TypeIs (.ref d) "dict" := by
  refine st.elim fun mf m ce ne δ F hm N nd H Lr=>?_
  cases H.rep _ _ hd with
  | aC h1 q1 q2 q3 q4 q5 q6=>exact⟨_,N.get (bP h1),q1.1⟩
 exact jc hT slot_dict_getitem.lookup (wI ok st hd hk hl h) (pM hns)
inductive JO (C:Cx) (loc:List (Option AV)):List (Option Expr)->List Expr->List (List Int×AV)->Prop where
 | nil:JO C loc [] [] []
 | cons {i j:Int} {a b k idx:Nat} {p1 p2 p3 p4:Pos} {x:Str} {av:AV} {ks:List (Option Expr)} {vs:List Expr} {aF:List (List Int×AV)}:C.names[idx]?=some (x,NameKind.local)->(x==("__debug__" : Str))=false->loc[idx]?=some (some av) →
   JO C loc ks vs aF->JO C loc (some (.Tuple [.Constant (.int i) a p1,.Constant (.int j) b p2] k p3)::ks) (.Name x p4::vs) (([i,j],av)::aF)
inductive PK (hp:Hp):List (Value×Value)->List (List Int×AV)->Prop where
 | nil:PK hp [] []
 | cons {a:Addr} {v:Value} {av:AV} {ks:List Int} {vs:List (Value×Value)} {aF:List (List Int×AV)}:hp a=some (.tup (ks.map .int))->VR v av->PK hp vs aF->PK hp ((.ref a,v)::vs) ((ks,av)::aF)
theorem vg {hp:Hp} {r:Addr} {ao:AO} (hr:hp r=none):∀ a o,hp a=some o->(hp.set r ao) a=some o:=fun a o e=>by
 rw [Hp.aE _ _ (by intro zr0;subst zr0;rw [hr] at e;contradiction)];exact e
theorem wA (ok:C.Ok n) {loc:List (Option AV)} {keys:List (Option Expr)} {values:List Expr} {aF:List (List Int×AV)} (D:JO C loc keys values aF) {pos:Pos}:∀ {s:Shared} {σ:AS} {Q:List (Value×Value)->Shared->Prop},σ.loc=loc->St C Z s σ →
  (∀ vs s' σ',St C Z s' σ'->σ'.loc=loc->(∀ a o,σ.hp a=some o->σ'.hp a=some o)->PK σ'.hp vs aF->Q vs s')->wpAny C.M C.A (evalPairs (pairTrees keys values C.env pos)) Q NE s:=by
 induction D with
 | nil=>intro s σ Q hl st h;exact wpAny_pure (h [] s σ st hl (fun _ _ e=>e) .nil)
 | @cons i j a b k idx p1 p2 p3 p4 x av ks vs aF h1 h2 h3 _ ih =>
  intro s σ Q hl st h
  refine (?_:wpAny C.M C.A (eval (.Tuple [.Constant (.int i) a p1,.Constant (.int j) b p2] k p3) C.env>>=_) Q NE s)
  skip
  refine wpAny_bind (wpAny_bind (wpAny_standAt (wpAny_bind ?_)))
  rw [bA (by rfl)]
  refine spliced_cons (wpAny_mkInt ?_:wpAny C.M C.A (mkInt i) _ NE s)
  refine spliced_cons (wpAny_mkInt ?_:wpAny C.M C.A (mkInt j) _ NE _)
  refine spliced_nil ?_
  have dC:St C Z { s with toks:=s.toks+1+1 } σ:=st.tok
  refine wpAny_mono (xh dC (xs:=[AV.int i,AV.int j]) (.cons (.int i _) (.cons (.int j _) .nil)) (by simp) (Q:=fun r σ1=>∃ ad,r = .ref ad∧σ.hp ad=none∧σ1={ σ with hp:=σ.hp.set ad (.tup [.int i,.int j]) }) fun r hr=>⟨r,rfl,hr,rfl⟩) (fun v s1 hv=>?_) fun _ _ x=>x
  refine nH hv fun av1 σ1 hv1 fi zp4=>?_;refine jT zp4 fun ad zp1 hr zp3=>?_;subst zp1;subst zp3
  cases hv1
  refine wpAny_bind (wpAny_holding (wpAny_bind (wpAny_mono (qm ok (Q:=fun a' σ'=>a'=av∧σ'={ σ with hp:=σ.hp.set ad (.tup [.int i,.int j]) }) fi h1 h2 (by replace h3:=hl.symm▸h3;exact h3) ⟨rfl,rfl⟩) (fun v s2 hv=>?_) fun _ _ x=>x)))
  refine JQ hv fun av2 σ2 hv2 st4 zp4 zp5=>?_;cases zp4;subst zp5
  refine wpAny_bind (wpAny_standAt (wpAny_pure ?_))
  refine wpAny_bind (wpAny_holding (ih (by exact hl) st4 fun vs s3 σ3 st5 hl3 hk hp=>wpAny_pure ?_))
  refine h _ s3 σ3 st5 hl3 (fun a o e=>hk a o (vg hr a o e)) (.cons (hk _ _ (Hp.aG _ _ _)) hv2 hp)
noncomputable def Rf (C:Cx) (hp:Hp) (o:Obj) (xs:List (List Int×Addr×Value)):Prop :=
 ∃ es ep,o.ExactDict∧o.data = .dict es ep∧es.toList=xs.map (entryOfKey (tupleKind (intKind C.prog C.w)))∧(xs.map (·.1)).Nodup∧∀ x∈xs,hp x.2.1=some (.tup (x.1.map .int))
theorem rD {xs:List (List Int×Addr×Value)} {ks:List Int} (h:ks ∉ xs.map (·.1)):PySem.atKey xs ks=none:=by
 have:(xs.find? fun x=>decide (x.1=ks))=none:=by
  rw [List.find?_eq_none]
  intro x hx hk
  exact h (List.mem_map.mpr ⟨x,hx,of_decide_eq_true hk⟩)
 simp [PySem.atKey,this]
theorem KR.snoc {κ:Type} {l:List (κ×Value)} {q:List (κ×AV)} (h:KR l q) {k:κ} {v:Value} {a:AV} (hv:VR v a):KR (l++[(k,v)]) (q++[(k,a)]):=by
 induction h with
 | nil=>exact .cons hv .nil
 | cons h1 _ ih=>exact .cons h1 ih
theorem zt (ok:C.Ok n) {d:Addr} (cn:C.Off d) {σ:AS} {vs:List (Value×Value)} {aF:List (List Int×AV)} (p:PK σ.hp vs aF):∀ {s:Shared} {o:Obj} {xs:List (List Int×Addr×Value)} {acc:List (List Int×AV)} {Q:Unit->Shared->Prop},St C ((d,o)::Z) s σ->Rf C σ.hp o xs->KR (xs.map fun x=>(x.1,x.2.2)) acc →
  (acc.map (·.1)++aF.map (·.1)).Nodup->acc.length+aF.length≤1000->(∀ s' o' xs',St C ((d,o')::Z) s' σ->Rf C σ.hp o' xs'->KR (xs'.map fun x=>(x.1,x.2.2)) (acc++aF)->Q () s')->wpAny C.M C.A (storeAll d vs) Q NE s:=by
 induction p with
 | nil =>
  intro s o xs acc Q st D K nd hl h
  refine wpAny_pure (h s o xs st D ?_)
  simp only [List.append_nil];exact K
 | @cons a v av ks vs aF h1 h2 _ ih =>
  intro s o xs acc Q st D K nd hl h
  refine uz D fun es ep d1 d2 d3 d4 d5=>?_
  have huni:=ok.zG
  have e0:xs.map (·.1)=acc.map (·.1):=by
   have:∀ (l:List (List Int×Addr×Value)) (q:List (List Int×AV)),KR (l.map fun x=>(x.1,x.2.2)) q->l.map (·.1)=q.map (·.1):=by
    intro l
    induction l with
    | nil=>intro q hq;cases hq;rfl
    | cons y r ih=>intro q hq;cases hq with
     | cons _ hr=>simp only [List.map_cons,List.map_cons,ih _ hr]
   exact this _ _ K
  have hnot:ks ∉ xs.map (·.1):=by
   rw [e0]
   intro q
   rw [List.nodup_append] at nd
   exact nd.2.2 ks q ks (by simp) rfl
  refine (?_:wpAny C.M C.A (forIn ((Value.ref a,v)::vs) PUnit.unit fun (x:Value×Value) (_:PUnit)=>(do dictSet d x.1 x.2;pure (ForInStep.yield PUnit.unit):Sem (ForInStep PUnit))) Q NE s)
  rw [List.forIn_cons]
  have hlen:xs.length=acc.length:=by have:=congrArg List.length e0;simpa using this
  simp only [List.length_cons] at hl
  refine wpAny_bind (wpAny_bind (wpAny_dictSet_heap (knd:=tupleKind (intKind C.prog C.w)) (by omega:C.A.units<cLine) (st.sQ h1) ⟨o,es,ep,st.nL (.head _),d1,d2,d3,fun x hx=>st.sQ (d5 x hx),d4⟩ (fun h' hm' hs=>?_) (by simp only [sizeLine_eq];omega)))
  rw [storedH_new (rD hnot)] at hm'
  refine uA hm' fun o' es' ep' ho' c1 c2 c3 _ c5=>?_
  refine wpAny_pure ?_
  have st':=st.zJ (tk:=s.toks+(tupleKind (intKind C.prog C.w)).draws ks) cn hs ho'
  have K':=K.snoc (k:=ks) h2
  refine ih (acc:=acc++[(ks,av)]) (xs:=xs++[(ks,a,v)]) st' ⟨es',ep',c1,c2,c3,c5,fun x hx=>?_⟩ ?_ ?_ ?_ (fun s' o'' xs' q1 q2 q3=>h s' o'' xs' q1 q2 (by simp only [List.append_assoc] at q3;exact q3))
  ·refine Or.elim (List.mem_append.mp hx) (fun hx=>?_) (fun hx=>?_)
   ·exact d5 x hx
   ·rw [List.mem_singleton] at hx;subst hx;exact h1
  ·simp only [List.map_append];exact K'
  ·simp only [List.map_append,List.map_cons,List.map_nil,List.append_assoc] at nd ⊢;exact nd
  ·simp only [List.length_append,List.length_cons,List.length_nil];omega
theorem xg (ok:C.Ok n) {keys:List (Option Expr)} {values:List Expr} {aF:List (List Int×AV)} {pos:Pos} {Q:AV->AS->Prop} (D:JO C σ.loc keys values aF) (h0:keys≠[]) (hlen:keys.length≤15) (hnd:(aF.map (·.1)).Nodup) (st:St C Z s σ)
  (h:∀ r,σ.hp r=none->Q (.ref r) { σ with hp:=σ.hp.set r (.aC aF) }):wpAny C.M C.A (eval (.Dict keys values pos) C.env) (LE C Z Q) NE s:=by
 have hk:keys.all (·.isSome)=true∧keys.length=values.length∧aF.length=keys.length:=by
  clear h0 hlen hnd h
  generalize σ.loc=loc at D
  induction D with
  | nil=>exact⟨rfl,rfl,rfl⟩
  | cons _ _ _ _ ih=>exact⟨by simp only [List.all_cons,ih.1];rfl,by simp [ih.2.1],by simp [ih.2.2]⟩
 refine wpAny_Dict_any hk.1 hk.2.1 h0 hlen ?_
 refine bx (st.qL { cls := .type "dict",data := .dict #[] } rfl (tk:=s.toks)) fun st1 cn=>?_
 refine wA ok D rfl st1 fun vs s2 σ2 dC hl2 hk2 hp2=>?_
 refine zt ok cn hp2 dC (xs:=[]) (acc:=[]) ⟨#[],0,⟨rfl,rfl,rfl⟩,rfl,rfl,List.nodup_nil,fun x hx=>by contradiction⟩ .nil (by exact hnd) (by simp;omega) fun s3 o3 xs3 fi D3 K3=>?_
 simp only [List.nil_append] at K3
 refine uz D3 fun es ep d1 d2 d3 d4 d5=>?_
 refine bx (fi.adopt cn (ao := .aC aF) rfl fun ne δ H => .aC (.head _) d1 d2 d3 (fun x hx=>by
  have r:=H.rep _ _ (d5 x hx)
  cases r with
  | @tup _ vs n hm hv=>exact⟨vs.toArray,n,.tail _ hm,by exact hv.items (C:=C)⟩) d4 K3) fun st4 hnone=>?_
 have hn:σ.hp s.heap.objs.size=none:=by
  cases q:σ.hp s.heap.objs.size with
  | none=>rfl
  | some o=>replace hnone:=(hk2 _ _ q)▸hnone;contradiction
 have e:{ σ2 with hp:=σ.hp.set s.heap.objs.size (.aC aF) }=({ σ with hp:=σ.hp.set s.heap.objs.size (.aC aF) }:AS):=by rw [← hl2]
 refine⟨.ref _,{ σ with hp:=σ.hp.set s.heap.objs.size (.aC aF) },.ref _,?_,h _ hn⟩
 simp only [← e]
 refine st4.QB fun a o q=>?_
 dsimp only at q ⊢
 by_cases ea:a=s.heap.objs.size
 ·subst ea;rw [Hp.aG] at q ⊢;exact q
 ·rw [Hp.aE _ _ ea] at q ⊢;exact hk2 a o q
end
end Mine
end
section
open PySem PySem.W PySem.Calls PyProof.Rows PySem.Spec
open PySem.Sem (wp)
set_option Elab.async false
set_option genSizeOf false
set_option genInjectivity false
set_option maxRecDepth 100000
set_option autoImplicit false
set_option linter.unusedVariables false
namespace Mine
inductive GR (hp:Hp):List Addr->List (List Int)->Prop where
 | nil:GR hp [] []
 | cons {a:Addr} {ns:List Int} {rs:List Addr} {nss:List (List Int)}:hp a=some (.list (ns.map .int))->GR hp rs nss->GR hp (a::rs) (ns::nss)
noncomputable def pW (hp:Hp) (a:Addr) (nss:List (List Int)):Prop:=∃ rs,hp a=some (.list (rs.map .ref))∧GR hp rs nss
noncomputable def mM (nss:List (List Int)):PyData := .list (nss.map fun ns => .list (ns.map PyData.int))
theorem wF:∀ nss:List (List Int),PyData.canLayAll0 (nss.map fun ns => .list (ns.map PyData.int))=true
 | []=>rfl
 | ns::r=>by simp [PyData.canLayAll0,PyData.canLay0,ke_canLayAll0 ns,wF r]
theorem qu:∀ nss:List (List Int),PyData.depthAll (nss.map fun ns => .list (ns.map PyData.int))≤1
 | []=>by simp [PyData.depthAll]
 | ns::r=>by
  have:=qu r
  simp [PyData.depthAll,PyData.depth,ke_depthAll ns];omega
theorem jh (nss:List (List Int)):SeqAt.shaped (mM nss)=true:=by
 skip
 have h2:=qu nss
 delta SeqAt.shaped mM
 simp only [Bool.and_eq_true]
 refine⟨by skip;exact (wF nss),decide_eq_true ?_⟩
 simp only [PyData.depth]
 omega
theorem mL:∀ a b:List (List Int),Spec.sameAll (a.map fun ns => .list (ns.map PyData.int)) (b.map fun ns => .list (ns.map PyData.int))=decide (a=b)
 | [],[]=>by rfl
 | [],_::_=>by rfl
 | _::_,[]=>by rfl
 | a::r,b::t=>by
  simp only [List.map_cons,Spec.sameAll,mL r t,ke_same]
  by_cases h:a=b<;>by_cases h':r=t<;>simp [h,h']
theorem tw (a b:List (List Int)):Spec.same (mM a) (mM b)=decide (a=b):=by
 skip
 skip;exact mL a b
section
variable {C:Cx} {n:Nat} {Z:Led} {s:Shared} {σ:AS}
theorem cK.Jo {h:Heap} {vs:List Value}:∀ {ns:List Int},cK vs (ns.map AV.int)->ReadsAll h vs (ns.map PyData.int) []:=by
 induction vs with
 | nil=>intro ns hv;cases ns with
  | nil=>exact .nil
  | cons=>contradiction
 | cons v r ih=>intro ns hv;cases ns with
  | nil=>contradiction
  | cons n ns =>
   cases hv with
   | cons h1 h2=>cases h1 with
    | int i t=>exact .cons (as:=[]) (.int _ _) (ih h2)
theorem St.va (st:St C Z s σ) {a:Addr} {ns:List Int} (ha:σ.hp a=some (.list (ns.map .int))):Reads s.heap (.ref a) (.list (ns.map PyData.int)) [a]:=by
 refine dy (st.isList ha) fun vs c e hv=>?_
 exact .list e rfl rfl (by exact hv.Jo (h:=s.heap))
theorem St.DA (st:St C Z s σ) {rs:List Addr} {nss:List (List Int)} (g:GR σ.hp rs nss):∀ {vs:List Value},cK vs (rs.map AV.ref)->ReadsAll s.heap vs (nss.map fun ns => .list (ns.map PyData.int)) rs:=by
 induction g with
 | nil=>intro vs hv;cases hv;exact .nil
 | cons h1 _ ih =>
  intro vs hv
  cases hv with
  | cons v1 v2 =>
   cases v1
   exact .cons (as:=[_]) (st.va h1) (ih v2)
theorem St.oj (st:St C Z s σ) {a:Addr} {nss:List (List Int)} (g:pW σ.hp a nss):∃ as,Reads s.heap (.ref a) (mM nss) as:=by
 refine aA g fun rs h1 h2=>?_
 refine dy (st.isList h1) fun vs c e hv=>?_
 exact⟨_,.list e rfl rfl (by exact st.DA h2 hv)⟩
theorem FQ (ok:C.Ok n) {a b:Addr} {ns ms:List Int} {neg:Bool} {Q:Value->Shared->Prop} (st:St C Z s σ) (ha:σ.hp a=some (.list (ns.map .int))) (hb:σ.hp b=some (.list (ms.map .int))) (h:Q (.bool (if neg then !decide (ns=ms) else decide (ns=ms))) s) :
  wpAny C.M C.A (compareOp (if neg then .NotEq else .Eq) (.ref a) (.ref b)) Q NE s:=by
 refine dy (st.isList ha) fun vs c e hv=>?_
 refine dy (st.isList hb) fun ws d e' hw=>?_
 have huni:=ok.zG
 cases neg with
 | false=>exact ke_eq_ints (aR e) (aR e') hv.ints hw.ints (by omega) h
 | true=>exact ke_ne_ints (aR e) (aR e') hv.ints hw.ints (by omega) h
theorem FP (ok:C.Ok n) {a b:Addr} {x y:List (List Int)} {neg:Bool} {Q:Value->Shared->Prop} (st:St C Z s σ) (ha:pW σ.hp a x) (hb:pW σ.hp b y) (h:Q (.bool (if neg then !decide (x=y) else decide (x=y))) s) :
  wpAny C.M C.A (compareOp (if neg then .NotEq else .Eq) (.ref a) (.ref b)) Q NE s:=by
 refine jg (st.oj ha) fun as ra=>?_
 refine jg (st.oj hb) fun bs rb=>?_
 have huni:=ok.zG
 have hmix:SeqAt.noMix (mM x) (mM y)=true:=SeqAt.noMix_of_shape (.list (.list .int)) rfl _ _ (list_map_has (sh := .list .int) fun ns=>list_map_has (sh := .int) fun _=>rfl) (list_map_has (sh := .list .int) fun ns=>list_map_has (sh := .int) fun _=>rfl)
 cases neg with
 | false=>exact eq_dataH_same ra rb (jh _) (jh _) (by omega) hmix (by rw [tw];exact h)
 | true=>exact ne_dataH_same ra rb (jh _) (jh _) (by omega) hmix (by rw [tw];exact h)
end
end Mine
end
section
open PySem PySem.W PySem.Calls PyProof.Rows
set_option Elab.async false
set_option genSizeOf false
set_option genInjectivity false
set_option maxRecDepth 100000
set_option autoImplicit false
set_option linter.unusedVariables false
namespace Mine
inductive BF where
 | len | abs | min | sum | list | tuple | set | int | bytes | aB | range
 deriving DecidableEq
noncomputable def BF.val:BF->Value
 | .len => .builtin "len" | .abs => .builtin "abs" | .min => .builtin "min" | .sum => .builtin "sum"
 | .list => .type "list" | .tuple => .type "tuple" | .set => .type "set" | .int => .type "int" | .bytes => .type "bytes" | .aB => .type "bytearray" | .range => .type "range"
inductive BM where
 | append | eF | add | get | bits
 deriving DecidableEq
inductive GF where
 | fn (a:Addr) | cls (a:Addr) | blt (b:BF) | const (i:Int)
set_option genCtorIdx false
mutual
inductive ME where
 | none | bool (b:Bool) | int (i:Int)
 | loc (i:Nat)
 | attr (e:ME) (x:Nat)
 | sub (e i:ME)
 | EB (e:ME) (k:Int)
 | Kt (e:ME) (k:Int)
 | bin (op:Operator) (a b:ME)
 | neg (a:ME)
 | cmp (op:CmpOp) (a b:ME)
 | and (a b:ME) | or (a b:ME)
 | ite (t:MT) (a b:ME)
 | list (es:nS) | tup (es:nS)
 | az | aC (aF:List (List Int×Nat))
 | fn (f:Addr) (args:nS)
 | cls (f:Addr) (args:nS)
 | blt (f:BF) (args:nS)
 | aQ (e:ME) (x:Nat) (args:nS)
 | iY (k:BM) (e:ME) (args:nS)
 | comp (fv:List (Option Nat)) (tgt:Nat) (it:ME) (elt:ME)
inductive nS where
 | nil
 | cons (e:ME) (r:nS)
inductive MT where
 | not (t:MT) | and (a b:MT) | or (a b:MT)
 | cmp (op:CmpOp) (a b:ME) | Aj (op op':CmpOp) (a b c:ME)
end
mutual
inductive MS where
 | expr (e:ME) | ret (e:ME) | pass | dead
 | asg (i:Nat) (e:ME)
 | aI (o:ME) (x:Nat) (e:ME)
 | lz (o i:ME) (e:ME)
 | ry (rev:Bool) (is:List Nat) (e:ME)
 | ite (t:MT) (a b:MB)
 | EE (t:MT) (b:MB)
 | fr (is:List Nat) (tup:Bool) (it:ME) (b:MB)
inductive MB where
 | nil
 | cons (s:MS) (r:MB)
end
set_option genCtorIdx true
noncomputable def BM.nm:BM->Str
 | .append=>Str.ofString "append" | .eF=>Str.ofString "append" | .add=>Str.ofString "add" | .get=>Str.ofString "get" | .bits=>Str.ofString "bit_length"
noncomputable def BM.val:BM->Value
 | .append => .builtin "list.append" | .eF => .builtin "bytearray.append" | .add => .builtin "set.add" | .get => .builtin "dict.get" | .bits => .builtin "int.bit_length"
noncomputable def near (a:Int):Prop := -1000000≤a∧a≤1000000
noncomputable def gQ (a b c:Int):Nat:=if c = -1 then (a-b).toNat else (b-a).toNat
noncomputable def bM (fv:List (Option Nat)) (loc:List (Option AV)):List (Option AV):=fv.map fun o=>o.bind fun i=>(loc[i]?).join
section
variable {C:Cx} {n:Nat} {Z:Led} {s:Shared} {σ:AS}
theorem mX {x y z:Int} (hz:z=1∨z = -1):Builtin.Range.rangeSize x y z=(gQ x y z:Nat):=by
 delta Builtin.Range.rangeSize gQ
 rcases hz with rfl | rfl
 ·simp only [show (1:Int)>0 by decide,if_true,show ¬ ((1:Int) = -1) by decide,if_false,Int.ediv_one]
  split<;>omega
 ·simp only [show ¬ ((-1:Int)>0) by decide,if_false,if_true]
  rw [show (- -1:Int)=1 by decide,Int.ediv_one]
  split<;>omega
theorem su {x y z:Int} (hz:z=1∨z = -1) (hx:near x) (hy:near y):Builtin.Range.small x y z=true:=by
 skip
 unfold near at hx hy
 have b:(gQ x y z:Int)≤2000000:=by
  unfold gQ
  split<;>omega
 delta Builtin.Range.small Builtin.Range.rangeFitsLong
 refine (mX (x:=x) (y:=y) hz)▸?_
 rcases hz with rfl | rfl
 ·simp;omega
 ·simp;omega
structure JY (it:Addr) (C:Cx) (N:Nat) (item:Nat->AV) (Pr:AS->Prop) (Ob:Nat->Obj->Prop):Prop where
 RD:∀ C':Cx,C'.A.handled=none->C'.Off it->PR C' it N item Pr Ob
 self:∀ (k:Nat) (o:Obj) (A:Around) (s:Shared) (Q:Value->Shared->Prop),Ob k o->s.heap.get? it=some o->Q (.ref it) s->wpAny C.M A (pyIter (.ref it)) Q NE s
 RH:∀ σ σ':AS,σ.hp=σ'.hp->Pr σ->Pr σ'
 cls:∀ k o,Ob k o->o.cls = .type "list_iterator" ∨ o.cls = .type "range_iterator"
noncomputable def mm (C:Cx) (Z:Led) (σ:AS) (N:Nat) (item:Nat->AV) (Pr:AS->Prop) (v:Value) (s:Shared):Prop:=∀ Q:Value->Shared->Prop,(∀ it o Ob s',JY it C N item Pr Ob->C.Off it->Ob 0 o->St C ((it,o)::Z) s' σ->Q (.ref it) s')->wpAny C.M C.A (pyIter v) Q NE s
theorem oe {a:Addr} {xs:List AV} (st:St C Z s σ) (e:σ.hp a=some (.list xs)):mm C Z σ xs.length (fun k=>xs.getD k .none) (fun σ'=>σ'.hp a=some (.list xs)) (.ref a) s:=fun Q k=>by
 refine dy (st.isList e) fun vs c e1 hr=>?_
 refine wpAny_pyIter_list (aR e1) ?_
 refine bx (st.qL { cls := .type "list_iterator",data := .fields #[.ref a,.int 0 0] } rfl (tk:=s.toks)) fun st' cn=>?_
 exact k _ _ _ _ ⟨fun C' hh cn=>wO hh cn,fun k o A s Q ho hg q=>wpAny_pyIter_listiter ⟨_,hg,ho.1,ho.2⟩ q,fun σ σ' e h=>e▸h,fun _ _ x => .inl x.1⟩ cn ⟨rfl,rfl⟩ st'
theorem rU {a:Addr} {x y z:Int} (st:St C Z s σ) (e:σ.hp a=some (.range x y z)) (h1:near x) (h2:near y) (h3:z=1∨z = -1):mm C Z σ (gQ x y z) (fun k => .int (x+k*z)) (fun _=>True) (.ref a) s:=fun Q k =>
 st.elim fun mf m ce ne δ F hm N nd H Lr=>by
 cases H.rep _ _ e with
 | @range _ _ _ t u v hr =>
  refine wpAny_pyIter_range (a:=x) (b:=y) (c:=z) (t:=t) (u:=u) (v:=v) (N.get (bP hr)) (su h3 h1 h2) ?_
  refine bx (st.qL { cls := .type "range_iterator",data := .fields #[rawInt x,rawInt (Builtin.Range.rangeSize x y z),rawInt z] } rfl (tk:=s.toks)) fun st' cn=>?_
  exact k _ _ _ _ ⟨fun C' hh cn=>uD (a:=x) (step:=z) (N:=gQ x y z) hh cn,fun k o A s Q ho hg q=>(by subst ho;exact wpAny_pyIter_rangeiter hg q),fun _ _ _ h=>h,fun _ _ x => .inr (by exact congrArg _ x)⟩ cn (by unfold Rj;refine (mX h3)▸?_;simp) st'
end
structure nz where
 names:List (Str×NameKind)
 G:List (Str×GF)
 nm:List Str
noncomputable def aN:List (Str×NameKind)->Str->Option (Nat×NameKind)
 | [],_=>none
 | (y,k)::r,x=>if y==x then some (0,k) else (aN r x).map fun p=>(p.1+1,p.2)
theorem oh {y:Str} {k:NameKind} {r:List (Str×NameKind)} {x:Str}:aN ((y,k)::r) x=if y==x then some (0,k) else (aN r x).map fun p=>(p.1+1,p.2):=rfl
theorem bh:∀ {l:List (Str×NameKind)} {x:Str} {i:Nat} {k:NameKind},aN l x=some (i,k)->l[i]?=some (x,k)
 | [],_,_,_,h=>by cases h
 | (y,k')::r,x,i,k,h=>by
  replace h:=oh.symm.trans h
  split at h
  ·rename_i e
   cases h
   rw [beq_iff_eq.mp e];rfl
  ·rw [Option.map_eq_some_iff] at h
   obtain⟨⟨j,k2⟩,h1,h2⟩:=h
   cases h2
   refine (?_:r[j]?=_)
   exact bh h1
theorem bt:∀ {l:List (Str×NameKind)} {x:Str} {i:Nat} {k:NameKind},aN l x=some (i,k)->l.lookup x=some k
 | [],_,_,_,h=>by cases h
 | (y,k')::r,x,i,k,h=>by
  replace h:=oh.symm.trans h
  split at h
  ·rename_i e
   cases h
   rw [← beq_iff_eq.mp e];simp [List.lookup]
  ·rename_i e
   rw [Option.map_eq_some_iff] at h
   obtain⟨⟨j,k2⟩,h1,h2⟩:=h
   cases h2
   have:(x==y)=false:=Bool.eq_false_iff.mpr fun q=>e (by refine (beq_iff_eq.mp q)▸?_;simp)
   simp only [List.lookup_cons,this]
   exact bt h1
noncomputable def jB:List Str->Str->Option Nat
 | [],_=>none
 | y::r,x=>if y==x then some 0 else (jB r x).map (· + 1)
theorem AE {y:Str} {r:List Str} {x:Str}:jB (y::r) x=if y==x then some 0 else (jB r x).map (· + 1):=rfl
theorem ji:∀ {l:List Str} {x:Str} {i:Nat},jB l x=some i->l[i]?=some x
 | [],_,_,h=>by cases h
 | y::r,x,i,h=>by
  replace h:=AE.symm.trans h
  split at h
  ·rename_i e;cases h;rw [beq_iff_eq.mp e];rfl
  ·rw [Option.map_eq_some_iff] at h
   obtain⟨j,h1,rfl⟩:=h
   refine (?_:r[j]?=_)
   exact ji h1
noncomputable def zO:Str := "__debug__"
section
variable (P:Tp) (n:Nat)
noncomputable def PO (P:Tp) (x:Str):GF->Prop
 | .fn a=>nsIn P.K mainGlobals x=some (some (.ref a))
 | .cls a=>nsIn P.K mainGlobals x=some (some (.ref a))
 | .const i=>∃ t,nsIn P.K mainGlobals x=some (some (.int i t))
 | .blt b=>nsIn P.K mainGlobals x=some none∧bootBuiltins x=some b.val∧x ≠ "__name__"
structure dr (P:Tp) (G:List (Str×GF)) (nm:List Str):Prop where
 g:∀ x g,G.lookup x=some g->PO P x g
 nm:∀ i x,nm[i]?=some x->P.T.nm i=x
end
section
theorem m9 {C:Cx} {Z:Led} {s:Shared} {σ:AS} {lo up:Option Expr} {p:Pos} {k:Int} {Q:Value->Shared->Prop} (st:St C Z s σ) (hs:(lo=none∧∃ c q,up=some (.Constant (.int k) c q))∨(up=none∧∃ c q,lo=some (.Constant (.int k) c q)))
  (h:∀ s1 t tk,St C Z s1 σ->s1.heap=s.heap->Q (.ref s1.heap.objs.size) { s1 with heap:=s1.heap.push { cls := .type "slice",data := .fields #[(if lo.isNone then .none else .int k t),(if up.isNone then .none else .int k t),.none] },toks:=tk }) :
  wpAny C.M C.A (eval (.Slice lo up none p) C.env) Q NE s:=by
 refine wpAny_Slice ?_
 rcases hs with ⟨rfl,c,q,rfl⟩ | ⟨rfl,c,q,rfl⟩
 ·skip
  refine wpAny_pure ?_
  refine (?_:wpAny C.M C.A (mkInt k) _ NE s)
  refine wpAny_mkInt ?_
  exact wpAny_pure (h { s with toks:=s.toks+1 } s.toks (s.toks+1) st.tok rfl)
 ·skip
  refine (?_:wpAny C.M C.A (mkInt k) _ NE s)
  refine wpAny_mkInt (wpAny_pure ?_)
  exact wpAny_pure (h { s with toks:=s.toks+1 } s.toks (s.toks+1) st.tok rfl)
end
end Mine
end
section
open PySem PySem.W PySem.Calls PyProof.Rows
open PySem.Sem (wp)
set_option Elab.async false
set_option genSizeOf false
set_option genInjectivity false
set_option maxRecDepth 100000
set_option autoImplicit false
set_option linter.unusedVariables false
namespace Mine
section
variable {prog:Program} {w:World} {A:Around} {s:Shared} {env:Env}
noncomputable def nX (prog:Program) (w:World) (A:Around) (use:Option (Value->Sem Unit)) (Q:Value->Shared->Prop) (acc:Value) (C:Addr) (r:Result) (s':Shared):Prop :=
 match r,use with
 | .ok _,none=>∃ m,s'.heap.Ns C m∧∀ h',Heap.SameBut C s'.heap h'->Q acc { s' with heap:=h' }
 | .ok _,some u=>RW (model prog w) A (u acc) (fun _ s''=>∃ m,s''.heap.Ns C m∧∀ h',Heap.SameBut C s''.heap h'->Q .none { s'' with heap:=h' }) s'
 | .error _,_=>False
theorem sG {α:Type} {c:Prop} [Decidable c] {p:Pos} {k:PUnit->Sem α} {Q:α->Shared->Prop} (h:RW (model prog w) A (k ()) Q s):RW (model prog w) A (if c then (standAt p>>=k) else k ()) Q s:=by
 split
 ·exact .bind (.standAt h)
 ·exact h
theorem DL {e:Expr} {scope:Scope} {pos:Pos} {newAcc first:Sem Value} {g:Comprehension} {gs:List Comprehension} {cl:List (Str×Addr)} {use:Option (Value->Sem Unit)} {Q:Value->Shared->Prop}
  (hcl:clausesOf e=g::gs) (hs:∀ x,foldedSetIterable g.iter env x=pure x) (hclos:closureFor scope env=pure cl) (hkind:scope.kind = .function) (hnames:∀ x∈scope.names,x.2 = .local->scope.names.lookup x.1=some .local)
  (h:RW (model prog w) A first (fun x s₁=>RW (model prog w) A (pyIter x) (fun it s₂=>RW (model prog w) A newAcc (fun acc s₃=>RW (model prog w) A (newFunctionEnv scope env.globals cl [] env.qual none .none (some env)) (fun cenv s₄ =>
    RC (model prog w) A (.compStart e 0 it acc { cenv with scope:=relabel scope env }) (nX prog w A use Q acc cenv.locals) s₄) s₃) s₂) s₁) s) :
  RW (model prog w) A (comprehension e scope env pos newAcc false first use) Q s:=by
 unfold comprehension
 refine hclos▸hcl▸?_
 refine .bind (h.mono fun x s₁ h₁ => .bind (.standAt (.bind (.ofEq (hs x) (.bind (.holding (h₁.mono fun it s₂ h₂=>sG (.bind (h₂.mono fun acc s₃ h₃ => .bind (.pure (.bind (h₃.mono fun cenv s₄ h₄=>?_))))))))))))
 ·dsimp only
  have hv:∀ x∈(scope.names.filter fun x=>(x.2 == .local||x.2 == .cell)&&x.1 != (".0" : Str)).reverse,x.2 = .local →
    Env.kindOf { cenv with scope:=relabel scope env } x.1=some .local:=fun x hx hl=>lookup_relabel_local (hnames x (List.mem_filter.mp (List.mem_reverse.mp hx)).1 hl)
  have hv':∀ x∈(scope.names.filter fun x=>(x.2 == .local||x.2 == .cell)&&x.1 != (".0" : Str)).reverse.drop 1++(scope.names.filter fun x=>(x.2 == .local||x.2 == .cell)&&x.1 != (".0" : Str)).reverse.take 1,
    x.2 = .local->Env.kindOf { cenv with scope:=relabel scope env } x.1=some .local:=fun x hx hl=>by
   refine Or.elim (List.mem_append.mp hx) (fun h1=>?_) (fun h1=>?_)
   ·exact hv x (List.mem_of_mem_drop h1) hl
   ·exact hv x (List.mem_of_mem_take h1) hl
  refine .holding (.bind (.attempt (.holding (.run (h₄.mono fun r s' hr=>?_)))))
  cases r with
  | ok f =>
   cases use with
   | none =>
    refine aA hr fun m hn hr=>?_
    exact .bind (.holding (.of (wpAny_comp_letGo (cenv:={ cenv with scope:=relabel scope env }) hkind _ s' m hv hn fun h' m' _ hs' => .pure (hr h' hs'))))
   | some u =>
    refine .bind (.of (wpAny_rule (.bind (.holding (RW.mono hr fun _ s'' hr'=>?_)))))
    refine aA hr' fun m hn hr'=>?_
    exact .bind (.of (wpAny_comp_letGo (cenv:={ cenv with scope:=relabel scope env }) hkind _ s'' m hv' hn fun h' m' _ hs' => .pure (hr' h' hs')))
  | error x=>exact hr.elim
theorem pE {elt target iter scope pos it acc} {P:Result->Shared->Prop} (h0:RC (model prog w) A (.compLoop (.ListComp elt [⟨target,iter,[],0⟩] scope pos) 0 it acc env) P s)
  (h:wpAny (model prog w) A (pyIter it) (fun it' s'=>RC (model prog w) A (.compLoop (.ListComp elt [⟨target,iter,[],0⟩] scope pos) 0 it' acc env) P s') NE s) :
  RC (model prog w) A (.compStart (.ListComp elt [⟨target,iter,[],0⟩] scope pos) 0 it acc env) P s:=by
 refine .tree rfl ?_
 refine (?_:RW (model prog w) A ((compStart (.ListComp elt [⟨target,iter,[],0⟩] scope pos) 0 it acc env).onRaise (fun x=>do noteFrame x env;standAt theWindowsPlace)) _ s)
 refine .onRaise (.of ?_)
 skip
 refine (?_:wpAny _ _ (ask>>=_) _ _ s)
 refine wpAny_bind (wpAny_askSetting (wpAny_ite ?_))
 split
 ·first
   | exact wpAny_bind (wpAny_pure (wpAny_pure (And.intro rfl h0)))
   | exact wpAny_pure (And.intro rfl h0)
 ·first
   | exact wpAny_bind (wpAny_rule (wpAny_bind (wpAny_standAt (wpAny_bind (wpAny_mono h (fun it' s' h'=>wpAny_pure (And.intro rfl h')) fun _ _ x=>x)))))
   | (refine wpAny_bind (wpAny_rule ?_);show wpAny _ _ (standAt iter.pos>>=_) _ _ s;exact wpAny_bind (wpAny_standAt (wpAny_bind (wpAny_mono h (fun it' s' h'=>wpAny_pure (And.intro rfl h')) fun _ _ x=>x))))
theorem qP {elt target iter:Expr} {scope:Scope} {pos:Pos} {it acc:Value} {P:Result->Shared->Prop} (I:Nat->Shared->Prop)
  (turn:∀ n s,I n s->RW (model prog w) A (pyNext it) (fun r s₁=>match r with
   | none=>P (.ok .next) s₁
   | some v=>RW (model prog w) A (assign target env v) (fun _ s₂=>RW (model prog w) A (eval elt env) (fun x s₃=>RW (model prog w) A (call (.builtin "list.append") [acc,x] []) (fun _ s₄=>∃ m,m<n∧I m s₄) s₃) s₂) s₁) s)
  (n:Nat) (h:I n s) (ht:∀ v,letOwnedTupleGo target it v=pure ()):RC (model prog w) A (.compLoop (.ListComp elt [⟨target,iter,[],0⟩] scope pos) 0 it acc env) P s:=by
 refine .loop rfl rfl I (fun n s hI=>?_) n h
 refine (?_:RW (model prog w) A ((compTurn (.ListComp elt [⟨target,iter,[],0⟩] scope pos) 0 it acc env).onRaise (fun x=>do noteFrame x env;theTreesLotGoes x)) _ s)
 refine .onRaise ?_
 rw [compTurn_list1]
 refine .bind (.standAt (.bind ((turn n s hI).mono fun r s₁ h₁=>?_)))
 cases r with
 | none=>exact RW.pure h₁
 | some v =>
  dsimp only
  rw [ht v]
  exact .bind (.pure (.bind (h₁.mono fun _ s₂ h₂ => .bind (.bind (h₂.mono fun x s₃ h₃ => .bind (h₃.mono fun _ s₄ h₄ => .pure (RW.pure (.inl ⟨rfl,h₄⟩))))))))
end
section
variable {C:Cx} {n:Nat} {Z:Led} {s:Shared} {σ:AS}
theorem LR.perm {Z Z':Led} {m:Str->Option Value} {ce:Led} {loc:List (Option AV)} (Lr:LR C Z m ce loc) (p:∀ x∈Z,x∈Z'):LR C Z' m ce loc :=
 ⟨fun e=>aA (Lr.q e) fun o h1 h2=>⟨o,p _ h1,h2⟩,Lr.l,fun i x hx=>n9 (Lr.c i x hx) fun c o v h1 h2 h3=>⟨c,o,v,h1,h2.imp id (fun q=>⟨q.1,p _ q.2⟩),h3⟩,Lr.i⟩
theorem St.perm {Z':Led} (st:St C Z s σ) (p:Z.Perm Z'):St C Z' s σ:=by
 refine st.elim fun mf m ce ne δ F hm N nd H Lr=>?_
 refine⟨⟨mf,m,ce,ne,δ,F,hm,fun x hx=>N x ?_,?_,H,Lr.perm fun x hx=>p.mem_iff.mp hx⟩,st.2⟩
 ·refine Or.elim (List.mem_append.mp hx) (fun h=>?_) (fun h=>?_)
  ·exact List.mem_append_left _ (p.mem_iff.mpr h)
  ·exact List.mem_append_right _ h
 ·skip
  exact ((p.append_right _).map _).nodup_iff.mp nd
noncomputable def a9 (env:Env):List (Str×NameKind)->List (Str×Addr)
 | []=>[]
 | (x,k)::r=>if k == .free then (match env.cells.lookup x with | some c=>(x,c)::a9 env r | none=>a9 env r) else a9 env r
theorem wc {env:Env} {x:Str} {k:NameKind} {r:List (Str×NameKind)}:a9 env ((x,k)::r)=if k == .free then (match env.cells.lookup x with | some c=>(x,c)::a9 env r | none=>a9 env r) else a9 env r:=rfl
theorem jE (env:Env):∀ (names:List (Str×NameKind)) (acc:List (Str×Addr)),(∀ x∈names,x.2=NameKind.free->∃ c,env.cells.lookup x.1=some c) →
  (forIn names acc fun (x:Str×NameKind) (cs:List (Str×Addr))=>(match x with | (name,kind)=>if (kind==NameKind.free)=true then do let c←PySem.cellOf env name;pure (ForInStep.yield ((name,c)::cs)) else pure (ForInStep.yield cs):Sem (ForInStep (List (Str×Addr))))) =
   pure ((a9 env names).reverse++acc)
 | [],acc,_=>rfl
 | (x,k)::r,acc,h=>by
  rw [List.forIn_cons]
  by_cases hk:(k==NameKind.free)=true
  ·obtain⟨c,hc⟩:=h (x,k) List.mem_cons_self (by simpa using hk)
   simp only at hc
   have e:PySem.cellOf env x=pure c:=by unfold PySem.cellOf;rw [hc]
   simp only [hk,if_true,e,pure_bind]
   simp only [jE env r _ fun y hy=>h y (List.mem_cons_of_mem _ hy)]
   simp [wc,hk,hc]
  ·have hk':(k==NameKind.free)=false:=by simpa using hk
   skip
   simp only [jE env r _ fun y hy=>h y (List.mem_cons_of_mem _ hy)]
   simp [wc,hk]
theorem rM (env:Env) (scope:Scope) (h:∀ x∈scope.names,x.2=NameKind.free->∃ c,env.cells.lookup x.1=some c):closureFor scope env=pure (a9 env scope.names).reverse:=by
 unfold closureFor
 have:=jE env scope.names [] h
 simp only [List.append_nil] at this
 simp only [this,pure_bind] at *
theorem aY (env:Env):∀ {names:List (Str×NameKind)} {x:Str} {c:Addr},(x,c)∈a9 env names->env.cells.lookup x=some c∧(x,NameKind.free)∈names
 | [],_,_,h=>by cases h
 | (y,k)::r,x,c,h=>by
  rw [wc] at h
  split at h
  ·rename_i hk
   split at h
   ·rename_i c' hc
    refine Or.elim (List.mem_cons.mp h) (fun e=>?_) (fun h=>?_)
    ·cases e
     have:k=NameKind.free:=by simpa using hk
     subst this
     exact⟨hc,List.mem_cons_self⟩
    ·exact⟨(aY env h).1,List.mem_cons_of_mem _ (aY env h).2⟩
   ·exact⟨(aY env h).1,List.mem_cons_of_mem _ (aY env h).2⟩
  ·exact⟨(aY env h).1,List.mem_cons_of_mem _ (aY env h).2⟩
theorem jA (env:Env):∀ {names:List (Str×NameKind)} {x:Str} {c:Addr},(x,NameKind.free)∈names->env.cells.lookup x=some c->(x,c)∈a9 env names
 | [],_,_,h,_=>by cases h
 | (y,k)::r,x,c,h,hc=>by
  rw [wc]
  refine Or.elim (List.mem_cons.mp h) (fun e=>?_) (fun h=>?_)
  ·cases e
   simp [hc]
  ·have:=jA env h hc
   split
   ·split
    ·exact List.mem_cons_of_mem _ this
    ·exact this
   ·exact this
theorem ia (env:Env):∀ {names:List (Str×NameKind)},(names.map (·.1)).Nodup->((a9 env names).map (·.1)).Nodup
 | [],_=>List.nodup_nil
 | (y,k)::r,h=>by
  simp only [List.map_cons,List.nodup_cons] at h
  rw [wc]
  have ih:=ia env h.2
  split
  ·split
   ·simp only [List.map_cons,List.nodup_cons]
    refine⟨fun q=>?_,ih⟩
    refine aA (List.mem_map.mp q) fun zp0 hp e=>?_;skip;skip
    have:=(aY env hp).2
    exact h.1 (List.mem_map.mpr ⟨_,this,e⟩)
   ·exact ih
  ·exact ih
end
noncomputable def ju (sn:List (Str×NameKind)):List (Str×NameKind):=sn.map fun p=>if p.2 == .free then (p.1,.cell) else p
noncomputable def j2 (names sn:List (Str×NameKind)):List (Option Nat):=sn.map fun p=>if p.2 == .free then (aN names p.1).map (·.1) else none
structure fj (names:List (Str×NameKind)) (sc:Scope) (t:Str) (tgt:Nat):Prop where
 kind:sc.kind = .function
 nd:(sc.names.map (·.1)).Nodup
 xe:∀ x∈sc.names,x.2≠NameKind.cell
 free:∀ x∈sc.names,x.2=NameKind.free->∃ j,aN names x.1=some (j,NameKind.cell)
 tg:aN sc.names t=some (tgt,NameKind.local)
theorem qU {sn:List (Str×NameKind)} {i:Nat} {x:Str} {k:NameKind} (h:(ju sn)[i]?=some (x,k)):∃ k',sn[i]?=some (x,k')∧k=(if k' == .free then NameKind.cell else k'):=by
 unfold ju at h
 rw [List.getElem?_map] at h
 cases q:sn[i]? with
 | none=>rw [q] at h;contradiction
 | some p =>
  rw [q] at h
  simp only [Option.map_some,Option.some.injEq] at h
  obtain⟨y,k'⟩:=p
  by_cases hk:(k'==NameKind.free)=true
  ·simp only [hk,if_true,Prod.mk.injEq] at h
   obtain⟨rfl,rfl⟩:=h
   exact⟨k',rfl,by rw [if_pos hk]⟩
  ·have hk':(k'==NameKind.free)=false:=by simpa using hk
   simp only [hk',Bool.false_eq_true,if_false,Prod.mk.injEq] at h
   obtain⟨rfl,rfl⟩:=h
   exact⟨k',rfl,by rw [if_neg hk]⟩
theorem sA (sn:List (Str×NameKind)):(ju sn).map (·.1)=sn.map (·.1):=by
 unfold ju
 rw [List.map_map]
 refine List.map_congr_left fun p _=>?_
 refine (?_:(if p.2 == .free then (p.1,NameKind.cell) else p).1=p.1)
 split<;>rfl
theorem lK {names sn:List (Str×NameKind)} {loc:List (Option AV)} {i:Nat} {x:Str} {k':NameKind} {av:AV} (hx:sn[i]?=some (x,k')) (h:(bM (j2 names sn) loc)[i]?=some (some av)):k' = .free∧∃ j k,aN names x=some (j,k)∧loc[j]?=some (some av):=by
 unfold bM j2 at h
 rw [List.map_map,List.getElem?_map,hx] at h
 refine aA (Option.bind_eq_some_iff.mp (Option.some.inj h)) fun j h1 h2=>?_
 dsimp only at h1
 cases hk:(k'==NameKind.free) with
 | false=>replace h1:=hk▸h1;contradiction
 | true =>
  replace h1:=hk▸h1
  refine aA (Option.map_eq_some_iff.mp h1) fun p h3 zp2=>?_;subst zp2
  exact⟨beq_iff_eq.mp hk,p.1,p.2,h3,Option.join_eq_some_iff.mp h2⟩
theorem sC {sc:Scope} {env:Env} {names:List (Str×NameKind)} (hk:env.scope.kind = .function) (hn:env.scope.names=names) (hf:∀ x∈sc.names,x.2=NameKind.free->∃ j,aN names x.1=some (j,NameKind.cell)):(relabel sc env).names=ju sc.names:=by
 skip
 refine List.map_congr_left fun p hp=>?_
 obtain⟨x,k⟩:=p
 refine (?_:(if (k == .free&&env.scope.kind == .function&&env.kindOf x==some .cell)=true then (x,NameKind.cell) else (x,k))=if (k == .free)=true then (x,NameKind.cell) else (x,k))
 by_cases e:k = .free
 ·subst e
  refine jg (hf _ hp rfl) fun j hj=>?_
  have:env.kindOf x=some .cell:=by unfold Env.kindOf;refine hn▸?_;exact bt hj
  rw [hk,this];rfl
 ·have:(k==NameKind.free)=false:=by simpa using e
  refine this▸?_;rfl
theorem sI {C:Cx} {n:Nat} {Z:Led} {s:Shared} {loc:List (Option AV)} {hp:Hp} {ons:Obj} {t:Str} {tp:Pos} {tgt:Nat} {v:Value} {av:AV} {Q:Unit->Shared->Prop} (ok:C.Ok n) (hfn:C.fn=false) (st:St C ((C.env.locals,ons)::Z) s ⟨loc,hp⟩) (ht:C.names[tgt]?=some (t,NameKind.local)) (hv:VR v av)
  (h:∀ s' ons',St C ((C.env.locals,ons')::Z) s' ⟨loc.set tgt (some av),hp⟩->Q () s'):wpAny C.M C.A (assign (.Name t tp) C.env v) Q NE s:=by
 refine st.elim fun mf m ce ne δ F hm N nd H Lr=>?_
 refine aA (Lr.q hfn) fun o ho hno=>?_
 have hoe:o=ons:=cj nd (List.mem_append_left _ ho) (List.mem_append_left _ List.mem_cons_self)
 subst hoe
 skip
 refine wpAny_assign_Name (wpAny_storeName_local (bQ ok.nd ht) (ph (N.get (List.mem_append_left _ ho)) hno) (fun h' hn hs=>?_) (by refine ok.hk▸?_;rfl))
 refine ip hn fun o' es ep hg hd hk hf=>?_
 have z:=N (C.env.locals,o) (.head _)
 have nd':=nd
 simp only [keys,List.cons_append,List.map_cons,List.nodup_cons] at nd'
 refine h _ o' (.of (m:=fun y=>if y=t then some v else m y) (ce:=ce) (F.change hs z.2.1 z.2.2) ⟨fun e=>absurd (e.symm.trans hfn) (by decide),hm.f⟩ ?_ ?_ H ⟨fun _=>⟨o',.head _,es,ep,hd,hk,hf⟩,fun j y hy bv hb=>?_,fun j y hy=>?_,Lr.i⟩ st.2)
 ·intro p hp
  rcases List.mem_cons.mp hp with rfl | hp
  ·exact⟨hg,z.2⟩
  ·have y:=N p (.tail _ hp)
   exact⟨(hs.2 _ (fun e=>nd'.1 (List.mem_map.mpr ⟨p,hp,e⟩))).trans y.1,y.2⟩
 ·skip
  exact nd
 ·dsimp only at hb
  by_cases e:j=tgt
  ·subst e
   replace hy:=ht▸hy;cases hy
   replace hb:=List.getElem?_set_self'▸hb
   cases q:loc[j]? with
   | none=>replace hb:=q▸hb;contradiction
   | some _=>replace hb:=q▸hb;cases hb;exact⟨v,by simp,hv⟩
  ·replace hb:=(List.getElem?_set_ne (Ne.symm e))▸hb
   refine aA (Lr.l j y hy bv hb) fun u hu hr=>?_
   refine⟨u,?_,hr⟩
   have:y≠t:=by rintro rfl;exact e (lg ok.nd hy ht)
   refine (if_neg this)▸?_;exact hu
 ·refine ip (Lr.c j y hy) fun c oc v' h1 h2 h3 h4=>?_
  have hc:(c,oc)∈ce∨C.fn=false∧(c,oc)∈(C.env.locals,o')::Z:=by
   rcases h2 with h2 | ⟨e,h2⟩
   ·exact .inl h2
   ·rcases List.mem_cons.mp h2 with q | h2
    ·cases q
     refine dy hno fun es0 ep0 hd0 _=>?_
     replace h3:=hd0▸h3;contradiction
    ·exact .inr ⟨e,.tail _ h2⟩
  refine⟨c,oc,v',h1,hc,h3,fun bv hb=>?_⟩
  dsimp only at hb
  have e:tgt≠j:=by rintro rfl;replace hy:=ht▸hy;cases hy
  rw [List.getElem?_set_ne e] at hb
  exact h4 bv hb
section
variable {P:Tp} {n:Nat} {tc:nz}
theorem rZ {l:List (Str×Addr)} (nd:(l.map (·.1)).Nodup) {x:Str} {c:Addr}:l.reverse.lookup x=some c↔(x,c)∈l:=by
 constructor
 ·intro h;exact List.mem_reverse.mp (mem_of_lookup h)
 ·intro h
  refine lookup_of_mem_nodup ?_ (List.mem_reverse.mpr h)
  rw [List.map_reverse]
  exact (List.reverse_perm _).nodup_iff.mpr nd
noncomputable abbrev uC (C:Cx) (cenv:Env) (mf:Str->Option Value):Cx:={ C with fn:=false,env:=cenv,fm:=mf }
structure ml (C:Cx) (n:Nat) (names:List (Str×NameKind)) (sc:Scope) (t:Str) (tgt:Nat) (cenv:Env) (Cn:Addr):Prop where
 fb:fj names sc t tgt
 ok:C.Ok n
 en:C.names=names
 e1:cenv.scope.names=ju sc.names
 e2:cenv.scope.kind = .function
 e3:cenv.locals=Cn
 e4:cenv.globals=mainGlobals
 e5:cenv.builtins=builtinsNs
 e6:cenv.cells=(a9 C.env sc.names).reverse
section
variable {C:Cx} {names:List (Str×NameKind)} {sc:Scope} {t:Str} {tgt:Nat} {cenv:Env} {Cn acc it:Addr} {Z ce ne:Led} {m mf:Str->Option Value} {loc:List (Option AV)} {ons oa o:Obj}
theorem ml.Sg (I:ml C n names sc t tgt cenv Cn) (mf:Str->Option Value):(uC C cenv mf).Ok n :=
 { I.ok with k:=I.ok.k,B:=I.ok.B,X:=I.ok.X,top:=I.ok.top,hA:=I.ok.hA,hh:=I.ok.hh,hf:=I.ok.hf,Qv:=I.ok.Qv,dep:=I.ok.dep,zG:=I.ok.zG,hk:=I.e2,gl:=I.e4,bi:=I.e5,nd:=(congrArg (fun l:List (Str×NameKind)=>(l.map (·.1)).Nodup) I.e1).mpr ((sA sc.names).symm▸I.fb.nd),lo:=nofun }
theorem ml.get (I:ml C n names sc t tgt cenv Cn) {c:Addr} {x:Str}:cenv.cells.lookup x=some c↔(x,c)∈a9 C.env sc.names:=by
 rw [I.e6];exact rZ (ia C.env I.fb.nd)
theorem ml.catch (I:ml C n names sc t tgt cenv Cn) (Lr:LR C Z m ce loc) {i:Nat} {x:Str} (hx:cenv.scope.names[i]?=some (x,.cell)) {G:Prop}
  (k:∀ j c oc v,aN names x=some (j,.cell)->cenv.cells.lookup x=some c->((c,oc)∈ce∨C.fn=false∧(c,oc)∈Z)->oc.data = .cell v->(∀ av,loc[j]?=some (some av)->∃ u,v=some u∧VR u av)->C.env.cells.lookup x=some c->C.names[j]?=some (x,.cell)->sc.names[i]?=some (x,.free)->G):G:=by
 rw [I.e1] at hx
 refine aA (qU hx) fun k' hk ek=>?_
 have hfr:k' = .free:=by
  cases e:(k'==NameKind.free) with
  | true=>exact beq_iff_eq.mp e
  | false=>replace ek:=e▸ek;exact absurd ek.symm (I.fb.xe _ (List.mem_of_getElem? hk))
 subst hfr
 refine jg (I.fb.free _ (List.mem_of_getElem? hk) rfl) fun j hj=>?_
 have hj':=bh hj
 rw [← I.en] at hj'
 exact Lr.ce hj' fun c oc v h1 h2 h3 h4=>k j c oc v hj (I.get.mpr (jA C.env (List.mem_of_getElem? hk) h1)) h2 h3 h4 h1 hj' hk
theorem ml.off (I:ml C n names sc t tgt cenv Cn) (Lr:LR C Z m ce loc) (mf:Str->Option Value) {d:Addr} (hod:C.Off d) (hdc:d≠Cn) (hd:d ∉ keys ce):(uC C cenv mf).Off d:=fun _ =>
 ⟨fun e=>hdc (e.trans I.e3),fun i x hx e=>I.catch Lr hx fun j c oc v _ h2 h3 _ _ h6 h7 _=>by
  replace h2:=(show cenv.cells.lookup x=some d from e)▸h2
  have h2:=Option.some.inj h2;subst h2
  refine Or.elim h3 (fun h3=>?_) (fun zq1=>bx zq1 fun e h3=>?_)
  ·exact hd (List.mem_map.mpr ⟨_,h3,rfl⟩)
  ·exact (hod e).2 j x h7 h6⟩
theorem xa {A B ne:Led} (nd:(keys (A++(B++ne))).Nodup):(keys A).Nodup∧∀ a∈keys A,a ∉ keys B:=by
 rw [show keys (A++(B++ne))=keys A++(keys B++keys ne) by simp [keys]] at nd
 exact⟨(List.nodup_append.mp nd).1,fun a h q=>(List.nodup_append.mp nd).2.2 a h a (List.mem_append_left _ q) rfl⟩
theorem Fb {α:Type} (x y z:α) (Z ce ne:List α):(x::y::z::(Z++ce)++([]++ne)).Perm (z::y::x::Z++(ce++ne)):=by
 simp only [List.nil_append,show x::y::z::(Z++ce)++ne=x::y::z::(Z++(ce++ne)) by simp]
 exact (List.Perm.swap _ _ _).trans (((List.Perm.swap _ _ _).cons _).trans (List.Perm.swap _ _ _))
theorem ml.lr (I:ml C n names sc t tgt cenv Cn) (mf:Str->Option Value) (hns:Fq ons fun _=>none) (Lr:LR C ((Cn,ons)::(acc,oa)::(it,o)::Z) m ce loc):LR (uC C cenv mf) ((it,o)::(acc,oa)::(Cn,ons)::(Z++ce)) (fun _=>none) [] (bM (j2 names sc.names) loc):=by
 have up:∀ {c oc},((c,oc)∈ce∨C.fn=false∧(c,oc)∈(Cn,ons)::(acc,oa)::(it,o)::Z)->(c,oc)∈(it,o)::(acc,oa)::(Cn,ons)::(Z++ce):=fun {c oc} h=>by
  refine Or.elim h (fun h=>?_) (fun zq1=>bx zq1 fun _ h=>?_)
  ·exact .tail _ (.tail _ (.tail _ (List.mem_append_right _ h)))
  ·have:=(Fb (it,o) (acc,oa) (Cn,ons) Z ce []).mem_iff.mpr (List.mem_append_left _ h)
   rwa [List.append_nil,List.append_nil] at this
 refine⟨fun _=>⟨ons,by rw [I.e3];exact .tail _ (.tail _ (.head _)),hns⟩,fun i x hx av hav=>?_,fun i x hx=>I.catch Lr hx fun j c oc v h1 h2 h3 h4 h5 h6 h7 h8=>⟨c,oc,v,h2,.inr ⟨rfl,up h3⟩,h4,fun av hav=>?_⟩,fun x y c h1 h2=>Lr.i x y c (aY C.env (I.get.mp h1)).1 (aY C.env (I.get.mp h2)).1⟩
 ·rw [show (uC C cenv mf).names=ju sc.names from I.e1] at hx
  refine aA (qU hx) fun k' hk ek=>?_
  cases (lK hk hav).1
  contradiction
 ·refine bx (lK h8 hav) fun _ zp1=>?_;refine dy zp1 fun j' k' q1 q2=>?_
  replace q1:=h1▸q1;cases q1
  exact h5 av q2
structure RQ where
 k:Nat
 o:Obj
 ns:Obj
 vs:List Value
 ys:List AV
 c:Nat
 loc:List (Option AV)
 hp:Hp
structure RS (C':Cx) (Ob:Nat->Obj->Prop) (base:List (Option AV)) (tgt N:Nat) (Inv:Nat->List AV->Hp->Prop) (it acc Cn:Addr) (Z:Led) (s:Shared) (q:Nat) (d:RQ):Prop where
 eq:q=N-d.k
 le:d.k≤N
 ob:Ob d.k d.o
 vr:cK d.vs d.ys
 ln:d.ys.length=d.k
 lc:∀ x,d.loc.set tgt (some x)=base.set tgt (some x)
 inv:Inv d.k d.ys d.hp
 st:St C' ((it,d.o)::(acc,listOf d.vs.toArray d.c)::(Cn,d.ns)::Z) s ⟨d.loc,d.hp⟩
end
theorem ux {elt iter:Expr} {t:Str} {tp pos:Pos} {sc:Scope} {tgt:Nat} {W:AS->(AV->AS->Prop)->Prop} (hb:∀ (C:Cx) (Z:Led) (s:Shared) (σ:AS) (Q:AV->AS->Prop),C.toTp=P->C.Ok (20*n+10)->C.names=ju sc.names->St C Z s σ->W σ Q->RW C.M C.A (eval elt C.env) (LE C Z Q) s)
  {C:Cx} {Z:Led} {s5:Shared} {σ1:AS} {Q:AV->AS->Prop} {use:Option (Value->Sem Unit)} {Q':Value->Shared->Prop} {cenv:Env} {Cn acc it:Addr} (I:ml C (20*n+10) tc.names sc t tgt cenv Cn) (eP:C.toTp=P)
  {ons o:Obj} {N:Nat} {item:Nat->AV} {Pr:AS->Prop} {Ob:Nat->Obj->Prop} (st5:St C ((Cn,ons)::(acc,listOf ([]:List Value).toArray 0)::(it,o)::Z) s5 σ1) (hneC:C.Off Cn) (hneA:C.Off acc) (cn:C.Off it) (hns:Fq ons fun _=>none)
  (hI:JY it C N item Pr Ob) (ho:Ob 0 o) (hN:N≤1000000) {Inv:Nat->List AV->Hp->Prop} (hInv0:Inv 0 [] σ1.hp)
  (hturn:∀ (k:Nat) (ys:List AV) (hp:Hp),k<N->Inv k ys hp->Pr { σ1 with hp:=hp }∧W ⟨(bM (j2 tc.names sc.names) σ1.loc).set tgt (some (item k)),hp⟩ fun u σ2=>σ2.loc=(bM (j2 tc.names sc.names) σ1.loc).set tgt (some (item k))∧Inv (k+1) (ys++[u]) σ2.hp)
  (hend:∀ (ys:List AV) (hp:Hp),Inv N ys hp->Pr { σ1 with hp:=hp }∧ys.length≤1000000∧∀ r,hp r=none->Q (.ref r) { σ1 with hp:=hp.set r (.list ys) })
  (hpost:∀ acc Cn ons m s' σ',St C ((Cn,ons)::Z) s' σ'->C.Off Cn->Fq ons m->Q (.ref acc) σ'->nX C.prog C.w C.A use Q' (.ref acc) Cn (.ok .next) s') :
  RC C.M C.A (.compStart (.ListComp elt [⟨.Name t tp,iter,[],0⟩] sc pos) 0 (.ref it) (.ref acc) cenv) (nX C.prog C.w C.A use Q' (.ref acc) Cn) s5:=by
 refine st5.elim fun mf m ce ne δ F hm N5 nd H Lr=>?_
 have ok':=I.Sg mf
 have pm:=Fb (it,o) (acc,listOf ([]:List Value).toArray 0) (Cn,ons) Z ce ne
 have ndk:=xa nd
 have ndz:=List.nodup_cons.mp ndk.1
 have offA:=I.off Lr mf hneA (fun e=>ndz.1 (e ▸ .head _)) (ndk.2 _ (.tail _ (.head _)))
 have offI:=I.off Lr mf cn (fun e=>ndz.1 (e ▸ .tail _ (.head _))) (ndk.2 _ (.tail _ (.tail _ (.head _))))
 have st':St (uC C cenv mf) ((it,o)::(acc,listOf ([]:List Value).toArray 0)::(Cn,ons)::(Z++ce)) s5 ⟨bM (j2 tc.names sc.names) σ1.loc,σ1.hp⟩ :=
  .of F ⟨nofun,fun _=>rfl⟩ (fun p hp=>N5 p (pm.mem_iff.mp hp)) ((pm.map _).nodup_iff.mpr nd) H (I.lr mf hns Lr) st5.2
 have htg:(uC C cenv mf).names[tgt]?=some (t,NameKind.local):=by
  rw [show (uC C cenv mf).names=ju sc.names from I.e1]
  unfold ju
  rw [List.getElem?_map,bh I.fb.tg];rfl
 have hitr:=hI.RD (uC C cenv mf) I.ok.hh offI
 have loop:RC C.M C.A (.compLoop (.ListComp elt [⟨.Name t tp,iter,[],0⟩] sc pos) 0 (.ref it) (.ref acc) cenv) (nX C.prog C.w C.A use Q' (.ref acc) Cn) s5:=by
  refine qP (fun q s=>∃ d,RS (uC C cenv mf) Ob (bM (j2 tc.names sc.names) σ1.loc) tgt N Inv it acc Cn (Z++ce) s q d) ?_ N
   ⟨⟨0,o,ons,[],[],0,_,σ1.hp⟩,rfl,Nat.zero_le _,ho,.nil,rfl,fun _=>rfl,hInv0,st'⟩ (fun _=>rfl)
  rintro q s ⟨⟨k,o',ons',vs,ys,c,loc,hp⟩,J⟩
  have eq:=J.eq
  subst eq
  by_cases hkN:k=N
  ·cases hkN
   have zq:=hend ys hp J.inv;have hpr:=zq.1;skip;have hq:=zq.2.2
   refine .of (hitr.done o' _ s _ _ J.ob J.st (hI.RH { σ1 with hp:=hp } _ rfl hpr) fun s' dC=>dC.elim fun mf2 m2 ce2 ne2 δ2 F2 hm2 N2 nd2 H2 Lr2=>?_)
   cases hm2.f rfl
   obtain⟨ox,zq⟩:=Lr2.q rfl;have hox:=zq.1;have hnx:=zq.2
   cases cj nd2 (List.mem_append_left _ hox) (List.mem_append_left _ (by skip;rw [I.e3];exact .tail _ (.head _)))
   have ea:(acc,listOf vs.toArray c)::(Cn,ons')::(Z++ce)++(ce2++ne2)=(acc,listOf vs.toArray c)::(Cn,ons')::Z++(ce++(ce2++ne2)):=congrArg (_::_ :: ·) (List.append_assoc _ _ _)
   have stC:St C ((acc,listOf vs.toArray c)::(Cn,ons')::Z) s' { σ1 with hp:=hp } :=
    .of F2 hm (ea▸N2) (ea▸nd2) (H2.vS fun p hp=>List.mem_append_right _ hp) (((gr (gr (gr Lr hneC) hneA) cn).tL _).tL _) dC.2
   have zq:=stC.adopt hneA (ao := .list ys) rfl fun ne δ _ => .list (.head _) J.vr;have fi:=zq.1;have hn:=zq.2
   exact hpost acc Cn ons' m2 s' _ fi hneC hnx (hq acc hn)
  ·have hlt:k<N:=Nat.lt_of_le_of_ne J.le hkN
   have zq:=hturn k ys hp hlt J.inv;have hpr:=zq.1;have hw:=zq.2
   refine .of (hitr.next k o' _ s _ _ hlt J.ob J.st (hI.RH { σ1 with hp:=hp } _ rfl hpr) fun v o2 s2 hv hob2 dC=>?_)
   have p1:∀ {x y z:Addr×Obj} {l:Led},((x::y::z::l).Perm (z::x::y::l)):=fun {x y z l}=>((List.Perm.swap _ _ _).cons _).trans (List.Perm.swap _ _ _)
   refine .of (sI (C:=uC C cenv mf) ok' rfl (by refine (?_:St (uC C cenv mf) ((cenv.locals,ons')::_) s2 _);exact I.e3▸(dC.perm p1)) htg hv fun s3 ons3 fi=>?_)
   rw [show (uC C cenv mf).env.locals=Cn from I.e3,J.lc] at fi
   refine (hb (uC C cenv mf) _ s3 _ _ eP ok' I.e1 (fi.perm p1.symm) hw).mono fun x s4 hx=>?_
   refine JQ hx fun u σ4 hu st4 hl4 hi4=>?_
   have st4':=st4.perm (List.Perm.swap _ _ _)
   skip
   refine .of (append_at (st4'.nL (.head _)) (fun h' hs hg=>?_) (by simp only [List.size_toArray,sizeLine_eq,(J.vr.length.trans J.ln)];omega))
   have hg':h'.get? acc=some (listOf (vs++[x]).toArray (c+1)):=by rw [hg,List.push_toArray]
   have st5':=(st4'.zJ (tk:=s4.toks) offA hs hg').perm (List.Perm.swap _ _ _)
   exact⟨N-(k+1),Nat.sub_succ_lt_self N k hlt,⟨k+1,o2,ons3,vs++[x],ys++[u],c+1,σ4.loc,σ4.hp⟩,rfl,hlt,hob2,J.vr.append (.cons hu .nil),by rw [List.length_append,J.ln];rfl,fun y=>by rw [hl4,List.set_set],hi4,st5'⟩
 exact pE loop (hI.self 0 o C.A s5 _ ho (st'.nL (.head _)) loop)
theorem uv {elt iter:Expr} {t:Str} {tp pos pos':Pos} {sc:Scope} {tgt:Nat} {W:AS->(AV->AS->Prop)->Prop} (fb:fj tc.names sc t tgt) (hset:eZ iter=true)
  (hb:∀ (C:Cx) (Z:Led) (s:Shared) (σ:AS) (Q:AV->AS->Prop),C.toTp=P->C.Ok (20*n+10)->C.names=ju sc.names->St C Z s σ->W σ Q->RW C.M C.A (eval elt C.env) (LE C Z Q) s)
  {C:Cx} {Z:Led} {s:Shared} {σ:AS} {Q:AV->AS->Prop} {use:Option (Value->Sem Unit)} {Q':Value->Shared->Prop} (eP:C.toTp=P) (okc:C.Ok (20*n+10)) (en:C.names=tc.names) (st:St C Z s σ)
  (ha:RW C.M C.A (eval iter C.env) (fun v s1=>∃ σ1 N item Pr,mm C Z σ1 N item Pr v s1∧N≤1000000∧∃ Inv:Nat->List AV->Hp->Prop,Inv 0 [] σ1.hp ∧
   (∀ k ys hp,k<N->Inv k ys hp->Pr { σ1 with hp:=hp }∧W ⟨(bM (j2 tc.names sc.names) σ1.loc).set tgt (some (item k)),hp⟩ fun u σ2=>σ2.loc=(bM (j2 tc.names sc.names) σ1.loc).set tgt (some (item k))∧Inv (k+1) (ys++[u]) σ2.hp) ∧
   ∀ ys hp,Inv N ys hp->Pr { σ1 with hp:=hp }∧ys.length≤1000000∧∀ r,hp r=none->Q (.ref r) { σ1 with hp:=hp.set r (.list ys) }) s)
  (hpost:∀ acc Cn ons m s' σ',St C ((Cn,ons)::Z) s' σ'->C.Off Cn->Fq ons m->Q (.ref acc) σ'->nX C.prog C.w C.A use Q' (.ref acc) Cn (.ok .next) s') :
  RW C.M C.A (comprehension (.ListComp elt [⟨.Name t tp,iter,[],0⟩] sc pos) sc C.env pos' (newList []) false (eval iter C.env) use) Q' s:=by
 refine st.elim fun mf0 m0 ce0 ne0 δ0 F0 hm0 N0 nd0 H0 Lr0=>?_
 have hfree:∀ x∈sc.names,x.2=NameKind.free->∃ c,C.env.cells.lookup x.1=some c:=fun x hx hk=>by
  refine jg (fb.free x hx hk) fun j hj=>?_
  have e:=bh hj
  rw [← en] at e
  refine Pa (Lr0.c j x.1 e) fun c o v hc _=>?_
  exact⟨c,hc⟩
 skip
 refine DL rfl (fun x=>by cases iter<;>first | rfl | contradiction) (rM C.env sc hfree) fb.kind (fun x hx hl=>by
  refine jg (List.getElem?_of_mem hx) fun i hi=>?_
  skip;skip
  exact bQ fb.nd (by rw [hi,← hl])) ?_
 refine ha.mono fun v s1 hv=>?_
 refine Rv hv fun σ1 N item Pr hit hN zp6=>?_;refine jT zp6 fun Inv hInv0 hturn hend=>?_
 refine .of (hit _ fun it o Ob s2 hI cn ho dC=>?_)
 refine .of (wpAny_newObj_type (T := "list") ?_ (Nat.zero_le _))
 refine bx (dC.qL (listOf ([]:List Value).toArray 0) rfl (tk:=s2.toks)) fun fi hneA=>?_
 refine .of (wpAny_newFunctionEnv fb.xe (by intro y hy;contradiction) (fun h4 hns4 hsb4=>?_) fb.kind)
 skip
 refine bx (fi.qL { cls := .type "dict",data := .dict #[] } rfl (tk:=s2.toks)) fun st4 hneC=>?_
 refine ip hns4 fun ons es ep hg4 hd4 hk4 hf4=>?_
 skip
 exact ux hb ⟨fb,okc,en,sC okc.hk en fb.free,fb.kind,rfl,okc.gl,okc.bi,rfl⟩ eP (st4.zJ (tk:=s2.toks+([]:List (Str×Value)).length) hneC hsb4 hg4) hneC hneA cn ⟨es,ep,hd4,hk4,hf4⟩ hI ho hN hInv0 hturn hend hpost
end
noncomputable def fh (names:List (Str×NameKind)) (x:Str):Option Nat:=match aN names x with
 | some (i,.local)=>some i
 | some (i,.cell)=>some i
 | _=>none
theorem jq {C:Cx} {x:Str} {i:Nat} (hf:C.fn=true) (h:fh C.names x=some i):mn C i x:=by
 unfold fh at h
 cases e:aN C.names x with
 | none=>replace h:=e▸h;contradiction
 | some p =>
  obtain⟨j,k⟩:=p
  replace h:=e▸h
  cases k with
  | «local» => have h:=Option.some.inj h;subst h;exact⟨_,bh e,.inl rfl,hf⟩
  | cell=>have h:=Option.some.inj h;subst h;exact⟨_,bh e,.inr rfl,hf⟩
  | _=>contradiction
noncomputable def ni (names:List (Str×NameKind)):List Expr->Option (List Nat)
 | []=>some []
 | .Name x _::r=>(fh names x).bind fun i=>(ni names r).map (i :: ·)
 | _::_=>none
theorem kC {C:Cx} (hf:C.fn=true):∀ {ts:List Expr} {is:List Nat},ni C.names ts=some is->∃ xs,b0 C ts is xs
 | [],is,h=>by cases h;exact⟨[],.nil⟩
 | t::r,is,h=>by
  cases t with
  | Name x p =>
   refine aA (Option.bind_eq_some_iff.mp (h:(fh C.names x).bind _=some is)) fun i e1 h=>?_
   refine aA (Option.map_eq_some_iff.mp h) fun js e2 zp2=>?_;subst zp2
   obtain⟨xs,hx⟩:=kC hf e2
   exact⟨_,.cons (jq hf e1) hx⟩
  | _=>contradiction
theorem b0.nm {C:Cx} {ts:List Expr} {is:List Nat} {xs:List Str} (h:b0 C ts is xs):ts.length=is.length∧xs.length=is.length∧∀ (j:Nat) (x:Str) (i:Nat),xs[j]?=some x->is[j]?=some i->mn C i x:=by
 induction h with
 | nil=>exact⟨rfl,rfl,fun j x i h=>by trivial⟩
 | cons hv _ ih =>
  refine⟨by simp [ih.1],by simp [ih.2.1],fun j x i h1 h2=>?_⟩
  cases j with
  | zero=>simp only [List.getElem?_cons_zero,Option.some.injEq] at h1 h2;subst h1 h2;exact hv
  | succ j=>simp only [List.getElem?_cons_succ] at h1 h2;exact ih.2.2 j x i h1 h2
noncomputable def Ff (names:List (Str×NameKind)) (t:Str) (pos:Pos) (e:Expr) (sc:Scope):Bool :=
 names.lookup t==some .local&&pos.line==e.pos.line && !(sc.names.any fun (n,k)=>n==t&&(k == .local||k == .cell))
theorem ng {env:Env} {elt:Expr} {gens:List Comprehension} {sc:Scope} {pos p:Pos} {t:Str} {l:Nat} (hk:env.scope.kind = .function) :
  swapsWith (.ListComp elt gens sc pos) (some (.Name t p)) l env=pure (Ff env.scope.names t p (.ListComp elt gens sc pos) sc):=by
 have e:env.blockKind = .function:=by unfold Env.blockKind;rw [hk];rfl
 show pure (env.blockKind == .function&&env.kindOf t==some .local&&p.line==_ && !_)=_
 rw [e];rfl
theorem sJ {env:Env} {e:Expr} {t:Expr} {l:Nat}:swapsWithSole [t] e l env=swapsWith e (some t) l env:=rfl
theorem wJ {C:Cx} {A:Around} {s:Shared} {ts:List Expr} {k:Nat} {p:Pos} {it:Addr} {o:Obj} {v:Value} {Q:Unit->Shared->Prop} (ho:s.heap.get? it=some o) (hc:o.cls = .type "list_iterator" ∨ o.cls = .type "range_iterator") (h:Q () s) :
  wpAny C.M A (letOwnedTupleGo (.Tuple ts k p) (.ref it) v) Q NE s:=by
 skip
 cases v<;>try exact wpAny_pure h
 refine wpAny_bind (wpAny_load ho ?_)
 obtain⟨c,d,dt,sl⟩:=o
 rcases hc with e | e<;>dsimp only at e<;>subst e<;>cases dt<;>skip<;>try exact wpAny_pure h
 all_goals
  split
  ·rename_i q
   rw [Bool.and_eq_true] at q
   exact absurd q.1 (by decide)
  ·exact wpAny_pure h
theorem Dv {prog:Program} {w:World} {A:Around} {s:Shared} {env:Env} {tg:Expr} {it:Value} {b:List Stmt} {P:Result->Shared->Prop} (I:Nat->Shared->Prop)
  (turn:∀ n s,I n s->RW (model prog w) A (pyNext it) (fun r s₁=>match r with
   | none=>P (.ok .next) s₁
   | some v=>RW (model prog w) A (letOwnedTupleGo tg it v) (fun _ s₁'=>RW (model prog w) A (assign tg env v) (fun _ s₂=>RW (model prog w) A (execs b env) (fun f s₃=>match f with
     | .next | .cont=>∃ m,m<n∧I m s₃
     | .brk=>P (.ok .next) s₃
     | .ret v=>P (.ok (.ret v)) s₃) s₂) s₁') s₁) s)
  (n:Nat) (h:I n s):RC (model prog w) A (.forLoop tg it b [] env) P s:=by
 refine .loop rfl rfl I (fun n s hI=>?_) n h
 skip
 refine .onRaise ?_
 skip
 refine .bind (.standAt (.bind (.onRaise ((turn n s hI).mono fun r s₁ h₁=>?_))))
 cases r with
 | none=>exact RW.pure (.inr ⟨rfl,yE (sH h₁)⟩)
 | some v =>
  skip
  refine .bind (h₁.mono fun _ s₁' h₁' => .bind (h₁'.mono fun _ s₂ h₂ => .bind (h₂.mono fun f s₃ h₃=>?_)))
  cases f with
  | next=>exact RW.pure (.inl ⟨rfl,h₃⟩)
  | cont=>exact RW.pure (.inl ⟨rfl,h₃⟩)
  | brk=>exact RW.pure h₃
  | ret v=>exact RW.pure h₃
inductive Fv (names:List (Str×NameKind)):Expr->Bool->List Nat->Prop where
 | one {x:Str} {p:Pos} {i:Nat}:fh names x=some i->Fv names (.Name x p) false [i]
 | tup {ts:List Expr} {k:Nat} {p:Pos} {is:List Nat}:ni names ts=some is->Fv names (.Tuple ts k p) true is
end Mine
end
section
open PySem PySem.W PySem.Calls PyProof.Rows
set_option Elab.async false
set_option genSizeOf false
set_option genInjectivity false
set_option maxRecDepth 100000
set_option autoImplicit false
set_option linter.unusedVariables false
namespace Mine
inductive NV where
 | none | bool (b:Bool) | int (i:Int) | bytes (b:List UInt8) | id (i:Nat) | at (a:Addr)
 deriving Inhabited
inductive NO where
 | dead | list (xs:List NV) | tup (xs:List NV) | inst (C:Addr) (fs:List (Nat×NV)) | aB (b:List UInt8)
 | az (aF:List (Int×NV)) | aC (aF:List (List Int×NV)) | bg (S:Int->Bool) (n:Nat) | range (a b c:Int)
noncomputable def fv:AV->NV
 | .none => .none | .bool b => .bool b | .int i => .int i | .bytes b => .bytes b | .ref a => .at a
noncomputable def sR:NV->Option AV
 | .none=>some .none | .bool b=>some (.bool b) | .int i=>some (.int i) | .bytes b=>some (.bytes b) | .at a=>some (.ref a) | .id _=>none
noncomputable def cJ:List NV->Option (List AV)
 | []=>some []
 | v::r=>(sR v).bind fun a=>(cJ r).map (a :: ·)
noncomputable def fO:AO->NO
 | .list xs => .list (xs.map fv) | .tup xs => .tup (xs.map fv) | .inst C fs => .inst C (fs.map fun p=>(p.1,fv p.2)) | .aB b => .aB b
 | .az aF => .az (aF.map fun p=>(p.1,fv p.2)) | .aC aF => .aC (aF.map fun p=>(p.1,fv p.2)) | .bg S n => .bg S n | .range a b c => .range a b c
structure NS where
 loc:List (Option NV)
 h:List NO
 fz:Hp
inductive cY where
 | next | brk | cont
 | ret (v:NV)
noncomputable def cY.val:cY->NV
 | .ret v=>v
 | _ => .none
inductive Br (c:Bool) (A B:Prop):Prop where
 | mk:(c=true->A)->(c=false->B)->Br c A B
theorem Br.t {c:Bool} {A B:Prop} (h:c=true) (a:A):Br c A B:=⟨fun _=>a,fun e=>by rw [h] at e;contradiction⟩
theorem Br.f {c:Bool} {A B:Prop} (h:c=false) (b:B):Br c A B:=⟨(fun e=>by rw [h] at e;contradiction),fun _=>b⟩
noncomputable def ak (f g:Hp):Prop:=∀ a o,f a=some o->g a=some o
theorem ak.refl (f:Hp):ak f f:=fun _ _ e=>e
theorem ak.trans {f g h:Hp} (x:ak f g) (y:ak g h):ak f h:=fun a o e=>y a o (x a o e)
noncomputable def NV.okN (n:Nat):NV->Prop
 | .id i=>i<n
 | _=>True
noncomputable def NO.okN (n:Nat):NO->Prop
 | .list xs=>∀ x∈xs,x.okN n
 | .tup xs=>∀ x∈xs,x.okN n
 | .inst _ fs=>∀ p∈fs,p.2.okN n
 | .az aF=>∀ p∈aF,p.2.okN n
 | .aC aF=>∀ p∈aF,p.2.okN n
 | _=>True
inductive d8 (ρ:Nat->Addr) (n:Nat):NV->AV->Prop where
 | none:d8 ρ n .none .none
 | bool (b:Bool):d8 ρ n (.bool b) (.bool b)
 | int (i:Int):d8 ρ n (.int i) (.int i)
 | bytes (b:List UInt8):d8 ρ n (.bytes b) (.bytes b)
 | id {i:Nat}:i<n->d8 ρ n (.id i) (.ref (ρ i))
 | at (a:Addr):d8 ρ n (.at a) (.ref a)
inductive aM (ρ:Nat->Addr) (n:Nat):List NV->List AV->Prop where
 | nil:aM ρ n [] []
 | cons {v:NV} {a:AV} {vs:List NV} {as:List AV}:d8 ρ n v a->aM ρ n vs as->aM ρ n (v::vs) (a::as)
inductive iP {κ:Type} (ρ:Nat->Addr) (n:Nat):List (κ×NV)->List (κ×AV)->Prop where
 | nil:iP ρ n [] []
 | cons {k:κ} {v:NV} {a:AV} {vs:List (κ×NV)} {as:List (κ×AV)}:d8 ρ n v a->iP ρ n vs as->iP ρ n ((k,v)::vs) ((k,a)::as)
inductive hU (ρ:Nat->Addr) (n:Nat):NO->AO->Prop where
 | list {xs:List NV} {ys:List AV}:aM ρ n xs ys->hU ρ n (.list xs) (.list ys)
 | tup {xs:List NV} {ys:List AV}:aM ρ n xs ys->hU ρ n (.tup xs) (.tup ys)
 | inst {C:Addr} {xs:List (Nat×NV)} {ys:List (Nat×AV)}:iP ρ n xs ys->hU ρ n (.inst C xs) (.inst C ys)
 | aB (b:List UInt8):hU ρ n (.aB b) (.aB b)
 | az {xs:List (Int×NV)} {ys:List (Int×AV)}:iP ρ n xs ys->hU ρ n (.az xs) (.az ys)
 | aC {xs:List (List Int×NV)} {ys:List (List Int×AV)}:iP ρ n xs ys->hU ρ n (.aC xs) (.aC ys)
 | bg (S:Int->Bool) (c:Nat):hU ρ n (.bg S c) (.bg S c)
 | range (a b c:Int):hU ρ n (.range a b c) (.range a b c)
noncomputable def Lv (h:List NO) (i:Nat):Prop:=∃ x,h[i]?=some x∧x ≠ .dead
noncomputable def own (ρ:Nat->Addr) (h:List NO) (a:Addr):Prop:=∃ i,Lv h i∧ρ i=a
structure Mt (ρ:Nat->Addr) (h:List NO) (fz hp:Hp):Prop where
 f:∀ a o,fz a=some o->hp a=some o
 o:∀ i x,h[i]?=some x->x ≠ .dead->∃ y,hp (ρ i)=some y∧hU ρ h.length x y
 i:∀ i j,Lv h i->Lv h j->ρ i=ρ j->i=j
 d:∀ i,Lv h i->fz (ρ i)=none
 p:fz SA≠none
noncomputable def kP (ρ:Nat->Addr) (n:Nat) (loc:List (Option NV)) (l:List (Option AV)):Prop:=loc.length≤l.length∧∀ (i:Nat) (v:NV),loc[i]?=some (some v)->∃ a,l[i]?=some (some a)∧d8 ρ n v a
noncomputable def Tr (ρ:Nat->Addr) (h:List NO) (fz hp:Hp) (ρ':Nat->Addr) (h':List NO) (fz' hp':Hp):Prop :=
 ∀ a o,hp a=some o->¬ own ρ h a->hp' a=some o∧¬ own ρ' h' a∧fz' a=fz a
structure Rl (ρ:Nat->Addr) (σ:NS) (l:List (Option AV)) (hp:Hp):Prop where
 m:Mt ρ σ.h σ.fz hp
 l:kP ρ σ.h.length σ.loc l
noncomputable def Up (n:Nat) (vs:List NV) (σ:NS) (Q:List NV->NS->Prop):Prop:=∀ ρ l hp as,Rl ρ σ l hp->aM ρ σ.h.length vs as →
 ∃ ρ' vs' σ',(∀ i,i<n->ρ' i=ρ i)∧n≤σ'.h.length∧Tr ρ σ.h σ.fz hp ρ' σ'.h σ'.fz hp∧Rl ρ' σ' l hp∧aM ρ' σ'.h.length vs' as∧Q vs' σ'
structure mj (P:Tp) (k:Nat) (f:Addr) (vs:List NV) (H:List NO) (fz:Hp) (S:NV->List NO->Hp->Prop):Prop where
 call:∀ ρ hp as,Mt ρ H fz hp->aM ρ H.length vs as->cq P k f as (fun a hp'=>∃ ρ' v H' fz',H'.length=H.length∧(∀ i,i<H.length->ρ' i=ρ i)∧Mt ρ' H' fz' hp'∧Tr ρ H fz hp ρ' H' fz' hp'∧d8 ρ' H.length v a∧S v H' fz') hp
 vx:∀ v∈vs,v.okN H.length
 px:∀ o∈H,o.okN H.length∧o ≠ .dead
noncomputable def pick (h:List NO):List Nat->Option (List NO)
 | []=>some []
 | i::r=>match h[i]?,pick h r with | some o,some l=>some (o::l) | _,_=>none
noncomputable def jk (s:List Nat):NV->NV
 | .id i => .id (s.getD i 0)
 | v=>v
noncomputable def lO (s:List Nat):NO->NO
 | .dead => .dead
 | .list xs => .list (xs.map (jk s))
 | .tup xs => .tup (xs.map (jk s))
 | .inst C fs => .inst C (fs.map fun p=>(p.1,jk s p.2))
 | .aB b => .aB b
 | .az aF => .az (aF.map fun p=>(p.1,jk s p.2))
 | .aC aF => .aC (aF.map fun p=>(p.1,jk s p.2))
 | .bg S n => .bg S n
 | .range a b c => .range a b c
noncomputable def ov (h:List NO):List Nat->List NO->List NO
 | i::r,o::l=>ov (h.set i o) r l
 | _,_=>h
noncomputable def rp (i:Nat) (a:Addr):NV->NV
 | .id j=>if j=i then .at a else .id j
 | v=>v
noncomputable def Fd (i:Nat) (a:Addr):NO->NO
 | .dead => .dead
 | .list xs => .list (xs.map (rp i a))
 | .tup xs => .tup (xs.map (rp i a))
 | .inst C fs => .inst C (fs.map fun p=>(p.1,rp i a p.2))
 | .az aF => .az (aF.map fun p=>(p.1,rp i a p.2))
 | o=>o
noncomputable def gS (i:Nat) (a:Addr) (h:List NO):List Nat->List NO
 | []=>h
 | j::r=>gS i a (match h[j]? with | some o=>h.set j (Fd i a o) | none=>h) r
noncomputable def ru:NO->Option AO
 | .list xs=>(cJ xs).map .list
 | .tup xs=>(cJ xs).map .tup
 | .inst C fs=>(cJ (fs.map (·.2))).map fun vs => .inst C ((fs.map (·.1)).zip vs)
 | .az aF=>(cJ (aF.map (·.2))).map fun vs => .az ((aF.map (·.1)).zip vs)
 | .aB b=>some (.aB b)
 | _=>none
inductive dK (P:Tp) (k:Nat) (f:Addr) (Q:NV->NS->Prop):List NV->NS->Prop where
 | mk {vs:List NV} {σ:NS} (j:Nat) (s:List Nat) (H:List NO) (vs0:List NV) (S:NV->List NO->Hp->Prop):mj P j f vs0 H σ.fz S->j≤k->s.Nodup->pick σ.h s=some (H.map (lO s))->vs=vs0.map (jk s) →
  (∀ v H' fz',S v H' fz'->H'.length=H.length->ak σ.fz fz'->Q (jk s v) ⟨σ.loc,ov σ.h s (H'.map (lO s)),fz'⟩)->dK P k f Q vs σ
 | kO {vs:List NV} {σ:NS} (i:Nat) (js:List Nat) (o:NO) (ao:AO):σ.h[i]?=some o->ru o=some ao->(∀ a fz',ak σ.fz fz'->fz' a=some ao->dK P k f Q (vs.map (rp i a)) ⟨σ.loc,gS i a (σ.h.set i .dead) js,fz'⟩)->dK P k f Q vs σ
 | Rx {vs:List NV} {σ:NS} (h':List NO):σ.h.length≤h'.length->(∀ (i:Nat) x,h'[i]?=some x->x ≠ .dead->σ.h[i]?=some x)->dK P k f Q vs ⟨σ.loc,h',σ.fz⟩->dK P k f Q vs σ
set_option genCtorIdx false
inductive WT where
 | no
 | ok (p:Prop)
 | req (p:Prop) (k:WT)
 | br (c:Bool) (a b:WT)
 | look (o:Option AO) (k:AO->WT)
 | item (o:Option NV) (k:NV->WT)
 | kO (o:AO) (z:Hp) (k:Addr->Hp->WT)
 | call (k:Nat) (f:Addr) (vs:List NV) (σ:NS) (Q:NV->NS->WT)
set_option genCtorIdx true
noncomputable def den (P:Tp) (t:WT):Prop:=WT.rec (motive:=fun _=>Prop) False (fun p=>p) (fun p _ i=>p∧i) (fun c _ _ a b=>Br c a b) (fun o _ i=>∃ x,o=some x∧i x) (fun o _ i=>∃ x,o=some x∧i x)
 (fun o z _ i=>∀ a z',ak z z'->z' a=some o->i a z') (fun k f vs σ _ i=>dK P k f i vs σ) t
section
variable {α β:Type}
noncomputable def Av:List NO->Nat->(NO->WT)->WT
 | [],_,_ => .no
 | o::_,0,k=>NO.casesOn o .no (fun _=>k o) (fun _=>k o) (fun _ _=>k o) (fun _=>k o) (fun _=>k o) (fun _=>k o) (fun _ _=>k o) (fun _ _ _=>k o)
 | _::r,i+1,k=>Av r i k
noncomputable def Ga:List (Option NV)->Nat->(NV->WT)->WT
 | [],_,_ => .no
 | o::_,0,k=>o.casesOn .no k
 | _::r,i+1,k=>Ga r i k
noncomputable def l6:List α->Nat->α->(List α->β)->β
 | [],_,_,k=>k []
 | _::r,0,a,k=>k (a::r)
 | x::r,i+1,a,k=>l6 r i a fun r'=>k (x::r')
noncomputable def t7:List α->α->(List α->Nat->β)->β
 | [],a,k=>k [a] 0
 | x::r,a,k=>t7 r a fun r' n=>k (x::r') (n+1)
noncomputable def QL:List NO->List Nat->List NO->(List NO->β)->β
 | h,[],_,k=>k h
 | h,_::_,[],k=>k h
 | h,i::s,o::l,k=>l6 h i o fun h'=>QL h' s l k
noncomputable def ib:List (Option NV)->List Nat->List NV->(List (Option NV)->β)->β
 | l,[],_,k=>k l
 | l,_::_,[],k=>k l
 | l,i::is,v::vs,k=>l6 l i (some v) fun l'=>ib l' is vs k
noncomputable def rY:Nat->List NV->(List (Option NV)->β)->β
 | 0,_,k=>k []
 | n+1,[],k=>rY n [] fun r=>k (none::r)
 | n+1,v::vs,k=>rY n vs fun r=>k (some v::r)
noncomputable def qw (x:Nat):List (Nat×NV)->(NV->WT)->WT
 | [],_ => .no
 | p::r,k=>cond (Nat.beq p.1 x) (k p.2) (qw x r k)
noncomputable def sk (x:Nat) (a:NV):List (Nat×NV)->(List (Nat×NV)->β)->β
 | [],k=>k [(x,a)]
 | p::r,k=>cond (Nat.beq p.1 x) (k ((x,a)::r)) (sk x a r fun r'=>k (p::r'))
end
noncomputable def tx (b:Bool) (k:WT):WT:=cond b k .no
noncomputable def EY (v:NV) (k:Int->WT) (e:WT):WT:=NV.casesOn v e (fun _=>e) k (fun _=>e) (fun _=>e) (fun _=>e)
noncomputable def uh (v:NV) (k:Int->WT):WT:=EY v k .no
noncomputable def O8 (v:NV) (k:Bool->WT):WT:=NV.casesOn v .no k (fun _ => .no) (fun _ => .no) (fun _ => .no) (fun _ => .no)
noncomputable def Qd (v:NV) (k:WT):WT:=NV.casesOn v k (fun _ => .no) (fun _ => .no) (fun _ => .no) (fun _ => .no) (fun _ => .no)
noncomputable def Qx (v:NV) (k e:WT):WT:=NV.casesOn v k (fun _=>e) (fun _=>e) (fun _=>e) (fun _=>e) (fun _=>e)
noncomputable def Qy (v:NV) (k:List UInt8->WT) (e:WT):WT:=NV.casesOn v e (fun _=>e) (fun _=>e) k (fun _=>e) (fun _=>e)
noncomputable def Qw (v:NV) (k:Addr->WT) (e:WT):WT:=NV.casesOn v e (fun _=>e) (fun _=>e) (fun _=>e) (fun _=>e) k
noncomputable abbrev dp {α:Type}:α->WT:=fun _ => .no
noncomputable abbrev fR {α β:Type}:α->β->WT:=fun _ _ => .no
noncomputable def dY (o:NO) (k:List NV->WT):WT:=NO.casesOn o .no k dp fR dp dp dp fR fun _ _ _ => .no
noncomputable def oTup (o:NO) (k:List NV->WT):WT:=NO.casesOn o .no dp k fR dp dp dp fR fun _ _ _ => .no
noncomputable def Je (o:NO) (k:List NV->WT):WT:=NO.casesOn o .no k k fR dp dp dp fR fun _ _ _ => .no
noncomputable def qI (o:NO) (k:Addr->List (Nat×NV)->WT):WT:=NO.casesOn o .no dp dp k dp dp dp fR fun _ _ _ => .no
noncomputable def tQ (o:NO) (k:List UInt8->WT):WT:=NO.casesOn o .no dp dp fR k dp dp fR fun _ _ _ => .no
noncomputable def r9 (o:NO) (k:List (Int×NV)->WT):WT:=NO.casesOn o .no dp dp fR dp k dp fR fun _ _ _ => .no
noncomputable def yv (o:NO) (k:List (List Int×NV)->WT):WT:=NO.casesOn o .no dp dp fR dp dp k fR fun _ _ _ => .no
noncomputable def tR (o:NO) (k:(Int->Bool)->Nat->WT):WT:=NO.casesOn o .no dp dp fR dp dp dp k fun _ _ _ => .no
noncomputable def a0 (vs:List NV) (k:WT):WT:=vs.casesOn k fR
noncomputable def a1 (vs:List NV) (k:NV->WT):WT:=vs.casesOn .no fun v r=>a0 r (k v)
noncomputable def look (v:NV) (σ:NS) (k:NO->WT):WT:=NV.casesOn v .no dp dp dp (fun i=>Av σ.h i k) fun a => .look (σ.fz a) fun o=>k (fO o)
noncomputable def sd (v:NV) (σ:NS) (k:NO->(NO->(NS->WT)->WT)->WT):WT:=NV.casesOn v .no dp dp dp (fun i=>Av σ.h i fun o=>k o fun o' c=>NS.casesOn σ fun lc h z=>l6 h i o' fun h=>c ⟨lc,h,z⟩) dp
noncomputable def new (o:NO) (σ:NS) (Q:NV->NS->WT):WT:=NS.casesOn σ fun lc h z=>t7 h o fun h i=>Q (.id i) ⟨lc,h,z⟩
noncomputable def kO (o:AO) (σ:NS) (Q:NV->NS->WT):WT:=NS.casesOn σ fun lc h z => .kO o z fun a z=>Q (.at a) ⟨lc,h,z⟩
noncomputable def J4 (op:Operator) (v u:NV) (σ:NS) (Q:NV->NS->WT):WT :=
 EY u (fun j=>EY v (fun i=>(RE op i j).casesOn .no fun pc=>pc.casesOn fun p c => .req p (Q (.int c) σ))
   (look v σ fun o=>dY o fun xs=>a1 xs fun z=>tx (decide (op = .Mult)) (.req (j≤1000000 ∧ -1000000≤j) (new (.list (List.replicate j.toNat z)) σ Q))))
  (look v σ fun o=>look u σ fun o'=>dY o fun xs=>dY o' fun ys=>tx (decide (op = .Add)) (.req (xs.length+ys.length≤1000000) (new (.list (xs++ys)) σ Q)))
noncomputable def wg (P:Tp) (op:CmpOp) (v u:NV) (σ:NS) (Q:Bool->NS->WT):WT :=
 EY u (fun j=>uh v fun i=>(Kj op i j).casesOn .no fun c=>Q c σ)
  (Qx u (tx (decide (op = .Is)) (Qx v (Q true σ) (Q false σ)))
   (EY v (fun k=>look u σ fun o=>tR o fun S c=>tx (decide (op = .In)) (.req (c<4000) (Q (S k) σ)))
    (Qw v (fun a=>Qw u (fun b => .ok (∃ (x y:List (List Int)) (neg:Bool),pW σ.fz a x∧pW σ.fz b y∧op=(if neg then .NotEq else .Eq)∧den P (Q (if neg then !decide (x=y) else decide (x=y)) σ))) .no)
     (look v σ fun o=>look u σ fun o'=>dY o fun xs=>dY o' fun ys => .ok (∃ (x y:List Int) (neg:Bool),xs=x.map .int∧ys=y.map .int∧op=(if neg then .NotEq else .Eq)∧den P (Q (if neg then !decide (x=y) else decide (x=y)) σ))))))
noncomputable def NL (P:Tp) (v u:NV) (σ:NS) (Q:NV->NS->WT):WT :=
 EY u (fun k=>Qy v (fun b => .req (0≤k∧b.length≤1000000) (.item (b[k.toNat]?.map fun c => .int (c.toNat:Nat)) fun x=>Q x σ))
   (look v σ fun o=>Je o fun xs => .req (0≤k∧k<1000000) (.item xs[k.toNat]? fun x=>Q x σ)))
  (look v σ fun o=>look u σ fun o'=>yv o fun aF=>oTup o' fun xs => .ok (∃ (ks:List Int) (x:NV),xs=ks.map .int∧aF.lookup ks=some x∧den P (Q x σ)))
noncomputable def J6 (P:Tp) (f:BF) (vs:List NV) (σ:NS) (Q:NV->NS->WT):WT:=match f with
 | .len=>a1 vs fun v=>Qy v (fun b => .req (b.length≤1000000) (Q (.int b.length) σ)) (look v σ fun o=>Je o fun xs => .req (xs.length≤1000000) (Q (.int xs.length) σ))
 | .abs=>a1 vs fun v=>uh v fun i=>Q (.int (i.natAbs:Nat)) σ
 | .min=>a1 vs fun v=>look v σ fun o=>dY o fun xs => .ok (∃ ns:List Int,xs=ns.map .int∧0<ns.length∧∀ m,m∈ns->(∀ b∈ns,m≤b)->den P (Q (.int m) σ))
 | .sum=>a1 vs fun v=>look v σ fun o=>dY o fun xs => .ok (∃ ns:List Int,xs=ns.map .int∧den P (Q (.int ns.sum) σ))
 | .list=>a1 vs fun v=>look v σ fun o=>dY o fun xs => .req (xs.length≤1000000) (new (.list xs) σ Q)
 | .tuple=>a1 vs fun v=>look v σ fun o=>dY o fun xs => .ok (xs.length≤1000000∧∃ as,cJ xs=some as∧den P (kO (.tup as) σ Q))
 | .set=>a0 vs (new (.bg (fun _=>false) 0) σ Q)
 | .int=>a1 vs fun v=>EY v (fun i=>Q (.int i) σ) (O8 v fun b=>Q (.int (if b then 1 else 0)) σ)
 | .bytes=>a1 vs fun v=>look v σ fun o=>tQ o fun b => .req (b.length≤1000000) (Q (.bytes b) σ)
 | .aB=>a0 vs (new (.aB []) σ Q)
 | .range=>vs.casesOn .no fun a r=>uh a fun a=>r.casesOn (new (.range 0 a 1) σ Q) fun b r=>uh b fun b=>r.casesOn (new (.range a b 1) σ Q) fun c r=>uh c fun c=>a0 r (.req (c = -1) (new (.range a b c) σ Q))
noncomputable def vT (k:BM) (v:NV) (σ:NS) (t:WT):WT:=match k with
 | .bits=>uh v fun _=>t
 | .append=>look v σ fun o=>dY o fun _=>t
 | .eF=>look v σ fun o=>tQ o fun _=>t
 | .add=>look v σ fun o=>tR o fun _ c => .req (c<4000) t
 | .get=>look v σ fun o=>r9 o fun _=>t
noncomputable def KP (k:Int) (aF:List (Int×NV)):NV:=(aF.lookup k).getD .none
noncomputable def EN (k:BM) (v:NV) (vs:List NV) (σ:NS) (Q:NV->NS->WT):WT:=match k with
 | .append=>a1 vs fun x=>sd v σ fun o u=>dY o fun xs => .req (xs.length≤1000000) (u (.list (xs++[x])) (Q .none))
 | .eF=>a1 vs fun x=>uh x fun i=>sd v σ fun o u=>tQ o fun b => .req (0≤i∧i<256∧b.length≤1000000) (u (.aB (b++[UInt8.ofNat i.toNat])) (Q .none))
 | .add=>a1 vs fun x=>uh x fun i=>sd v σ fun o u=>tR o fun S c => .req (c<4000) (u (.bg (fun k'=>S k'||decide (k'=i)) (if S i then c else c+1)) (Q .none))
 | .get=>a1 vs fun x=>uh x fun i=>look v σ fun o=>r9 o fun aF => .item (some (KP i aF)) fun x=>Q x σ
 | .bits=>a0 vs (uh v fun i=>Q (.int (Builtin.Int.intBits i:Nat)) σ)
noncomputable def Fe (o i v:NV) (σ:NS) (Q:NS->WT):WT:=uh i fun k=>sd o σ fun o u =>
 NO.casesOn o .no (fun xs => .req (0≤k∧k<1000000∧k.toNat<xs.length) (u (.list (xs.set k.toNat v)) Q)) dp fR dp (fun aF => .req (aF.lookup k=none∧aF.length≤1000000) (u (.az (aF++[(k,v)])) Q)) dp fR fun _ _ _ => .no
inductive sU (v:NV) (σ:NS) (n':Nat):Nat->(Nat->NV)->(NS->Prop)->Prop where
 | list {i:Nat} {xs:List NV}:v = .id i->σ.h[i]?=some (.list xs)->xs.length≤1000000->i<n'->(∀ x∈xs,x.okN n')->sU v σ n' xs.length (fun k=>xs.getD k .none) (fun σ'=>σ'.h[i]?=some (.list xs))
 | range {i:Nat} {x y z:Int}:v = .id i->σ.h[i]?=some (.range x y z)->near x->near y->(z=1∨z = -1)->sU v σ n' (gQ x y z) (fun k => .int (x+k*z)) (fun _=>True)
 | fz {a:Addr} {xs:List AV}:v = .at a->σ.fz a=some (.list xs)->xs.length≤1000000->sU v σ n' xs.length (fun k=>fv (xs.getD k .none)) (fun σ'=>ak σ.fz σ'.fz)
noncomputable def fC (fvs:List (Option Nat)) (loc:List (Option NV)):List (Option NV):=fvs.map fun o=>o.bind fun i=>(loc[i]?).join
noncomputable def km (loc:List (Option NV)):List Nat->List NV->List (Option NV)
 | i::is,a::as=>km (loc.set i (some a)) is as
 | _,_=>loc
noncomputable def pO (aF:List (List Int×Nat)) (loc:List (Option NV)):Option (List (List Int×AV)):=match aF with
 | []=>some []
 | (k,i)::r=>((loc[i]?).join.bind sR).bind fun a=>(pO r loc).map ((k,a) :: ·)
noncomputable def Pc (fl:cY) (a:WT) (b:WT) (c:NV->WT):WT:=cY.casesOn fl a b a c
inductive vF (P:Tp) (n:Nat) (t:NS->(Bool->NS->WT)->WT) (b:Nat->NS->(cY->NS->WT)->WT) (σ:NS) (Q:cY->NS->WT):Prop where
 | mk (n':Nat) (Inv:Nat->NS->Prop) (m₀:Nat):n≤n'->(Up n' [] σ fun _ σ'=>Inv m₀ σ') →
  (∀ m σ1,n'≤σ1.h.length->Inv m σ1->den P (t σ1 fun c σ2 => .br c (b n' σ2 fun fl σ3=>Pc fl (.ok (∃ m',m'<m∧Up n' [] σ3 fun _ σ4=>Inv m' σ4)) (Q .next σ3) fun a=>Q (.ret a) σ3) (Q .next σ2)))->vF P n t b σ Q
inductive zU (P:Tp) (n:Nat) (is:List Nat) (tup:Bool) (v:NV) (b:Nat->NS->(cY->NS->WT)->WT) (σ:NS) (Q:cY->NS->WT):Prop where
 | mk (n':Nat) (N:Nat) (item:Nat->NV) (Pr:NS->Prop) (Inv:Nat->NS->Prop):n≤n'->sU v σ n' N item Pr->(Up n' [] σ fun _ σ'=>Inv 0 σ')->(∀ k σ2,k≤N->Inv k σ2->Pr σ2) →
   (∀ k σ2,k<N->n'≤σ2.h.length->Inv k σ2->den P (cond tup (look (item k) σ2 fun o=>oTup o fun as=>tx (Nat.beq as.length is.length) (ib σ2.loc is as fun lc=>b n' ⟨lc,σ2.h,σ2.fz⟩ fun fl σ3=>Pc fl (.ok (Up n' [] σ3 fun _ σ4=>Inv (k+1) σ4)) (Q .next σ3) fun a=>Q (.ret a) σ3))
    (ib σ2.loc is [item k] fun lc=>b n' ⟨lc,σ2.h,σ2.fz⟩ fun fl σ3=>Pc fl (.ok (Up n' [] σ3 fun _ σ4=>Inv (k+1) σ4)) (Q .next σ3) fun a=>Q (.ret a) σ3))) →
   (∀ σ2,n'≤σ2.h.length->Inv N σ2->den P (Q .next σ2))->zU P n is tup v b σ Q
inductive sT (P:Tp) (v:NV) (lc:List (Option NV)) (tgt:Nat) (e:NS->(NV->NS->WT)->WT) (σ:NS) (Q:NV->NS->WT):Prop where
 | mk (N:Nat) (item:Nat->NV) (Pr:NS->Prop) (Inv:Nat->List NV->List NO->Hp->Prop):sU v σ σ.h.length N item Pr->N≤1000000->Inv 0 [] σ.h σ.fz →
   (∀ k ys h fz,k<N->σ.h.length≤h.length->Inv k ys h fz->Pr ⟨σ.loc,h,fz⟩∧den P (e ⟨lc.set tgt (some (item k)),h,fz⟩ fun u σ2 => .ok (Up σ.h.length (u::ys) ⟨[],σ2.h,σ2.fz⟩ fun vs σ3=>∃ u' ys',vs=u'::ys'∧Inv (k+1) (ys'++[u']) σ3.h σ3.fz))) →
   (∀ ys h fz,σ.h.length≤h.length->Inv N ys h fz->Pr ⟨σ.loc,h,fz⟩∧ys.length≤1000000∧den P (new (.list ys) ⟨σ.loc,h,fz⟩ Q))->sT P v lc tgt e σ Q
section
variable (P:Tp) (cl:Addr->List NV->NS->(NV->NS->WT)->WT)
mutual
noncomputable def gq:ME->NS->(NV->NS->WT)->WT
 | .none,σ,Q=>Q .none σ
 | .bool b,σ,Q=>Q (.bool b) σ
 | .int i,σ,Q=>Q (.int i) σ
 | .loc i,σ,Q=>Ga σ.loc i fun v=>Q v σ
 | .attr e x,σ,Q=>gq e σ fun v σ1=>look v σ1 fun o=>qI o fun _ fs=>qw x fs fun u=>Q u σ1
 | .sub e i,σ,Q=>gq e σ fun v σ1=>gq i σ1 fun u σ2=>NL P v u σ2 Q
 | .EB e k,σ,Q=>gq e σ fun v σ1=>look v σ1 fun o=>dY o fun xs => .req (0≤k∧xs.length≤1000000) (new (.list (xs.take k.toNat)) σ1 Q)
 | .Kt e k,σ,Q=>gq e σ fun v σ1=>look v σ1 fun o=>dY o fun xs => .req (0≤k∧xs.length≤1000000) (new (.list (xs.drop k.toNat)) σ1 Q)
 | .bin op a b,σ,Q=>gq a σ fun v σ1=>gq b σ1 fun u σ2=>J4 op v u σ2 Q
 | .neg a,σ,Q=>gq a σ fun v σ1=>uh v fun i=>Q (.int (-i)) σ1
 | .cmp op a b,σ,Q=>gq a σ fun v σ1=>gq b σ1 fun u σ2=>wg P op v u σ2 fun c σ3=>Q (.bool c) σ3
 | .and a b,σ,Q=>gq a σ fun v σ1=>O8 v fun c => .br c (gq b σ1 Q) (Q (.bool false) σ1)
 | .or a b,σ,Q=>gq a σ fun v σ1=>O8 v fun c => .br c (Q (.bool true) σ1) (gq b σ1 Q)
 | .ite t a b,σ,Q=>zR t σ fun c σ1 => .br c (gq a σ1 Q) (gq b σ1 Q)
 | .list es,σ,Q=>pS es σ fun vs σ1=>tx (Nat.ble vs.length 1000000) (new (.list vs) σ1 Q)
 | .tup es,σ,Q=>pS es σ fun vs σ1=>tx (Nat.ble vs.length 1000000) ((cJ vs).casesOn (new (.tup vs) σ1 Q) fun as=>kO (.tup as) σ1 Q)
 | .az,σ,Q=>new (.az []) σ Q
 | .aC aF,σ,Q=>(pO aF σ.loc).casesOn .no fun l => .req (l.map (·.1)).Nodup (kO (.aC l) σ Q)
 | .fn f es,σ,Q=>pS es σ fun vs σ1=>cl f vs σ1 Q
 | .cls K es,σ,Q=>pS es σ fun vs σ1=>(P.T.init K).casesOn .no fun f=>new (.inst K []) σ1 fun r σ2=>cl f (r::vs) σ2 fun v σ3=>Qd v (Q r σ3)
 | .blt f es,σ,Q=>pS es σ fun vs σ1=>J6 P f vs σ1 Q
 | .aQ e x es,σ,Q=>gq e σ fun v σ1=>look v σ1 fun o=>qI o fun K _=>(P.T.aQ K x).casesOn .no fun f=>pS es σ1 fun vs σ2=>cl f (v::vs) σ2 Q
 | .iY k e es,σ,Q=>gq e σ fun v σ1=>vT k v σ1 (pS es σ1 fun vs σ2=>EN k v vs σ2 Q)
 | .comp fvs tgt it elt,σ,Q=>gq it σ fun v σ1 => .ok (sT P v (fC fvs σ1.loc) tgt (gq elt) σ1 Q)
noncomputable def pS:nS->NS->(List NV->NS->WT)->WT
 | .nil,σ,Q=>Q [] σ
 | .cons e r,σ,Q=>gq e σ fun v σ1=>pS r σ1 fun vs σ2=>Q (v::vs) σ2
noncomputable def zR:MT->NS->(Bool->NS->WT)->WT
 | .not t,σ,Q=>zR t σ fun c σ1=>Q (!c) σ1
 | .and a b,σ,Q=>zR a σ fun c σ1 => .br c (zR b σ1 Q) (Q false σ1)
 | .or a b,σ,Q=>zR a σ fun c σ1 => .br c (Q true σ1) (zR b σ1 Q)
 | .cmp op a b,σ,Q=>gq a σ fun v σ1=>gq b σ1 fun u σ2=>wg P op v u σ2 Q
 | .Aj op op' a b c,σ,Q=>gq a σ fun v σ1=>gq b σ1 fun u σ2=>wg P op v u σ2 fun d σ3 => .br d (gq c σ3 fun w σ4=>wg P op' u w σ4 Q) (Q false σ3)
end
mutual
noncomputable def RP (n:Nat):MS->NS->(cY->NS->WT)->WT
 | .expr e,σ,Q=>gq P cl e σ fun _ σ1=>Q .next σ1
 | .ret e,σ,Q=>gq P cl e σ fun v σ1=>Q (.ret v) σ1
 | .pass,σ,Q=>Q .next σ
 | .dead,_,_ => .no
 | .asg i e,σ,Q=>gq P cl e σ fun v σ1=>NS.casesOn σ1 fun lc h z=>l6 lc i (some v) fun lc=>Q .next ⟨lc,h,z⟩
 | .aI o x e,σ,Q=>gq P cl e σ fun v σ1=>gq P cl o σ1 fun u σ2=>sd u σ2 fun o up=>qI o fun K fs=>tx (P.T.attr K x&&Nat.blt fs.length 100) (sk x v fs fun fs'=>up (.inst K fs') (Q .next))
 | .lz o i e,σ,Q=>gq P cl e σ fun v σ1=>gq P cl o σ1 fun u σ2=>gq P cl i σ2 fun w σ3=>Fe u w v σ3 (Q .next)
 | .ry rev is e,σ,Q=>gq P cl e σ fun v σ1=>look v σ1 fun o=>oTup o fun as=>tx (Nat.beq as.length is.length) (NS.casesOn σ1 fun lc h z=>cond rev (ib lc is.reverse as.reverse fun lc=>Q .next ⟨lc,h,z⟩) (ib lc is as fun lc=>Q .next ⟨lc,h,z⟩))
 | .ite t a b,σ,Q=>zR P cl t σ fun c σ1 => .br c (jr n a σ1 Q) (jr n b σ1 Q)
 | .EE t b,σ,Q => .ok (vF P n (zR P cl t) (fun n'=>jr n' b) σ Q)
 | .fr is tup it b,σ,Q=>gq P cl it σ fun v σ1 => .ok (zU P n is tup v (fun n'=>jr n' b) σ1 Q)
noncomputable def jr (n:Nat):MB->NS->(cY->NS->WT)->WT
 | .nil,σ,Q=>Q .next σ
 | .cons s r,σ,Q=>RP n s σ fun fl σ1=>cY.casesOn fl (jr n r σ1 Q) (Q .brk σ1) (Q .cont σ1) fun v=>Q (.ret v) σ1
end
end
noncomputable abbrev FT:=Addr->Option (Nat×Nat×MB)
noncomputable def lW (P:Tp) (T:FT):Nat->Addr->List NV->NS->(NV->NS->WT)->WT
 | 0,_,_,_,_ => .no
 | k+1,f,vs,σ,Q=>(T f).casesOn (.call (k+1) f vs σ Q) fun q=>q.casesOn fun np q=>q.casesOn fun nl b=>tx (Nat.beq vs.length np) (NS.casesOn σ fun lc0 h z=>rY nl vs fun lc=>jr P (lW P T k) h.length b ⟨lc,h,z⟩ fun fl σ'=>NS.casesOn σ' fun _ h z=>Q fl.val ⟨lc0,h,z⟩)
section
variable {ρ ρ' ρ2:Nat->Addr} {n n':Nat} {κ:Type}
theorem d8.mono {v:NV} {a:AV} (h:d8 ρ n v a) (hn:n≤n') (ag:∀ i,i<n->ρ' i=ρ i):d8 ρ' n' v a:=by
 cases h with
 | id hi=>rw [← ag _ hi];exact .id (Nat.lt_of_lt_of_le hi hn)
 | none=>exact .none
 | bool=>exact .bool _
 | int=>exact .int _
 | bytes=>exact .bytes _
 | «at» => exact .at _
theorem aM.mono {v:List NV} {a:List AV} (h:aM ρ n v a) (hn:n≤n') (ag:∀ i,i<n->ρ' i=ρ i):aM ρ' n' v a:=by
 induction h with
 | nil=>exact .nil
 | cons h1 _ ih=>exact .cons (h1.mono hn ag) ih
theorem iP.mono {v:List (κ×NV)} {a:List (κ×AV)} (h:iP ρ n v a) (hn:n≤n') (ag:∀ i,i<n->ρ' i=ρ i):iP ρ' n' v a:=by
 induction h with
 | nil=>exact .nil
 | cons h1 _ ih=>exact .cons (h1.mono hn ag) ih
theorem hU.mono {v:NO} {a:AO} (h:hU ρ n v a) (hn:n≤n') (ag:∀ i,i<n->ρ' i=ρ i):hU ρ' n' v a:=by
 cases h with
 | list h=>exact .list (h.mono hn ag)
 | tup h=>exact .tup (h.mono hn ag)
 | inst h=>exact .inst (h.mono hn ag)
 | aB b=>exact .aB b
 | az h=>exact .az (h.mono hn ag)
 | aC h=>exact .aC (h.mono hn ag)
 | bg S c=>exact .bg S c
 | range a b c=>exact .range a b c
theorem kP.mono {v:List (Option NV)} {a:List (Option AV)} (h:kP ρ n v a) (hn:n≤n') (ag:∀ i,i<n->ρ' i=ρ i):kP ρ' n' v a:=⟨h.1,fun i v e=>aA (h.2 i v e) fun a h1 h2=>⟨a,h1,h2.mono hn ag⟩⟩
theorem aM.length {v:List NV} {a:List AV} (h:aM ρ n v a):v.length=a.length:=by
 induction h with
 | nil=>rfl
 | cons _ _ ih=>simp [ih]
theorem iP.length {v:List (κ×NV)} {a:List (κ×AV)} (h:iP ρ n v a):v.length=a.length:=by
 induction h with
 | nil=>rfl
 | cons _ _ ih=>simp [ih]
theorem aM.get {v:List NV} {a:List AV} (h:aM ρ n v a):∀ {i:Nat} {x:NV},v[i]?=some x->∃ y,a[i]?=some y∧d8 ρ n x y:=by
 induction h with
 | nil=>intro i x e;trivial
 | cons h1 _ ih =>
  intro i x e
  cases i with
  | zero=>simp only [List.getElem?_cons_zero,Option.some.injEq] at e;subst e;exact⟨_,rfl,h1⟩
  | succ i=>skip;exact ih e
theorem aM.getD {v:List NV} {a:List AV} (h:aM ρ n v a) (i:Nat):d8 ρ n (v.getD i .none) (a.getD i .none):=by
 induction h generalizing i with
 | nil=>exact .none
 | cons h1 _ ih=>cases i with
  | zero=>exact h1
  | succ i=>exact ih i
theorem aM.append {v u:List NV} {a b:List AV} (h:aM ρ n v a) (k:aM ρ n u b):aM ρ n (v++u) (a++b):=by
 induction h with
 | nil=>exact k
 | cons h1 _ ih=>exact .cons h1 ih
theorem iP.append {v u:List (κ×NV)} {a b:List (κ×AV)} (h:iP ρ n v a) (k:iP ρ n u b):iP ρ n (v++u) (a++b):=by
 induction h with
 | nil=>exact k
 | cons h1 _ ih=>exact .cons h1 ih
theorem aM.set {v:List NV} {a:List AV} (h:aM ρ n v a) {x:NV} {y:AV} (hx:d8 ρ n x y):∀ i:Nat,aM ρ n (v.set i x) (a.set i y):=by
 induction h with
 | nil=>intro i;exact .nil
 | cons h1 h2 ih=>intro i;cases i with
  | zero=>exact .cons hx h2
  | succ i=>exact .cons h1 (ih i)
theorem aM.take {v:List NV} {a:List AV} (h:aM ρ n v a):∀ i:Nat,aM ρ n (v.take i) (a.take i):=by
 induction h with
 | nil=>intro i;simp only [List.take_nil];exact .nil
 | cons h1 h2 ih=>intro i;cases i with
  | zero=>exact .nil
  | succ i=>exact .cons h1 (ih i)
theorem aM.drop {v:List NV} {a:List AV} (h:aM ρ n v a):∀ i:Nat,aM ρ n (v.drop i) (a.drop i):=by
 induction h with
 | nil=>intro i;simp only [List.drop_nil];exact .nil
 | cons h1 h2 ih=>intro i;cases i with
  | zero=>exact .cons h1 h2
  | succ i=>exact ih i
theorem aM.reverse {v:List NV} {a:List AV} (h:aM ρ n v a):aM ρ n v.reverse a.reverse:=by
 induction h with
 | nil=>exact .nil
 | cons h1 _ ih=>simp only [List.reverse_cons,List.reverse_cons];exact ih.append (.cons h1 .nil)
theorem aM.rep {x:NV} {y:AV} (h:d8 ρ n x y):∀ k:Nat,aM ρ n (List.replicate k x) (List.replicate k y)
 | 0 => .nil
 | k+1 => .cons h (aM.rep h k)
theorem aM.ints {xs:List NV} {ys:List AV} (h:aM ρ n xs ys) {ns:List Int} (e:xs=ns.map .int):ys=ns.map .int:=by
 induction ns generalizing xs ys with
 | nil=>subst e;cases h;rfl
 | cons i r ih =>
  subst e
  cases h with
  | cons h1 h2=>cases h1;refine (ih h2 rfl)▸?_;rfl
theorem wG {x:Nat} {p:Nat×NV} {r:List (Nat×NV)} {k:NV->WT}:Mine.qw x (p::r) k=cond (Nat.beq p.1 x) (k p.2) (Mine.qw x r k):=rfl
theorem yA {β:Type} {x:Nat} {a:NV} {p:Nat×NV} {r:List (Nat×NV)} {k:List (Nat×NV)->β}:Mine.sk x a (p::r) k=cond (Nat.beq p.1 x) (k ((x,a)::r)) (Mine.sk x a r fun r'=>k (p::r')):=rfl
theorem iP.qw {P:Tp} {v:List (Nat×NV)} {a:List (Nat×AV)} (h:iP ρ n v a) {x:Nat} {k:NV->WT} (e:den P (Mine.qw x v k)):∃ u b,rQ x a=some b∧d8 ρ n u b∧den P (k u):=by
 induction h with
 | nil=>exact e.elim
 | @cons y v a vs as h1 _ ih =>
  rw [oW]
  cases q:Nat.beq y x with
  | true=>rw [if_pos (Nat.eq_of_beq_eq_true q)];exact⟨v,a,rfl,h1,by rw [wG,q] at e;exact e⟩
  | false=>rw [if_neg (Nat.ne_of_beq_eq_false q)];exact ih (by rw [wG,q] at e;exact e)
theorem iP.sk {β:Type} {v:List (Nat×NV)} {a:List (Nat×AV)} (h:iP ρ n v a) (x:Nat) {u:NV} {b:AV} (hu:d8 ρ n u b) {k:List (Nat×NV)->β}:∃ v',Mine.sk x u v k=k v'∧iP ρ n v' (sq x b a):=by
 induction h generalizing k with
 | nil=>exact⟨_,rfl,.cons hu .nil⟩
 | @cons y v a vs as h1 h2 ih =>
  rw [sr]
  cases q:Nat.beq y x with
  | true=>rw [if_pos (Nat.eq_of_beq_eq_true q)];exact⟨_,by rw [yA,q];rfl,.cons hu h2⟩
  | false=>rw [if_neg (Nat.ne_of_beq_eq_false q)];refine aA (ih (k:=fun r=>k ((y,v)::r))) fun v' h3 h4=>?_;exact⟨(y,v)::v',by rw [yA,q];exact h3,.cons h1 h4⟩
theorem iP.lookup [BEq κ] {v:List (κ×NV)} {a:List (κ×AV)} (h:iP ρ n v a) (x:κ):(∃ u b,v.lookup x=some u∧a.lookup x=some b∧d8 ρ n u b)∨(v.lookup x=none∧a.lookup x=none):=by
 induction h with
 | nil=>exact .inr ⟨rfl,rfl⟩
 | @cons k v a vs as h1 _ ih =>
  cases e:x==k with
  | true=>exact .inl ⟨v,a,by rw [List.lookup_cons,e],by rw [List.lookup_cons,e],h1⟩
  | false=>rw [List.lookup_cons,List.lookup_cons,e];exact ih
theorem d8.fv (ρ:Nat->Addr) (n:Nat) (a:AV):d8 ρ n (Mine.fv a) a:=by
 cases a with
 | none=>exact .none
 | bool=>exact .bool _
 | int=>exact .int _
 | bytes=>exact .bytes _
 | ref=>exact .at _
theorem aM.fv (ρ:Nat->Addr) (n:Nat):∀ as:List AV,aM ρ n (as.map Mine.fv) as
 | [] => .nil
 | a::as => .cons (.fv ρ n a) (aM.fv ρ n as)
theorem iP.fv (ρ:Nat->Addr) (n:Nat):∀ as:List (κ×AV),iP ρ n (as.map fun p=>(p.1,Mine.fv p.2)) as
 | [] => .nil
 | (k,a)::as => .cons (.fv ρ n a) (iP.fv ρ n as)
theorem hU.fO (ρ:Nat->Addr) (n:Nat) (o:AO):hU ρ n (Mine.fO o) o:=by
 cases o with
 | list=>exact .list (.fv _ _ _)
 | tup=>exact .tup (.fv _ _ _)
 | inst=>exact .inst (.fv _ _ _)
 | aB=>exact .aB _
 | az=>exact .az (.fv _ _ _)
 | aC=>exact .aC (.fv _ _ _)
 | bg=>exact .bg _ _
 | range=>exact .range _ _ _
theorem rx {v:NV} {a b:AV} (h:d8 ρ n v a) (e:sR v=some b):a=b:=by
 cases h<;>cases e<;>rfl
theorem dI {v:List NV} {a b:List AV} (h:aM ρ n v a) (e:cJ v=some b):a=b:=by
 induction h generalizing b with
 | nil=>have e:=Option.some.inj e;subst e;rfl
 | cons h1 _ ih =>
  refine aA (Option.bind_eq_some_iff.mp (e:(sR _).bind _=some b)) fun a' e1 e2=>?_
  refine aA (Option.map_eq_some_iff.mp e2) fun as e3 zp2=>?_;subst zp2
  exact (rx h1 e1)▸(ih e3)▸rfl
end
structure gm (ρ:Nat->Addr) (σ:NS) (hp:Hp) (ρ':Nat->Addr) (σ':NS) (hp':Hp):Prop where
 ag:∀ i,i<σ.h.length->ρ' i=ρ i
 ln:σ.h.length≤σ'.h.length
 lc:σ'.loc=σ.loc
 tr:Tr ρ σ.h σ.fz hp ρ' σ'.h σ'.fz hp'
 mt:Mt ρ' σ'.h σ'.fz hp'
structure nB (n:Nat) (ρ:Nat->Addr) (σ:NS) (hp:Hp) (ρ':Nat->Addr) (σ':NS) (hp':Hp):Prop where
 ag:∀ i,i<n->ρ' i=ρ i
 ln:n≤σ'.h.length
 tr:Tr ρ σ.h σ.fz hp ρ' σ'.h σ'.fz hp'
section
variable {ρ ρ' ρ2:Nat->Addr} {n:Nat} {σ σ' σ2:NS} {hp hp' hp2:Hp} {l l' l2:List (Option AV)}
theorem Tr.refl {h:List NO} {fz:Hp}:Tr ρ h fz hp ρ h fz hp:=fun _ _ e k=>⟨e,k,rfl⟩
theorem Tr.trans {h h' h2:List NO} {fz fz' fz2:Hp} (x:Tr ρ h fz hp ρ' h' fz' hp') (y:Tr ρ' h' fz' hp' ρ2 h2 fz2 hp2):Tr ρ h fz hp ρ2 h2 fz2 hp2:=fun a o e k =>
 md (x a o e k) fun e1 k1 z1 =>
 md (y a o e1 k1) fun e2 k2 z2 =>
 ⟨e2,k2,z2.trans z1⟩
theorem Mt.noOwn {h:List NO} {fz:Hp} (m:Mt ρ h fz hp) {a:Addr} {o:AO} (e:fz a=some o):¬ own ρ h a:=fun zf=>aA zf fun i hi x=>by
 have:=m.d i hi
 replace this:=e▸x▸this;contradiction
theorem Tr.le {h h':List NO} {fz fz':Hp} (x:Tr ρ h fz hp ρ' h' fz' hp') (m:Mt ρ h fz hp):ak fz fz':=fun a o e=>by
 rw [(x a o (m.f a o e) (m.noOwn e)).2.2];exact e
theorem gm.refl (m:Mt ρ σ.h σ.fz hp):gm ρ σ hp ρ σ hp:=⟨fun _ _=>rfl,Nat.le_refl _,rfl,.refl,m⟩
theorem gm.trans (x:gm ρ σ hp ρ' σ' hp') (y:gm ρ' σ' hp' ρ2 σ2 hp2):gm ρ σ hp ρ2 σ2 hp2 :=
 ⟨fun i hi=>(y.ag i (Nat.lt_of_lt_of_le hi x.ln)).trans (x.ag i hi),Nat.le_trans x.ln y.ln,y.lc.trans x.lc,x.tr.trans y.tr,y.mt⟩
theorem gm.rl (x:gm ρ σ hp ρ' σ' hp') (r:Rl ρ σ l hp):Rl ρ' σ' l hp':=⟨x.mt,by rw [x.lc];exact r.l.mono x.ln x.ag⟩
theorem gm.v (x:gm ρ σ hp ρ' σ' hp') {v:NV} {a:AV} (h:d8 ρ σ.h.length v a):d8 ρ' σ'.h.length v a:=h.mono x.ln x.ag
theorem gm.vs (x:gm ρ σ hp ρ' σ' hp') {v:List NV} {a:List AV} (h:aM ρ σ.h.length v a):aM ρ' σ'.h.length v a:=h.mono x.ln x.ag
theorem gm.s (x:gm ρ σ hp ρ' σ' hp') (hn:n≤σ.h.length):nB n ρ σ hp ρ' σ' hp':=⟨fun i hi=>x.ag i (Nat.lt_of_lt_of_le hi hn),Nat.le_trans hn x.ln,x.tr⟩
theorem nB.refl (hn:n≤σ.h.length):nB n ρ σ hp ρ σ hp:=⟨fun _ _=>rfl,hn,.refl⟩
theorem nB.trans (x:nB n ρ σ hp ρ' σ' hp') (y:nB n ρ' σ' hp' ρ2 σ2 hp2):nB n ρ σ hp ρ2 σ2 hp2:=⟨fun i hi=>(y.ag i hi).trans (x.ag i hi),y.ln,x.tr.trans y.tr⟩
theorem nB.less {n':Nat} (x:nB n' ρ σ hp ρ' σ' hp') (h:n≤n'):nB n ρ σ hp ρ' σ' hp':=⟨fun i hi=>x.ag i (Nat.lt_of_lt_of_le hi h),Nat.le_trans h x.ln,x.tr⟩
theorem nB.loc {lc lc':List (Option NV)} (x:nB n ρ σ hp ρ' σ' hp'):nB n ρ { σ with loc:=lc } hp ρ' { σ' with loc:=lc' } hp':=⟨x.ag,x.ln,x.tr⟩
theorem Rl.dZ (r:Rl ρ σ l hp) (i:Nat) {v:NV} {a:AV} (h:d8 ρ σ.h.length v a):Rl ρ { σ with loc:=σ.loc.set i (some v) } (l.set i (some a)) hp:=by
 refine⟨r.m,by simpa using r.l.1,fun j u e=>?_⟩
 by_cases q:j=i
 ·subst q
  have hj:=by have:=(List.getElem?_eq_some_iff.mp e).1;simpa using this
  dsimp only at e
  replace e:=(List.getElem?_set_self hj)▸e
  cases e
  exact⟨a,by rw [List.getElem?_set_self (Nat.lt_of_lt_of_le hj r.l.1)],h⟩
 ·dsimp only at e
  rw [List.getElem?_set_ne (Ne.symm q)] at e ⊢
  exact r.l.2 j u e
theorem Rl.bR:∀ (is:List Nat) {vs:List NV} {as:List AV} {σ:NS} {l:List (Option AV)},Rl ρ σ l hp->aM ρ σ.h.length vs as->Rl ρ { σ with loc:=km σ.loc is vs } (Mine.bR ⟨l,hp⟩ is as).loc hp
 | [],vs,as,σ,l,r,h=>by cases h<;>exact r
 | i::is,vs,as,σ,l,r,h=>by
  cases h with
  | nil=>exact r
  | cons h1 h2=>exact Rl.bR is (r.dZ i h1) h2
theorem Lv.lt {h:List NO} {i:Nat} (x:Lv h i):i<h.length:=aA x fun _ e _=>(List.getElem?_eq_some_iff.mp e).1
theorem Mt.lk {h:List NO} {fz:Hp} (m:Mt ρ h fz hp) {i:Nat} (x:Lv h i):∃ y,hp (ρ i)=some y:=aA x fun o e k=>aA (m.o i o e k) fun y z _=>⟨y,z⟩
theorem Hp.qZ {f:Hp} {a r:Addr} {o:AO} (h:f a≠none):f.set r o a≠none:=by
 by_cases q:a=r
 ·subst q;rw [Hp.aG];exact nofun
 ·rw [Hp.aE _ _ q];exact h
theorem Mt.na {ρ:Nat->Addr} {h:List NO} {fz hp:Hp} (m:Mt ρ h fz hp) {i:Nat} (x:Lv h i):ρ i≠SA:=fun e=>m.p (e▸m.d i x)
theorem gm.new (m:Mt ρ σ.h σ.fz hp) {o:NO} {ao:AO} (ho:hU ρ σ.h.length o ao) {r:Addr} (hr:hp r=none) :
  gm ρ σ hp (fun i=>if i=σ.h.length then r else ρ i) { σ with h:=σ.h++[o] } (hp.set r ao):=by
 have keep:∀ a x,hp a=some x->(hp.set r ao) a=some x:=fun a x e=>by rw [Hp.aE _ _ (by rintro rfl;replace e:=hr▸e;contradiction)];exact e
 have lt:∀ i,i<σ.h.length->(if i=σ.h.length then r else ρ i)=ρ i:=fun i hi=>if_neg (Nat.ne_of_lt hi)
 have lvc:∀ i,Lv (σ.h++[o]) i->Lv σ.h i∨i=σ.h.length:=fun i ⟨x,e,k⟩=>by
  by_cases hi:i<σ.h.length
  ·rw [List.getElem?_append_left hi] at e;exact .inl ⟨x,e,k⟩
  ·have:=(List.getElem?_eq_some_iff.mp e).1
   simp only [List.length_append,List.length_cons,List.length_nil] at this
   exact .inr (by omega)
 refine⟨lt,by simp,rfl,fun a x e k=>⟨keep a x e,fun zf=>aA zf fun i hi z=>?_,rfl⟩,⟨fun a x e=>keep a x (m.f a x e),fun i x e k=>?_,fun i j hi hj e=>?_,fun i hi=>?_,m.p⟩⟩
 ·dsimp only at z
  refine Or.elim (lvc i hi) (fun hi=>?_) (fun hi=>?_)
  ·rw [lt i hi.lt] at z;exact k ⟨i,hi,z⟩
  ·replace z:=(if_pos hi)▸z;replace hr:=e▸z▸hr;contradiction
 ·by_cases hi:i<σ.h.length
  ·dsimp only at e
   rw [List.getElem?_append_left hi] at e
   refine aA (m.o i x e k) fun y h1 h2=>?_
   exact⟨y,by rw [lt i hi];exact keep _ _ h1,h2.mono (by simp) lt⟩
  ·have:=(List.getElem?_eq_some_iff.mp e).1
   simp only [List.length_append,List.length_cons,List.length_nil] at this
   have hi':i=σ.h.length:=by omega
   subst hi'
   rw [List.getElem?_concat_length,Option.some.injEq] at e
   subst e
   exact⟨ao,by rw [if_pos rfl,Hp.aG],ho.mono (by simp) lt⟩
 ·have nr:∀ i,Lv σ.h i->ρ i≠r:=fun i hi e=>by obtain⟨y,hy⟩:=m.lk hi;replace hy:=hr▸e▸hy;contradiction
  refine Or.elim (lvc i hi) (fun hi=>?_) (fun hi=>?_)<;>refine Or.elim (lvc j hj) (fun hj=>?_) (fun hj=>?_)
  ·rw [lt i hi.lt,lt j hj.lt] at e;exact m.i i j hi hj e
  ·rw [lt i hi.lt,if_pos hj] at e;exact absurd e (nr i hi)
  ·rw [lt j hj.lt,if_pos hi] at e;exact absurd e.symm (nr j hj)
  ·exact hi▸hj▸rfl
 ·rcases lvc i hi with hi | hi
  ·rw [lt i hi.lt];exact m.d i hi
  ·rw [if_pos hi]
   cases q:σ.fz r with
   | none=>rfl
   | some x=>replace hr:=(m.f r x q)▸hr;contradiction
theorem gm.kO (m:Mt ρ σ.h σ.fz hp) (o:AO) {r:Addr} (hr:hp r=none):gm ρ σ hp ρ { σ with fz:=σ.fz.set r o } (hp.set r o):=by
 have ne:∀ a x,hp a=some x->a≠r:=fun a x e q=>by replace e:=hr▸q▸e;contradiction
 skip
 refine⟨fun _ _=>rfl,Nat.le_refl _,rfl,fun a x e k=>⟨by rw [Hp.aE _ _ (ne a x e)];exact e,k,Hp.aE _ _ (ne a x e)⟩,⟨fun a x e=>?_,fun i x e k=>?_,m.i,fun i hi=>?_,Hp.qZ m.p⟩⟩
 ·by_cases q:a=r
  ·subst q;dsimp only at e;rw [Hp.aG] at e ⊢;exact e
  ·dsimp only at e;rw [Hp.aE _ _ q] at e ⊢;exact m.f a x e
 ·refine aA (m.o i x e k) fun y h1 h2=>?_
  exact⟨y,by rw [Hp.aE _ _ (ne _ y h1)];exact h1,h2⟩
 ·dsimp only
  rw [Hp.aE _ _ ((fun i hi=>jg (m.lk hi) fun y hy=>ne _ y hy) i hi)];exact m.d i hi
theorem ak.set {f:Hp} {r:Addr} {o:AO} (h:f r=none):ak f (f.set r o):=fun a x e=>by rw [Hp.aE _ _ (by intro zr0;subst zr0;rw [h] at e;contradiction)];exact e
theorem gm.put (m:Mt ρ σ.h σ.fz hp) {i:Nat} {o o':NO} {y':AO} (ho:σ.h[i]?=some o) (lv:o ≠ .dead) (hr:hU ρ σ.h.length o' y'):gm ρ σ hp ρ { σ with h:=σ.h.set i o' } (hp.set (ρ i) y'):=by
 skip
 have li:Lv σ.h i:=⟨o,ho,lv⟩
 have lvc:∀ j,Lv (σ.h.set i o') j->Lv σ.h j:=fun j ⟨x,e,k⟩=>by
  by_cases q:j=i
  ·subst q;exact li
  ·rw [List.getElem?_set_ne (Ne.symm q)] at e;exact⟨x,e,k⟩
 have ne:∀ j,Lv σ.h j->j≠i->ρ j≠ρ i:=fun j hj q e=>q (m.i j i hj li e)
 refine⟨fun _ _=>rfl,by simp,rfl,fun a x e k=>⟨?_,fun zf=>aA zf fun j hj z=>k ⟨j,lvc j hj,z⟩,rfl⟩,⟨fun a x e=>?_,fun j x e k=>?_,fun j k hj hk e=>m.i j k (lvc j hj) (lvc k hk) e,fun j hj=>m.d j (lvc j hj),m.p⟩⟩
 ·rw [Hp.aE _ _ (fun q=>k ⟨i,li,q.symm⟩)];exact e
 ·rw [Hp.aE _ _ (fun q=>by have:=m.d i li;replace this:=e▸q.symm▸this;contradiction)];exact m.f a x e
 ·by_cases q:j=i
  ·subst q
   dsimp only at e
   replace e:=(List.getElem?_set_self ((List.getElem?_eq_some_iff.mp ho).1))▸e
   have e:=Option.some.inj e;subst e
   exact⟨y',Hp.aG _ _ _,by simpa using hr⟩
  ·dsimp only at e
   replace e:=(List.getElem?_set_ne (Ne.symm q))▸e
   refine aA (m.o j x e k) fun y h1 h2=>?_
   exact⟨y,by rw [Hp.aE _ _ (ne j ⟨x,e,k⟩ q)];exact h1,by simpa using h2⟩
theorem rR {P:Tp}:∀ {h:List NO} {i:Nat} {k:NO->WT},den P (Av h i k)->∃ o,h[i]?=some o∧o ≠ .dead∧den P (k o)
 | [],_,_,d=>d.elim
 | o::r,0,k,d=>by cases o<;>first | exact d.elim | exact⟨_,rfl,nofun,d⟩
 | o::r,i+1,k,d=>rR (h:=r) d
theorem rS {P:Tp}:∀ {h:List (Option NV)} {i:Nat} {k:NV->WT},den P (Ga h i k)->∃ v,h[i]?=some (some v)∧den P (k v)
 | [],_,_,d=>d.elim
 | o::r,0,k,d=>by cases o<;>first | exact d.elim | exact⟨_,rfl,d⟩
 | o::r,i+1,k,d=>rS (h:=r) d
theorem gU {α β:Type} {a:α}:∀ {l:List α} {i:Nat} {k:List α->β},l6 l i a k=k (l.set i a)
 | [],_,_=>rfl
 | _::_,0,_=>rfl
 | x::r,i+1,k=>gU (l:=r) (k:=fun r'=>k (x::r'))
theorem rh {α β:Type} {a:α}:∀ {l:List α} {k:List α->Nat->β},t7 l a k=k (l++[a]) l.length
 | [],_=>rfl
 | x::r,k=>rh (l:=r) (k:=fun r' n=>k (x::r') (n+1))
theorem jb {β:Type}:∀ {is:List Nat} {l:List (Option NV)} {vs:List NV} {k:List (Option NV)->β},ib l is vs k=k (km l is vs)
 | [],_,vs,_=>by cases vs<;>rfl
 | _::_,_,[],_=>rfl
 | i::is,l,v::vs,k=>gU.trans (jb (is:=is))
theorem pb {β:Type}:∀ {n:Nat} {vs:List NV} {k:List (Option NV)->β},vs.length≤n->rY n vs k=k (vs.map some++List.replicate (n-vs.length) none)
 | 0,[],_,_=>rfl
 | 0,_::_,_,h=>by cases h
 | n+1,[],k,_=>pb (n:=n) (vs:=[]) (k:=fun r=>k (none::r)) (Nat.zero_le _)
 | n+1,v::vs,k,h=>(pb (n:=n) (vs:=vs) (k:=fun r=>k (some v::r)) (Nat.le_of_succ_le_succ h)).trans (by simp only [List.length_cons,Nat.succ_sub_succ];rfl)
theorem fM {P:Tp} {b:Bool} {t:WT} (d:den P (tx b t)):b=true∧den P t:=by cases b<;>first | exact d.elim | exact⟨rfl,d⟩
theorem AD {P:Tp} {v:NV} {a:AV} {k:NO->WT} (h:den P (look v σ k)) (hv:d8 ρ σ.h.length v a) (m:Mt ρ σ.h σ.fz hp):∃ x o y,a = .ref x∧hp x=some y∧hU ρ σ.h.length o y∧den P (k o):=by
 cases hv<;>try exact h.elim
 ·refine jT (rR h) fun o e lv h=>?_
  refine aA (m.o _ o e lv) fun y h1 h2=>?_
  exact⟨_,o,y,rfl,h1,h2,h⟩
 ·refine aA h fun o h1 h2=>?_
  exact⟨_,_,o,rfl,m.f _ o h1,.fO _ _ o,h2⟩
theorem Ji {P:Tp} {v:NV} {a:AV} {k:NO->(NO->(NS->WT)->WT)->WT} (h:den P (sd v σ k)) (hv:d8 ρ σ.h.length v a) (m:Mt ρ σ.h σ.fz hp) :
  ∃ i o y u,a = .ref (ρ i)∧hp (ρ i)=some y∧hU ρ σ.h.length o y∧den P (k o u)∧(∀ o' y' c,hU ρ σ.h.length o' y'->den P (u o' c)->gm ρ σ hp ρ { σ with h:=σ.h.set i o' } (hp.set (ρ i) y')∧den P (c { σ with h:=σ.h.set i o' }))∧ρ i≠SA:=by
 cases hv<;>try exact h.elim
 refine jT (rR h) fun o e lv h=>?_
 refine aA (m.o _ o e lv) fun y h1 h2=>?_
 exact⟨_,o,y,_,rfl,h1,h2,h,fun o' y' c hr d=>⟨gm.put m e lv hr,by
  skip
  simp only [gU] at d;exact d⟩,m.na ⟨o,e,lv⟩⟩
end
noncomputable def KK (P:Tp) (ρ:Nat->Addr) (σ:NS) (hp:Hp) (l:List (Option AV)) (Q:NV->NS->WT) (R:AV->AS->Prop):Prop:=∀ v a ρ' σ' hp',gm ρ σ hp ρ' σ' hp'->d8 ρ' σ'.h.length v a->den P (Q v σ')->R a ⟨l,hp'⟩
noncomputable def gn (C:Cx) (Z:Led) (s:Shared) (ρ:Nat->Addr) (σ:NS) (hp:Hp) (l:List (Option AV)):Prop:=St C Z s ⟨l,hp⟩∧Rl ρ σ l hp
noncomputable def VN (ρ:Nat->Addr) (n:Nat) (v:Value) (x:NV):Prop:=∃ a,VR v a∧d8 ρ n x a
noncomputable def ug (ρ:Nat->Addr) (n:Nat) (v:List Value) (x:List NV):Prop:=∃ a,cK v a∧aM ρ n x a
noncomputable def KN (P:Tp) (C:Cx) (Z:Led) (ρ:Nat->Addr) (σ:NS) (hp:Hp) (l:List (Option AV)) (Q:NV->NS->WT) (R:Value->Shared->Prop):Prop:=∀ v s' x ρ' σ' hp',VN ρ' σ'.h.length v x->gn C Z s' ρ' σ' hp' l->gm ρ σ hp ρ' σ' hp'->den P (Q x σ')->R v s'
noncomputable def RV (P:Tp) (C:Cx) (Z:Led) (ρ:Nat->Addr) (σ:NS) (hp:Hp) (l:List (Option AV)) (Q:List NV->NS->WT) (R:List Value->Shared->Prop):Prop:=∀ v s' x ρ' σ' hp',ug ρ' σ'.h.length v x->gn C Z s' ρ' σ' hp' l->gm ρ σ hp ρ' σ' hp'->den P (Q x σ')->R v s'
noncomputable def KT (P:Tp) (C:Cx) (Z:Led) (ρ:Nat->Addr) (σ:NS) (hp:Hp) (l:List (Option AV)) (Q:Bool->NS->WT) (R:Bool->Shared->Prop):Prop:=∀ c s' ρ' σ' hp',gn C Z s' ρ' σ' hp' l->gm ρ σ hp ρ' σ' hp'->den P (Q c σ')->R c s'
noncomputable def Le (C:Cx) (Z:Led) (R:Value->Shared->Prop) (a:AV) (τ:AS):Prop:=∀ v s,VR v a->St C Z s τ->R v s
section
variable {P:Tp} {x:NV} {e t:WT}
theorem qJ {α:Type} {o:Option α} {f:α->WT} (h:den P (Option.casesOn (motive:=fun _=>WT) o .no f)):∃ x,o=some x∧den P (f x):=by cases o<;>first | exact h.elim | exact⟨_,rfl,h⟩
theorem mO {k:Int->WT} (h:den P (EY x k e)):(∃ i,x = .int i∧den P (k i))∨den P e:=by cases x<;>first | exact .inr h | exact .inl ⟨_,rfl,h⟩
theorem Ky (h:den P (Qx x t e)):(x = .none∧den P t)∨den P e:=by cases x<;>first | exact .inr h | exact .inl ⟨rfl,h⟩
theorem EZ {k:List UInt8->WT} (h:den P (Qy x k e)):(∃ i,x = .bytes i∧den P (k i))∨den P e:=by cases x<;>first | exact .inr h | exact .inl ⟨_,rfl,h⟩
theorem EX {k:Addr->WT} (h:den P (Qw x k e)):(∃ i,x = .at i∧den P (k i))∨den P e:=by cases x<;>first | exact .inr h | exact .inl ⟨_,rfl,h⟩
theorem hW {k:Int->WT} (h:den P (uh x k)):∃ i,x = .int i∧den P (k i):=(mO h).resolve_right fun h=>h
theorem vK {k:Bool->WT} (h:den P (O8 x k)):∃ i,x = .bool i∧den P (k i):=by cases x<;>first | exact h.elim | exact⟨_,rfl,h⟩
theorem J3 (h:den P (Qd x t)):x = .none∧den P t:=by cases x<;>first | exact h.elim | exact⟨rfl,h⟩
theorem vG {vs:List NV} (h:den P (a0 vs t)):vs=[]∧den P t:=by cases vs<;>first | exact h.elim | exact⟨rfl,h⟩
theorem kR {vs:List NV} {k:NV->WT} (h:den P (a1 vs k)):∃ v,vs=[v]∧den P (k v):=by
 cases vs with
 | nil=>exact h.elim
 | cons v r=>refine bx (vG h) fun zp0 h=>?_;subst zp0;exact⟨v,rfl,h⟩
variable {ρ:Nat->Addr} {n:Nat} {o:NO} {y:AO}
theorem jj {k:List NV->WT} (r:hU ρ n o y) (h:den P (dY o k)):∃ xs ys,y = .list ys∧aM ρ n xs ys∧den P (k xs):=by cases r<;>first | exact h.elim | exact⟨_,_,rfl,‹_›,h⟩
theorem sb {k:List NV->WT} (r:hU ρ n o y) (h:den P (oTup o k)):∃ xs ys,y = .tup ys∧aM ρ n xs ys∧den P (k xs):=by cases r<;>first | exact h.elim | exact⟨_,_,rfl,‹_›,h⟩
theorem yu {k:List NV->WT} (r:hU ρ n o y) (h:den P (Je o k)):∃ xs ys,(y = .list ys∨y = .tup ys)∧aM ρ n xs ys∧den P (k xs):=by cases r<;>first | exact h.elim | exact⟨_,_,.inl rfl,‹_›,h⟩ | exact⟨_,_,.inr rfl,‹_›,h⟩
theorem pq {k:Addr->List (Nat×NV)->WT} (r:hU ρ n o y) (h:den P (qI o k)):∃ C xs ys,y = .inst C ys∧iP ρ n xs ys∧den P (k C xs):=by cases r<;>first | exact h.elim | exact⟨_,_,_,rfl,‹_›,h⟩
theorem pj {k:List UInt8->WT} (r:hU ρ n o y) (h:den P (tQ o k)):∃ b,y = .aB b∧den P (k b):=by cases r<;>first | exact h.elim | exact⟨_,rfl,h⟩
theorem qH {k:List (Int×NV)->WT} (r:hU ρ n o y) (h:den P (r9 o k)):∃ xs ys,y = .az ys∧iP ρ n xs ys∧den P (k xs):=by cases r<;>first | exact h.elim | exact⟨_,_,rfl,‹_›,h⟩
theorem yw {k:List (List Int×NV)->WT} (r:hU ρ n o y) (h:den P (yv o k)):∃ xs ys,y = .aC ys∧iP ρ n xs ys∧den P (k xs):=by cases r<;>first | exact h.elim | exact⟨_,_,rfl,‹_›,h⟩
theorem pv {k:(Int->Bool)->Nat->WT} (r:hU ρ n o y) (h:den P (tR o k)):∃ S c,y = .bg S c∧den P (k S c):=by cases r<;>first | exact h.elim | exact⟨_,_,rfl,h⟩
end
section
variable {P:Tp} {C:Cx} {Z:Led} {s:Shared} {ρ ρ1:Nat->Addr} {σ σ1:NS} {hp aV:Hp} {l:List (Option AV)} {n:Nat} {Q:NV->NS->WT} {R:Value->Shared->Prop} {v u:Value} {x y:NV}
theorem KK.now {R:AV->AS->Prop} {a:AV} (k:KK P ρ σ hp l Q R) (r:Rl ρ σ l hp) (hv:d8 ρ σ.h.length x a) (h:den P (Q x σ)):R a ⟨l,hp⟩:=k x a ρ σ hp (.refl r.m) hv h
theorem KK.step {R:AV->AS->Prop} (k:KK P ρ σ hp l Q R) (E:gm ρ σ hp ρ1 σ1 aV):KK P ρ1 σ1 aV l Q R:=fun v a ρ' σ' hp' E'=>k v a ρ' σ' hp' (E.trans E')
theorem dW {R:AV->AS->Prop} {o:NO} {ao:AO} (h:den P (new o σ Q)) (ho:hU ρ σ.h.length o ao) (r:Rl ρ σ l hp) (k:KK P ρ σ hp l Q R):∀ x,hp x=none->R (.ref x) ⟨l,hp.set x ao⟩:=fun x hx=>by
 have h:den P (t7 σ.h o fun h i=>Q (.id i) ⟨σ.loc,h,σ.fz⟩):=h
 rw [rh] at h
 refine k (.id σ.h.length) _ _ _ _ (gm.new r.m ho hx) ?_ h
 have:=d8.id (ρ:=fun i=>if i=σ.h.length then x else ρ i) (n:=(σ.h++[o]).length) (i:=σ.h.length) (by simp)
 rwa [if_pos rfl] at this
theorem wD {R:AV->AS->Prop} {ao:AO} (h:den P (kO ao σ Q)) (r:Rl ρ σ l hp) (k:KK P ρ σ hp l Q R):∀ x,hp x=none->R (.ref x) ⟨l,hp.set x ao⟩:=fun x hx=>by
 have hz:σ.fz x=none:=by
  cases q:σ.fz x with
  | none=>rfl
  | some y=>rw [r.m.f x y q] at hx;contradiction
 exact k (.at x) _ _ _ _ (gm.kO r.m ao hx) (.at x) (h x _ (ak.set hz) (Hp.aG _ _ _))
theorem a8 {t:Sem Value} (h:wpAny C.M C.A t (LE C Z (Le C Z R)) NE s):wpAny C.M C.A t R NE s:=wpAny_mono h (fun v s' ⟨a,τ,hv,st,q⟩=>q v s' hv st) fun _ _ e=>e
theorem o8 {t:Sem Value} (h:RW C.M C.A t (LE C Z (Le C Z R)) s):RW C.M C.A t R s:=h.mono fun v s' ⟨a,τ,hv,st,q⟩=>q v s' hv st
theorem KN.kk (k:KN P C Z ρ σ hp l Q R) (r:Rl ρ σ l hp):KK P ρ σ hp l Q (Le C Z R):=fun x a ρ' σ' hp' E nv q v s' hv st=>k v s' x ρ' σ' hp' ⟨a,hv,nv⟩ ⟨st,E.rl r⟩ E q
theorem KN.step (k:KN P C Z ρ σ hp l Q R) (E:gm ρ σ hp ρ1 σ1 aV):KN P C Z ρ1 σ1 aV l Q R:=fun v s' x ρ' σ' hp' hv st E'=>k v s' x ρ' σ' hp' hv st (E.trans E')
theorem KT.step {Q:Bool->NS->WT} {R:Bool->Shared->Prop} (k:KT P C Z ρ σ hp l Q R) (E:gm ρ σ hp ρ1 σ1 aV):KT P C Z ρ1 σ1 aV l Q R:=fun c s' ρ' σ' hp' st E'=>k c s' ρ' σ' hp' st (E.trans E')
theorem gn.mt (st:gn C Z s ρ σ hp l):Mt ρ σ.h σ.fz hp:=st.2.m
theorem gn.tok {tk:Nat} (st:gn C Z s ρ σ hp l):gn C Z { s with toks:=tk } ρ σ hp l:=⟨st.1.tok,st.2⟩
theorem KN.now (k:KN P C Z ρ σ hp l Q R) (st:gn C Z s ρ σ hp l) (hv:VN ρ σ.h.length v x) (h:den P (Q x σ)):R v s:=k v s x ρ σ hp hv st (.refl st.mt) h
theorem VN.ex (h:VN ρ σ.h.length v x) (E:gm ρ σ hp ρ1 σ1 aV):VN ρ1 σ1.h.length v x:=aA h fun a h1 h2=>⟨a,h1,E.v h2⟩
theorem VN.int (i:Int) (t:Tok):VN ρ n (.int i t) (.int i):=⟨_,.int i t,.int i⟩
theorem VN.bool (b:Bool):VN ρ n (.bool b) (.bool b):=⟨_,.bool b,.bool b⟩
theorem VN.none:VN ρ n .none .none:=⟨_,.none,.none⟩
theorem VN.vV {b:Bool} (h:VN ρ n v (.bool b)):v = .bool b:=by obtain⟨a,h1,h2⟩:=h;cases h2;cases h1;rfl
theorem VN.iE {i:Int} (h:VN ρ n v (.int i)):∃ t,v = .int i t:=by obtain⟨a,h1,h2⟩:=h;cases h2;cases h1;exact⟨_,rfl⟩
theorem VN.K1 (h:VN ρ n v .none):v = .none:=by obtain⟨a,h1,h2⟩:=h;cases h2;cases h1;rfl
theorem VN.vW {b:List UInt8} (h:VN ρ n v (.bytes b)):∃ t,v = .bytes b.toArray t:=by obtain⟨a,h1,h2⟩:=h;cases h2;cases h1;exact⟨_,rfl⟩
theorem ug.r7 {vs:List Value} (h:ug ρ n vs []):vs=[]:=by refine aA h fun a h1 h2=>?_;cases h2;cases h1;rfl
theorem ug.tm {vs:List Value} {xs:List NV} (h:ug ρ n vs (x::xs)):∃ v ws,vs=v::ws∧VN ρ n v x∧ug ρ n ws xs:=by
 refine aA h fun a h1 h2=>?_;cases h2 with | cons h3 h4=>cases h1 with | cons h5 h6=>exact⟨_,_,rfl,⟨_,h5,h3⟩,_,h6,h4⟩
theorem ug.lZ {vs:List Value} (h:ug ρ n vs [x]):∃ v,vs=[v]∧VN ρ n v x:=by refine nH h.tm fun v ws zp2 h1 h2=>?_;subst zp2;refine h2.r7▸?_;exact⟨v,rfl,h1⟩
theorem bB {k:NO->WT} (h:den P (look x σ k)) (hv:VN ρ σ.h.length v x) (r:Rl ρ σ l hp):∃ a o y,v = .ref a∧hp a=some y∧hU ρ σ.h.length o y∧den P (k o):=by
 obtain⟨a,h1,h2⟩:=hv
 refine ip (AD h h2 r.m) fun b o y zp3 e1 e2 e3=>?_;subst zp3
 cases h1
 exact⟨b,o,y,rfl,e1,e2,e3⟩
theorem qK {k:NO->(NO->(NS->WT)->WT)->WT} (h:den P (sd x σ k)) (hv:VN ρ σ.h.length v x) (r:Rl ρ σ l hp) :
  ∃ a o y u,v = .ref a∧hp a=some y∧hU ρ σ.h.length o y∧den P (k o u)∧(∀ o' y' c,hU ρ σ.h.length o' y'->den P (u o' c)->∃ σ',gm ρ σ hp ρ σ' (hp.set a y')∧den P (c σ'))∧a≠SA:=by
 refine aA hv fun a h1 h2=>?_
 refine Pb (Ji h h2 r.m) fun i o y u zp4 e1 e2 e3 e4 e5=>?_;subst zp4
 cases h1
 exact⟨_,o,y,u,rfl,e1,e2,e3,fun o' y' c q d=>⟨_,e4 o' y' c q d⟩,e5⟩
theorem i6 {k:List NV->WT} (h:den P (look x σ fun o=>dY o k)) (hv:VN ρ σ.h.length v x) (r:Rl ρ σ l hp):∃ a xs ys,v = .ref a∧hp a=some (.list ys)∧aM ρ σ.h.length xs ys∧den P (k xs):=by
 refine ip (bB h hv r) fun a o y zp3 h1 h2 h3=>?_;subst zp3
 refine nH (jj h2 h3) fun xs ys zp2 h4 h5=>?_;subst zp2
 exact⟨a,xs,ys,rfl,h1,h4,h5⟩
theorem E4 {k:List NV->WT} (h:den P (look x σ fun o=>oTup o k)) (hv:VN ρ σ.h.length v x) (r:Rl ρ σ l hp):∃ a xs ys,v = .ref a∧hp a=some (.tup ys)∧aM ρ σ.h.length xs ys∧den P (k xs):=by
 refine ip (bB h hv r) fun a o y zp3 h1 h2 h3=>?_;subst zp3
 refine nH (sb h2 h3) fun xs ys zp2 h4 h5=>?_;subst zp2
 exact⟨a,xs,ys,rfl,h1,h4,h5⟩
theorem J5 {op:Operator} (hv:VN ρ σ.h.length v x) (hu:VN ρ σ.h.length u y) (st:gn C Z s ρ σ hp l) (h:den P (J4 op x y σ Q)) (k:KN P C Z ρ σ hp l Q R):wpAny C.M C.A (binaryOp op v u) R NE s:=by
 refine bx st fun st r=>?_
 replace h:=mO h;rcases h with ⟨j,rfl,h⟩ | h
 ·obtain⟨t,rfl⟩:=hu.iE
  replace h:=mO h;rcases h with ⟨i,rfl,h⟩ | h
  ·obtain⟨t',rfl⟩:=hv.iE
   replace h:=qJ h;refine aA h fun zp0 e h=>?_;obtain⟨p,c⟩:=zp0
   exact a8 (FL st e h.1 ((k.kk r).now r (.int c) h.2))
  ·replace h:=i6 h hv r;obtain⟨a,xs,ys,rfl,h1,h2,h⟩:=h
   replace h:=kR h;obtain⟨z,rfl,h⟩:=h
   replace h:=fM h;obtain⟨e,h⟩:=h
   cases of_decide_eq_true e
   cases h2 with | cons h3 h4=>cases h4;exact a8 (FN st h1 h.1.1 h.1.2 (dW h.2 (.list (.rep h3 _)) r (k.kk r)))
 ·replace h:=bB h hv r;obtain⟨a,o,y,rfl,h1,h2,h⟩:=h
  replace h:=bB h hu r;obtain⟨b,o',y',rfl,h3,h4,h⟩:=h
  replace h:=jj h2 h;obtain⟨xs,ys,rfl,h5,h⟩:=h
  replace h:=jj h4 h;obtain⟨xs',ys',rfl,h6,h⟩:=h
  replace h:=fM h;obtain⟨e,h⟩:=h
  cases of_decide_eq_true e
  exact a8 (FK st h1 h3 (h5.length▸h6.length▸h.1) (dW h.2 (.list (h5.append h6)) r (k.kk r)))
theorem GR.le {f g:Hp} (m:∀ a o,f a=some o->g a=some o) {rs:List Addr} {nss:List (List Int)} (h:GR f rs nss):GR g rs nss:=by
 induction h with
 | nil=>exact .nil
 | cons e _ ih=>exact .cons (m _ _ e) ih
theorem EV (r:Rl ρ σ l hp) {x:Addr} {nss:List (List Int)}:pW σ.fz x nss->pW hp x nss:=fun zf=>aA zf fun rs g1 g2=>⟨rs,r.m.f _ _ g1,g2.le r.m.f⟩
theorem tj (ok:C.Ok n) {op:CmpOp} {Q:Bool->NS->WT} {R:Value->Shared->Prop} (hv:VN ρ σ.h.length v x) (hu:VN ρ σ.h.length u y) (st:gn C Z s ρ σ hp l) (h:den P (wg P op x y σ Q)) (k:∀ c s',gn C Z s' ρ σ hp l->den P (Q c σ)->R (.bool c) s'):wpAny C.M C.A (compareOp op v u) R NE s:=by
 refine bx st fun st r=>?_
 replace h:=mO h;rcases h with ⟨j,rfl,h⟩ | h
 ·obtain⟨t,rfl⟩:=hu.iE
  replace h:=hW h;obtain⟨i,rfl,h⟩:=h
  obtain⟨t',rfl⟩:=hv.iE
  replace h:=qJ h;refine aA h fun c e h=>?_
  exact FU e (k _ _ ⟨st,r⟩ h)
 replace h:=Ky h;rcases h with ⟨rfl,h⟩ | h
 ·replace h:=fM h;obtain⟨e,h⟩:=h
  cases of_decide_eq_true e
  cases hu.K1
  obtain⟨a,h1,h2⟩:=hv
  exact FV h1 (k _ _ ⟨st,r⟩ (by cases h2<;>exact h))
 replace h:=mO h;rcases h with ⟨i,rfl,h⟩ | h
 ·obtain⟨t,rfl⟩:=hv.iE
  replace h:=bB h hu r;obtain⟨a,o,y,rfl,h1,h2,h⟩:=h
  replace h:=pv h2 h;obtain⟨S,c,rfl,h⟩:=h
  replace h:=fM h;obtain⟨e,h⟩:=h
  cases of_decide_eq_true e
  exact Kk st h1 h.1 (k _ _ ⟨st.tok,r⟩ h.2)
 replace h:=EX h;rcases h with ⟨a,rfl,h⟩ | h
 ·replace h:=(EX h).resolve_right fun h=>h;obtain⟨b,rfl,h⟩:=h
  obtain⟨x,y,neg,g1,g2,rfl,h⟩:=h
  obtain⟨_,h1,h2⟩:=hv
  obtain⟨_,h3,h4⟩:=hu
  cases h2;cases h1;cases h4;cases h3
  exact FP ok st (EV r g1) (EV r g2) (k _ _ ⟨st,r⟩ h)
 ·replace h:=bB h hv r;obtain⟨a,o,y,rfl,h1,h2,h⟩:=h
  replace h:=bB h hu r;obtain⟨b,o',y',rfl,h3,h4,h⟩:=h
  replace h:=jj h2 h;obtain⟨xs,ys,rfl,h5,h⟩:=h
  replace h:=jj h4 h;obtain⟨xs',ys',rfl,h6,h⟩:=h
  obtain⟨x,y,neg,e1,e2,rfl,h⟩:=h
  exact FQ ok st (h5.ints e1▸h1) (h6.ints e2▸h3) (k _ _ ⟨st,r⟩ h)
theorem NM (ok:C.Ok n) {value slice:Expr} (hn:dj slice=true) (hv:VN ρ σ.h.length v x) (hu:VN ρ σ.h.length u y) (st:gn C Z s ρ σ hp l) (h:den P (NL P x y σ Q)) (k:KN P C Z ρ σ hp l Q R):wpAny C.M C.A (subscriptTail value slice v u) R NE s:=by
 refine bx st fun st r=>?_
 replace h:=mO h;rcases h with ⟨j,rfl,h⟩ | h
 ·obtain⟨t,rfl⟩:=hu.iE
  replace h:=EZ h;rcases h with ⟨b,rfl,h⟩ | h
  ·obtain⟨t',rfl⟩:=hv.vW
   refine bx h fun zp0 zp1=>?_;refine bx zp0 fun h1 h2=>?_;refine aA zp1 fun x h3 h4=>?_
   replace h3:=Option.map_eq_some_iff.mp h3;obtain⟨c,h3,rfl⟩:=h3
   exact a8 (zy hn st h1 h2 h3 ((k.kk r).now r (.int _) h4))
  ·replace h:=bB h hv r;refine n9 h fun a o y zp3 h1 zp5=>?_;subst zp3;obtain⟨h2,h⟩:=zp5
   replace h:=yu h2 h;refine JQ h fun xs ys e h5 zp4 zp5=>?_;refine bx zp4 fun h3 h4=>?_;refine aA zp5 fun z h6 h7=>?_
   refine aA (h5.get h6) fun c h8 h9=>?_
   rcases e with rfl | rfl
   ·exact a8 (Ex hn st h1 h3 h4 h8 ((k.kk r).now r h9 h7))
   ·exact a8 (JG hn st h1 h3 h4 h8 ((k.kk r).now r h9 h7))
 ·replace h:=bB h hv r;refine n9 h fun a o y zp3 h1 zp5=>?_;subst zp3;obtain⟨h2,h⟩:=zp5
  replace h:=bB h hu r;refine n9 h fun b o' y' zp3 h3 zp5=>?_;subst zp3;obtain⟨h4,h⟩:=zp5
  replace h:=yw h2 h;refine dy h fun xs ys zp2 zp3=>?_;subst zp2;obtain⟨h5,h⟩:=zp3
  replace h:=sb h4 h;refine nH h fun xs' ys' zp2 h6 zp4=>?_;subst zp2;refine nH zp4 fun ks z e1 e2 h=>?_
  refine Or.elim (h5.lookup ks) (fun zq0=>nH zq0 fun p q f1 f2 f3=>?_) (fun zq1=>bx zq1 fun f1 f2=>?_)
  ·replace f1:=e2▸f1;have f1:=Option.some.inj f1;subst f1
   exact a8 (zA ok hn st h1 (h6.ints e1▸h3) f2 ((k.kk r).now r f3 h))
  ·replace f1:=e2▸f1;contradiction
theorem J7 (ok:C.Ok n) {f:BF} {vs:List Value} {xs:List NV} (hv:ug ρ σ.h.length vs xs) (st:gn C Z s ρ σ hp l) (h:den P (J6 P f xs σ Q)) (k:KN P C Z ρ σ hp l Q R):RW C.M C.A (call f.val vs []) R s:=by
 refine bx st fun st r=>?_
 cases f
 case len =>
  replace h:=kR h;obtain⟨x,rfl,h⟩:=h
  replace hv:=hv.lZ;obtain⟨v,rfl,hv⟩:=hv
  replace h:=EZ h;rcases h with ⟨b,rfl,h⟩ | h
  ·obtain⟨t,rfl⟩:=hv.vW
   exact .of (a8 (oH st h.1 ((k.kk r).now r (.int _) h.2)))
  ·replace h:=bB h hv r;refine n9 h fun a o y zp3 h1 zp5=>?_;subst zp3;obtain⟨h2,h⟩:=zp5
   replace h:=yu h2 h;obtain⟨xs,ys,e,h5,h⟩:=h
   have h:=h5.length▸h
   rcases e with rfl | rfl
   ·exact .of (a8 (p9 st h1 h.1 ((k.kk r).now r (.int _) h.2)))
   ·exact .of (a8 (rG st h1 h.1 ((k.kk r).now r (.int _) h.2)))
 case abs =>
  replace h:=kR h;obtain⟨x,rfl,h⟩:=h
  replace hv:=hv.lZ;obtain⟨v,rfl,hv⟩:=hv
  replace h:=hW h;obtain⟨i,zq⟩:=h;have zp1:=zq.1;have h:=zq.2;subst zp1
  obtain⟨t,rfl⟩:=hv.iE
  exact .of (a8 (FA st ((k.kk r).now r (.int _) h)))
 case min =>
  replace h:=kR h;obtain⟨x,rfl,h⟩:=h
  replace hv:=hv.lZ;obtain⟨v,rfl,hv⟩:=hv
  replace h:=i6 h hv r;refine ip h fun a xs ys zp3 h1 h2 zp6=>?_;subst zp3;refine jT zp6 fun ns e h3 h4=>?_
  exact .of (a8 (FC ok st (h2.ints e▸h1) h3 fun m q1 q2=>(k.kk r).now r (.int _) (h4 m q1 q2)))
 case sum =>
  replace h:=kR h;obtain⟨x,rfl,h⟩:=h
  replace hv:=hv.lZ;obtain⟨v,rfl,hv⟩:=hv
  replace h:=i6 h hv r;refine ip h fun a xs ys zp3 h1 h2 zp6=>?_;subst zp3;refine aA zp6 fun ns e h=>?_
  exact .of (a8 (FE ok st (h2.ints e▸h1) ((k.kk r).now r (.int _) h)))
 case list =>
  replace h:=kR h;obtain⟨x,rfl,h⟩:=h
  replace hv:=hv.lZ;obtain⟨v,rfl,hv⟩:=hv
  replace h:=i6 h hv r;refine n9 h fun a xs ys zp3 h1 zp5=>?_;subst zp3;refine bx zp5 fun h2 h=>?_
  exact .of (a8 (z9 st h1 (h2.length▸h.1) (dW h.2 (.list h2) r (k.kk r))))
 case tuple =>
  replace h:=kR h;obtain⟨x,rfl,h⟩:=h
  replace hv:=hv.lZ;obtain⟨v,rfl,hv⟩:=hv
  replace h:=i6 h hv r;refine Kr h fun a xs ys zp3 h1 h2 h3 zp7=>?_;subst zp3;refine aA zp7 fun as h4 h5=>?_
  cases dI h2 h4
  exact .of (a8 (vR st h1 (h2.length▸h3) (wD h5 r (k.kk r))))
 case set =>
  replace h:=vG h;obtain⟨rfl,h⟩:=h
  cases hv.r7
  exact .of (a8 (FD st (dW h (.bg _ _) r (k.kk r))))
 case int =>
  replace h:=kR h;obtain⟨x,rfl,h⟩:=h
  replace hv:=hv.lZ;obtain⟨v,rfl,hv⟩:=hv
  replace h:=mO h;rcases h with ⟨i,rfl,h⟩ | h
  ·obtain⟨t,rfl⟩:=hv.iE
   exact .of (a8 (rF st ((k.kk r).now r (.int _) h)))
  ·replace h:=vK h;obtain⟨b,zq⟩:=h;have zp1:=zq.1;have h:=zq.2;subst zp1
   cases hv.vV
   exact .of (a8 (p8 st ((k.kk r).now r (.int _) h)))
 case bytes =>
  replace h:=kR h;obtain⟨x,rfl,h⟩:=h
  replace hv:=hv.lZ;obtain⟨v,rfl,hv⟩:=hv
  replace h:=bB h hv r;refine n9 h fun a o y zp3 h1 zp5=>?_;subst zp3;obtain⟨h2,h⟩:=zp5
  replace h:=pj h2 h;obtain⟨b,zq⟩:=h;have zp1:=zq.1;have h:=zq.2;subst zp1
  exact .of (a8 (vQ st h1 h.1 ((k.kk r).now r (.bytes _) h.2)))
 case aB =>
  replace h:=vG h;obtain⟨rfl,h⟩:=h
  cases hv.r7
  exact o8 (z8 st (dW h (.aB _) r (k.kk r)))
 case range =>
  cases xs with
  | nil=>exact h.elim
  | cons x xs =>
  replace hv:=hv.tm;obtain⟨v,vs,rfl,h1,hv⟩:=hv
  replace h:=hW h;obtain⟨i,rfl,h⟩:=h
  obtain⟨t,rfl⟩:=h1.iE
  cases xs with
  | nil=>cases hv.r7;exact .of (a8 (uj st (dW h (.range _ _ _) r (k.kk r))))
  | cons x xs =>
  replace hv:=hv.tm;obtain⟨v,vs,rfl,h1,hv⟩:=hv
  replace h:=hW h;obtain⟨j,rfl,h⟩:=h
  obtain⟨t,rfl⟩:=h1.iE
  cases xs with
  | nil=>cases hv.r7;exact .of (a8 (uk st (dW h (.range _ _ _) r (k.kk r))))
  | cons x xs =>
  replace hv:=hv.tm;obtain⟨v,vs,rfl,h1,hv⟩:=hv
  replace h:=hW h;obtain⟨m,rfl,h⟩:=h
  obtain⟨t,rfl⟩:=h1.iE
  replace h:=vG h;obtain⟨rfl,h⟩:=h
  cases hv.r7
  exact .of (a8 (um h.1 st (dW h.2 (.range _ _ _) r (k.kk r))))
theorem Aa {m:BM} {t:WT} {pl:Sem Bool} {R:Value×List Value->Shared->Prop} (hv:VN ρ σ.h.length v x) (st:gn C Z s ρ σ hp l) (h:den P (vT m x σ t)) (k:den P t->R (m.val,[v]) s):wpAny C.M C.A (getMethod v m.nm pl) R NE s:=by
 refine bx st fun st r=>?_
 cases m
 case append=>replace h:=i6 h hv r;refine n9 h fun a xs ys zp3 h1 zp5=>?_;subst zp3;obtain⟨h2,h⟩:=zp5;exact uB st h1 (k h)
 case eF=>replace h:=bB h hv r;refine n9 h fun a o y zp3 h1 zp5=>?_;subst zp3;obtain⟨h2,h⟩:=zp5;replace h:=pj h2 h;obtain⟨b,rfl,h⟩:=h;exact rT st h1 (k h)
 case add=>replace h:=bB h hv r;obtain⟨a,o,y,rfl,h1,h2,h⟩:=h;replace h:=pv h2 h;obtain⟨S,c,rfl,h⟩:=h;exact Ge st h1 h.1 (k h.2)
 case get=>replace h:=bB h hv r;obtain⟨a,o,y,rfl,h1,h2,h⟩:=h;replace h:=qH h2 h;obtain⟨xs,ys,rfl,h3,h⟩:=h;exact Gf st h1 (k h)
 case bits=>replace h:=hW h;obtain⟨i,rfl,h⟩:=h;obtain⟨t,rfl⟩:=hv.iE;exact Ay (k h)
theorem FH {m:BM} {vs:List Value} {xs:List NV} (hv:VN ρ σ.h.length v x) (hs:ug ρ σ.h.length vs xs) (st:gn C Z s ρ σ hp l) (h:den P (EN m x xs σ Q)) (k:KN P C Z ρ σ hp l Q R):RW C.M C.A (call m.val ([v]++vs) []) R s:=by
 refine bx st fun st r=>?_
 cases m
 case append =>
  replace h:=kR h;obtain⟨x,zq⟩:=h;have zp1:=zq.1;have h:=zq.2;subst zp1
  replace hs:=hs.lZ;refine aA hs fun u zp1 zp2=>?_;subst zp1;refine jg zp2 fun c zp1=>?_;have hu:=zp1.1;have hw:=zp1.2
  replace h:=qK h hv r;refine FY h fun a o y up zp4 h1 h2 zp7=>?_;subst zp4;refine md zp7 fun h q na=>?_
  replace h:=jj h2 h;refine dy h fun xs ys zp2 zp3=>?_;subst zp2;obtain⟨h3,h⟩:=zp3
  refine aA (q _ _ _ (.list (h3.append (.cons hw .nil))) h.2) fun σ' E d=>?_
  exact .of (a8 (uo st na h1 hu (h3.length▸h.1) (k.kk r _ _ _ _ _ E .none d)))
 case eF =>
  replace h:=kR h;obtain⟨x,rfl,h⟩:=h
  replace hs:=hs.lZ;obtain⟨u,rfl,hu⟩:=hs
  replace h:=hW h;obtain⟨i,rfl,h⟩:=h
  obtain⟨t,rfl⟩:=hu.iE
  replace h:=qK h hv r;refine FY h fun a o y up zp4 h1 h2 zp7=>?_;subst zp4;refine md zp7 fun h q na=>?_
  replace h:=pj h2 h;obtain⟨b,rfl,h⟩:=h
  refine aA (q _ _ _ (.aB _) h.2) fun σ' E d=>?_
  exact o8 (rI st h1 h.1.1 h.1.2.1 h.1.2.2 (k.kk r _ _ _ _ _ E .none d))
 case add =>
  replace h:=kR h;obtain⟨x,rfl,h⟩:=h
  replace hs:=hs.lZ;obtain⟨u,rfl,hu⟩:=hs
  replace h:=hW h;obtain⟨i,rfl,h⟩:=h
  obtain⟨t,rfl⟩:=hu.iE
  replace h:=qK h hv r;refine FY h fun a o y up zp4 h1 h2 zp7=>?_;subst zp4;obtain⟨h,q,na⟩:=zp7
  replace h:=pv h2 h;obtain⟨S,c,rfl,h⟩:=h
  refine aA (q _ _ _ (.bg _ _) h.2) fun σ' E d=>?_
  exact .of (a8 (FI st h1 h.1 (k.kk r _ _ _ _ _ E .none d)))
 case get =>
  replace h:=kR h;obtain⟨x,rfl,h⟩:=h
  replace hs:=hs.lZ;obtain⟨u,rfl,hu⟩:=hs
  replace h:=hW h;obtain⟨i,rfl,h⟩:=h
  obtain⟨t,rfl⟩:=hu.iE
  replace h:=bB h hv r;refine n9 h fun a o y zp3 h1 zp5=>?_;subst zp3;obtain⟨h2,h⟩:=zp5
  replace h:=qH h2 h;refine dy h fun xs ys zp2 zp3=>?_;subst zp2;obtain⟨h3,h⟩:=zp3
  have hq:d8 ρ σ.h.length (KP i xs) ((ys.lookup i).getD .none):=by
   unfold KP
   refine Or.elim (h3.lookup i) (fun zq0=>nH zq0 fun p q e1 e2 e3=>?_) (fun zq1=>bx zq1 fun e1 e2=>?_)
   ·refine e1▸e2▸?_;exact e3
   ·refine e1▸e2▸?_;exact .none
  refine aA h fun x e h=>?_
  have e:=Option.some.inj e;subst e
  exact .of (a8 (FJ st h1 ((k.kk r).now r hq h)))
 case bits =>
  replace h:=vG h;obtain⟨rfl,h⟩:=h
  cases hs.r7
  replace h:=hW h;obtain⟨i,rfl,h⟩:=h
  obtain⟨t,rfl⟩:=hv.iE
  exact .of (a8 (Ab st ((k.kk r).now r (.int _) h)))
theorem JB {o i v:Value} {a b c:NV} {Q:NS->WT} {R:Unit->Shared->Prop} (ho:VN ρ σ.h.length o a) (hi:VN ρ σ.h.length i b) (hv:VN ρ σ.h.length v c) (st:gn C Z s ρ σ hp l) (h:den P (Fe a b c σ Q))
  (k:∀ s' σ' hp',gn C Z s' ρ σ' hp' l->gm ρ σ hp ρ σ' hp'->den P (Q σ')->R () s'):wpAny C.M C.A (setItem o i v) R NE s:=by
 refine bx st fun st r=>?_
 replace h:=hW h;obtain⟨j,rfl,h⟩:=h
 obtain⟨t,rfl⟩:=hi.iE
 replace h:=qK h ho r;refine Pb h fun ad ob y up zp4 h1 h2 h q na=>?_;subst zp4
 refine aA hv fun av v1 v2=>?_
 cases h2 with
 | list h3 =>
  refine bx h fun zp0 h=>?_;refine md zp0 fun g1 g2 g3=>?_
  refine aA (q _ _ _ (.list (h3.set v2 _)) h) fun σ' E d=>?_
  exact DV st na h1 g1 g2 (h3.length▸g3) v1 fun s' st'=>k s' σ' _ ⟨st',E.rl r⟩ E d
 | az h3 =>
  refine bx h fun zp0 h=>?_;refine bx zp0 fun g1 g2=>?_
  refine aA (q _ _ _ (.az (h3.append (.cons v2 .nil))) h) fun σ' E d=>?_
  refine yV st h1 ?_ v1 (h3.length▸g2) fun s' st'=>k s' σ' _ ⟨st',E.rl r⟩ E d
  refine Or.elim (h3.lookup j) (fun zq0=>nH zq0 fun p q e1 e2 e3=>?_) (fun zq1=>bx zq1 fun e1 e2=>?_)
  ·replace e1:=g1▸e1;contradiction
  ·exact e2
 | _=>exact h.elim
theorem Fx (ok:C.Ok n) {i:Nat} (hv:VN ρ σ.h.length v x) (st:gn C Z s ρ σ hp l) (h:den P (look x σ fun o=>qI o fun _ fs=>qw i fs fun u=>Q u σ)) (k:KN P C Z ρ σ hp l Q R):wpAny C.M C.A (getAttr v (C.T.nm i) true) R NE s:=by
 refine bx st fun st r=>?_
 replace h:=bB h hv r;refine n9 h fun a o y zp3 h1 zp5=>?_;subst zp3;obtain⟨h2,h⟩:=zp5
 replace h:=pq h2 h;refine Pa h fun K xs ys zp3 zp4=>?_;subst zp3;obtain⟨hk,h⟩:=zp4
 refine nH (hk.qw h) fun u b hb1 hb2 h=>?_
 have hx:C.T.attr K i=true:=st.elim fun mf m ce ne δ F hm N nd H Lr=>by
  cases H.rep _ _ h1 with
  | inst _ _ fr=>exact fr.has hb1
 exact a8 (F9 ok st h1 hx hb1 ((k.kk r).now r hb2 h))
theorem EM {n:Nat} {b:Nat} (h:Nat.ble n b=true):n≤b:=Nat.le_of_ble_eq_true h
theorem uF {vs:List Value} {xs:List NV} (hv:ug ρ σ.h.length vs xs) (st:gn C Z s ρ σ hp l) (h:xs.length≤1000000∧den P (new (.list xs) σ Q)) (k:KN P C Z ρ σ hp l Q R):wpAny C.M C.A (newList vs) R NE s :=
 aA hv fun _ h1 h2=>bx st fun st r =>
 a8 (AG st h1 (h2.length▸h.1) (dW h.2 (.list h2) r (k.kk r)))
theorem xc {vs:List Value} {xs:List NV} (hv:ug ρ σ.h.length vs xs) (st:gn C Z s ρ σ hp l) (hz:xs.length≤1000000) (h:den P (Option.casesOn (motive:=fun _=>WT) (cJ xs) (new (.tup xs) σ Q) fun as=>kO (.tup as) σ Q)) (k:KN P C Z ρ σ hp l Q R):wpAny C.M C.A (newTuple vs) R NE s:=by
 refine aA hv fun _ h1 h2=>?_
 refine bx st fun st r=>?_
 refine a8 (xh st h1 (h2.length▸hz) ?_)
 cases e:cJ xs with
 | some as=>rw [e] at h;cases dI h2 e;exact wD h r (k.kk r)
 | none=>replace h:=e▸h;exact dW h (.tup h2) r (k.kk r)
end
section
variable {ρ ρ1 ρ2:Nat->Addr} {n:Nat} {σ σ1:NS} {hp aV:Hp} {l:List (Option AV)} {v u:NV} {a b:AV}
theorem aM.det {n2 n':Nat} {xs:List NV} {ys zs:List AV} (h:aM ρ n xs ys) (h2:aM ρ2 n2 xs zs) (ok:∀ x∈xs,x.okN n') (ag:∀ i,i<n'->ρ2 i=ρ i):ys=zs:=by
 induction h generalizing zs with
 | nil=>cases h2;rfl
 | @cons x y xs ys h1 _ ih =>
  cases h2 with
  | cons k1 k2 =>
   rw [ih k2 fun x hx=>ok x (List.mem_cons_of_mem _ hx)]
   have o:=ok x List.mem_cons_self
   cases h1<;>cases k1<;>first | rfl | (rw [ag _ o])
theorem sU.ok {C:Cx} {Z:Led} {s:Shared} {n' N:Nat} {item:Nat->NV} {Pr:NS->Prop} {u:Value} (h:sU v σ n' N item Pr) (hv:VN ρ σ.h.length u v) (st:gn C Z s ρ σ hp l):∃ itM PrM,mm C Z ⟨l,hp⟩ N itM PrM u s ∧
  ∀ ρ2 σ2 hp2 l2,nB n' ρ σ hp ρ2 σ2 hp2->Mt ρ2 σ2.h σ2.fz hp2->Pr σ2->PrM ⟨l2,hp2⟩∧∀ k,k<N->d8 ρ2 σ2.h.length (item k) (itM k):=by
 obtain⟨a,h1,h2⟩:=hv
 refine bx st fun st r=>?_
 cases h with
 | list e1 e2 _ h3 h4 =>
  subst e1
  cases h2;cases h1
  refine aA (r.m.o _ _ e2 nofun) fun y k1 k2=>?_
  cases k2 with
  | @list _ ys hl =>
   refine hl.length▸?_
   refine⟨_,_,oe st k1,fun ρ2 σ2 hp2 l2 E m p=>?_⟩
   refine aA (m.o _ _ p nofun) fun y2 k1 k2=>?_
   cases k2 with
   | list hl2 =>
    cases hl.det hl2 h4 E.ag
    exact⟨by refine (E.ag _ h3).symm▸?_;exact k1,fun k _=>hl2.getD k⟩
 | range e1 e2 h3 h4 h5 =>
  subst e1
  cases h2;cases h1
  refine aA (r.m.o _ _ e2 nofun) fun y k1 k2=>?_
  cases k2
  exact⟨_,_,rU st k1 h3 h4 h5,fun ρ2 σ2 hp2 l2 E m p=>⟨trivial,fun k _ => .int _⟩⟩
 | fz e1 e2 h3 =>
  subst e1
  cases h2;cases h1
  exact⟨_,_,oe st (r.m.f _ _ e2),fun ρ2 σ2 hp2 l2 E m p=>⟨m.f _ _ (p _ _ e2),fun k _ => .fv _ _ _⟩⟩
theorem kP.comp {loc:List (Option NV)} (h:kP ρ n loc l) (fvs:List (Option Nat)):kP ρ n (fC fvs loc) (bM fvs l):=by
 refine⟨by simp [fC,bM],fun i v e=>?_⟩
 unfold fC at e
 unfold bM
 rw [List.getElem?_map] at e ⊢
 refine aA (Option.map_eq_some_iff.mp e) fun o q e=>?_
 refine aA (Option.bind_eq_some_iff.mp e) fun j zp1 e=>?_;subst zp1
 refine aA (h.2 j v (Option.join_eq_some_iff.mp e)) fun a h1 h2=>?_
 exact⟨a,by rw [q];refine (?_:some ((l[j]?).join)=_);rw [h1];rfl,h2⟩
theorem ow (hl:kP ρ n σ.loc l):∀ {aF:List (List Int×Nat)} {ps:List (List Int×AV)},pO aF σ.loc=some ps->∃ vs:List AV,vs.length=aF.length∧(∀ (i:Nat) (k:List Int×Nat),aF[i]?=some k->∃ v,vs[i]?=some v∧l[k.2]?=some (some v))∧(aF.map (·.1)).zip vs=ps
 | [],ps,h=>by cases h;exact⟨[],rfl,(fun i k e=>by cases e),rfl⟩
 | (k,i)::r,ps,h=>by
  refine aA (Option.bind_eq_some_iff.mp (show (((σ.loc[i]?).join.bind sR).bind fun a=>(pO r σ.loc).map ((k,a) :: ·))=some ps from h)) fun a e1 h=>?_
  refine aA (Option.bind_eq_some_iff.mp e1) fun v e ea=>?_
  refine aA (Option.map_eq_some_iff.mp h) fun q eq zp2=>?_;subst zp2
  refine jT (ow hl eq) fun vs h1 h2 h3=>?_
  refine aA (hl.2 i v (Option.join_eq_some_iff.mp e)) fun b hb1 hb2=>?_
  cases rx hb2 ea
  exact⟨a::vs,congrArg (· + 1) h1,fun j k' e'=>(match j,e' with | 0,e'=>⟨a,rfl,by have e':=Option.some.inj e';subst e';exact hb1⟩ | j+1,e'=>h2 j k' e'),congrArg (_ :: ·) h3⟩
end
noncomputable def lR (P:Tp) (n:Nat) (cl:Addr->List NV->NS->(NV->NS->WT)->WT):Prop:=∀ f vs σ Q ρ hp l as (R:AV->Hp->Prop),den P (cl f vs σ Q)->Rl ρ σ l hp->aM ρ σ.h.length vs as →
 (∀ v a ρ' σ' hp',gm ρ σ hp ρ' σ' hp'->d8 ρ' σ'.h.length v a->den P (Q v σ')->R a hp')->cq P n f as R hp
structure Here (P:Tp) (n:Nat) (tc:nz) (C:Cx):Prop where
 e:C.toTp=P
 ok:C.Ok (20*n+10)
 nm:C.names=tc.names
section
variable {C:Cx} {Z:Led} {s:Shared} {ρ ρ1:Nat->Addr} {σ σ1:NS} {hp aV:Hp} {l:List (Option AV)} {n:Nat} {Q:NV->NS->WT} {R:Value->Shared->Prop} {v u:Value} {x y:NV}
theorem wa {P:Tp} {cl:Addr->List NV->NS->(NV->NS->WT)->WT} (cok:lR P n cl) (e:C.toTp=P) (ok:C.Ok (20*n+10)) {f:Addr} {vs:List Value} {xs:List NV} (hv:ug ρ σ.h.length vs xs) (st:gn C Z s ρ σ hp l) (h:den P (cl f xs σ Q)) (k:KN P C Z ρ σ hp l Q R) :
  (C.K.In s.heap∧keepIn C.K (.ref f)=true)∧RW C.M C.A (call (.ref f) vs []) R s:=by
 subst e
 refine aA hv fun _ h1 h2=>?_
 refine bx st fun st r=>?_
 have c:=cok f xs σ Q ρ hp l _ (fun a hp'=>Le C Z R a ⟨l,hp'⟩) h r h2 fun x a ρ' σ' hp' E hx q=>k.kk r x a ρ' σ' hp' E hx q
 exact⟨st.elim fun mf m ce ne δ F hm N nd H Lr=>⟨ok.X.keeps F.keep,c.1⟩,o8 (Ah (ok.less ((Nat.le_add_right _ _))) st h1 c)⟩
end
section
variable {P:Tp} {n:Nat} {tc:nz} (cl:Addr->List NV->NS->(NV->NS->WT)->WT)
noncomputable def aP (P:Tp) (n:Nat) (tc:nz) (e:Expr) (m:ME):Prop:=∀ cl,lR P n cl->∀ C Z s ρ σ hp l Q R,Here P n tc C->gn C Z s ρ σ hp l->den P (gq P cl m σ Q)->KN P C Z ρ σ hp l Q R->RW C.M C.A (eval e C.env) R s
noncomputable def hV (P:Tp) (n:Nat) (tc:nz) (es:List Expr) (m:nS):Prop:=∀ cl,lR P n cl->∀ C Z s ρ σ hp l Q R,Here P n tc C->gn C Z s ρ σ hp l->den P (pS P cl m σ Q)->RV P C Z ρ σ hp l Q R->RW C.M C.A (spliced (es.map fun e=>(false,eval e C.env))) R s
noncomputable def gv (P:Tp) (n:Nat) (tc:nz) (e:Expr) (m:MT):Prop:=∀ cl,lR P n cl->∀ C Z s ρ σ hp l Q R,Here P n tc C->gn C Z s ρ σ hp l->den P (zR P cl m σ Q)->KT P C Z ρ σ hp l Q R->RW C.M C.A (isTrue e C.env (eval e C.env)) R s
variable {cl}
theorem y4 {k:Nat} {p:Pos}:aP P n tc (.Constant .none k p) .none:=fun cl _ C Z s ρ σ hp l Q R _ st h k => .of fun _ _ _=>k.now st .none h
theorem yY {b:Bool} {k:Nat} {p:Pos}:aP P n tc (.Constant (.bool b) k p) (.bool b):=fun cl _ C Z s ρ σ hp l Q R _ st h k => .of fun _ _ _=>k.now st (.bool b) h
theorem D7 {i:Int} {k:Nat} {p:Pos}:aP P n tc (.Constant (.int i) k p) (.int i):=fun cl _ C Z s ρ σ hp l Q R _ st h k => .of fun _ _ _=>k.now st.tok (.int i _) h
theorem D9 {x:Str} {p:Pos} {i:Nat} (hd:(x==zO)=false) (e:aN tc.names x=some (i,.local)):aP P n tc (.Name x p) (.loc i):=fun cl _ C Z s ρ σ hp l Q R he st h k=>by
 refine aA (rS h) fun v e1 h=>?_
 refine bx st fun st r=>?_
 refine aA (r.l.2 i v e1) fun a e2 e3=>?_
 exact .of (a8 (qm he.ok st (by refine he.nm▸?_;exact bh e) hd e2 ((k.kk r).now r e3 h)))
theorem yZ {x:Str} {p:Pos} {i:Nat} (hd:(x==zO)=false) (e:aN tc.names x=some (i,.cell)):aP P n tc (.Name x p) (.loc i):=fun cl _ C Z s ρ σ hp l Q R he st h k=>by
 refine aA (rS h) fun v e1 h=>?_
 refine bx st fun st r=>?_
 refine aA (r.l.2 i v e1) fun a e2 e3=>?_
 exact .of (a8 (Ap he.ok st (by refine he.nm▸?_;exact bh e) hd e2 ((k.kk r).now r e3 h)))
theorem snd_const (ok:dr P tc.G tc.nm) {x:Str} {p:Pos} {i:Nat} {k:Int} (hd:(x==zO)=false) (e:aN tc.names x=some (i,.globalImplicit)) (eg:tc.G.lookup x=some (.const k)):aP P n tc (.Name x p) (.int k):=fun cl _ C Z s ρ σ hp l Q R he st h kn=>by
 refine jg (ok.g _ _ eg) fun t ht=>?_
 refine bx st fun st r=>?_
 have eP:=he.e
 subst eP
 exact .of (oS he.ok st (by refine he.nm▸?_;exact bt e) hd ht (kn.now ⟨st,r⟩ (.int k t) h))
theorem yX (ok:dr P tc.G tc.nm) {o:Expr} {a:ME} {x:Str} {i:Nat} {p:Pos} (hb:eL o=true) (hx:jB tc.nm x=some i) (ho:aP P n tc o a):aP P n tc (.Attribute o x p) (.attr a i):=fun cl cok C Z s ρ σ hp l Q R he st h k=>by
 refine Dy hb (ho cl cok C Z s ρ σ hp l _ _ he st h fun v s1 y ρ1 σ1 aV hv st1 E1 h1 => .of ?_)
 skip
 have eP:=he.e
 subst eP
 refine (ok.nm _ _ (ji hx)).symm▸?_
 exact Fx he.ok hv st1 h1 (k.step E1)
theorem Ec {v i:Expr} {a b:ME} {p:Pos} (hn:dj i=true) (hv:aP P n tc v a) (hi:aP P n tc i b):aP P n tc (.Subscript v i p) (.sub a b):=fun cl cok C Z s ρ σ hp l Q R he st h k =>
 sx (hv cl cok C Z s ρ σ hp l _ _ he st h fun u s1 y ρ1 σ1 aV vu st1 E1 h1=>hi cl cok C Z s1 ρ1 σ1 aV l _ _ he st1 h1 fun w s2 z ρ2 σ2 hp2 vw dC E2 h2 => .of (NM he.ok hn (vu.ex E2) vw dC h2 (k.step (E1.trans E2))))
theorem y5 {v:Expr} {a:ME} {j:Int} {c:Nat} {q p1 p:Pos} (hv:aP P n tc v a):aP P n tc (.Subscript v (.Slice none (some (.Constant (.int j) c q)) none p1) p) (.EB a j):=fun cl cok C Z s ρ σ hp l Q R he st h k=>by
 refine sx (hv cl cok C Z s ρ σ hp l _ _ he st h fun u s1 y ρ1 σ1 aV vu st1 E1 h1=>?_)
 refine Kr (i6 h1 vu st1.2) fun ad xs ys zp3 e1 e2 zp6 h5=>?_;subst zp3;have h3:=zp6.1;have h4:=zp6.2
 refine bx st1 fun st1 r=>?_
 refine .of (m9 st1 (.inl ⟨rfl,c,q,rfl⟩) fun s2 t tk dC e => .of (a8 (t6 (.inr ⟨_,_,_,rfl⟩) dC e1 (lo:=none) (hi:=some j) .none (.int j t) (fun vs hvs=>DZ hvs h3) (by refine e2.length.symm▸?_;exact h4) (dW h5 (.list (e2.take _)) r ((k.step E1).kk r)))))
theorem D6 {v:Expr} {a:ME} {j:Int} {c:Nat} {q p1 p:Pos} (hv:aP P n tc v a):aP P n tc (.Subscript v (.Slice (some (.Constant (.int j) c q)) none none p1) p) (.Kt a j):=fun cl cok C Z s ρ σ hp l Q R he st h k=>by
 refine sx (hv cl cok C Z s ρ σ hp l _ _ he st h fun u s1 y ρ1 σ1 aV vu st1 E1 h1=>?_)
 refine Kr (i6 h1 vu st1.2) fun ad xs ys zp3 e1 e2 zp6 h5=>?_;subst zp3;have h3:=zp6.1;have h4:=zp6.2
 refine bx st1 fun st1 r=>?_
 refine .of (m9 st1 (.inr ⟨rfl,c,q,rfl⟩) fun s2 t tk dC e => .of (a8 (t6 (.inr ⟨_,_,_,rfl⟩) dC e1 (lo:=some j) (hi:=none) (.int j t) .none (fun vs hvs=>DY hvs h3) (by refine e2.length.symm▸?_;exact h4) (dW h5 (.list (e2.drop _)) r ((k.step E1).kk r)))))
theorem D1 {el r:Expr} {op:Operator} {a b:ME} {p:Pos} (hl:aP P n tc el a) (hr:aP P n tc r b):aP P n tc (.BinOp el op r p) (.bin op a b):=fun cl cok C Z s ρ σ hp l Q R he st h k =>
 Jl (hl cl cok C Z s ρ σ hp l _ _ he st h fun u s1 y ρ1 σ1 aV vu st1 E1 h1=>hr cl cok C Z s1 ρ1 σ1 aV l _ _ he st1 h1 fun w s2 z ρ2 σ2 hp2 vw dC E2 h2 => .of (J5 (vu.ex E2) vw dC h2 (k.step (E1.trans E2))))
theorem Ea {e:Expr} {a:ME} {p:Pos} (hx:aP P n tc e a):aP P n tc (.UnaryOp .USub e p) (.neg a):=fun cl cok C Z s ρ σ hp l Q R he st h k=>by
 refine NH (hx cl cok C Z s ρ σ hp l _ _ he st h fun u s1 y ρ1 σ1 aV vu st1 E1 h1=>?_)
 refine aA (hW h1) fun i zp1 h1=>?_;subst zp1
 refine jg vu.iE fun t zp1=>?_;subst zp1
 exact .of (PyProof.Rows.neg_int ((k.step E1).now st1.tok (.int _ _) h1))
theorem D5 {l r:Expr} {op:CmpOp} {a b:ME} {p:Pos} (hm:behindInMarks op r=false) (hl:aP P n tc l a) (hr:aP P n tc r b):aP P n tc (.Compare l [op] [r] p) (.cmp op a b):=fun cl cok C Z s ρ σ hp l Q R he st h k =>
 Jm hm (hl cl cok C Z s ρ σ hp l _ _ he st h fun u s1 y ρ1 σ1 aV vu st1 E1 h1=>hr cl cok C Z s1 ρ1 σ1 aV l _ _ he st1 h1 fun w s2 z ρ2 σ2 hp2 vw dC E2 h2 => .of (tj he.ok (vu.ex E2) vw dC h2 fun c s3 fi q=>(k.step (E1.trans E2)).now fi (.bool c) q))
theorem snd_and {e f:Expr} {a b:ME} {p:Pos} (hx:aP P n tc e a) (hy:aP P n tc f b):aP P n tc (.BoolOp .And [e,f] p) (.and a b):=fun cl cok C Z s ρ σ hp l Q R he st h k=>by
 refine tV (hx cl cok C Z s ρ σ hp l _ _ he st h fun u s1 y ρ1 σ1 aV vu st1 E1 h1=>?_)
 refine aA (vK h1) fun c zp1 h1=>?_;subst zp1
 rw [vu.vV]
 refine .of (wpAny_truthy_bool ?_)
 cases h1 with
 | mk ht hf=>cases c with
  | true=>exact qQ (hy cl cok C Z s1 ρ1 σ1 aV l _ _ he st1 (ht rfl) (k.step E1))
  | false=>exact (k.step E1).now st1 (.bool _) (hf rfl)
theorem JD {e f:Expr} {a b:ME} {p:Pos} (hx:aP P n tc e a) (hy:aP P n tc f b):aP P n tc (.BoolOp .Or [e,f] p) (.or a b):=fun cl cok C Z s ρ σ hp l Q R he st h k=>by
 refine tV (hx cl cok C Z s ρ σ hp l _ _ he st h fun u s1 y ρ1 σ1 aV vu st1 E1 h1=>?_)
 refine aA (vK h1) fun c zp1 h1=>?_;subst zp1
 rw [vu.vV]
 refine .of (wpAny_truthy_bool ?_)
 cases h1 with
 | mk ht hf=>cases c with
  | true=>exact (k.step E1).now st1 (.bool _) (ht rfl)
  | false=>exact qQ (hy cl cok C Z s1 ρ1 σ1 aV l _ _ he st1 (hf rfl) (k.step E1))
theorem D8 {t e f:Expr} {c:MT} {a b:ME} {p:Pos} (ht:gv P n tc t c) (hx:aP P n tc e a) (hy:aP P n tc f b):aP P n tc (.IfExp t e f p) (.ite c a b):=fun cl cok C Z s ρ σ hp l Q R he st h k=>by
 refine NG (ht cl cok C Z s ρ σ hp l _ _ he st h fun d s1 ρ1 σ1 aV st1 E1 h1=>?_)
 cases h1 with
 | mk h2 h3=>cases d with
  | true=>exact hx cl cok C Z s1 ρ1 σ1 aV l _ _ he st1 (h2 rfl) (k.step E1)
  | false=>exact hy cl cok C Z s1 ρ1 σ1 aV l _ _ he st1 (h3 rfl) (k.step E1)
theorem y1 {es:List Expr} {as:nS} {p:Pos} (hn:es.all notStar=true) (h:hV P n tc es as):aP P n tc (.List es p) (.list as):=fun cl cok C Z s ρ σ hp l Q R he st hq k=>by
 refine Dz ?_
 refine (bA hn)▸?_
 exact h cl cok C Z s ρ σ hp l _ _ he st hq fun vs s1 xs ρ1 σ1 aV hv st1 E1 h1 => .of (uF hv st1 ⟨EM (fM h1).1,(fM h1).2⟩ (k.step E1))
theorem Ed {es:List Expr} {as:nS} {c:Nat} {p:Pos} (hn:es.all notStar=true) (h:hV P n tc es as):aP P n tc (.Tuple es c p) (.tup as):=fun cl cok C Z s ρ σ hp l Q R he st hq k=>by
 refine Jn ?_
 refine (bA hn)▸?_
 exact h cl cok C Z s ρ σ hp l _ _ he st hq fun vs s1 xs ρ1 σ1 aV hv st1 E1 h1 => .of (xc hv st1 (EM (fM h1).1) (fM h1).2 (k.step E1))
theorem Eb:hV P n tc [] .nil:=fun cl cok C Z s ρ σ hp l Q R he st h k=>Jt (k [] s [] ρ σ hp ⟨[],.nil,.nil⟩ st (.refl st.mt) h)
theorem y0 {e:Expr} {r:List Expr} {a:ME} {b:nS} (hx:aP P n tc e a) (hr:hV P n tc r b):hV P n tc (e::r) (.cons a b):=fun cl cok C Z s ρ σ hp l Q R he st h k =>
 DH (hx cl cok C Z s ρ σ hp l _ _ he st h fun v s1 x ρ1 σ1 aV hv st1 E1 h1=>hr cl cok C Z s1 ρ1 σ1 aV l _ _ he st1 h1 fun vs s2 xs ρ2 σ2 hp2 hs dC E2 h2 =>
  aA (hv.ex E2) fun a h3 h4=>aA hs fun as h5 h6=>k _ s2 _ ρ2 σ2 hp2 ⟨a::as,.cons h3 h5,.cons h4 h6⟩ dC (E1.trans E2) h2)
theorem vi {p:Pos}:aP P n tc (.Dict [] [] p) .az:=fun cl cok C Z s ρ σ hp l Q R he st h k=>by
 refine bx st fun st r=>?_
 exact .of (a8 (xf he.ok st (dW h (.az .nil) r (k.kk r))))
noncomputable def pV (names:List (Str×NameKind)) (ks:List (Option Expr)) (vs:List Expr) (aF:List (List Int×Nat)):Prop :=
 ∀ (C:Cx) (loc:List (Option AV)) (avs:List AV),C.names=names->avs.length=aF.length->(∀ (i:Nat) (k:List Int×Nat),aF[i]?=some k->∃ v,avs[i]?=some v∧loc[k.2]?=some (some v))->aF.length=ks.length∧JO C loc ks vs ((aF.map (·.1)).zip avs)
theorem vj {ks:List (Option Expr)} {vs:List Expr} {aF:List (List Int×Nat)} {p:Pos} (h0:ks≠[]) (hlen:ks.length≤15) (hd:pV tc.names ks vs aF):aP P n tc (.Dict ks vs p) (.aC aF):=fun cl cok C Z s ρ σ hp l Q R he st h k=>by
 refine bx st fun st r=>?_
 refine aA (qJ h) fun ps e h=>?_
 refine jT (ow r.l e) fun avs h1 h2 zp3=>?_;subst zp3
 obtain⟨g1,g2⟩:=hd C l avs he.nm h1 h2
 exact .of (a8 (xg he.ok g2 h0 hlen h.1 st (wD h.2 r (k.kk r))))
theorem JC (ok:dr P tc.G tc.nm) {x:Str} {p pos:Pos} {f:Addr} {i:Nat} {es:List Expr} {as:nS} (hx:aN tc.names x=some (i,.globalImplicit)) (hd:(x==zO)=false) (hg:tc.G.lookup x=some (.fn f)) (hn:es.all notStar=true) (h:hV P n tc es as) :
  aP P n tc (.Call (.Name x p) es [] pos) (.fn f as):=fun cl cok C Z s ρ σ hp l Q R he st hq k=>by
 have hg':=ok.g _ _ hg
 have eP:=he.e
 subst eP
 have st0:=st
 refine bx st fun st r=>?_
 refine pF (.of (oS he.ok st (by rw [he.nm];exact bt hx) hd hg' ?_))
 refine dm (P:=fun h=>C.K.In h∧keepIn C.K (.ref f)=true) hn (fun h hh=>keeps_K hh.2 h hh.1) ?_
 exact h cl cok C Z s ρ σ hp l _ _ he st0 hq fun vs s1 xs ρ1 σ1 aV hv st1 E1 h1=>wa cok rfl he.ok hv st1 h1 (k.step E1)
theorem D4 (ok:dr P tc.G tc.nm) {x:Str} {p pos:Pos} {f:Addr} {i:Nat} {es:List Expr} {as:nS} (hx:aN tc.names x=some (i,.globalImplicit)) (hd:(x==zO)=false) (hg:tc.G.lookup x=some (.cls f)) (hn:es.all notStar=true) (h:hV P n tc es as) :
  aP P n tc (.Call (.Name x p) es [] pos) (.cls f as):=fun cl cok C Z s ρ σ hp l Q R he st hq k=>by
 have hg':=ok.g _ _ hg
 have eP:=he.e
 subst eP
 have st0:=st
 refine bx st fun st r=>?_
 refine pF (.of (oS he.ok st (by refine he.nm▸?_;exact bt hx) hd hg' ?_))
 refine dm (P:=fun h=>C.K.In h∧keepIn C.K (.ref f)=true) hn (fun h hh=>keeps_K hh.2 h hh.1) ?_
 refine h cl cok C Z s ρ σ hp l _ _ he st0 hq fun vs s1 xs ρ1 σ1 aV hv st1 E1 h1=>?_
 replace k:=k.step E1
 refine aA hv fun as' h2 h3=>?_
 refine bx st1 fun st1 r1=>?_
 refine aA (qJ h1) fun g ef h1=>?_
 refine⟨st1.elim fun mf m ce ne δ F hm N nd H Lr=>⟨he.ok.X.keeps F.keep,(he.ok.k.RA _ _ ef).2.2.2⟩,o8 (wb he.ok st1 ef h2 fun x hx=>dW (Q:=fun r τ=>cl g (r::xs) τ fun v σ3=>Qd v (Q r σ3)) (R:=fun rv τ=>cq _ _ g (rv::as') (fun a hp'=>a = .none∧Le C Z R rv ⟨τ.loc,hp'⟩) τ.hp) h1 (.inst .nil) r1 (fun v a ρ' σ' hp' E' hv hq=>?_) x hx)⟩
 refine cok g _ _ _ _ _ l _ _ hq (E'.rl r1) (.cons hv (E'.vs h3)) fun w b ρ2 σ2 hp2 E2 hw hd=>?_
 refine bx (J3 hd) fun zp0 hd=>?_;subst zp0
 cases hw
 exact⟨rfl,(k.step E').kk (E'.rl r1) _ _ _ _ _ E2 (E2.v hv) hd⟩
theorem D2 (ok:dr P tc.G tc.nm) {x:Str} {p pos:Pos} {f:BF} {i:Nat} {es:List Expr} {as:nS} (hx:aN tc.names x=some (i,.globalImplicit)) (hd:(x==zO)=false) (hg:tc.G.lookup x=some (.blt f)) (hn:es.all notStar=true) (h:hV P n tc es as) :
  aP P n tc (.Call (.Name x p) es [] pos) (.blt f as):=fun cl cok C Z s ρ σ hp l Q R he st hq k=>by
 refine md (ok.g _ _ hg) fun h1 h2 h3=>?_
 have eP:=he.e
 subst eP
 have st0:=st
 refine bx st fun st r=>?_
 refine pF (.of (F4 he.ok st (by refine he.nm▸?_;exact bt hx) hd h1 h2 h3 ?_))
 refine dm (P:=fun h=>True) hn (fun h hh=>⟨Keeper.machine,.inr (.inl rfl),?_⟩) ?_
 ·cases f<;>exact fun A Q E s _ q=>wpAny_pure q
 ·exact h cl cok C Z s ρ σ hp l _ _ he st0 hq fun vs s1 xs ρ1 σ1 aV hv st1 E1 h1=>⟨trivial,J7 he.ok hv st1 h1 (k.step E1)⟩
theorem y3 (ok:dr P tc.G tc.nm) {o:Expr} {x:Str} {apos pos:Pos} {i:Nat} {a:ME} {es:List Expr} {as:nS} (hb:eL o=true) (hl:(apos.endLine==pos.line)=true) (hlen:es.length<30) (hx:jB tc.nm x=some i) (hn:es.all notStar=true) (ho:aP P n tc o a) (h:hV P n tc es as) :
  aP P n tc (.Call (.Attribute o x apos) es [] pos) (.aQ a i as):=fun cl cok C Z s ρ σ hp l Q R he st hq k=>by
 refine tW hb hl hn hlen (ho cl cok C Z s ρ σ hp l _ _ he st hq fun v s1 y ρ1 σ1 aV hv st1 E1 h1 pl=>?_)
 refine ip (bB h1 hv st1.2) fun ad o ao zp3 g1 g2 g3=>?_;subst zp3
 skip
 have eP:=he.e
 subst eP
 refine (ok.nm _ _ (ji hx)).symm▸?_
 refine n9 (pq g2 g3) fun K fs gs zp3 hk g3=>?_;subst zp3
 refine aA (qJ g3) fun f hf g3=>?_
 refine .of (Gg he.ok st1.1 g1 hf ?_)
 refine dm (P:=fun h=>C.K.In h∧keepIn C.K (.ref f)=true) hn (fun h hh=>keeps_K hh.2 h hh.1) ?_
 exact h cl cok C Z s1 ρ1 σ1 aV l _ _ he st1 g3 fun vs s2 xs ρ2 σ2 hp2 hs fi E2 h2 =>
  aA (hv.ex E2) fun b h5 h6=>aA hs fun bs h7 h8 =>
  wa cok rfl he.ok ⟨b::bs,.cons h5 h7,.cons h6 h8⟩ fi h2 (k.step (E1.trans E2))
theorem vh {o:Expr} {x:Str} {apos pos:Pos} {m:BM} {a:ME} {es:List Expr} {as:nS} (hb:eL o=true) (hl:(apos.endLine==pos.line)=true) (hlen:es.length<30) (hx:x=m.nm) (hn:es.all notStar=true) (ho:aP P n tc o a) (h:hV P n tc es as) :
  aP P n tc (.Call (.Attribute o x apos) es [] pos) (.iY m a as):=fun cl cok C Z s ρ σ hp l Q R he st hq k=>by
 subst hx
 refine tW hb hl hn hlen (ho cl cok C Z s ρ σ hp l _ _ he st hq fun v s1 y ρ1 σ1 aV hv st1 E1 h1 pl => .of (Aa hv st1 h1 fun h2=>?_))
 refine dm (P:=fun h=>True) hn (fun h hh=>⟨Keeper.machine,.inr (.inl rfl),?_⟩) ?_
 ·cases m<;>exact fun A Q E s _ q=>wpAny_pure q
 ·exact h cl cok C Z s1 ρ1 σ1 aV l _ _ he st1 h2 fun vs s2 xs ρ2 σ2 hp2 hs fi E2 h3=>⟨trivial,FH (hv.ex E2) hs fi h3 (k.step (E1.trans E2))⟩
theorem El {e:Expr} {t:MT} {p:Pos} (hx:gv P n tc e t):gv P n tc (.UnaryOp .Not e p) (.not t):=fun cl cok C Z s ρ σ hp l Q R he st h k =>
 Jv (hx cl cok C Z s ρ σ hp l _ _ he st h fun c s1 ρ1 σ1 aV st1 E1 h1=>k _ s1 ρ1 σ1 aV st1 E1 h1)
theorem Ej {e f:Expr} {a b:MT} {p:Pos} (hx:gv P n tc e a) (hy:gv P n tc f b):gv P n tc (.BoolOp .And [e,f] p) (.and a b):=fun cl cok C Z s ρ σ hp l Q R he st h k=>by
 refine pK (hx cl cok C Z s ρ σ hp l _ _ he st h fun c s1 ρ1 σ1 aV st1 E1 h1=>?_)
 cases h1 with
 | mk ht hf=>cases c with
  | true=>exact qV (hy cl cok C Z s1 ρ1 σ1 aV l _ _ he st1 (ht rfl) (k.step E1))
  | false=>exact k _ s1 ρ1 σ1 aV st1 E1 (hf rfl)
theorem zg {e f:Expr} {a b:MT} {p:Pos} (hx:gv P n tc e a) (hy:gv P n tc f b):gv P n tc (.BoolOp .Or [e,f] p) (.or a b):=fun cl cok C Z s ρ σ hp l Q R he st h k=>by
 refine pK (hx cl cok C Z s ρ σ hp l _ _ he st h fun c s1 ρ1 σ1 aV st1 E1 h1=>?_)
 cases h1 with
 | mk ht hf=>cases c with
  | true=>exact k _ s1 ρ1 σ1 aV st1 E1 (ht rfl)
  | false=>exact qV (hy cl cok C Z s1 ρ1 σ1 aV l _ _ he st1 (hf rfl) (k.step E1))
theorem Em {e f g:Expr} {a b c:MT} {p:Pos} (hx:gv P n tc e a) (hy:gv P n tc f b) (hz:gv P n tc g c):gv P n tc (.BoolOp .Or [e,f,g] p) (.or a (.or b c)):=fun cl cok C Z s ρ σ hp l Q R he st h k=>by
 refine pK (hx cl cok C Z s ρ σ hp l _ _ he st h fun d s1 ρ1 σ1 aV st1 E1 h1=>?_)
 cases h1 with
 | mk ht hf=>cases d with
  | true=>exact k _ s1 ρ1 σ1 aV st1 E1 (ht rfl)
  | false=>exact zg (p:=p) hy hz cl cok C Z s1 ρ1 σ1 aV l _ _ he st1 (hf rfl) (k.step E1)
theorem Ek {l r:Expr} {op:CmpOp} {a b:ME} {p:Pos} (hm:behindInMarks op r=false) (hl:aP P n tc l a) (hr:aP P n tc r b):gv P n tc (.Compare l [op] [r] p) (.cmp op a b):=fun cl cok C Z s ρ σ hp l Q R he st h k =>
 Ju hm (hl cl cok C Z s ρ σ hp l _ _ he st h fun u s1 y ρ1 σ1 aV vu st1 E1 h1=>hr cl cok C Z s1 ρ1 σ1 aV l _ _ he st1 h1 fun w s2 z ρ2 σ2 hp2 vw dC E2 h2 =>
  .of (tj he.ok (vu.ex E2) vw dC h2 fun c s3 fi q => .of (wpAny_truthy_bool (k c s3 ρ2 σ2 hp2 fi (E1.trans E2) q))))
theorem ze {l r r':Expr} {op op':CmpOp} {a b c:ME} {p:Pos} (hm:behindInMarks op' r'=false) (hl:aP P n tc l a) (hr:aP P n tc r b) (hr':aP P n tc r' c):gv P n tc (.Compare l [op,op'] [r,r'] p) (.Aj op op' a b c):=fun cl cok C Z s ρ σ hp l Q R he st h k =>
 DJ hm (hl cl cok C Z s ρ σ hp l _ _ he st h fun u s1 y ρ1 σ1 aV vu st1 E1 h1=>hr cl cok C Z s1 ρ1 σ1 aV l _ _ he st1 h1 fun w s2 z ρ2 σ2 hp2 vw dC E2 h2 =>
  .of (tj he.ok (vu.ex E2) vw dC h2 fun d s3 fi q => .of (wpAny_truthy_bool (by
   cases q with
   | mk ht hf=>cases d with
    | true=>exact hr' cl cok C Z s3 ρ2 σ2 hp2 l _ _ he fi (ht rfl) fun w' s4 z' ρ3 σ3 hp3 vw' st4 E3 h3 => .of (tj he.ok (vw.ex E3) vw' st4 h3 fun e s5 st5 q => .of (wpAny_truthy_bool (k e s5 ρ3 σ3 hp3 st5 ((E1.trans E2).trans E3) q)))
    | false=>exact k _ s3 ρ2 σ2 hp2 fi (E1.trans E2) (hf rfl)))))
end
section
variable {P:Tp} {n:Nat} {tc:nz}
noncomputable def WN (P:Tp) (cl:Addr->List NV->NS->(NV->NS->WT)->WT) (b:ME) (τ:AS) (Q':AV->AS->Prop):Prop:=∃ ρ2 σ2 Q2,Rl ρ2 σ2 τ.loc τ.hp∧den P (gq P cl b σ2 Q2)∧KK P ρ2 σ2 τ.hp τ.loc Q2 Q'
theorem O5 {elt:Expr} {b:ME} {tc:nz} (hb:aP P n tc elt b) {cl:Addr->List NV->NS->(NV->NS->WT)->WT} (cok:lR P n cl) (C:Cx) (Z:Led) (s:Shared) (τ:AS) (Q':AV->AS->Prop) (e:C.toTp=P) (ok:C.Ok (20*n+10)) (nm:C.names=tc.names) (st:St C Z s τ) (w:WN P cl b τ Q') :
  RW C.M C.A (eval elt C.env) (LE C Z Q') s :=
 n9 w fun ρ2 σ2 Q2 r w kk =>
 hb cl cok C Z s ρ2 σ2 τ.hp τ.loc Q2 (LE C Z Q') ⟨e,ok,nm⟩ ⟨st,r⟩ w fun v s' x ρ' σ' hp' hv st' E q=>aA hv fun a h1 h2=>⟨a,⟨τ.loc,hp'⟩,h1,st'.1,kk x a ρ' σ' hp' E h2 q⟩
theorem uw {cl:Addr->List NV->NS->(NV->NS->WT)->WT} {fvs:List (Option Nat)} {tgt:Nat} {b:ME} {x:NV} {C:Cx} {Z:Led} {s:Shared} {v:Value} {ρ:Nat->Addr} {σ:NS} {hp:Hp} {l:List (Option AV)} {Q:NV->NS->WT} {Q':AV->AS->Prop}
  (h:sT P x (fC fvs σ.loc) tgt (gq P cl b) σ Q) (hv:VN ρ σ.h.length v x) (st:gn C Z s ρ σ hp l) (k:KK P ρ σ hp l Q Q'):∃ σ1 N item Pr,mm C Z σ1 N item Pr v s∧N≤1000000∧∃ Inv:Nat->List AV->Hp->Prop,Inv 0 [] σ1.hp ∧
   (∀ k ys hp',k<N->Inv k ys hp'->Pr { σ1 with hp:=hp' }∧WN P cl b ⟨(bM fvs σ1.loc).set tgt (some (item k)),hp'⟩ fun u σ2=>σ2.loc=(bM fvs σ1.loc).set tgt (some (item k))∧Inv (k+1) (ys++[u]) σ2.hp) ∧
   ∀ ys hp',Inv N ys hp'->Pr { σ1 with hp:=hp' }∧ys.length≤1000000∧∀ r,hp' r=none->Q' (.ref r) { σ1 with hp:=hp'.set r (.list ys) }:=by
 obtain⟨N,item,Pr,Inv,hi,hN,i0,step,fin⟩:=h
 refine dy (hi.ok hv st) fun itM PrM gw gp=>?_
 refine bx st fun st r=>?_
 refine⟨_,_,_,_,gw,hN,fun j ys hp2=>∃ ρ2 h fz vs,nB σ.h.length ρ σ hp ρ2 ⟨σ.loc,h,fz⟩ hp2∧Mt ρ2 h fz hp2∧aM ρ2 h.length vs ys∧Inv j vs h fz,⟨ρ,σ.h,σ.fz,[],.refl (Nat.le_refl _),r.m,.nil,i0⟩,?_,?_⟩
 ·intro j ys hp2 hj zr4;refine FY zr4 fun ρ2 h fz vs E m hvs inv=>?_
  skip;have p:=(step j vs h fz hj E.ln inv).1;have q:=(step j vs h fz hj E.ln inv).2
  skip;have pm:=(gp ρ2 ⟨σ.loc,h,fz⟩ hp2 l E m p).1;have pi:=(gp ρ2 ⟨σ.loc,h,fz⟩ hp2 l E m p).2
  refine⟨pm,ρ2,_,_,Rl.dZ (σ:=⟨fC fvs σ.loc,h,fz⟩) ⟨m,(r.l.comp fvs).mono E.ln E.ag⟩ tgt (pi j hj),q,fun u a ρ3 σ3 hp3 E3 r3 up=>⟨rfl,?_⟩⟩
  refine uA (up ρ3 [] hp3 (a::ys) ⟨E3.mt,Nat.le_refl _,fun i v e=>by contradiction⟩ (.cons r3 (E3.vs hvs))) fun ρ4 vs' σ4 ag4 ln4 JJ rl4 vr4 zp8=>?_;refine dy zp8 fun u' ys' zp2 inv'=>?_;subst zp2
  cases vr4 with
  | cons w1 w2=>exact⟨ρ4,σ4.h,σ4.fz,ys'++[u'],⟨fun i hi=>((ag4 i hi).trans (E3.ag i (Nat.lt_of_lt_of_le hi E.ln))).trans (E.ag i hi),ln4,E.tr.trans (E3.tr.trans JJ)⟩,rl4.m,w2.append (.cons w1 .nil),inv'⟩
 ·intro ys hp2 zr2;refine FY zr2 fun ρ2 h fz vs E m hvs inv=>?_
  refine md (fin vs h fz E.ln inv) fun p q1 q2=>?_
  have E':gm ρ σ hp ρ2 ⟨σ.loc,h,fz⟩ hp2:=⟨E.ag,E.ln,rfl,E.tr,m⟩
  exact⟨(gp ρ2 ⟨σ.loc,h,fz⟩ hp2 l E m p).1,hvs.length▸q1,dW q2 (.list hvs) (E'.rl r) (k.step E')⟩
theorem qi {elt iter:Expr} {t:Str} {tp pos pos':Pos} {sc:Scope} {tgt:Nat} {a b:ME} (fb:fj tc.names sc t tgt) (hset:eZ iter=true) (hi:aP P n tc iter a) (hb:aP P n { tc with names:=ju sc.names } elt b)
  {cl:Addr->List NV->NS->(NV->NS->WT)->WT} (cok:lR P n cl) {C:Cx} {Z:Led} {s:Shared} {ρ:Nat->Addr} {σ:NS} {hp:Hp} {l:List (Option AV)} {Q:NV->NS->WT} {QM:AV->AS->Prop} {use:Option (Value->Sem Unit)} {Q':Value->Shared->Prop} (he:Here P n tc C) (st:gn C Z s ρ σ hp l)
  (h:den P (gq P cl (.comp (j2 tc.names sc.names) tgt a b) σ Q)) (k:∀ ρ1 σ1 aV,gm ρ σ hp ρ1 σ1 aV->Rl ρ1 σ1 l aV->KK P ρ1 σ1 aV l Q QM)
  (hpost:∀ acc Cn ons m s' σ',St C ((Cn,ons)::Z) s' σ'->C.Off Cn->Fq ons m->QM (.ref acc) σ'->nX C.prog C.w C.A use Q' (.ref acc) Cn (.ok .next) s') :
  RW C.M C.A (comprehension (.ListComp elt [⟨.Name t tp,iter,[],0⟩] sc pos) sc C.env pos' (newList []) false (eval iter C.env) use) Q' s :=
 uv fb hset (O5 hb cok) he.e he.ok he.nm st.1 (hi cl cok C Z s ρ σ hp l _ _ he st h fun v s1 x ρ1 σ1 aV hv st1 E1 h1=>uw h1 hv st1 (k ρ1 σ1 aV E1 st1.2)) hpost
theorem q0 {elt iter:Expr} {t:Str} {tp pos:Pos} {sc:Scope} {tgt:Nat} {a b:ME} {asy:Int} (has:asy=0) (fb:fj tc.names sc t tgt) (hset:eZ iter=true) (hi:aP P n tc iter a) (hb:aP P n { tc with names:=ju sc.names } elt b) :
  aP P n tc (.ListComp elt [⟨.Name t tp,iter,[],asy⟩] sc pos) (.comp (j2 tc.names sc.names) tgt a b):=fun cl cok C Z s ρ σ hp l Q R he st h k=>by
 subst has
 skip
 exact qi (use:=none) (QM:=Le C Z R) fb hset hi hb cok he st h (fun ρ1 σ1 aV E r=>(k.step E).kk r) fun acc Cn ons m s' σ' st' cn hns hq=>⟨m,ph (st'.nL (.head _)) hns,fun h' hs=>hq _ _ (.ref acc) (st'.tI (tk:=s'.toks) cn hs.extBut)⟩
theorem lP (is:List Nat) (as:List AV) (s:AS):bR s is as=⟨(bR s is as).loc,s.hp⟩:=by
 have:=m7 is as s
 simp only [← this]
inductive JW (ρ:Nat->Addr) (n:Nat):Flow->cY->Prop where
 | next:JW ρ n .next .next
 | brk:JW ρ n .brk .brk
 | cont:JW ρ n .cont .cont
 | ret {v:Value} {x:NV}:VN ρ n v x->JW ρ n (.ret v) (.ret x)
noncomputable def KF (P:Tp) (C:Cx) (Z:Led) (n₀:Nat) (ρ:Nat->Addr) (σ:NS) (hp:Hp) (Q:cY->NS->WT) (R:Flow->Shared->Prop):Prop:=∀ f s' nf ρ' σ' hp' l',JW ρ' σ'.h.length f nf->gn C Z s' ρ' σ' hp' l'->nB n₀ ρ σ hp ρ' σ' hp'->den P (Q nf σ')->R f s'
noncomputable def ie (P:Tp) (n:Nat) (tc:nz) (st:Stmt) (m:MS):Prop:=∀ cl,lR P n cl->∀ C Z s ρ σ hp l n₀ Q R,Here P n tc C->C.fn=true->gn C Z s ρ σ hp l->n₀≤σ.h.length->den P (RP P cl n₀ m σ Q)->KF P C Z n₀ ρ σ hp Q R->RW C.M C.A (exec st C.env) R s
noncomputable def kQ (P:Tp) (n:Nat) (tc:nz) (st:List Stmt) (m:MB):Prop:=∀ cl,lR P n cl->∀ C Z s ρ σ hp l n₀ Q R,Here P n tc C->C.fn=true->gn C Z s ρ σ hp l->n₀≤σ.h.length->den P (jr P cl n₀ m σ Q)->KF P C Z n₀ ρ σ hp Q R->RW C.M C.A (execs st C.env) R s
section
variable {C:Cx} {Z:Led} {s:Shared} {n₀:Nat} {ρ ρ1:Nat->Addr} {σ σ1:NS} {hp aV:Hp} {l:List (Option AV)} {Q:cY->NS->WT} {R:Flow->Shared->Prop}
theorem KF.step (k:KF P C Z n₀ ρ σ hp Q R) (E:nB n₀ ρ σ hp ρ1 σ1 aV):KF P C Z n₀ ρ1 σ1 aV Q R:=fun f s' nf ρ' σ' hp' l' hf st E'=>k f s' nf ρ' σ' hp' l' hf st (E.trans E')
theorem r5 (ok:C.Ok n) {i:Nat} {t:Str} {p:Pos} {v:Value} {x:NV} {R:Unit->Shared->Prop} (hx:mn C i t) (hv:VN ρ σ.h.length v x) (st:gn C Z s ρ σ hp l) (k:∀ s' l',gn C Z s' ρ { σ with loc:=σ.loc.set i (some x) } hp l'->R () s'):wpAny C.M C.A (assign (.Name t p) C.env v) R NE s :=
 aA hv fun _ h1 h2 =>
 oD ok st.1 hx h1 fun s' st'=>k s' _ ⟨st',st.2.dZ i h2⟩
theorem tM (ok:C.Ok n) {ts:List Expr} {is:List Nat} {xs:List Str} {kk:Nat} {pos:Pos} {t:Addr} {vs:List NV} {as:List AV} {R:Unit->Shared->Prop} (h:b0 C ts is xs) (ht:hp t=some (.tup as)) (hv:aM ρ σ.h.length vs as) (hl:vs.length=is.length) (st:gn C Z s ρ σ hp l) (k:∀ s' l',gn C Z s' ρ { σ with loc:=km σ.loc is vs } hp l'->R () s') :
  wpAny C.M C.A (assign (.Tuple ts kk pos) C.env (.ref t)) R NE s:=by
 refine vM ok h st.1 ht (by simp only [← hv.length,hl,h.nm.1]) fun s' st'=>?_
 rw [lP] at st'
 exact k s' _ ⟨st',st.2.bR is hv⟩
end
theorem vN {P:Tp} {σ:NS} {i:Nat} {x:NV} {Q:cY->NS->WT} (h:den P (NS.casesOn (motive:=fun _=>WT) σ fun lc h z=>l6 lc i (some x) fun lc=>Q .next ⟨lc,h,z⟩)):den P (Q .next { σ with loc:=σ.loc.set i (some x) }):=by
 skip
 simp only [gU] at h;exact h
theorem y8 {e:Expr} {a:ME} {pos:Pos} (hc:bl e=true) (hx:aP P n tc e a):ie P n tc (.Expr e pos) (.expr a):=fun cl cok C Z s ρ σ hp l n₀ Q R he hf st hn h k =>
 DN hc he.ok.hk (hx cl cok C Z s ρ σ hp l _ _ he st h fun v s1 x ρ1 σ1 aV hv st1 E1 h1=>k _ s1 _ ρ1 σ1 aV l .next st1 (E1.s hn) h1)
theorem Eg {e:Expr} {a:ME} {pos:Pos} (hx:aP P n tc e a):ie P n tc (.Return (some e) pos) (.ret a):=fun cl cok C Z s ρ σ hp l n₀ Q R he hf st hn h k =>
 Jz (hx cl cok C Z s ρ σ hp l _ _ he st h fun v s1 x ρ1 σ1 aV hv st1 E1 h1=>k _ s1 _ ρ1 σ1 aV l (.ret hv) st1 (E1.s hn) h1)
theorem za {pos:Pos}:ie P n tc (.Pass pos) .pass:=fun cl cok C Z s ρ σ hp l n₀ Q R he hf st hn h k=>DO (k _ s _ ρ σ hp l .next st (.refl hn) h)
theorem y7 {st:Stmt}:ie P n tc st .dead:=fun cl cok C Z s ρ σ hp l n₀ Q R he hf st hn h k=>h.elim
theorem Ee {x:Str} {p pos:Pos} {i:Nat} {e:Expr} {a:ME} (hx:fh tc.names x=some i) (hc:bl e=true) (ha:aP P n tc e a):ie P n tc (.Assign [.Name x p] e pos) (.asg i a):=fun cl cok C Z s ρ σ hp l n₀ Q R he hf st hn h k =>
 ly rfl hc (ha cl cok C Z s ρ σ hp l _ _ he st h fun v s1 x ρ1 σ1 aV hv st1 E1 h1 => .of (r5 he.ok (jq hf (he.nm▸hx)) hv st1 fun s2 l2 dC=>k _ s2 _ ρ1 _ aV l2 .next dC ((E1.s hn).loc (lc:=σ.loc)) (vN h1)))
theorem y6 {x:Str} {p pos pos':Pos} {i:Nat} {elt iter:Expr} {t:Str} {tp:Pos} {sc:Scope} {tgt:Nat} {a b:ME} {asy:Int} (has:asy=0) (hx:fh tc.names x=some i) (fb:fj tc.names sc t tgt) (hset:eZ iter=true) (hi:aP P n tc iter a) (hb:aP P n { tc with names:=ju sc.names } elt b) :
  ie P n tc (.Assign [.Name x p] (.ListComp elt [⟨.Name t tp,iter,[],asy⟩] sc pos') pos) (.asg i (.comp (j2 tc.names sc.names) tgt a b)):=fun cl cok C Z s ρ σ hp l n₀ Q R he hf st hn h k=>by
 subst has
 have hx':=jq hf (he.nm▸hx)
 cases q:Ff C.env.scope.names x p (.ListComp elt [⟨.Name t tp,iter,[],0⟩] sc pos') sc with
 | true =>
  rw [exec_Assign_Name_used _ _ _ _ ((ng he.ok.hk).trans (by exact congrArg _ q))]
  refine .bind (.standAt (.bind ?_))
  refine (?_:RW _ _ (do let _←comprehension (.ListComp elt [⟨.Name t tp,iter,[],0⟩] sc pos') sc C.env _ (newList []) false (eval iter C.env) (some (assign (.Name x p) C.env))) _ _)
  refine .bind (RW.mono (qi (Q':=fun _ s'=>R .next s') (QM:=fun a τ=>∃ y ρ' σ',d8 ρ' σ'.h.length y a∧Rl ρ' σ' τ.loc τ.hp∧gm ρ σ hp ρ' σ' τ.hp∧den P (Q .next { σ' with loc:=σ'.loc.set i (some y) })) (use:=some (assign (.Name x p) C.env)) fb hset hi hb cok he st h
   (fun ρ1 σ1 aV E r y a ρ' σ' hp' E' hv q=>⟨y,ρ',σ',hv,E'.rl r,E.trans E',vN q⟩) fun acc Cn ons m s' τ st' cn hns hq=>?_) fun _ s' hq => .pure (.pure hq))
  refine ip hq fun y ρ' σ' g1 g2 g3 g4=>?_
  exact .of (oD he.ok st' hx' (.ref acc) fun s2 dC=>⟨m,ph (dC.nL (.head _)) hns,fun h' hs=>k _ _ _ ρ' _ τ.hp _ .next ⟨dC.tI (tk:=s2.toks) cn hs.extBut,g2.dZ i g1⟩ ((g3.s hn).loc (lc:=σ.loc)) g4⟩)
 | false =>
  skip
  refine .bind (.standAt ?_)
  rw [sJ,ng he.ok.hk,q]
  refine .bind (.pure ?_)
  skip
  exact .bind (q0 rfl fb hset hi hb cl cok C Z s ρ σ hp l _ _ he st h fun v s1 x ρ1 σ1 aV hv st1 E1 h1 => .bind (.pure (.bind (RW.of (r5 he.ok hx' hv st1 fun s2 l2 dC=>RW.pure (k _ s2 _ ρ1 _ aV l2 .next dC ((E1.s hn).loc (lc:=σ.loc)) (vN h1)))))))
theorem zb (ok:dr P tc.G tc.nm) {o e:Expr} {a b:ME} {x:Str} {i:Nat} {p pos:Pos} (hx:jB tc.nm x=some i) (hc:bl e=true) (ha:aP P n tc e a) (ho:aP P n tc o b) :
  ie P n tc (.Assign [.Attribute o x p] e pos) (.aI b i a):=fun cl cok C Z s ρ σ hp l n₀ Q R he hf st hn h k=>by
 refine ly rfl hc (ha cl cok C Z s ρ σ hp l _ _ he st h fun v s1 y ρ1 σ1 aV hv st1 E1 h1=>Ds (ho cl cok C Z s1 ρ1 σ1 aV l _ _ he st1 h1 fun u s2 z ρ2 σ2 hp2 hu dC E2 h2=>?_))
 refine aA (hv.ex E2) fun av v1 v2=>?_
 refine bx dC fun dC r=>?_
 refine Pb (qK h2 hu r) fun j o y' up zp4 g1 g2 h2 q _=>?_;subst zp4
 refine n9 (pq g2 h2) fun K fs gs zp3 hk h2=>?_;subst zp3
 obtain⟨g,h2⟩:=fM h2
 simp only [Bool.and_eq_true] at g
 skip
 have eP:=he.e
 subst eP
 refine (ok.nm _ _ (ji hx)).symm▸?_
 refine aA (hk.sk i v2 (k:=fun fs'=>up (.inst K fs') (Q .next))) fun fs' e4 hk'=>?_
 refine aA (q _ _ _ (.inst hk') (e4▸h2)) fun σ' E3 d=>?_
 exact .of (JA he.ok dC g1 g.1 v1 (hk.length▸Nat.blt_eq.mp g.2) fun s3 fi=>k _ s3 _ ρ2 _ _ l .next ⟨fi,E3.rl r⟩ (((E1.trans E2).trans E3).s hn) d)
theorem zc {o i e:Expr} {a b c:ME} {p pos:Pos} (hc:bl e=true) (ha:aP P n tc e a) (ho:aP P n tc o b) (hi:aP P n tc i c) :
  ie P n tc (.Assign [.Subscript o i p] e pos) (.lz b c a):=fun cl cok C Z s ρ σ hp l n₀ Q R he hf st hn h k=>by
 refine ly rfl hc (ha cl cok C Z s ρ σ hp l _ _ he st h fun v s1 x ρ1 σ1 aV hv st1 E1 h1=>Jj (ho cl cok C Z s1 ρ1 σ1 aV l _ _ he st1 h1 fun u s2 y ρ2 σ2 hp2 hu dC E2 h2=>hi cl cok C Z s2 ρ2 σ2 hp2 l _ _ he dC h2 fun w s3 z ρ3 σ3 hp3 hw fi E3 h3 => .of ?_))
 exact JB (hu.ex E3) hw ((hv.ex E2).ex E3) fi h3 fun s' σ' hp' st' E' q=>k _ s' _ ρ3 σ' hp' l .next st' ((((E1.trans E2).trans E3).trans E').s hn) q
theorem Ef {t:Expr} {a b:List Stmt} {c:MT} {x y:MB} {pos:Pos} (ht:gv P n tc t c) (ha:kQ P n tc a x) (hb:kQ P n tc b y):ie P n tc (.If t a b pos) (.ite c x y):=fun cl cok C Z s ρ σ hp l n₀ Q R he hf st hn h k=>by
 refine NJ (ht cl cok C Z s ρ σ hp l _ _ he st h fun d s1 ρ1 σ1 aV st1 E1 h1=>?_)
 have E:=E1.s hn
 cases h1 with
 | mk h2 h3=>cases d with
  | true=>exact ha cl cok C Z s1 ρ1 σ1 aV l n₀ _ _ he hf st1 E.ln (h2 rfl) (k.step E)
  | false=>exact hb cl cok C Z s1 ρ1 σ1 aV l n₀ _ _ he hf st1 E.ln (h3 rfl) (k.step E)
theorem D0:kQ P n tc [] .nil:=fun cl cok C Z s ρ σ hp l n₀ Q R he hf st hn h k=>sH (k _ s _ ρ σ hp l .next st (.refl hn) h)
theorem yW {x:Stmt} {r:List Stmt} {a:MS} {b:MB} (hx:ie P n tc x a) (hr:kQ P n tc r b):kQ P n tc (x::r) (.cons a b):=fun cl cok C Z s ρ σ hp l n₀ Q R he hf st hn h k=>by
 refine DM (hx cl cok C Z s ρ σ hp l n₀ _ _ he hf st hn h fun f s1 nf ρ1 σ1 aV l1 f1 st1 E1 h1=>?_)
 cases f1 with
 | next=>exact hr cl cok C Z s1 ρ1 σ1 aV l1 n₀ _ _ he hf st1 E1.ln h1 (k.step E1)
 | brk=>exact k _ s1 _ ρ1 σ1 aV l1 .brk st1 E1 h1
 | cont=>exact k _ s1 _ ρ1 σ1 aV l1 .cont st1 E1 h1
 | ret hv=>exact k _ s1 _ ρ1 σ1 aV l1 (.ret hv) st1 E1 h1
theorem Ei {t:Expr} {b:List Stmt} {c:MT} {y:MB} {pos:Pos} (ht:gv P n tc t c) (hb:kQ P n tc b y):ie P n tc (.While t b [] pos) (.EE c y):=fun cl cok C Z s ρ σ hp l n₀ Q R he hf st hn h k=>by
 cases (show vF P n₀ (zR P cl c) (fun n'=>jr P cl n' y) σ Q from h) with
 | mk n' Inv m₀ h1 h3 turn =>
  refine uA (h3 ρ l hp [] st.2 .nil) fun ρ0 vs0 σ0 ag0 ln0 OZ rl0 _ inv0=>?_
  refine yS (yF (fun j s=>∃ ρ1 σ1 aV l1,gn C Z s ρ1 σ1 aV l1∧nB n' ρ σ hp ρ1 σ1 aV∧Inv j σ1) ?_ m₀ ⟨ρ0,σ0,hp,l,⟨st.1,rl0⟩,⟨ag0,ln0,OZ⟩,inv0⟩)
  intro j s zr2;refine Rv zr2 fun ρ1 σ1 aV l1 st1 E inv=>?_
  refine ht cl cok C Z s ρ1 σ1 aV l1 _ _ he st1 (turn j σ1 E.ln inv) fun d s2 ρ2 σ2 hp2 dC E2 h2=>?_
  replace E:=E.trans (E2.s E.ln)
  cases h2 with
  | mk qt qf=>cases d with
   | false=>exact k _ s2 _ ρ2 σ2 hp2 l1 .next dC (E.less h1) (qf rfl)
   | true =>
    refine hb cl cok C Z s2 ρ2 σ2 hp2 l1 n' _ _ he hf dC E.ln (qt rfl) fun f s3 nf ρ3 σ3 hp3 l3 f3 fi E3 q3=>?_
    replace E:=E.trans E3
    have again:(∃ m',m'<j∧Up n' [] σ3 fun _ σ4=>Inv m' σ4)->∃ m,m<j∧∃ ρ1 σ1 aV l1,gn C Z s3 ρ1 σ1 aV l1∧nB n' ρ σ hp ρ1 σ1 aV∧Inv m σ1:=fun zf=>aA zf fun m' hm' up=>by
     refine uA (up ρ3 l3 hp3 [] fi.2 .nil) fun ρ4 vs' σ4 ag4 ln4 JJ rl4 _ inv'=>?_
     exact⟨m',hm',ρ4,σ4,hp3,l3,⟨fi.1,rl4⟩,E.trans ⟨ag4,ln4,JJ⟩,inv'⟩
    cases f3 with
    | next=>exact again q3
    | cont=>exact again q3
    | brk=>exact k _ s3 _ ρ3 σ3 hp3 l3 .next fi (E.less h1) q3
    | ret hv=>exact k _ s3 _ ρ3 σ3 hp3 l3 (.ret hv) fi (E.less h1) q3
structure RU where
 k:Nat
 o:Obj
 ρ:Nat->Addr
 σ:NS
 hp:Hp
 l:List (Option AV)
structure PN (C:Cx) (Z:Led) (n' N:Nat) (it:Addr) (Ob:Nat->Obj->Prop) (Inv:Nat->NS->Prop) (ρ1:Nat->Addr) (σ1:NS) (aV:Hp) (q:Nat) (s:Shared) (d:RU):Prop where
 eq:q=N-d.k
 le:d.k≤N
 ob:Ob d.k d.o
 inv:Inv d.k d.σ
 st:gn C ((it,d.o)::Z) s d.ρ d.σ d.hp d.l
 ex:nB n' ρ1 σ1 aV d.ρ d.σ d.hp
theorem tv {b:List Stmt} {y:MB} (hb:kQ P n tc b y) {cl:Addr->List NV->NS->(NV->NS->WT)->WT} (cok:lR P n cl) {C:Cx} {Z:Led} (he:Here P n tc C) (hf:C.fn=true) {n₀ n' N j:Nat} (h1:n₀≤n') {it:Addr} {Ob:Nat->Obj->Prop} {Inv:Nat->NS->Prop} {ρ1 ρ2:Nat->Addr} {σ1 σ2:NS} {aV hp2:Hp} {Q:cY->NS->WT} {R:Flow->Shared->Prop} (k:KF P C Z n₀ ρ1 σ1 aV Q R) (cn:C.Off it)
  {o2:Obj} (hj:j<N) (hob:Ob (j+1) o2) (E:nB n' ρ1 σ1 aV ρ2 σ2 hp2) {lc:List (Option NV)} {s4:Shared} {l4:List (Option AV)} (st4:gn C ((it,o2)::Z) s4 ρ2 ⟨lc,σ2.h,σ2.fz⟩ hp2 l4)
  (hq:den P (jr P cl n' y ⟨lc,σ2.h,σ2.fz⟩ fun fl σ3=>Pc fl (.ok (Up n' [] σ3 fun _ σ4=>Inv (j+1) σ4)) (Q .next σ3) fun a=>Q (.ret a) σ3)):RW C.M C.A (execs b C.env) (fun f s₃=>match f with
      | .next | .cont=>∃ m,m<N-j∧∃ d,PN C Z n' N it Ob Inv ρ1 σ1 aV m s₃ d
      | .brk=>R .next s₃
      | .ret v=>R (.ret v) s₃) s4:=by
 refine hb cl cok C _ s4 ρ2 _ hp2 l4 n' _ _ he hf st4 E.ln hq fun f s5 nf ρ3 σ3 hp3 l3 f3 st5 E3 q3=>?_
 have E':=E.trans (E3.loc (lc:=σ2.loc) (lc':=σ3.loc))
 have again:(Up n' [] σ3 fun _ σ4=>Inv (j+1) σ4)->∃ m,m<N-j∧∃ d,PN C Z n' N it Ob Inv ρ1 σ1 aV m s5 d:=fun up =>
  uA (up ρ3 l3 hp3 [] st5.2 .nil) fun ρ4 _ σ4 ag4 ln4 JJ rl4 _ inv' =>
  ⟨_,Nat.sub_succ_lt_self N j hj,⟨j+1,o2,ρ4,σ4,hp3,l3⟩,rfl,hj,hob,inv',⟨st5.1,rl4⟩,E'.trans ⟨ag4,ln4,JJ⟩⟩
 cases f3 with
 | next=>exact again q3
 | cont=>exact again q3
 | brk=>exact k _ s5 _ ρ3 σ3 hp3 l3 .next ⟨st5.1.ER cn,st5.2⟩ (E'.less h1) q3
 | ret hv=>exact k _ s5 _ ρ3 σ3 hp3 l3 (.ret hv) ⟨st5.1.ER cn,st5.2⟩ (E'.less h1) q3
theorem y9 {tg it:Expr} {b:List Stmt} {tup:Bool} {is:List Nat} {a:ME} {y:MB} {pos:Pos} (hs:eZ it=true) (htg:Fv tc.names tg tup is) (ha:aP P n tc it a) (hb:kQ P n tc b y):ie P n tc (.For tg it b [] pos) (.fr is tup a y):=fun cl cok C Z s ρ σ hp l n₀ Q R he hf st hn h k=>by
 refine Jy hs (ha cl cok C Z s ρ σ hp l _ _ he st h fun v s1 x ρ1 σ1 aV hv st1 E1 h1=>?_)
 replace k:=k.step (E1.s hn)
 obtain⟨n',N,item,Pr,Inv,h1,hi,i0,pr,step,fin⟩:=h1
 refine dy (hi.ok hv st1) fun itM PrM gw gp=>?_
 refine .of (gw _ fun it o Ob s2 hI cn ho dC=>?_)
 refine uA (i0 ρ1 l aV [] st1.2 .nil) fun ρ0 vs0 σ0 ag0 ln0 OZ rl0 _ inv0=>?_
 have hitr:=hI.RD C he.ok.hh cn
 refine Dv (fun q s=>∃ d,PN C Z n' N it Ob Inv ρ1 σ1 aV q s d) ?_ N ⟨⟨0,o,ρ0,σ0,aV,l⟩,rfl,Nat.zero_le _,ho,inv0,⟨dC,rl0⟩,⟨ag0,ln0,OZ⟩⟩
 rintro q s ⟨⟨j,o',ρ2,σ2,hp2,l2⟩,rfl,hj,hob,inv,stk,E⟩
 have zq:=gp ρ2 σ2 hp2 l2 E stk.2.m (pr j σ2 hj inv);have hp':=zq.1;have hitem:=zq.2
 by_cases hjN:j=N
 ·cases hjN
  exact .of (hitr.done o' Z s _ _ hob stk.1 hp' fun s' st'=>k _ s' _ ρ2 σ2 hp2 l2 .next ⟨st',stk.2⟩ (E.less h1) (fin σ2 E.ln inv))
 ·have hlt:j<N:=Nat.lt_of_le_of_ne hj hjN
  have st:=step j σ2 hlt E.ln inv
  replace hitem:=hitem j hlt
  refine .of (hitr.next j o' Z s _ _ hlt hob stk.1 hp' fun v o2 s3 hv hob2 fi=>?_)
  have fi:gn C ((it,o2)::Z) s3 ρ2 σ2 hp2 l2:=⟨fi,stk.2⟩
  cases htg with
  | one hx =>
   exact .pure (RW.of (r5 he.ok (jq hf (he.nm▸hx)) ⟨_,hv,hitem⟩ fi fun s4 l4 st4=>tv hb cok he hf h1 k cn hlt hob2 E st4 (by skip;rw [cond_false,jb] at st;exact st)))
  | tup ht =>
   refine ip (bB (st:den P (look _ _ _)) ⟨_,hv,hitem⟩ stk.2) fun ad o ao zp3 g1 g2 g3=>?_;subst zp3
   refine nH (sb g2 g3) fun xs ys zp2 hl g3=>?_;subst zp2
   obtain⟨g4,g3⟩:=fM g3
   rw [jb] at g3
   obtain⟨nms,hxs⟩:=kC hf (he.nm▸ht)
   exact .of (wJ (fi.1.nL (.head _)) (hI.cls _ _ hob2) (.of (tM he.ok hxs g1 hl (Nat.eq_of_beq_eq_true g4) fi fun s4 l4 st4=>tv hb cok he hf h1 k cn hlt hob2 E st4 g3)))
theorem Eh {ts:List Expr} {is:List Nat} {k:Nat} {tp pos:Pos} {e:Expr} {a:ME} (hc:bl e=true) (ht:ni tc.names ts=some is) (hw:∀ env:Env,env.scope.kind = .function->env.scope.names=tc.names->swappedStores [.Tuple ts k tp] e env=pure none) (ha:aP P n tc e a) :
  ie P n tc (.Assign [.Tuple ts k tp] e pos) (.ry false is a):=fun cl cok C Z s ρ σ hp l n₀ Q R he hf st hn h k=>by
 refine yR hc (hw _ he.ok.hk he.nm) (ha cl cok C Z s ρ σ hp l _ _ he st h fun v s1 x ρ1 σ1 aV hv st1 E1 h1=>?_)
 refine ip (E4 h1 hv st1.2) fun ad xs ys zp3 g1 hl g3=>?_;subst zp3
 obtain⟨g4,g3⟩:=fM g3
 have g3:den P (ib σ1.loc is xs fun lc=>Q .next ⟨lc,σ1.h,σ1.fz⟩):=g3
 simp only [jb] at g3
 refine jg (kC hf (he.nm▸ht)) fun nms hxs=>?_
 exact .of (tM he.ok hxs g1 hl (Nat.eq_of_beq_eq_true g4) st1 fun s2 l2 dC=>k _ s2 _ ρ1 _ aV l2 .next dC ((E1.s hn).loc (lc:=σ.loc)) g3)
end
end Mine
end
section
open PySem PySem.W PySem.Calls PyProof.Rows
open PySem.Sem (wp)
set_option Elab.async false
set_option genSizeOf false
set_option genInjectivity false
set_option maxRecDepth 100000
set_option autoImplicit false
set_option linter.unusedVariables false
namespace Mine
noncomputable def i8 (names:List (Str×NameKind)) (line:Nat):Expr->Option Str
 | .Name id pos=>if names.lookup id==some .local&&pos.line==line then some id else none
 | _=>none
noncomputable def tB:Expr->Bool
 | .Starred .. => true
 | _=>false
noncomputable def ub (names:List (Str×NameKind)) (ts vs:List Expr):Option (Option (List Str)) :=
  if !(ts.length==2||ts.length==3)||vs.length != ts.length then some none
  else if vs.any tB then some none
  else if (ts.filterMap (i8 names ((ts.head?.map (·.pos.line)).getD 0))).length != ts.length||(ts.filterMap (i8 names ((ts.head?.map (·.pos.line)).getD 0))).eraseDups.length != (ts.filterMap (i8 names ((ts.head?.map (·.pos.line)).getD 0))).length then some none
  else if vs.all (foldedForSure 8) then some none
  else if vs.all (constantsAlone 8) then none
  else some (some (ts.filterMap (i8 names ((ts.head?.map (·.pos.line)).getD 0))))
noncomputable def vm (e:Expr):Option {q:List Expr×Nat×Pos // e = .Tuple q.1 q.2.1 q.2.2}:=match e with
 | .Tuple vs k p=>some ⟨(vs,k,p),rfl⟩
 | _=>none
noncomputable def pN (names:List (Str×NameKind)) (ts:List Expr) (e:Expr):Option (Option (List Str)):=(vm e).elim (some none) fun q=>ub names ts q.1.1
theorem Er {ts:List Expr} {e:Expr} {k:Nat} {tp:Pos} {env:Env} (h:vm e=none):swappedStores [.Tuple ts k tp] e env=pure none:=by
 cases e<;>first | rfl | contradiction
theorem vk (ts vs:List Expr) (k k':Nat) (tp p':Pos) (env:Env):swappedStores [.Tuple ts k tp] (.Tuple vs k' p') env =
  (if !(ts.length==2||ts.length==3)||vs.length != ts.length||env.blockKind != .function then pure none
  else if vs.any tB then pure none
  else if (ts.filterMap (i8 env.scope.names ((ts.head?.map (·.pos.line)).getD 0))).length != ts.length||(ts.filterMap (i8 env.scope.names ((ts.head?.map (·.pos.line)).getD 0))).eraseDups.length != (ts.filterMap (i8 env.scope.names ((ts.head?.map (·.pos.line)).getD 0))).length then pure none
  else if vs.all (foldedForSure 8) then pure none
  else if vs.all (constantsAlone 8) then (do unsupported "assign.tuple-of-constant-expressions:order-of-the-stores";pure (some (ts.filterMap (i8 env.scope.names ((ts.head?.map (·.pos.line)).getD 0)))))
  else pure (some (ts.filterMap (i8 env.scope.names ((ts.head?.map (·.pos.line)).getD 0))))):=by rfl
theorem ua {c:Prop} [Decidable c] {X:Option (Option (List Str))} {r:Option (List Str)} {V:Sem (Option (List Str))} (h:(if c then some none else X)=some r) (k:X=some r->V=pure r):(if c then pure none else V)=pure r:=by
 by_cases d:c
 ·rw [if_pos d] at h ⊢;have h:=Option.some.inj h;subst h;rfl
 ·rw [if_neg d] at h ⊢;exact k h
theorem NP {c:Prop} [Decidable c] {X:Option (Option (List Str))} {r:Option (List Str)} {V W:Sem (Option (List Str))} (h:(if c then none else X)=some r) (k:X=some r->V=pure r):(if c then W else V)=pure r:=by
 by_cases d:c
 ·rw [if_pos d] at h;contradiction
 ·rw [if_neg d] at h ⊢;exact k h
theorem t9 {c:Prop} [Decidable c] {X:Option (Option (List Str))} {r:List Str} (h:(if c then some none else X)=some (some r)):¬c∧X=some (some r):=by
 by_cases d:c
 ·replace h:=(if_pos d)▸h;cases h
 ·replace h:=(if_neg d)▸h;exact⟨d,h⟩
theorem NN {c:Prop} [Decidable c] {X:Option (Option (List Str))} {r:Option (List Str)} (h:(if c then none else X)=some r):X=some r:=by
 by_cases d:c
 ·rw [if_pos d] at h;contradiction
 ·rw [if_neg d] at h;exact h
theorem swap_eq {names:List (Str×NameKind)} {ts:List Expr} {e:Expr} {k:Nat} {tp:Pos} {r:Option (List Str)} {env:Env} (h:pN names ts e=some r) (hk:env.scope.kind = .function) (hn:env.scope.names=names) :
  swappedStores [.Tuple ts k tp] e env=pure r:=by
 have h:(vm e).elim (some none) (fun q=>ub names ts q.1.1)=some r:=h
 cases q:vm e with
 | none=>rw [q] at h;exact Option.some.inj h▸Er q
 | some p =>
  rw [q] at h
  rw [p.2,vk,show (env.blockKind != .function)=false by unfold Env.blockKind;rw [hk];rfl,hn,Bool.or_false]
  exact ua h fun h=>ua h fun h=>ua h fun h=>ua h fun h=>NP h fun h=>congrArg pure (Option.some.inj h)
theorem Gw {C:Cx} {ts:List Expr} {is:List Nat} {xs:List Str} {names:List (Str×NameKind)} {line:Nat} (h:b0 C ts is xs) (hl:(ts.filterMap (i8 names line)).length=ts.length):ts.filterMap (i8 names line)=xs:=by
 induction h with
 | nil=>rfl
 | @cons x p i ts is xs hv _ ih =>
  rw [List.filterMap_cons] at hl ⊢
  cases q:i8 names line (.Name x p) with
  | none =>
   replace hl:=q▸hl
   have:=List.length_filterMap_le (i8 names line) ts
   simp only [List.length_cons] at hl
   omega
  | some y =>
   rw [q] at hl
   simp only [List.length_cons,Nat.add_right_cancel_iff] at hl
   simp only [ih hl]
   have q':(if (names.lookup x==some .local&&p.line==line)=true then some x else none)=some y:=q
   by_cases c:(names.lookup x==some .local&&p.line==line)=true
   ·rw [if_pos c] at q';have q':=Option.some.inj q';subst q';rfl
   ·rw [if_neg c] at q';contradiction
theorem cK.reverse {vs:List Value} {as:List AV} (h:cK vs as):cK vs.reverse as.reverse:=by
 induction h with
 | nil=>exact .nil
 | cons q _ ih=>simp only [List.reverse_cons,List.reverse_cons];exact ih.append (.cons q .nil)
section
variable {P:Tp} {n:Nat} {tc:nz}
theorem Ep {names:List (Str×NameKind)} {ts vs:List Expr} {nms:List Str} (hw:ub names ts vs=some (some nms)):(ts.filterMap (i8 names ((ts.head?.map (·.pos.line)).getD 0))).length=ts.length∧ts.filterMap (i8 names ((ts.head?.map (·.pos.line)).getD 0))=nms :=
 have h3:=t9 (t9 (t9 hw).2).2
 ⟨Decidable.of_not_not fun n=>h3.1 (Bool.or_eq_true _ _▸Or.inl (bne_iff_ne.mpr n)),Option.some.inj (Option.some.inj (NN (t9 h3.2).2))⟩
theorem rj {names:List (Str×NameKind)} {ts:List Expr} {e:Expr} {nms:List Str} (hw:pN names ts e=some (some nms)):(ts.filterMap (i8 names ((ts.head?.map (·.pos.line)).getD 0))).length=ts.length∧ts.filterMap (i8 names ((ts.head?.map (·.pos.line)).getD 0))=nms:=by
 have h:(vm e).elim (some none) (fun q=>ub names ts q.1.1)=some (some nms):=hw
 cases q:vm e with
 | none=>replace h:=q▸h;cases h
 | some p=>replace h:=q▸h;exact Ep h
theorem zd {ts:List Expr} {is:List Nat} {k:Nat} {tp pos:Pos} {e:Expr} {a:ME} {nms:List Str} (hc:bl e=true) (ht:ni tc.names ts=some is) (hw:pN tc.names ts e=some (some nms)) (ha:aP P n tc e a) :
  ie P n tc (.Assign [.Tuple ts k tp] e pos) (.ry true is a):=fun cl cok C Z s ρ σ hp l n₀ Q R he hf st hn h kf=>by
 refine jg (kC hf (he.nm▸ht)) fun xs hxs=>?_
 have hnm:nms=xs:=(rj hw).2.symm.trans (Gw hxs (rj hw).1)
 subst hnm
 refine md hxs.nm fun l1 l2 hva=>?_
 refine DP hc (swap_eq hw he.ok.hk he.nm) (ha cl cok C Z s ρ σ hp l _ _ he st h fun v s1 x ρ1 σ1 aV hv st1 E1 h1=>?_)
 refine ip (E4 h1 hv st1.2) fun ad xv as zp3 g1 hl g3=>?_;subst zp3
 obtain⟨g4,g3⟩:=fM g3
 have g3:den P (ib σ1.loc is.reverse xv.reverse fun lc=>Q .next ⟨lc,σ1.h,σ1.fz⟩):=g3
 rw [jb] at g3
 refine bx st1 fun st1 r=>?_
 refine dy (st1.isTup g1) fun vs c e4 hvs=>?_
 have hn2:nms.length=vs.length:=l2.trans ((Nat.eq_of_beq_eq_true g4).symm.trans (hl.length.trans hvs.length.symm))
 refine (hn2:nms.length=vs.toArray.size)▸?_
 refine .of (unpackItems_tuple he.ok.hh (i5 e4) fun h' he'=>?_)
 skip
 refine .of (p7 he.ok (xs:=nms.reverse) (is:=is.reverse) (as:=as.reverse) (fun j x i e6 e7=>?_) (by rw [List.length_reverse,List.length_reverse,l2]) (st1.grown (tk:=s1.toks) fun b o e=>he' b o (Nat.ne_of_lt (Heap.lt_size e)) e) hvs.reverse (by refine (?_:vs.reverse.length=_);rw [List.length_reverse,List.length_reverse,hn2]) fun s3 fi=>?_)
 ·have hj:j<nms.length:=by have:=(List.getElem?_eq_some_iff.mp e6).1;rwa [List.length_reverse] at this
  rw [List.getElem?_reverse hj] at e6
  rw [List.getElem?_reverse (l2▸hj)] at e7
  exact hva _ _ _ e6 (l2▸e7)
 ·rw [lP] at fi
  exact kf _ s3 _ ρ1 _ aV _ .next ⟨fi,r.bR is.reverse hl.reverse⟩ ((E1.s hn).loc (lc:=σ.loc)) g3
end
noncomputable section
noncomputable def cert {α:Type} (o:Option α):Option {a:α // o=some a}:=match o with
 | some a=>some ⟨a,rfl⟩
 | none=>none
theorem An {names:List (Str×NameKind)}:pV names [] [] []:=fun C loc avs _ hl _=>by
 cases avs with
 | nil=>exact⟨rfl,.nil⟩
 | cons=>contradiction
theorem wu {names:List (Str×NameKind)} {i j:Int} {a b k idx:Nat} {p1 p2 p3 p4:Pos} {x:Str} {kk:Option Expr} {v:Expr} {ks:List (Option Expr)} {vs:List Expr} {r:List (List Int×Nat)} (hk:kk=some (.Tuple [.Constant (.int i) a p1,.Constant (.int j) b p2] k p3)) (hv:v = .Name x p4) (hx:aN names x=some (idx,.local)) (hd:(x==zO)=false) (hr:pV names ks vs r) :
  pV names (kk::ks) (v::vs) (([i,j],idx)::r):=fun C loc avs hn hl hv'=>by
 subst hk hv
 skip
 cases avs with
 | nil=>contradiction
 | cons av avs =>
  refine aA (hv' 0 _ rfl) fun v g1 g2=>?_
  simp only [List.getElem?_cons_zero,Option.some.injEq] at g1
  subst g1
  obtain⟨h1,h2⟩:=hr C loc avs hn (by simpa using hl) fun i k hk=>by
   refine aA (hv' (i+1) k (by exact hk)) fun v h3 h4=>?_
   exact⟨v,by simpa using h3,h4⟩
  exact⟨by simp [h1],.cons (by refine hn▸?_;exact bh hx) hd g2 h2⟩
noncomputable def pairOf (o:Option Expr):Option {q:(Int×Int)×(Nat×Nat×Nat)×(Pos×Pos×Pos) // o=some (.Tuple [.Constant (.int q.1.1) q.2.1.1 q.2.2.1,.Constant (.int q.1.2) q.2.1.2.1 q.2.2.2.1] q.2.1.2.2 q.2.2.2.2)}:=match o with
 | some e=>(match e with
  | .Tuple es k p=>(match es with
   | [x,y]=>(match x with
    | .Constant c a p1=>(match c with
     | .int i=>(match y with
      | .Constant d b p2=>(match d with
       | .int j=>some ⟨((i,j),(a,b,k),(p1,p2,p)),rfl⟩
       | _=>none)
      | _=>none)
     | _=>none)
    | _=>none)
   | _=>none)
  | _=>none)
 | none=>none
noncomputable def nameOf (e:Expr):Option {q:Str×Pos // e = .Name q.1 q.2}:=match e with
 | .Name x p=>some ⟨(x,p),rfl⟩
 | _=>none
noncomputable def rX (names:List (Str×NameKind)) (x:Str):Option {i:Nat // aN names x=some (i,.local)}:=(cert (aN names x)).bind fun q=>match q with
 | ⟨(i,.local),h⟩=>some ⟨i,h⟩
 | _=>none
noncomputable def Ax (names:List (Str×NameKind)) (x:Str):Option {i:Nat // aN names x=some (i,.globalImplicit)}:=(cert (aN names x)).bind fun q=>match q with
 | ⟨(i,.globalImplicit),h⟩=>some ⟨i,h⟩
 | _=>none
noncomputable def Rt (names:List (Str×NameKind)):(ks:List (Option Expr))->(vs:List Expr)->Option {aF:List (List Int×Nat) // pV names ks vs aF}
 | [],[]=>some ⟨[],An⟩
 | k::ks,v::vs=>(pairOf k).bind fun q=>(nameOf v).bind fun x=>if hd:(x.1.1==zO)=false then (rX names x.1.1).bind fun idx=>(Rt names ks vs).bind fun r =>
   some ⟨([q.1.1.1,q.1.1.2],idx.1)::r.1,wu q.2 x.2 idx.2 hd r.2⟩ else none
 | _,_=>none
noncomputable def Qi (o:Expr) (x:Str):Option BM :=
 if x == "append" then (match o with | .Attribute _ y _=>if y == "full" then some .eF else some .append | _=>some .append)
 else if x == "add" then some .add else if x == "get" then some .get else if x == "bit_length" then some .bits else none
noncomputable def oP (names:List (Str×NameKind)) (sc:Scope):Bool :=
 sc.kind == .function&&decide ((sc.names.map (·.1)).Nodup)&&sc.names.all (fun x=>x.2 != .cell)&&sc.names.all (fun x=>x.2 != .free||((aN names x.1).any fun p=>p.2 == .cell))
theorem n7 {names:List (Str×NameKind)} {sc:Scope} {t:Str} {i:Nat} (c:oP names sc=true) (h:aN sc.names t=some (i,.local)):fj names sc t i:=by
 unfold oP at c
 simp only [Bool.and_eq_true,decide_eq_true_eq,List.all_eq_true,bne_iff_ne,ne_eq,Bool.or_eq_true] at c
 refine bx c fun zp0 c4=>?_;refine bx zp0 fun zp0 c3=>?_;refine bx zp0 fun c1 c2=>?_
 refine⟨beq_iff_eq.mp c1,c2,fun x hx=>c3 x hx,fun x hx hf=>?_,h⟩
 have:=(c4 x hx).resolve_left (fun q=>q hf)
 cases q:aN names x.1 with
 | none=>replace this:=q▸this;contradiction
 | some p =>
  obtain⟨k,kd⟩:=p
  replace this:=q▸this
  skip
  exact⟨k,by exact (beq_iff_eq.mp this)▸rfl⟩
section
variable {P:Tp} {n:Nat}
noncomputable abbrev OE (P:Tp) (n:Nat) (tc:nz) (e:Expr):=Option {m:ME // aP P n tc e m}
noncomputable def So (tc:nz) (ok:dr P tc.G tc.nm) (x:Str) (p:Pos):OE P n tc (.Name x p) :=
 if hd:(x==zO)=false then (cert (aN tc.names x)).bind fun q=>(match q with
  | ⟨(i,k),h⟩=>(match k,h with
   | .local,h=>some ⟨.loc i,D9 hd h⟩
   | .cell,h=>some ⟨.loc i,yZ hd h⟩
   | .globalImplicit,h=>(cert (tc.G.lookup x)).bind fun g=>(match g with
    | ⟨.const k,hg⟩=>some ⟨.int k,snd_const ok hd h hg⟩
    | _=>none)
   | _,_=>none)) else none
variable (P n) in
structure Rec (k:Nat) where
 e:(tc:nz)->dr P tc.G tc.nm->(e:Expr)->OE P n tc e
 es:(tc:nz)->dr P tc.G tc.nm->(es:List Expr)->Option {m:nS // hV P n tc es m}
 t:(tc:nz)->dr P tc.G tc.nm->(e:Expr)->Option {m:MT // gv P n tc e m}
variable {k:Nat} (R:Rec P n k) (tc:nz) (ok:dr P tc.G tc.nm)
noncomputable def JK (f:Expr) (es:List Expr) (kw:List Keyword) (pos:Pos):OE P n tc (.Call f es kw pos):=match kw with
 | []=>(match f with
  | .Name x p=>if hd:(x==zO)=false then (if hs:es.all notStar=true then (Ax tc.names x).bind fun i=>(cert (tc.G.lookup x)).bind fun g=>(R.es tc ok es).bind fun as=>(match g with
   | ⟨.fn f,hg⟩=>some ⟨.fn f as.1,JC ok i.2 hd hg hs as.2⟩
   | ⟨.cls f,hg⟩=>some ⟨.cls f as.1,D4 ok i.2 hd hg hs as.2⟩
   | ⟨.blt f,hg⟩=>some ⟨.blt f as.1,D2 ok i.2 hd hg hs as.2⟩
   | _=>none) else none) else none
  | .Attribute o x apos=>if c1:eL o=true then (if c2:(apos.endLine==pos.line)=true then (if c3:es.all notStar=true then (if c4:es.length<30 then (R.e tc ok o).bind fun a=>(R.es tc ok es).bind fun as=>(match Qi o x with
   | some b=>if hx:x=b.nm then some ⟨.iY b a.1 as.1,vh c1 c2 c4 hx c3 a.2 as.2⟩ else none
   | none=>(cert (jB tc.nm x)).bind fun i=>some ⟨.aQ a.1 i.1 as.1,y3 ok c1 c2 c4 i.2 c3 a.2 as.2⟩) else none) else none) else none) else none
  | _=>none)
 | _::_=>none
noncomputable def O2 (v i:Expr) (pos:Pos):OE P n tc (.Subscript v i pos):=(R.e tc ok v).bind fun a=>match i with
 | .Slice lo up st p1=>(match st with
  | none=>(match lo with
   | none=>(match up with
    | some u=>(match u with
     | .Constant c cc q=>(match c with
      | .int j=>some ⟨.EB a.1 j,y5 a.2⟩
      | _=>none)
     | _=>none)
    | none=>none)
   | some l=>(match up with
    | none=>(match l with
     | .Constant c cc q=>(match c with
      | .int j=>some ⟨.Kt a.1 j,D6 a.2⟩
      | _=>none)
     | _=>none)
    | some _=>none))
  | some _=>none)
 | i=>if h:dj i=true then (R.e tc ok i).bind fun b=>some ⟨.sub a.1 b.1,Ec h a.2 b.2⟩ else none
noncomputable def JM (ks:List (Option Expr)) (vs:List Expr) (pos:Pos):OE P n tc (.Dict ks vs pos):=match ks with
 | []=>(match vs with
  | []=>some ⟨.az,vi⟩
  | _::_=>none)
 | k::ks=>if h:(k::ks).length≤15 then (Rt tc.names (k::ks) vs).bind fun aF=>some ⟨.aC aF.1,vj (List.cons_ne_nil _ _) h aF.2⟩ else none
noncomputable def JL (elt:Expr) (gs:List Comprehension) (sc:Scope) (pos:Pos):OE P n tc (.ListComp elt gs sc pos):=match gs with
 | [g]=>(match g with
  | ⟨t,iter,fs,asy⟩=>(match fs with
   | []=>if ha:asy=0 then (match t with
     | .Name x p=>if h1:eZ iter=true then (if h2:oP tc.names sc=true then (rX sc.names x).bind fun tgt=>(R.e tc ok iter).bind fun a=>(R.e { tc with names:=ju sc.names } ok elt).bind fun b =>
       some ⟨.comp (j2 tc.names sc.names) tgt.1 a.1 b.1,q0 ha (n7 h2 tgt.2) h1 a.2 b.2⟩ else none) else none
     | _=>none) else none
   | _::_=>none))
 | _=>none
noncomputable def Ra (e:Expr):OE P n tc e:=match e with
 | .Constant c _ _=>(match c with
  | .none=>some ⟨.none,y4⟩
  | .bool b=>some ⟨.bool b,yY⟩
  | .int i=>some ⟨.int i,D7⟩
  | _=>none)
 | .Name x p=>So tc ok x p
 | .Attribute o x _=>if hb:eL o=true then (R.e tc ok o).bind fun a=>(cert (jB tc.nm x)).bind fun i=>some ⟨.attr a.1 i.1,yX ok hb i.2 a.2⟩ else none
 | .Subscript v i p=>O2 R tc ok v i p
 | .BinOp l op r _=>(R.e tc ok l).bind fun a=>(R.e tc ok r).bind fun b=>some ⟨.bin op a.1 b.1,D1 a.2 b.2⟩
 | .UnaryOp op x _=>(match op with
  | .USub=>(R.e tc ok x).bind fun a=>some ⟨.neg a.1,Ea a.2⟩
  | _=>none)
 | .Compare l ops rs _=>(match ops with
  | [op]=>(match rs with
   | [r]=>if h:behindInMarks op r=false then (R.e tc ok l).bind fun a=>(R.e tc ok r).bind fun b=>some ⟨.cmp op a.1 b.1,D5 h a.2 b.2⟩ else none
   | _=>none)
  | _=>none)
 | .BoolOp op es _=>(match es with
  | [x,y]=>(R.e tc ok x).bind fun a=>(R.e tc ok y).bind fun b=>(match op with
   | .And=>some ⟨.and a.1 b.1,snd_and a.2 b.2⟩
   | .Or=>some ⟨.or a.1 b.1,JD a.2 b.2⟩)
  | _=>none)
 | .IfExp t x y _=>(R.t tc ok t).bind fun c=>(R.e tc ok x).bind fun a=>(R.e tc ok y).bind fun b=>some ⟨.ite c.1 a.1 b.1,D8 c.2 a.2 b.2⟩
 | .List es _=>if h:es.all notStar=true then (R.es tc ok es).bind fun as=>some ⟨.list as.1,y1 h as.2⟩ else none
 | .Tuple es _ _=>if h:es.all notStar=true then (R.es tc ok es).bind fun as=>some ⟨.tup as.1,Ed h as.2⟩ else none
 | .Dict ks vs p=>JM tc ks vs p
 | .Call f es kw p=>JK R tc ok f es kw p
 | .ListComp elt gs sc p=>JL R tc ok elt gs sc p
 | _=>none
noncomputable def O1 (es:List Expr):Option {m:nS // hV P n tc es m}:=match es with
 | []=>some ⟨.nil,Eb⟩
 | e::r=>(R.e tc ok e).bind fun a=>(R.es tc ok r).bind fun b=>some ⟨.cons a.1 b.1,y0 a.2 b.2⟩
noncomputable def Rc (e:Expr):Option {m:MT // gv P n tc e m}:=match e with
 | .UnaryOp op x _=>(match op with
  | .Not=>(R.t tc ok x).bind fun a=>some ⟨.not a.1,El a.2⟩
  | _=>none)
 | .BoolOp op es _=>(match es with
  | [x,y]=>(R.t tc ok x).bind fun a=>(R.t tc ok y).bind fun b=>(match op with
   | .And=>some ⟨.and a.1 b.1,Ej a.2 b.2⟩
   | .Or=>some ⟨.or a.1 b.1,zg a.2 b.2⟩)
  | [x,y,z]=>(match op with
   | .Or=>(R.t tc ok x).bind fun a=>(R.t tc ok y).bind fun b=>(R.t tc ok z).bind fun c=>some ⟨.or a.1 (.or b.1 c.1),Em a.2 b.2 c.2⟩
   | .And=>none)
  | _=>none)
 | .Compare l ops rs _=>(match ops with
  | [op]=>(match rs with
   | [r]=>if h:behindInMarks op r=false then (R.e tc ok l).bind fun a=>(R.e tc ok r).bind fun b=>some ⟨.cmp op a.1 b.1,Ek h a.2 b.2⟩ else none
   | _=>none)
  | [op,op']=>(match rs with
   | [r,r']=>if h:behindInMarks op' r'=false then (R.e tc ok l).bind fun a=>(R.e tc ok r).bind fun b=>(R.e tc ok r').bind fun c=>some ⟨.Aj op op' a.1 b.1 c.1,ze h a.2 b.2 c.2⟩ else none
   | _=>none)
  | _=>none)
 | _=>none
end
noncomputable def ud (P:Tp) (n:Nat):(k:Nat)->Rec P n k
 | 0=>⟨fun _ _ _=>none,fun _ _ _=>none,fun _ _ _=>none⟩
 | k+1=>⟨fun tc ok e=>Ra (ud P n k) tc ok e,fun tc ok es=>O1 (ud P n k) tc ok es,fun tc ok e=>Rc (ud P n k) tc ok e⟩
section
variable {P:Tp} {n:Nat}
variable (P n) in
structure J2 where
 s:(tc:nz)->dr P tc.G tc.nm->(st:Stmt)->Option {m:MS // ie P n tc st m}
 b:(tc:nz)->dr P tc.G tc.nm->(b:List Stmt)->Option {m:MB // kQ P n tc b m}
variable {k:Nat} (R:Rec P n k) (S:J2 P n) (tc:nz) (ok:dr P tc.G tc.nm)
noncomputable def QY (x:Str) (p:Pos) (i:Nat) (hx:fh tc.names x=some i) (elt:Expr) (gs:List Comprehension) (sc:Scope) (p' pos:Pos):Option {m:MS // ie P n tc (.Assign [.Name x p] (.ListComp elt gs sc p') pos) m}:=match gs with
 | [g]=>(match g with
  | ⟨t,iter,fs,asy⟩=>(match fs with
   | []=>if ha:asy=0 then (match t with
     | .Name y q=>if h1:eZ iter=true then (if h2:oP tc.names sc=true then (rX sc.names y).bind fun tgt=>(R.e tc ok iter).bind fun a=>(R.e { tc with names:=ju sc.names } ok elt).bind fun b =>
       some ⟨.asg i (.comp (j2 tc.names sc.names) tgt.1 a.1 b.1),y6 ha hx (n7 h2 tgt.2) h1 a.2 b.2⟩ else none) else none
     | _=>none) else none
   | _::_=>none))
 | _=>none
noncomputable def O0 (t e:Expr) (pos:Pos):Option {m:MS // ie P n tc (.Assign [t] e pos) m}:=match t with
 | .Name x p=>(cert (fh tc.names x)).bind fun i=>(match e with
  | .ListComp elt gs sc p'=>QY R tc ok x p i.1 i.2 elt gs sc p' pos
  | e=>if hc:bl e=true then (R.e tc ok e).bind fun a=>some ⟨.asg i.1 a.1,Ee i.2 hc a.2⟩ else none)
 | .Attribute o x _=>if hc:bl e=true then (cert (jB tc.nm x)).bind fun i=>(R.e tc ok e).bind fun a=>(R.e tc ok o).bind fun b=>some ⟨.aI b.1 i.1 a.1,zb ok i.2 hc a.2 b.2⟩ else none
 | .Subscript o i _=>if hc:bl e=true then (R.e tc ok o).bind fun b=>(R.e tc ok i).bind fun c=>(R.e tc ok e).bind fun a=>some ⟨.lz b.1 c.1 a.1,zc hc a.2 b.2 c.2⟩ else none
 | .Tuple ts _ _=>if hc:bl e=true then (cert (pN tc.names ts e)).bind fun s=>(cert (ni tc.names ts)).bind fun is=>(R.e tc ok e).bind fun a=>(match s with
  | ⟨none,hs⟩=>some ⟨.ry false is.1 a.1,Eh hc is.2 (fun env hk hn=>swap_eq hs hk hn) a.2⟩
  | ⟨some _,hs⟩=>some ⟨.ry true is.1 a.1,zd hc is.2 hs a.2⟩) else none
 | _=>none
noncomputable def Rb (st:Stmt):Option {m:MS // ie P n tc st m}:=match st with
 | .Expr e _=>if hc:bl e=true then (R.e tc ok e).bind fun a=>some ⟨.expr a.1,y8 hc a.2⟩ else none
 | .Return e _=>(match e with
  | some e=>(R.e tc ok e).bind fun a=>some ⟨.ret a.1,Eg a.2⟩
  | none=>none)
 | .Pass _=>some ⟨.pass,za⟩
 | .Raise .. => some ⟨.dead,y7⟩
 | .Assign ts e pos=>(match ts with
  | [t]=>O0 R tc ok t e pos
  | _=>none)
 | .If t a b _=>(R.t tc ok t).bind fun c=>(S.b tc ok a).bind fun x=>(S.b tc ok b).bind fun y=>some ⟨.ite c.1 x.1 y.1,Ef c.2 x.2 y.2⟩
 | .While t b o _=>(match o with
  | []=>(R.t tc ok t).bind fun c=>(S.b tc ok b).bind fun y=>some ⟨.EE c.1 y.1,Ei c.2 y.2⟩
  | _::_=>none)
 | .For t it b o _=>(match o with
  | []=>if hs:eZ it=true then (R.e tc ok it).bind fun a=>(S.b tc ok b).bind fun y=>(match t with
   | .Name x _=>(cert (fh tc.names x)).bind fun i=>some ⟨.fr [i.1] false a.1 y.1,y9 hs (.one i.2) a.2 y.2⟩
   | .Tuple ts _ _=>(cert (ni tc.names ts)).bind fun is=>some ⟨.fr is.1 true a.1 y.1,y9 hs (.tup is.2) a.2 y.2⟩
   | _=>none) else none
  | _::_=>none)
 | _=>none
noncomputable def QZ (b:List Stmt):Option {m:MB // kQ P n tc b m}:=match b with
 | []=>some ⟨.nil,D0⟩
 | s::r=>(S.s tc ok s).bind fun x=>(S.b tc ok r).bind fun y=>some ⟨.cons x.1 y.1,yW x.2 y.2⟩
end
noncomputable def sO (P:Tp) (n:Nat):Nat->J2 P n
 | 0=>⟨fun _ _ _=>none,fun _ _ _=>none⟩
 | k+1=>⟨fun tc ok st=>Rb (ud P n k) (sO P n k) tc ok st,fun tc ok b=>QZ (sO P n k) tc ok b⟩
noncomputable def bw (P:Tp) (n k:Nat) (tc:nz) (ok:dr P tc.G tc.nm) (b:List Stmt):Option MB:=((sO P n k).b tc ok b).map (·.1)
theorem lA {P:Tp} {n k:Nat} {tc:nz} {ok:dr P tc.G tc.nm} {b:List Stmt} {m:MB} (h:bw P n k tc ok b=some m):kQ P n tc b m:=by
 unfold bw at h
 rw [Option.map_eq_some_iff] at h
 obtain⟨q,_,rfl⟩:=h
 exact q.2
end
end Mine
end
section
open PySem PySem.W PySem.Calls PyProof.Rows
set_option Elab.async false
set_option genSizeOf false
set_option genInjectivity false
set_option maxRecDepth 100000
set_option autoImplicit false
set_option linter.unusedVariables false
namespace Mine
theorem sj {h:List NO} {i:Nat} {r:List Nat}:pick h (i::r)=match h[i]?,pick h r with | some o,some l=>some (o::l) | _,_=>none:=rfl
theorem yM {i:Nat} {a:Addr} {h:List NO} {j:Nat} {r:List Nat}:Mine.gS i a h (j::r)=Mine.gS i a (match h[j]? with | some o=>h.set j (Fd i a o) | none=>h) r:=rfl
theorem j8:∀ {s:List Nat} {h l:List NO},pick h s=some l->s.length=l.length
 | [],h,l,e=>by have e:=Option.some.inj e;subst e;rfl
 | i::r,h,l,e=>by
  replace e:=sj.symm.trans e
  split at e
  ·rename_i e1 e2;have e:=Option.some.inj e;subst e;simp only [List.length_cons,List.length_cons,j8 e2]
  ·contradiction
theorem fS:∀ {s:List Nat} {h l:List NO},pick h s=some l->∀ {i:Nat} {o:NO},l[i]?=some o->h[s.getD i 0]?=some o
 | [],h,l,e,i,o,k=>by have e:=Option.some.inj e;subst e;trivial
 | j::r,h,l,e,i,o,k=>by
  replace e:=sj.symm.trans e
  split at e
  ·rename_i e1 e2
   have e:=Option.some.inj e;subst e
   cases i with
   | zero=>simp only [List.getElem?_cons_zero,Option.some.injEq] at k;subst k;exact e1
   | succ i=>simp only [List.getElem?_cons_succ] at k;exact fS e2 k
  ·contradiction
theorem pz:∀ {s:List Nat} {h l:List NO},(ov h s l).length=h.length
 | [],_,l=>by cases l<;>rfl
 | _::_,_,[]=>by skip;rfl
 | i::r,h,o::l=>by refine (?_:(ov (h.set i o) r l).length=_);simp only [pz];simp
theorem pA:∀ {s:List Nat} {h l:List NO} {j:Nat},j ∉ s->(ov h s l)[j]?=h[j]?
 | [],_,l,_,_=>by cases l<;>rfl
 | _::_,_,[],_,_=>by skip;rfl
 | i::r,h,o::l,j,k=>by
  rw [List.mem_cons,not_or] at k
  refine (?_:(ov (h.set i o) r l)[j]?=_)
  rw [pA k.2,List.getElem?_set_ne (Ne.symm k.1)]
theorem E8:∀ {s:List Nat} {h l:List NO} {i:Nat} {o:NO},s.Nodup->i<s.length->l[i]?=some o->s.getD i 0<h.length->(ov h s l)[s.getD i 0]?=some o
 | [],_,_,_,_,_,hi,_,_=>by exact (Nat.not_lt_zero _ hi).elim
 | _::_,_,[],_,_,_,_,e,_=>by trivial
 | j::r,h,p::l,i,o,nd,hi,e,lt=>by
  rw [List.nodup_cons] at nd
  refine (?_:(ov (h.set j p) r l)[(j::r).getD i 0]?=_)
  cases i with
  | zero =>
   simp only [List.getElem?_cons_zero,Option.some.injEq] at e
   subst e
   refine (?_:(ov (h.set j p) r l)[j]?=_)
   rw [pA nd.1]
   exact List.getElem?_set_self lt
  | succ i =>
   simp only [List.getElem?_cons_succ] at e
   exact E8 nd.2 (by simpa using hi) e (by simpa using lt)
theorem getD_mem {s:List Nat} {i:Nat} (h:i<s.length):s.getD i 0∈s:=by
 rw [List.getD_eq_getElem?_getD,List.getElem?_eq_getElem h];exact List.getElem_mem h
theorem mem_getD {s:List Nat} {j:Nat} (h:j∈s):∃ i,i<s.length∧s.getD i 0=j:=by
 refine jg (List.getElem_of_mem h) fun i zq=>?_;skip;skip
 exact⟨i,zq.1,by rw [List.getD_eq_getElem?_getD,List.getElem?_eq_getElem zq.1];exact zq.2⟩
theorem getD_inj {s:List Nat} (nd:s.Nodup) {i j:Nat} (hi:i<s.length) (hj:j<s.length) (e:s.getD i 0=s.getD j 0):i=j:=by
 rw [List.getD_eq_getElem?_getD,List.getElem?_eq_getElem hi,List.getD_eq_getElem?_getD,List.getElem?_eq_getElem hj] at e
 exact (List.getElem_inj nd).mp e
section
variable {ρ ρ0:Nat->Addr} {n:Nat} {s:List Nat}
theorem yI {v:NV} {a:AV} (h:d8 ρ n (jk s v) a) (ok:v.okN s.length) (ag:∀ i,i<s.length->ρ0 i=ρ (s.getD i 0)):d8 ρ0 s.length v a:=by
 cases v with
 | id i =>
  cases h
  have o:i<s.length:=ok
  refine (ag i o).symm▸?_;exact .id o
 | none=>cases h;exact .none
 | bool=>cases h;exact .bool _
 | int=>cases h;exact .int _
 | bytes=>cases h;exact .bytes _
 | «at» => cases h;exact .at _
theorem yH {v:NV} {a:AV} (h:d8 ρ0 s.length v a) (ag:∀ i,i<s.length->ρ0 i=ρ (s.getD i 0)) (lt:∀ i,i<s.length->s.getD i 0<n):d8 ρ n (jk s v) a:=by
 cases h with
 | id hi=>rw [ag _ hi];exact .id (lt _ hi)
 | none=>exact .none
 | bool=>exact .bool _
 | int=>exact .int _
 | bytes=>exact .bytes _
 | «at» => exact .at _
theorem mZ (ag:∀ i,i<s.length->ρ0 i=ρ (s.getD i 0)):∀ {v:List NV} {a:List AV},aM ρ n (v.map (jk s)) a->(∀ x∈v,x.okN s.length)->aM ρ0 s.length v a
 | [],_,h,_=>by cases h;exact .nil
 | x::r,_,h,ok=>by
  cases h with
  | cons h1 h2=>exact .cons (yI h1 (ok x List.mem_cons_self) ag) (mZ ag h2 fun y hy=>ok y (List.mem_cons_of_mem _ hy))
theorem yK (ag:∀ i,i<s.length->ρ0 i=ρ (s.getD i 0)) (lt:∀ i,i<s.length->s.getD i 0<n) {v:List NV} {a:List AV} (h:aM ρ0 s.length v a):aM ρ n (v.map (jk s)) a:=by
 induction h with
 | nil=>exact .nil
 | cons h1 _ ih=>exact .cons (yH h1 ag lt) ih
theorem pI {κ:Type} (ag:∀ i,i<s.length->ρ0 i=ρ (s.getD i 0)):∀ {v:List (κ×NV)} {a:List (κ×AV)},iP ρ n (v.map fun p=>(p.1,jk s p.2)) a->(∀ x∈v,x.2.okN s.length)->iP ρ0 s.length v a
 | [],_,h,_=>by cases h;exact .nil
 | (k,x)::r,_,h,ok=>by
  cases h with
  | cons h1 h2=>exact .cons (yI h1 (ok _ List.mem_cons_self) ag) (pI ag h2 fun y hy=>ok y (List.mem_cons_of_mem _ hy))
theorem sD {κ:Type} (ag:∀ i,i<s.length->ρ0 i=ρ (s.getD i 0)) (lt:∀ i,i<s.length->s.getD i 0<n) {v:List (κ×NV)} {a:List (κ×AV)} (h:iP ρ0 s.length v a):iP ρ n (v.map fun p=>(p.1,jk s p.2)) a:=by
 induction h with
 | nil=>exact .nil
 | cons h1 _ ih=>exact .cons (yH h1 ag lt) ih
theorem Jr (ag:∀ i,i<s.length->ρ0 i=ρ (s.getD i 0)) {o:NO} {y:AO} (h:hU ρ n (lO s o) y) (ok:o.okN s.length):hU ρ0 s.length o y:=by
 cases o<;>cases h
 case list h=>exact .list (mZ ag h ok)
 case tup h=>exact .tup (mZ ag h ok)
 case inst h=>exact .inst (pI ag h ok)
 case aB=>exact .aB _
 case az h=>exact .az (pI ag h ok)
 case aC h=>exact .aC (pI ag h ok)
 case bg=>exact .bg _ _
 case range=>exact .range _ _ _
theorem Jq (ag:∀ i,i<s.length->ρ0 i=ρ (s.getD i 0)) (lt:∀ i,i<s.length->s.getD i 0<n) {o:NO} {y:AO} (h:hU ρ0 s.length o y):hU ρ n (lO s o) y:=by
 cases h with
 | list h=>exact .list (yK ag lt h)
 | tup h=>exact .tup (yK ag lt h)
 | inst h=>exact .inst (sD ag lt h)
 | aB b=>exact .aB b
 | az h=>exact .az (sD ag lt h)
 | aC h=>exact .aC (sD ag lt h)
 | bg S c=>exact .bg S c
 | range a b c=>exact .range a b c
theorem lj {o:NO}:lO s o ≠ .dead↔o ≠ .dead:=by cases o<;>first | exact Iff.rfl | exact⟨fun _=>nofun,fun _=>nofun⟩
end
section
variable {P:Tp} {ρ:Nat->Addr} {σ:NS} {hp:Hp} {l:List (Option AV)}
theorem Mt.part {s:List Nat} {H h:List NO} {fz:Hp} (m:Mt ρ h fz hp) (nd:s.Nodup) (pk:pick h s=some (H.map (lO s))) (ok:∀ o∈H,o.okN H.length):Mt (fun i=>ρ (s.getD i 0)) H fz hp:=by
 have hl:s.length=H.length:=by have:=j8 pk;simpa using this
 have up:∀ i,Lv H i->Lv h (s.getD i 0):=fun i ⟨x,e,k⟩=>⟨lO s x,fS pk (by rw [List.getElem?_map,e];rfl),lj.mpr k⟩
 refine⟨m.f,fun i x e k=>?_,fun i j hi hj e=>?_,fun i hi=>m.d _ (up i hi),m.p⟩
 ·refine aA (m.o _ _ (fS (i:=i) pk (by rw [List.getElem?_map,e];rfl)) (lj.mpr k)) fun y h1 h2=>?_
  refine⟨y,h1,?_⟩
  rw [← hl]
  exact Jr (fun _ _=>rfl) h2 (by rw [hl];exact ok x (List.mem_of_getElem? e))
 ·exact getD_inj nd (by simp only [hl];exact hi.lt) (by simp only [hl];exact hj.lt) (m.i _ _ (up i hi) (up j hj) e)
end
theorem sF {ρ:Nat->Addr} {m i:Nat} {v:NV} {x:AV} (h:d8 ρ m v x):d8 ρ m (rp i (ρ i) v) x:=by
 cases h with
 | @id j hj =>
  unfold rp
  dsimp only
  by_cases e:j=i
  ·subst e;rw [if_pos rfl];exact .at _
  ·rw [if_neg e];exact .id hj
 | none=>exact .none
 | bool=>exact .bool _
 | int=>exact .int _
 | bytes=>exact .bytes _
 | «at» => exact .at _
theorem ki {ρ:Nat->Addr} {m i:Nat} {v:List NV} {x:List AV} (h:aM ρ m v x):aM ρ m (v.map (rp i (ρ i))) x:=by
 induction h with
 | nil=>exact .nil
 | cons h1 _ ih=>exact .cons (sF h1) ih
theorem t4 {κ:Type} {ρ:Nat->Addr} {m i:Nat} {v:List (κ×NV)} {x:List (κ×AV)} (h:iP ρ m v x):iP ρ m (v.map fun p=>(p.1,rp i (ρ i) p.2)) x:=by
 induction h with
 | nil=>exact .nil
 | cons h1 _ ih=>exact .cons (sF h1) ih
theorem DD {ρ:Nat->Addr} {m i:Nat} {o:NO} {y:AO} (h:hU ρ m o y):hU ρ m (Fd i (ρ i) o) y:=by
 cases h with
 | list h=>exact .list (ki h)
 | tup h=>exact .tup (ki h)
 | inst h=>exact .inst (t4 h)
 | aB b=>exact .aB b
 | az h=>exact .az (t4 h)
 | aC h=>exact .aC h
 | bg S c=>exact .bg S c
 | range a b c=>exact .range a b c
theorem yN {i:Nat} {a:Addr} {o:NO}:Fd i a o ≠ .dead↔o ≠ .dead:=by cases o<;>first | exact Iff.rfl | exact⟨fun _=>nofun,fun _=>nofun⟩
theorem Mt.gS {ρ:Nat->Addr} {i:Nat} {fz hp:Hp}:∀ (js:List Nat) {h:List NO},Mt ρ h fz hp->Mt ρ (Mine.gS i (ρ i) h js) fz hp∧(Mine.gS i (ρ i) h js).length=h.length∧∀ j,Lv (Mine.gS i (ρ i) h js) j->Lv h j
 | [],h,m=>⟨m,rfl,fun _ x=>x⟩
 | j::r,h,m=>by
  rw [yM]
  split
  ·rename_i o e
   have hj:=(List.getElem?_eq_some_iff.mp e).1
   have lvc:∀ k,Lv (h.set j (Fd i (ρ i) o)) k->Lv h k:=fun k ⟨x,e',kk⟩=>by
    by_cases q:k=j
    ·subst q
     rw [List.getElem?_set_self hj] at e'
     have e':=Option.some.inj e';subst e'
     exact⟨o,e,yN.mp kk⟩
    ·rw [List.getElem?_set_ne (Ne.symm q)] at e';exact⟨x,e',kk⟩
   have m':Mt ρ (h.set j (Fd i (ρ i) o)) fz hp:=by
    refine⟨m.f,fun k x e' kk=>?_,fun a b ha hb z=>m.i a b (lvc a ha) (lvc b hb) z,fun k hk=>m.d k (lvc k hk),m.p⟩
    rw [List.length_set]
    by_cases q:k=j
    ·subst q
     rw [List.getElem?_set_self hj] at e'
     have e':=Option.some.inj e';subst e'
     refine aA (m.o k o e (yN.mp kk)) fun y h1 h2=>?_
     exact⟨y,h1,DD h2⟩
    ·rw [List.getElem?_set_ne (Ne.symm q)] at e'
     exact m.o k x e' kk
   obtain⟨h1,zq⟩:=Mt.gS r m';skip;have h3:=zq.2
   exact⟨h1,zq.1.trans (by simp),fun k hk=>lvc k (h3 k hk)⟩
  ·exact Mt.gS r m
theorem wX {κ:Type} {ρ:Nat->Addr} {m:Nat} {v:List (κ×NV)} {x:List (κ×AV)} (h:iP ρ m v x):aM ρ m (v.map (·.2)) (x.map (·.2))∧v.map (·.1)=x.map (·.1):=by
 induction h with
 | nil=>exact⟨.nil,rfl⟩
 | cons h1 _ ih=>exact⟨.cons h1 ih.1,by simp [ih.2]⟩
theorem pT {κ:Type} (x:List (κ×AV)):(x.map (·.1)).zip (x.map (·.2))=x:=by
 induction x with
 | nil=>rfl
 | cons p r ih=>simp [ih]
theorem zF {ρ:Nat->Addr} {m:Nat} {o:NO} {y ao:AO} (h:hU ρ m o y) (e:ru o=some ao):y=ao:=by
 cases h with
 | list h =>
  refine aA (Option.map_eq_some_iff.mp (e:Option.map _ (cJ _)=some ao)) fun q e1 zp2=>?_;subst zp2
  exact congrArg _ (dI h e1)
 | tup h =>
  refine aA (Option.map_eq_some_iff.mp (e:Option.map _ (cJ _)=some ao)) fun q e1 zp2=>?_;subst zp2
  exact congrArg _ (dI h e1)
 | inst h =>
  refine aA (Option.map_eq_some_iff.mp (e:Option.map _ (cJ _)=some ao)) fun q e1 zp2=>?_;subst zp2
  obtain⟨h1,h2⟩:=wX h
  simp only [← dI h1 e1,h2,pT]
 | az h =>
  refine aA (Option.map_eq_some_iff.mp (e:Option.map _ (cJ _)=some ao)) fun q e1 zp2=>?_;subst zp2
  obtain⟨h1,h2⟩:=wX h
  simp only [← dI h1 e1,h2,pT]
 | aB b=>have e:=Option.some.inj e;subst e;rfl
 | aC h=>contradiction
 | bg S c=>contradiction
 | range a b c=>contradiction
theorem Mt.kO {ρ:Nat->Addr} {h:List NO} {fz hp:Hp} (m:Mt ρ h fz hp) {i:Nat} {o:NO} {ao:AO} (ho:h[i]?=some o) (ha:ru o=some ao) :
  Mt ρ (h.set i .dead) (fz.set (ρ i) ao) hp∧ak fz (fz.set (ρ i) ao)∧Tr ρ h fz hp ρ (h.set i .dead) (fz.set (ρ i) ao) hp∧i<h.length:=by
 have Kx:o ≠ .dead:=by intro q;subst q;contradiction
 have hi:i<h.length:=(List.getElem?_eq_some_iff.mp ho).1
 have li:Lv h i:=⟨o,ho,Kx⟩
 refine aA (m.o i o ho Kx) fun y h1 h2=>?_
 cases zF h2 ha
 have lvc:∀ k,Lv (h.set i .dead) k->Lv h k∧k≠i:=fun k ⟨x,e',kk⟩=>by
  by_cases q:k=i
  ·subst q
   rw [List.getElem?_set_self hi] at e'
   have e':=Option.some.inj e';subst e'
   exact absurd rfl kk
  ·rw [List.getElem?_set_ne (Ne.symm q)] at e';exact⟨⟨x,e',kk⟩,q⟩
 refine⟨⟨fun a x e=>?_,fun k x e kk=>?_,fun a b ha hb z=>m.i a b (lvc a ha).1 (lvc b hb).1 z,fun k hk=>?_,Hp.qZ m.p⟩,ak.set (m.d i li),fun a x e k=>⟨e,fun zf=>aA zf fun j hj z=>k ⟨j,(lvc j hj).1,z⟩,Hp.aE _ _ fun z=>k ⟨i,li,z.symm⟩⟩,hi⟩
 ·by_cases q:a=ρ i
  ·subst q;rw [Hp.aG] at e;have e:=Option.some.inj e;subst e;exact h1
  ·rw [Hp.aE _ _ q] at e;exact m.f a x e
 ·rw [List.length_set]
  have q:k≠i:=by
   intro zr0;subst zr0
   replace e:=(List.getElem?_set_self hi)▸e
   have e:=Option.some.inj e;subst e;exact kk rfl
  rw [List.getElem?_set_ne (Ne.symm q)] at e
  exact m.o k x e kk
 ·rw [Hp.aE _ _ (fun q=>(lvc k hk).2 (m.i _ _ (lvc k hk).1 li q))]
  exact m.d k (lvc k hk).1
section
variable {P:Tp} {ρ:Nat->Addr} {σ:NS} {hp:Hp} {l:List (Option AV)}
theorem En {k:Nat} {f:Addr} {vs:List NV} {Q:NV->NS->Prop} {as:List AV} {R:AV->Hp->Prop} (h:dK P k f Q vs σ) (r:Rl ρ σ l hp) (hv:aM ρ σ.h.length vs as)
  (kk:∀ v a ρ' σ' hp',gm ρ σ hp ρ' σ' hp'->d8 ρ' σ'.h.length v a->Q v σ'->R a hp'):cq P k f as R hp:=by
 induction h with
 | kO i js o ao ho ha _ ih =>
  refine vv (r.m.kO ho ha) fun m1 le JI hi=>?_
  refine md (m1.gS (i:=i) js) fun m2 l2 v2=>?_
  replace l2:=List.length_set▸l2
  refine ih (ρ i) _ le (Hp.aG _ _ _) ⟨m2,(congrArg (kP ρ · _ l) l2).mpr r.l⟩ ((congrArg (aM ρ · _ as) l2).mpr (ki hv)) fun v a ρ' σ' hp' E hv' q=>kk v a ρ' σ' hp' ⟨fun j hj=>E.ag j (l2.symm▸hj),l2▸E.ln,E.lc,JI.trans (Tr.trans (fun a x e k=>⟨e,fun zf=>aA zf fun j hj z=>k ⟨j,v2 j hj,z⟩,rfl⟩) E.tr),E.mt⟩ hv' q
 | Rx h' hl hh _ ih =>
  have lv:∀ i,Lv h' i->Lv _ i:=fun i ⟨x,e,k⟩=>⟨x,hh i x e k,k⟩
  have m:Mt ρ h' _ hp:=⟨r.m.f,fun i x e k=>aA (r.m.o i x (hh i x e k) k) fun y e1 e2=>⟨y,e1,e2.mono hl fun _ _=>rfl⟩,fun i j a b=>r.m.i i j (lv i a) (lv j b),fun i a=>r.m.d i (lv i a),r.m.p⟩
  refine ih ⟨m,⟨r.l.1,fun i v e=>aA (r.l.2 i v e) fun a e1 e2=>⟨a,e1,e2.mono hl fun _ _=>rfl⟩⟩⟩ (hv.mono hl fun _ _=>rfl) fun v a ρ' σ' hp' E hv' q=>kk v a ρ' σ' hp' ⟨fun j hj=>E.ag j (Nat.lt_of_lt_of_le hj hl),Nat.le_trans hl E.ln,E.lc,Tr.trans (fun a x e k=>⟨e,fun zf=>aA zf fun j hj z=>k ⟨j,lv j hj,z⟩,rfl⟩) E.tr,E.mt⟩ hv' q
 | @mk vs σ j s H vs0 S c hj nd pk ev fin =>
  subst ev
  have hl:s.length=H.length:=by have:=j8 pk;simpa using this
  have m0:=r.m.part nd pk fun o ho=>(c.px o ho).1
  have lt:∀ i,i<s.length->s.getD i 0<σ.h.length:=fun i hi=>by
   have hi':i<H.length:=by omega
   exact (List.getElem?_eq_some_iff.mp (fS (i:=i) pk (by rw [List.getElem?_map,List.getElem?_eq_getElem hi'];rfl))).1
  have lvs:∀ i,i<s.length->Lv σ.h (s.getD i 0):=fun i hi=>by
   have hi':i<H.length:=by omega
   refine⟨_,fS (i:=i) pk (by rw [List.getElem?_map,List.getElem?_eq_getElem hi'];rfl),lj.mpr (c.px _ (List.getElem_mem hi')).2⟩
  have hv0:aM (fun i=>ρ (s.getD i 0)) H.length vs0 as:=by
   rw [← hl];exact mZ (fun _ _=>rfl) hv (by refine hl▸?_;exact c.vx)
  refine ((c.call _ hp as m0 hv0).mono fun a hp' q=>?_).up hj
  obtain⟨ρ',v,H',fz',hl',ag,m',tr,hva,sp⟩:=q
  have ag':∀ i,i<s.length->ρ' i=ρ (s.getD i 0):=fun i hi=>ag i (by omega)
  have lv':∀ j,Lv (ov σ.h s (H'.map (lO s))) j->Lv σ.h j:=fun j ⟨x,e,k⟩=>by
   by_cases q:j∈s
   ·refine aA (mem_getD q) fun i hi zp2=>?_;subst zp2;exact lvs i hi
   ·rw [pA q] at e;exact⟨x,e,k⟩
  have at_:∀ i,i<s.length->∃ x,H'[i]?=some x∧(ov σ.h s (H'.map (lO s)))[s.getD i 0]?=some (lO s x):=fun i hi=>by
   have hi':i<H'.length:=by omega
   exact⟨_,List.getElem?_eq_getElem hi',E8 nd hi (by rw [List.getElem?_map,List.getElem?_eq_getElem hi'];rfl) (lt i hi)⟩
  have mt':Mt ρ (ov σ.h s (H'.map (lO s))) fz' hp':=by
   refine⟨m'.f,fun j x e k=>?_,fun i j hi hj e=>r.m.i i j (lv' i hi) (lv' j hj) e,fun j hj=>?_,m'.p⟩
   ·rw [pz]
    by_cases q:j∈s
    ·refine aA (mem_getD q) fun i hi zp2=>?_;subst zp2
     refine aA (at_ i hi) fun x' e1 e2=>?_
     replace e:=e2▸e;have e:=Option.some.inj e;subst e
     refine aA (m'.o i x' e1 (lj.mp k)) fun y h1 h2=>?_
     rw [ag' i hi] at h1
     exact⟨y,h1,Jq ag' lt (by refine hl▸hl'.symm▸?_;exact h2)⟩
    ·rw [pA q] at e
     refine aA (r.m.o j x e k) fun y h1 h2=>?_
     refine⟨y,(tr (ρ j) y h1 ?_).1,h2⟩
     intro zr0;refine aA zr0 fun i hi z=>?_
     have hi':i<s.length:=by rw [hl];exact hi.lt
     exact q (r.m.i _ _ (lvs i hi') ⟨x,e,k⟩ z▸getD_mem hi')
   ·by_cases q:j∈s
    ·refine aA (mem_getD q) fun i hi zp2=>?_;subst zp2
     refine aA (at_ i hi) fun x' e1 e2=>?_
     refine aA hj fun x e k=>?_
     replace e:=e2▸e;have e:=Option.some.inj e;subst e
     have:=m'.d i ⟨x',e1,lj.mp k⟩
     rwa [ag' i hi] at this
    ·have hj':=lv' j hj
     refine jg (r.m.lk hj') fun y h1=>?_
     rw [(tr (ρ j) y h1 ?_).2.2]
     ·exact r.m.d j hj'
     ·intro zr0;refine aA zr0 fun i hi z=>?_
      have hi':i<s.length:=by rw [hl];exact hi.lt
      exact q (r.m.i _ _ (lvs i hi') hj' z▸getD_mem hi')
  have trc:Tr ρ σ.h σ.fz hp ρ (ov σ.h s (H'.map (lO s))) fz' hp':=fun a o e k=>by
   skip
   refine md (tr a o e (fun zf=>aA zf fun i hi z=>k ⟨_,lvs i (by simp only [hl];exact hi.lt),z⟩)) fun h1 h2 h3=>?_
   exact⟨h1,fun zf=>aA zf fun j hj z=>k ⟨j,lv' j hj,z⟩,h3⟩
  have E:gm ρ σ hp ρ ⟨σ.loc,ov σ.h s (H'.map (lO s)),fz'⟩ hp':=⟨fun _ _=>rfl,by simp only [pz];exact Nat.le_refl _,rfl,trc,mt'⟩
  exact kk _ a ρ _ hp' E (yH (by refine hl▸?_;exact hva) ag' (fun i hi=>by simp only [pz];exact lt i hi)) (fin v H' fz' sp hl' (trc.le r.m))
noncomputable def vz (P:Tp) (T:FT):Prop:=∀ f np nl b,T f=some (np,nl,b)->∃ sc body pn G nm kk,∃ ok:dr P G nm,FnAt P.K f sc body pn∧(∀ n,bw P n kk ⟨sc.names,G,nm⟩ ok body=some b)∧pn.length=np∧sc.names.length=nl
theorem w3 {vs:List NV} {as:List AV} {n:Nat} (h:aM ρ n vs as) (nl:Nat):kP ρ n (vs.map some++List.replicate (nl-vs.length) none) (pa as nl):=by
 unfold pa
 refine⟨by simp [h.length],fun i v e=>?_⟩
 by_cases hi:i<vs.length
 ·rw [List.getElem?_append_left (by simpa using hi),List.getElem?_map] at e
  cases q:vs[i]? with
  | none=>replace e:=q▸e;contradiction
  | some w =>
   rw [q] at e
   simp only [Option.map_some,Option.some.injEq] at e
   subst e
   refine aA (h.get q) fun a h1 h2=>?_
   exact⟨a,by rw [List.getElem?_append_left (by simpa [← h.length] using hi),List.getElem?_map,h1];rfl,h2⟩
 ·rw [List.getElem?_append_right (by simpa using Nat.le_of_not_lt hi)] at e
  have:=List.mem_of_getElem? e
  rw [List.mem_replicate] at this
  exact nomatch this.2
theorem oy {n:Nat} {f:Addr} {sc:Scope} {body:List Stmt} {pn:List Str} {G:List (Str×GF)} {nm:List Str} {mb:MB} {cl:Addr->List NV->NS->(NV->NS->WT)->WT} {nl n₀:Nat} {vs:List NV} {as:List AV} {H:List NO} {fz:Hp} {Q:cY->NS->WT} {R:AV->Hp->Prop}
  (fa:FnAt P.K f sc body pn) (snd:kQ P n ⟨sc.names,G,nm⟩ body mb) (cok:lR P n cl) (hlen:vs.length=pn.length) (hnl:sc.names.length=nl) (m:Mt ρ H fz hp) (hv:aM ρ H.length vs as) (hn:n₀≤H.length)
  (h:den P (jr P cl n₀ mb ⟨vs.map some++List.replicate (nl-vs.length) none,H,fz⟩ Q))
  (k:∀ x a ρ' σ' hp',(∀ i,i<n₀->ρ' i=ρ i)->n₀≤σ'.h.length->Tr ρ H fz hp ρ' σ'.h σ'.fz hp'->Mt ρ' σ'.h σ'.fz hp'->d8 ρ' σ'.h.length (cY.val x) a->den P (Q x σ')->R a hp') (C:Cx) (Z:Led) (s:Shared) (eP:C.toTp=P) (hf:C.fn=true) (en:C.env.scope=sc) (okc:C.Ok (20*n+10)) (st:St C Z s ⟨pa as sc.names.length,hp⟩) :
  RW C.M C.A (execs body C.env) (LF C Z fun fl σ=>R fl.val σ.hp) s:=by
 subst hnl
 refine snd cl cok C Z s ρ _ hp _ n₀ _ _ ⟨eP,okc,by refine (?_:C.env.scope.names=_);exact congrArg _ en⟩ hf ⟨st,m,w3 hv _⟩ hn h fun fl s' nf ρ' σ' hp' l' f' st' E q=>?_
 have fin:∀ {fa:Fl},EG fl fa->d8 ρ' σ'.h.length nf.val fa.val->LF C Z (fun fl σ=>R fl.val σ.hp) fl s':=fun g1 g2=>⟨_,⟨l',hp'⟩,g1,st'.1,k nf _ ρ' σ' hp' E.ag E.ln E.tr st'.2.m g2 q⟩
 cases f' with
 | next=>exact fin .next .none
 | brk=>exact fin .brk .none
 | cont=>exact fin .cont .none
 | ret hv=>refine aA hv fun a h1 h2=>?_;exact fin (.ret h1) h2
theorem oz {n:Nat} {f:Addr} {sc:Scope} {body:List Stmt} {pn:List Str} {G:List (Str×GF)} {nm:List Str} {mb:MB} {cl:Addr->List NV->NS->(NV->NS->WT)->WT} {nl n₀:Nat} {vs:List NV} {as:List AV} {H:List NO} {fz:Hp} {Q:cY->NS->WT} {R:AV->Hp->Prop}
  (fa:FnAt P.K f sc body pn) (snd:kQ P n ⟨sc.names,G,nm⟩ body mb) (cok:lR P n cl) (hlen:vs.length=pn.length) (hnl:sc.names.length=nl) (m:Mt ρ H fz hp) (hv:aM ρ H.length vs as) (hn:n₀≤H.length)
  (h:den P (jr P cl n₀ mb ⟨vs.map some++List.replicate (nl-vs.length) none,H,fz⟩ Q))
  (k:∀ x a ρ' σ' hp',(∀ i,i<n₀->ρ' i=ρ i)->n₀≤σ'.h.length->Tr ρ H fz hp ρ' σ'.h σ'.fz hp'->Mt ρ' σ'.h σ'.fz hp'->d8 ρ' σ'.h.length (cY.val x) a->den P (Q x σ')->R a hp'):cq P (n+1) f as R hp :=
 ur fa (by exact hv.length.symm▸hlen▸rfl) (oy fa snd cok hlen hnl m hv hn h k)
theorem _root_.Mine.FnAt.le {K:Frag} {sc:Scope} {body:List Stmt} {pn:List Str} {f:Addr} (fa:FnAt K f sc body pn):pn.length≤sc.names.length:=by
 have:=congrArg List.length fa.par
 rw [List.length_take,List.length_map] at this
 exact this▸Nat.min_le_right _ _
theorem wd {T:FT} {k:Nat} {f:Addr} {vs:List NV} {σ:NS} {Q:NV->NS->WT}:lW P T (k+1) f vs σ Q=(T f).casesOn (.call (k+1) f vs σ Q) fun q=>q.casesOn fun np q=>q.casesOn fun nl b=>tx (Nat.beq vs.length np) (NS.casesOn σ fun lc0 h z=>rY nl vs fun lc=>jr P (lW P T k) h.length b ⟨lc,h,z⟩ fun fl σ'=>NS.casesOn σ' fun _ h z=>Q fl.val ⟨lc0,h,z⟩):=rfl
theorem we {T:FT} (ft:vz P T):∀ k:Nat,lR P k (lW P T k)
 | 0=>fun f vs σ Q ρ hp l as R h=>h.elim
 | k+1=>fun f vs σ Q ρ hp l as R h r hv kk=>by
  cases e:T f with
  | none=>rw [wd,e] at h;exact En h r hv kk
  | some q =>
   obtain⟨np,nl,b⟩:=q
   rw [wd,e] at h
   refine Rw (ft f np nl b e) fun sc body pn G nm kk' zp6=>?_;refine O9 zp6 fun trok fa tr e1 e2=>?_
   refine bx (fM h) fun hlen h=>?_
   have h:den P (rY nl vs fun lc=>jr P (lW P T k) σ.h.length b ⟨lc,σ.h,σ.fz⟩ fun fl σ'=>NS.casesOn σ' fun _ h z=>Q fl.val ⟨σ.loc,h,z⟩):=h
   rw [pb (((Nat.eq_of_beq_eq_true hlen).trans e1.symm)▸e2▸fa.le)] at h
   exact oz fa (lA (tr k)) (we ft k) ((Nat.eq_of_beq_eq_true hlen).trans e1.symm) e2 r.m hv (Nat.le_refl _) h fun x a ρ' σ' hp' ag ln tr' m' hx q=>kk x.val a ρ' ⟨σ.loc,σ'.h,σ'.fz⟩ hp' ⟨ag,ln,rfl,tr',m'⟩ hx q
theorem qg {T:FT} (ft:vz P T) {k:Nat} {f:Addr} {sc:Scope} {body:List Stmt} {pn:List Str} {G:List (Str×GF)} {nm:List Str} {mb:MB} {kk nl:Nat} {vs:List NV} {H:List NO} {fz:Hp} {S:NV->List NO->Hp->Prop}
  (trok:dr P G nm) (fa:FnAt P.K f sc body pn) (tr:bw P k kk ⟨sc.names,G,nm⟩ trok body=some mb) (hlen:vs.length=pn.length) (hnl:sc.names.length=nl) (vx:∀ v∈vs,v.okN H.length) (px:∀ o∈H,o.okN H.length∧o ≠ .dead)
  (h:den P (jr P (lW P T k) H.length mb ⟨vs.map some++List.replicate (nl-vs.length) none,H,fz⟩ fun fl σ' => .ok (Up H.length [fl.val] ⟨[],σ'.h,σ'.fz⟩ fun ws σ2=>∃ v,ws=[v]∧σ2.h.length=H.length∧S v σ2.h σ2.fz))):mj P (k+1) f vs H fz S:=by
 refine⟨fun ρ hp as m hv=>oz fa (lA tr) (we ft k) hlen hnl m hv (Nat.le_refl _) h fun x a ρ' σ' hp' ag ln tr' m' hx q=>?_,vx,px⟩
 refine uA (q ρ' [] hp' [a] ⟨m',Nat.le_refl _,fun i v e=>by trivial⟩ (.cons hx .nil)) fun ρ2 vs' σ2 ag2 ln2 QX rl vr zp8=>?_;refine jT zp8 fun v zp1 hl sp=>?_;subst zp1
 cases vr with
 | cons w _=>exact⟨ρ2,v,σ2.h,σ2.fz,hl,fun i hi=>(ag2 i hi).trans (ag i hi),rl.m,tr'.trans QX,by refine hl.symm▸?_;exact w,sp⟩
theorem mj.mono {k:Nat} {f:Addr} {vs:List NV} {H:List NO} {fz:Hp} {S S':NV->List NO->Hp->Prop} (c:mj P k f vs H fz S) (h:∀ v H' fz',S v H' fz'->S' v H' fz'):mj P k f vs H fz S' :=
 ⟨fun ρ hp as m hv=>(c.call ρ hp as m hv).mono fun a hp' ⟨ρ',v,H',fz',h1,h2,h3,h4,h5,h6⟩=>⟨ρ',v,H',fz',h1,h2,h3,h4,h5,h _ _ _ h6⟩,c.vx,c.px⟩
end
section
variable {n:Nat} {vs:List NV} {σ:NS} {Q:List NV->NS->Prop}
theorem Up.now (hn:n≤σ.h.length) (h:Q vs σ):Up n vs σ Q:=fun ρ l hp as r hv=>⟨ρ,vs,σ,fun _ _=>rfl,hn,.refl,r,hv,h⟩
noncomputable def lm:List (Option NV)->List (Option NV)->List (Option NV)
 | none::r,_::q=>none::lm r q
 | some _::r,x::q=>x::lm r q
 | _,_=>[]
theorem o9:∀ {t:List (Option NV)} {l:List (Option NV)} {g:NV->NV},lm t l=t.map (Option.map g)->t.length≤l.length∧∀ (i:Nat) (v:NV),t[i]?=some (some v)->l[i]?=some (some (g v))
 | [],l,g,_=>⟨Nat.zero_le _,fun i v e=>by simp at e⟩
 | none::r,[],g,h=>by cases h
 | some _::r,[],g,h=>by cases h
 | none::r,x::q,g,h=>by
  obtain⟨h1,h2⟩:=o9 (List.cons.inj (h:(none:Option NV)::lm r q=none::r.map (Option.map g))).2
  refine⟨Nat.succ_le_succ h1,fun i v e=>?_⟩
  cases i with
  | zero=>cases e
  | succ i=>exact h2 i v e
 | some w::r,x::q,g,h=>by
  skip
  obtain⟨h1,h2⟩:=o9 (List.cons.inj (h:x::lm r q=some (g w)::r.map (Option.map g))).2
  refine⟨Nat.succ_le_succ h1,fun i v e=>?_⟩
  cases i with
  | zero=>cases e;exact congrArg some (List.cons.inj (h:x::lm r q=some (g w)::r.map (Option.map g))).1
  | succ i=>exact h2 i v e
theorem Up.sel (s:List Nat) (vs':List NV) (σ':NS) (pre:s.take n=List.range n) (nd:s.Nodup) (pk:pick σ.h s=some (σ'.h.map (lO s))) (ev:vs=vs'.map (jk s)) (el:lm σ'.loc σ.loc=σ'.loc.map (Option.map (jk s))) (ef:σ'.fz=σ.fz)
  (vx:∀ v∈vs',v.okN σ'.h.length) (okl:∀ v,some v∈σ'.loc->v.okN σ'.h.length) (px:∀ o∈σ'.h,o.okN σ'.h.length) (h:Q vs' σ'):Up n vs σ Q:=fun ρ l hp as r hv=>by
 have hl:s.length=σ'.h.length:=by have:=j8 pk;simpa using this
 have hn:=by have:=congrArg List.length pre;simp only [List.length_take,List.length_range] at this;omega
 skip
 skip
 subst ev
 refine⟨fun i=>ρ (s.getD i 0),vs',σ',fun i hi=>?_,by omega,?_,⟨by rw [ef];exact (r.m.part nd pk px),?_⟩,?_,h⟩
 ·have e:(s.take n)[i]?=(List.range n)[i]?:=by rw [pre]
  rw [List.getElem?_take,if_pos hi,List.getElem?_range hi] at e
  dsimp only
  rw [List.getD_eq_getElem?_getD,e];rfl
 ·intro a o e k
  refine⟨e,fun zf=>aA zf fun i hi z=>k ?_,by rw [ef]⟩
  refine aA hi fun x e' k'=>?_
  exact⟨s.getD i 0,⟨lO s x,fS pk (by simp only [List.getElem?_map,e'];rfl),lj.mpr k'⟩,z⟩
 ·refine⟨Nat.le_trans (o9 el).1 r.l.1,fun i v e=>?_⟩
  refine aA (r.l.2 i _ ((o9 el).2 i v e)) fun a h1 h2=>?_
  refine⟨a,h1,?_⟩
  rw [← hl]
  exact yI h2 (by refine hl▸?_;exact okl v (List.mem_of_getElem? e)) fun _ _=>rfl
 ·rw [← hl]
  exact mZ (fun _ _=>rfl) hv (by refine hl▸?_;exact vx)
theorem Up.kO (i:Nat) (js:List Nat) {o:NO} {ao:AO} (ho:σ.h[i]?=some o) (ha:ru o=some ao)
  (h:∀ a fz',ak σ.fz fz'->fz' a=some ao->Up n (vs.map (rp i a)) ⟨σ.loc,gS i a (σ.h.set i .dead) js,fz'⟩ Q):Up n vs σ Q:=fun ρ l hp as r hv=>by
 refine vv (r.m.kO ho ha) fun m1 le JI hi=>?_
 refine md (m1.gS (i:=i) js) fun m2 l2 v2=>?_
 simp only [List.length_set] at l2
 refine uA (h (ρ i) _ le (Hp.aG _ _ _) ρ l hp as ⟨m2,by refine (?_:kP ρ (Mine.gS i (ρ i) (σ.h.set i .dead) js).length σ.loc l);rw [l2];exact r.l⟩ (by refine (?_:aM ρ (Mine.gS i (ρ i) (σ.h.set i .dead) js).length _ _);rw [l2];exact ki hv)) fun ρ' vs' σ' ag ln tr rl vr q=>?_
 exact⟨ρ',vs',σ',ag,ln,JI.trans (Tr.trans (fun a x e k=>⟨e,fun zf=>aA zf fun j hj z=>k ⟨j,v2 j hj,z⟩,rfl⟩) tr),rl,vr,q⟩
theorem Up.mono {Q':List NV->NS->Prop} (h:Up n vs σ Q) (k:∀ v s,Q v s->Q' v s):Up n vs σ Q':=fun ρ l hp as r hv =>
 uA (h ρ l hp as r hv) fun ρ' vs' σ' a b c d e f =>
 ⟨ρ',vs',σ',a,b,c,d,e,k _ _ f⟩
end
namespace WT
noncomputable abbrev f1 {α:Type}:α->Prop:=fun _=>False
noncomputable abbrev f2 {α β:Type}:α->β->Prop:=fun _ _=>False
noncomputable abbrev f3 {α β γ:Type}:α->β->γ->Prop:=fun _ _ _=>False
noncomputable abbrev f5 {α β γ δ ε:Type}:α->β->γ->δ->ε->Prop:=fun _ _ _ _ _=>False
noncomputable abbrev t5:Nat->Addr->List NV->NS->(NV->NS->WT)->WT:=fun _ _ _ _ _ => .no
noncomputable abbrev t3 {α β γ:Type}:α->β->γ->WT:=fun _ _ _ => .no
noncomputable def isOk (t:WT) (p:Prop):Prop:=WT.casesOn t False (fun q=>q=p) f2 f3 f2 f2 f3 f5
noncomputable def KD (t:WT) (p:Prop):Prop:=WT.casesOn t False f1 (fun q _=>q=p) f3 f2 f2 f3 f5
noncomputable def Gi (t:WT) (c:Bool):Prop:=WT.casesOn t False f1 f2 (fun d _ _=>d=c) f2 f2 f3 f5
noncomputable def Gk (t:WT) (o:Option AO):Prop:=WT.casesOn t False f1 f2 f3 (fun q _=>q=o) f2 f3 f5
noncomputable def Gj (t:WT) (o:Option NV):Prop:=WT.casesOn t False f1 f2 f3 f2 (fun q _=>q=o) f3 f5
noncomputable def KC (t:WT) (o:AO) (z:Hp):Prop:=WT.casesOn t False f1 f2 f3 f2 f2 (fun o' z' _=>(o',z')=(o,z)) f5
noncomputable def isCall (t:WT) (k:Nat) (f:Addr) (vs:List NV) (σ:NS):Prop:=WT.casesOn t False f1 f2 f3 f2 f2 f3 fun k' f' vs' σ' _=>(k',f',vs',σ')=(k,f,vs,σ)
noncomputable def nx (t:WT):WT:=WT.casesOn t .no dp (fun _ k=>k) t3 fR fR t3 t5
noncomputable def b1 (t:WT):WT:=WT.casesOn t .no dp fR (fun _ a _=>a) fR fR t3 t5
noncomputable def b2 (t:WT):WT:=WT.casesOn t .no dp fR (fun _ _ b=>b) fR fR t3 t5
noncomputable def lk (t:WT) (o:AO):WT:=WT.casesOn t .no dp fR t3 (fun _ k=>k o) fR t3 t5
noncomputable def it (t:WT) (x:NV):WT:=WT.casesOn t .no dp fR t3 fR (fun _ k=>k x) t3 t5
noncomputable def fk (t:WT) (a:Addr) (z:Hp):WT:=WT.casesOn t .no dp fR t3 fR fR (fun _ _ k=>k a z) t5
noncomputable def ck (t:WT) (v:NV) (σ:NS):WT:=WT.casesOn t .no dp fR t3 fR fR t3 fun _ _ _ _ Q=>Q v σ
variable {P:Tp} {t:WT} {p:Prop} {c:Bool}
theorem ec (e:t.isOk p) (h:p):den P t:=by cases t<;>first | exact e.elim | (exact Eq.mpr e h)
theorem w6 (e:t.KD p) (h:p) (k:den P t.nx):den P t:=by cases t<;>first | exact e.elim | exact⟨Eq.mpr e h,k⟩
theorem mT (e:t.Gi c) (h:c=true) (k:den P t.b1):den P t:=by cases t<;>first | exact e.elim | exact Br.t (Eq.trans e h) k
theorem mF (e:t.Gi c) (h:c=false) (k:den P t.b2):den P t:=by cases t<;>first | exact e.elim | exact Br.f (Eq.trans e h) k
theorem ey (e:t.Gi c) (h:c=true->den P t.b1) (k:c=false->den P t.b2):den P t:=by cases t<;>first | exact e.elim | exact .mk (fun x=>h (e▸x)) (fun x=>k (e▸x))
theorem tJ {o:Option AO} {x:AO} (e:t.Gk o) (h:o=some x) (k:den P (t.lk x)):den P t:=by cases t<;>first | exact e.elim | exact⟨x,Eq.trans e h,k⟩
theorem w4 {o:Option NV} {x:NV} (e:t.Gj o) (h:o=some x) (k:den P (t.it x)):den P t:=by cases t<;>first | exact e.elim | exact⟨x,Eq.trans e h,k⟩
theorem dq {o:AO} {z:Hp} (e:t.KC o z) (k:∀ a z',ak z z'->z' a=some o->den P (t.fk a z')):den P t:=by
 cases t<;>first | exact e.elim | (cases e;exact k)
end WT
section
variable {P:Tp}
noncomputable def Fin (n:Nat) (S:NV->List NO->Hp->Prop) (fl:cY) (σ:NS):Prop:=Up n [fl.val] ⟨[],σ.h,σ.fz⟩ fun ws σ2=>∃ v,ws=[v]∧σ2.h.length=n∧S v σ2.h σ2.fz
noncomputable def ez (n:Nat):NV->Bool
 | .id i=>Nat.blt i n
 | _=>true
noncomputable def mU (n:Nat):NO->Bool
 | .dead=>false
 | .list xs=>xs.all (ez n)
 | .tup xs=>xs.all (ez n)
 | .inst _ fs=>fs.all fun p=>ez n p.2
 | .az aF=>aF.all fun p=>ez n p.2
 | .aC aF=>aF.all fun p=>ez n p.2
 | _=>true
theorem bp {n:Nat}:∀ {v:NV},ez n v=true->v.okN n
 | .id i,h=>Nat.blt_eq.mp h
 | .none,_ | .bool _,_ | .int _,_ | .bytes _,_ | .at _,_=>trivial
theorem cG {n:Nat}:∀ {o:NO},mU n o=true->o.okN n∧o ≠ .dead
 | .list xs,h=>⟨fun x hx=>bp (List.all_eq_true.mp h x hx),nofun⟩
 | .tup xs,h=>⟨fun x hx=>bp (List.all_eq_true.mp h x hx),nofun⟩
 | .inst C fs,h=>⟨fun p hp=>bp (List.all_eq_true.mp h p hp),nofun⟩
 | .az aF,h=>⟨fun p hp=>bp (List.all_eq_true.mp h p hp),nofun⟩
 | .aC aF,h=>⟨fun p hp=>bp (List.all_eq_true.mp h p hp),nofun⟩
 | .aB _,_ | .bg _ _,_ | .range _ _ _,_=>⟨trivial,nofun⟩
noncomputable def aO (P:Tp) (k:Nat) (f:Addr) (vs:List NV) (H:List NO) (fz:Hp) (W:(NV->List NO->Hp->Prop)->Prop):Prop:=mj P k f vs H fz fun v H' fz'=>∀ R:NV->List NO->Hp->Prop,W R->R v H' fz'
theorem rK {T:FT} (ft:vz P T) (k:Nat) {f:Addr} {sc:Scope} {body:List Stmt} {pn:List Str} {G:List (Str×GF)} {nm:List Str} {mb:MB} {kk:Nat} {vs:List NV} {H:List NO} {fz:Hp} {S:NV->List NO->Hp->Prop} (nl n:Nat)
  (trok:dr P G nm) (fa:FnAt P.K f sc body pn) (tr:bw P k kk ⟨sc.names,G,nm⟩ trok body=some mb) (hlen:vs.length=pn.length) (hnl:sc.names.length=nl) (hn:H.length=n) (vx:∀ v∈vs,v.okN n) (px:∀ o∈H,o.okN n∧o ≠ .dead)
  (h:∀ Q:cY->NS->WT,(∀ fl σ,Fin n S fl σ->den P (Q fl σ))->den P (jr P (lW P T k) n mb ⟨vs.map some++List.replicate (nl-vs.length) none,H,fz⟩ Q)):mj P (k+1) f vs H fz S:=by
 subst hn
 exact qg ft trok fa tr hlen hnl vx px (h _ fun _ _ x=>x)
theorem aj {T:FT} (ft:vz P T) (k:Nat) {f:Addr} {sc:Scope} {body:List Stmt} {pn:List Str} {G:List (Str×GF)} {nm:List Str} {mb:MB} {kk:Nat} {vs:List NV} {H:List NO} {fz:Hp} {W:(NV->List NO->Hp->Prop)->Prop} (nl n:Nat) (loc:List (Option NV))
  (trok:dr P G nm) (fa:FnAt P.K f sc body pn) (tr:bw P k kk ⟨sc.names,G,nm⟩ trok body=some mb) (hlen:vs.length=pn.length) (hnl:sc.names.length=nl) (hn:H.length=n) (vx:vs.all (ez n)=true) (px:H.all (mU n)=true) (hloc:vs.map some++List.replicate (nl-vs.length) none=loc)
  (h:∀ Q:cY->NS->WT,(∀ fl σ,Fin n (fun v H fz=>∀ R:NV->List NO->Hp->Prop,W R->R v H fz) fl σ->den P (Q fl σ))->den P (jr P (lW P T k) n mb ⟨loc,H,fz⟩ Q)):aO P (k+1) f vs H fz W:=by
 subst hloc
 exact rK ft k nl n trok fa tr hlen hnl hn (fun v hv=>bp (List.all_eq_true.mp vx v hv)) (fun o ho=>cG (List.all_eq_true.mp px o ho)) h
end
noncomputable def w7 {α β γ:Type} (f:α->β):List α->(List β->γ)->γ
 | [],k=>k []
 | x::r,k=>w7 f r fun r'=>k (f x::r')
theorem pe {α β γ:Type} {f:α->β}:∀ {l:List α} {k:List β->γ},w7 f l k=k (l.map f)
 | [],k=>rfl
 | x::r,k=>pe (l:=r) (k:=fun r'=>k (f x::r'))
theorem yz {β:Type}:∀ {s:List Nat} {h l:List NO} {k:List NO->β},QL h s l k=k (ov h s l)
 | [],_,l,_=>by cases l<;>rfl
 | _::_,_,[],_=>rfl
 | i::s,h,o::l,k=>gU.trans (yz (s:=s))
theorem WT.aq {P:Tp} {t:WT} {k:Nat} {f:Addr} {vs:List NV} {σ:NS} (e:t.isCall k f vs σ) (j:Nat) (s:List Nat) (H:List NO) (vs0:List NV) {W:(NV->List NO->Hp->Prop)->Prop} (c:aO P j f vs0 H σ.fz W) (hj:j≤k) (hn:s.Nodup) (hp:pick σ.h s=some (H.map (lO s))) (hv:vs=vs0.map (jk s))
  (h:W fun v H' z=>den P (w7 (lO s) H' fun H2=>QL σ.h s H2 fun h=>t.ck (jk s v) ⟨σ.loc,h,z⟩)):den P t:=by
 cases t<;>first | exact e.elim | skip
 cases e
 exact .mk j s H vs0 _ c hj hn hp hv fun v H' z hS _ _=>by have:=hS _ h;rw [pe,yz] at this;exact this
noncomputable def Fc {β:Type} (i:Nat) (a:Addr):List NO->List Nat->(List NO->β)->β
 | h,[],k=>k h
 | h,j::r,k=>Option.casesOn h[j]? (Fc i a h r k) fun o=>l6 h j (Fd i a o) fun h'=>Fc i a h' r k
theorem NI {β:Type} {i:Nat} {a:Addr} {h:List NO} {j:Nat} {r:List Nat} {k:List NO->β}:Fc i a h (j::r) k=Option.casesOn h[j]? (Fc i a h r k) fun o=>l6 h j (Fd i a o) fun h'=>Fc i a h' r k:=rfl
theorem sE {β:Type} {i:Nat} {a:Addr}:∀ {js:List Nat} {h:List NO} {k:List NO->β},Fc i a h js k=k (gS i a h js)
 | [],h,k=>rfl
 | j::r,h,k=>by
  rw [NI,yM]
  cases h[j]? with
  | none=>exact sE
  | some o=>exact gU.trans sE
noncomputable def WT.zk (t:WT) (i:Nat) (js:List Nat) (a:Addr) (z:Hp):WT:=WT.casesOn t .no dp fR t3 fR fR t3 fun k f vs σ Q=>NS.casesOn σ fun lc h _=>l6 h i .dead fun h=>Fc i a h js fun h=>w7 (rp i a) vs fun vs => .call k f vs ⟨lc,h,z⟩ Q
theorem WT.bC {P:Tp} {t:WT} {k:Nat} {f:Addr} {vs:List NV} {σ:NS} (e:t.isCall k f vs σ) (i:Nat) (js:List Nat) {o:NO} {ao:AO} (ho:σ.h[i]?=some o) (ha:ru o=some ao) (h:∀ a z,ak σ.fz z->z a=some ao->den P (t.zk i js a z)):den P t:=by
 cases t<;>first | exact e.elim | skip
 cases e
 refine .kO i js o ao ho ha fun a z le ea=>?_
 have:=h a z le ea
 have:den P (l6 σ.h i .dead fun h=>Fc i a h js fun h=>w7 (rp i a) vs fun vs => .call k f vs ⟨σ.loc,h,z⟩ _):=this
 rw [gU,sE,pe] at this
 exact this
noncomputable def WT.zh (t:WT) (h':List NO):WT:=WT.casesOn t .no dp fR t3 fR fR t3 fun k f vs σ Q=>NS.casesOn σ fun lc _ z => .call k f vs ⟨lc,h',z⟩ Q
noncomputable def F8:List NO->List NO->Prop
 | [],_=>True
 | o::r,h=>(o = .dead∨h.head?=some o)∧F8 r h.tail
theorem tu:∀ {h' h:List NO},F8 h' h->∀ (i:Nat) x,h'[i]?=some x->x ≠ .dead->h[i]?=some x
 | o::r,h,g,0,x,e,k=>by cases e;rw [← List.head?_eq_getElem?];exact g.1.resolve_left k
 | o::r,h,g,i+1,x,e,k=>by
  have:=tu g.2 i x e k
  cases h with
  | nil=>contradiction
  | cons _ _=>exact this
theorem WT.pd {P:Tp} {t:WT} {k:Nat} {f:Addr} {vs:List NV} {σ:NS} (e:t.isCall k f vs σ) (h':List NO) (hl:Nat.ble σ.h.length h'.length=true) (hh:F8 h' σ.h) (h:den P (t.zh h')):den P t:=by
 cases t<;>first | exact e.elim | skip
 cases e
 exact .Rx h' (Nat.le_of_ble_eq_true hl) (tu hh) h
theorem Ez:∀ v:AV,sR (fv v)=some v
 | .none | .bool _ | .int _ | .bytes _ | .ref _=>rfl
theorem EA {v:NV} {r:List NV}:cJ (v::r)=(sR v).bind fun a=>(cJ r).map (a :: ·):=rfl
theorem jd:∀ xs:List AV,cJ (xs.map fv)=some xs
 | []=>rfl
 | x::r=>by rw [List.map_cons,EA,Ez,jd r];rfl
theorem aK (xs:List AV):ru (.list (xs.map fv))=some (.list xs):=by
 refine (?_:(cJ (xs.map fv)).map AO.list=_)
 rw [jd];rfl
section
variable {P:Tp} {n:Nat} {σ:NS} {Q:cY->NS->WT}
theorem Fin.now {S:NV->List NO->Hp->Prop} {fl:cY} (hl:σ.h.length=n) (h:S fl.val σ.h σ.fz):Fin n S fl σ:=Up.now (Nat.le_of_eq hl.symm) ⟨fl.val,rfl,hl,h⟩
theorem Fin.cut {S:NV->List NO->Hp->Prop} {fl:cY} (H:List NO) (hl:H.length=n) (pk:pick σ.h (List.range n)=some (H.map (lO (List.range n)))) (ev:fl.val=jk (List.range n) fl.val) (vx:fl.val.okN n) (px:∀ o∈H,o.okN n) (h:S fl.val H σ.fz):Fin n S fl σ :=
 Up.sel (List.range n) [fl.val] ⟨[],H,σ.fz⟩ (by simp) List.nodup_range pk (by rw [List.map_cons,← ev];rfl) rfl rfl (by intro v hv;rw [List.mem_singleton] at hv;subst hv;rw [hl];exact vx) (by intro v hv;contradiction) (by intro o ho;rw [hl];exact px o ho) ⟨_,rfl,hl,h⟩
theorem Fin.w {W:(NV->List NO->Hp->Prop)->Prop} {fl:cY} (hl:σ.h.length=n) (h:∀ R:NV->List NO->Hp->Prop,W R->R fl.val σ.h σ.fz):Fin n (fun v H fz=>∀ R:NV->List NO->Hp->Prop,W R->R v H fz) fl σ:=Fin.now hl h
theorem Fin.cw {W:(NV->List NO->Hp->Prop)->Prop} {fl:cY} (H:List NO) (hl:H.length=n) (pk:pick σ.h (List.range n)=some (H.map (lO (List.range n)))) (ev:fl.val=jk (List.range n) fl.val) (ok:(ez n fl.val&&H.all (mU n))=true) (h:∀ R:NV->List NO->Hp->Prop,W R->R fl.val H σ.fz) :
  Fin n (fun v H fz=>∀ R:NV->List NO->Hp->Prop,W R->R v H fz) fl σ :=
 Fin.cut H hl pk ev (bp (Bool.and_eq_true_iff.mp ok).1) (fun o ho=>(cG (List.all_eq_true.mp (Bool.and_eq_true_iff.mp ok).2 o ho)).1) h
theorem Fin.fr {W:(NV->List NO->Hp->Prop)->Prop} {fl:cY} (j:Nat) (xs:List AV) (H:List NO) (e:fl.val = .id j) (ho:σ.h[j]?=some (.list (xs.map fv))) (hl:H.length=n) (pk:pick (σ.h.set j .dead) (List.range n)=some (H.map (lO (List.range n)))) (ok:H.all (mU n)=true)
  (h:∀ a fz',ak σ.fz fz'->fz' a=some (.list xs)->∀ R:NV->List NO->Hp->Prop,W R->R (.at a) H fz'):Fin n (fun v H fz=>∀ R:NV->List NO->Hp->Prop,W R->R v H fz) fl σ:=by
 refine Up.kO j [] (σ:=⟨[],σ.h,σ.fz⟩) ho (aK xs) fun a fz' le ea=>?_
 rw [e,show [NV.id j].map (rp j a)=[.at a] by simp [rp]]
 refine Up.sel (List.range n) [.at a] ⟨[],H,fz'⟩ (by simp) List.nodup_range pk rfl rfl rfl (by intro v hv;rw [List.mem_singleton] at hv;subst hv;trivial) nofun (fun o ho=>hl.symm▸(cG (List.all_eq_true.mp ok o ho)).1) ⟨_,rfl,hl,h a fz' le ea⟩
theorem Up.self (hn:n≤σ.h.length) {τ:NS} (e:σ=τ):Up n [] σ fun _ σ'=>σ'=τ:=Up.now hn e
noncomputable def Qa {ι:Type} (S:ι->NS) (R:ι->Prop) (μ:ι->Nat) (m:Nat) (σ:NS):Prop:=∃ i,R i∧μ i=m∧σ=S i
structure Ri {ι:Type} (P:Tp) (n':Nat) (S:ι->NS) (R:ι->Prop) (μ:ι->Nat) (i:ι) (Q L:cY->NS->WT):Prop where
 nx:∀ j σ3,R j->μ j<μ i->Up n' [] σ3 (fun _ σ4=>σ4=S j)->den P (L .next σ3)
 ct:∀ j σ3,R j->μ j<μ i->Up n' [] σ3 (fun _ σ4=>σ4=S j)->den P (L .cont σ3)
 bk:∀ σ3,den P (Q .next σ3)->den P (L .brk σ3)
 rt:∀ a σ3,den P (Q (.ret a) σ3)->den P (L (.ret a) σ3)
theorem nt {ι:Type} {t:NS->(Bool->NS->WT)->WT} {b:Nat->NS->(cY->NS->WT)->WT} (n':Nat) (S:ι->NS) (R:ι->Prop) (μ:ι->Nat) (i₀:ι) (hR:R i₀) (hσ:Up n' [] σ fun _ σ'=>σ'=S i₀) (h1:n≤n')
  (step:∀ i,R i->∀ L:cY->NS->WT,Ri P n' S R μ i Q L->den P (t (S i) fun c σ2 => .br c (b n' σ2 L) (Q .next σ2))):vF P n t b σ Q:=by
 refine .mk n' (Qa S R μ) (μ i₀) h1 (hσ.mono fun _ s e=>⟨i₀,hR,rfl,e⟩) ?_
 intro m σ1 _ zr3;refine jT zr3 fun i hi zp2 zp3=>?_;subst zp2;subst zp3
 exact step i hi _ ⟨fun j σ3 hj hm up=>⟨μ j,hm,up.mono fun _ s e=>⟨j,hj,rfl,e⟩⟩,fun j σ3 hj hm up=>⟨μ j,hm,up.mono fun _ s e=>⟨j,hj,rfl,e⟩⟩,fun σ3 h=>h,fun a σ3 h=>h⟩
noncomputable def PM {ι:Type} (S:Nat->ι->NS) (R:Nat->ι->Prop) (k:Nat) (σ:NS):Prop:=∃ i,R k i∧σ=S k i
structure Rh {ι:Type} (P:Tp) (n':Nat) (S:Nat->ι->NS) (R:Nat->ι->Prop) (k:Nat) (Q L:cY->NS->WT):Prop where
 nx:∀ j σ3,R k j->Up n' [] σ3 (fun _ σ4=>σ4=S k j)->den P (L .next σ3)
 ct:∀ j σ3,R k j->Up n' [] σ3 (fun _ σ4=>σ4=S k j)->den P (L .cont σ3)
 bk:∀ σ3,den P (Q .next σ3)->den P (L .brk σ3)
 rt:∀ a σ3,den P (Q (.ret a) σ3)->den P (L (.ret a) σ3)
 up:∀ σ3,Up n' [] σ3 (fun _ σ4=>∃ j,R k j∧σ4=S k j)->den P (L .next σ3)
theorem me {ι:Type} {is:List Nat} {tup:Bool} {v:NV} {b:Nat->NS->(cY->NS->WT)->WT} {n' N:Nat} {item:Nat->NV} {Pr:NS->Prop} (hit:sU v σ n' N item Pr)
  (S:Nat->ι->NS) (R:Nat->ι->Prop) (hσ:Up n' [] σ fun _ σ'=>∃ i,R 0 i∧σ'=S 0 i) (h1:n≤n') (hpr:∀ k i,k≤N->R k i->Pr (S k i))
  (step:∀ k i,k<N->R k i->∀ L:cY->NS->WT,Rh P n' S R (k+1) Q L →
   den P (cond tup (look (item k) (S k i) fun o=>oTup o fun as=>tx (Nat.beq as.length is.length) (ib (S k i).loc is as fun lc=>b n' ⟨lc,(S k i).h,(S k i).fz⟩ L))
    (ib (S k i).loc is [item k] fun lc=>b n' ⟨lc,(S k i).h,(S k i).fz⟩ L)))
  (fin:∀ i,R N i->den P (Q .next (S N i))):zU P n is tup v b σ Q:=by
 refine .mk n' N item Pr (PM S R) h1 hit hσ ?_ ?_ ?_
 ·intro k σ2 hk zr3;refine aA zr3 fun i hi zp2=>?_;subst zp2;exact hpr k i hk hi
 ·intro k σ2 hk _ zr4;refine aA zr4 fun i hi zp2=>?_;subst zp2
  exact step k i hk hi _ ⟨fun j σ3 hj up=>up.mono fun _ s e=>⟨j,hj,e⟩,fun j σ3 hj up=>up.mono fun _ s e=>⟨j,hj,e⟩,fun σ3 h=>h,fun a σ3 h=>h,fun σ3 h=>h⟩
 ·intro σ2 _ zr2;refine aA zr2 fun i hi zp2=>?_;subst zp2;exact fin i hi
theorem bG {ι:Type} {is:List Nat} {tup:Bool} {v:NV} {b:Nat->NS->(cY->NS->WT)->WT} {n' N:Nat} {item:Nat->NV} {Pr:NS->Prop} (hit:sU v σ n' N item Pr)
  (S:Nat->ι->NS) (R:Nat->ι->Prop) (i₀:ι) (hR:R 0 i₀) (hσ:Up n' [] σ fun _ σ'=>σ'=S 0 i₀) (h1:n≤n') (hpr:∀ k i,k≤N->R k i->Pr (S k i))
  (step:∀ k i,k<N->R k i->∀ L:cY->NS->WT,Rh P n' S R (k+1) Q L →
   den P (cond tup (look (item k) (S k i) fun o=>oTup o fun as=>tx (Nat.beq as.length is.length) (ib (S k i).loc is as fun lc=>b n' ⟨lc,(S k i).h,(S k i).fz⟩ L))
    (ib (S k i).loc is [item k] fun lc=>b n' ⟨lc,(S k i).h,(S k i).fz⟩ L)))
  (fin:∀ i,R N i->den P (Q .next (S N i))):zU P n is tup v b σ Q:=me hit S R (hσ.mono fun _ s e=>⟨i₀,hR,e⟩) h1 hpr step fin
theorem qx {j n':Nat} {x y z:Int} {N:Nat} (hg:σ.h[j]?=some (.range x y z)) (hN:gQ x y z=N) (hx:near x) (hy:near y) (hz:z=1∨z = -1):sU (.id j) σ n' N (fun k => .int (x+k*z)) fun _=>True:=hN ▸ .range rfl hg hx hy hz
theorem eI {j n':Nat} {x y:Int} {N:Nat} (hg:σ.h[j]?=some (.range x y 1)) (hN:(y-x).toNat=N) (hx:near x) (hy:near y):sU (.id j) σ n' N (fun k => .int (x+k*1)) fun _=>True :=
 qx hg (by subst hN;rfl) hx hy (.inl rfl)
theorem dh:near 0:=⟨by decide,by decide⟩
theorem di {n:Nat} (h:n≤1000000):near (n:Int):=⟨(Int.ofNat_nonneg _),(Int.ofNat_le.mpr (by assumption))⟩
theorem j3 {j n':Nat} {xs:List NV} (hg:σ.h[j]?=some (.list xs)) (hl:xs.length≤1000000) (hj:j<n') (hok:∀ x∈xs,x.okN n'):sU (.id j) σ n' xs.length (fun k=>xs.getD k .none) fun σ'=>σ'.h[j]?=some (.list xs) := .list rfl hg hl hj hok
theorem jz {a:Addr} {n':Nat} {xs:List AV} (hg:σ.fz a=some (.list xs)) (hl:xs.length≤1000000):sU (.at a) σ n' xs.length (fun k=>fv (xs.getD k .none)) fun σ'=>ak σ.fz σ'.fz := .fz rfl hg hl
end
section
variable {P:Tp} {σ:NS} {Q:NV->NS->WT}
noncomputable def PJ {ι:Type} (Y:Nat->ι->List NV) (H:Nat->ι->List NO) (Z:Nat->ι->Hp) (R:Nat->ι->Prop) (k:Nat) (ys:List NV) (h:List NO) (fz:Hp):Prop:=∃ i,R k i∧ys=Y k i∧h=H k i∧fz=Z k i
theorem dw {ι:Type} {v:NV} {lc:List (Option NV)} {tgt N:Nat} {e:NS->(NV->NS->WT)->WT} {item:Nat->NV} {Pr:NS->Prop} (hit:sU v σ σ.h.length N item Pr)
  (Y:Nat->ι->List NV) (H:Nat->ι->List NO) (Z:Nat->ι->Hp) (R:Nat->ι->Prop) (i₀:ι) (hR:R 0 i₀) (hY:Y 0 i₀=[]) (hH:H 0 i₀=σ.h) (hZ:Z 0 i₀=σ.fz) (hN:N≤1000000) (hpr:∀ k i,k≤N->R k i->Pr ⟨σ.loc,H k i,Z k i⟩)
  (step:∀ k i,k<N->R k i->∀ L:NV->NS->WT,(∀ u σ2,Up σ.h.length (u::Y k i) ⟨[],σ2.h,σ2.fz⟩ (fun vs σ3=>∃ u' ys' j,vs=u'::ys'∧R (k+1) j∧ys'++[u']=Y (k+1) j∧σ3.h=H (k+1) j∧σ3.fz=Z (k+1) j)->den P (L u σ2)) →
   den P (e ⟨lc.set tgt (some (item k)),H k i,Z k i⟩ L))
  (fin:∀ i,R N i->(Y N i).length≤1000000∧den P (new (.list (Y N i)) ⟨σ.loc,H N i,Z N i⟩ Q)):sT P v lc tgt e σ Q:=by
 refine .mk N item Pr (PJ Y H Z R) hit hN ⟨i₀,hR,hY.symm,hH.symm,hZ.symm⟩ ?_ ?_
 ·intro k ys h fz hk _ zr6;refine O9 zr6 fun i hi zp2 zp3 zp4=>?_;subst zp2;subst zp3;subst zp4
  refine⟨hpr k i (Nat.le_of_lt hk) hi,step k i hk hi _ fun u σ2 up=>?_⟩
  refine up.mono ?_
  intro vs s zr2;refine Kr zr2 fun u' ys' j zp3 hj e1 e2 e3=>?_;subst zp3
  exact⟨u',ys',rfl,j,hj,e1,e2,e3⟩
 ·intro ys h fz _ zr4;refine O9 zr4 fun i hi zp2 zp3 zp4=>?_;subst zp2;subst zp3;subst zp4
  exact⟨hpr N i (Nat.le_refl _) hi,fin i hi⟩
end
end Mine
end
section
open PySem PySem.W PySem.Calls PyProof.Rows
set_option Elab.async false
set_option maxRecDepth 100000
set_option autoImplicit false
set_option linter.unusedVariables false
namespace Mine
namespace Hd
noncomputable abbrev pw:Program:=PySem.Challenge.pw_nt0574_01
noncomputable def B:List Stmt:=behindTheImports pw
noncomputable def tp (i:Nat):Stmt:=B.getD i (.Pass ⟨0,0,0,0⟩)
noncomputable def Ql (st:Stmt):List Stmt:=by
 cases st with
 | ClassDef _ _ _ b _ _ _ _ _ _ _=>exact b
 | _=>exact []
noncomputable def fdOf {α:Type} (st:Stmt) (d:α) (k:Str->Arguments->List Stmt->Scope->Pos->α):α:=by
 cases st with
 | FunctionDef n a b _ _ _ sc _ _ p=>exact k n a b sc p
 | _=>exact d
noncomputable def mb (i j:Nat):Stmt:=(Ql (tp i)).getD j (.Pass ⟨0,0,0,0⟩)
noncomputable def fd (st:Stmt) (qual:Str) (g:Addr) (d kd doc pm:Value) (an:Option Addr) (co ct:Value) (bi:Addr):FuncData:=fdOf st default fun n a b sc _ =>
 { name:=n,qualname:=qual,params:=a,body := .stmts b,scope:=sc,globals:=g,closure:=[],defaults:=d,kwdefaults:=kd,doc:=doc,pyModule:=pm,annotations:=an,code:=co,closureTuple:=ct,builtins:=bi }
noncomputable def cd (n:Str) (bs mro:List Value) (ns:Addr) (qn:Str) (hd:Bool) (sl:List Str) (sub:List Value) (ab:Bool) (co:Option Bool) (de:Bool):ClassData:=⟨n,bs,mro,ns,qn,hd,sl,sub,ab,co,de⟩
noncomputable def en (P:Params) (k:Str) (t:Tok) (v:Value):DictEntry:=⟨PyData.keyHash P k,.str k t,v⟩
noncomputable abbrev N:=BT.node
noncomputable abbrev E:=BT.nil
noncomputable def L (o:Obj):BT := .node o .nil .nil
noncomputable def Q0 (x0:Str) (x1:Tok) (x2:Str) (x3:Tok) (x4:Tok) (x5:Int) (x6:Int) (x7:Addr) (x8:Addr) (x9:Addr) (x10:Addr) (x11:Addr) (x12:Int) (x13:Tok):Obj:=⟨.type "code",none,.fields #[.str x0 x1,.str x2 x3,.str "/claim/cut.py" x4,.int x5 0,.int x6 0,.int 0 0,.int 0 0,.int 3 0,.ref x7,.bool true,.int 181 0,.ref x8,.none,.ref x9,.ref x10,.ref x11,.int x12 0,.int x5 0,.str "/claim/cut.py" x13],#[]⟩
noncomputable def Q1 (x0:Nat) (x1:Nat) (x2:Str) (x3:Str) (x4:Tok) (x5:Addr):Obj:=⟨.type "function",none,.func (fd (mb x0 x1) x2 3 .none .none .none (.str x3 x4) none (.ref x5) .none 0),#[]⟩
noncomputable def Q2 (x0:Nat) (x1:Nat) (x2:Str):Obj:=⟨.none,none,.func (fd (mb x0 x1) x2 0 .none .none .none .none none .none .none 0),#[]⟩
noncomputable def Q3 (x0:Str) (x1:Tok) (x2:Tok) (x3:Tok) (x4:Int) (x5:Addr) (x6:Addr) (x7:Int) (x8:Tok):Obj:=⟨.type "code",none,.fields #[.str x0 x1,.str x0 x2,.str "/claim/cut.py" x3,.int x4 0,.int 0 0,.int 0 0,.int 0 0,.int 0 0,.ref x5,.bool false,.int 181 0,.ref x6,.none,.none,.none,.none,.int x7 0,.int x4 0,.str "/claim/cut.py" x8],#[]⟩
noncomputable def Q4 (x0:Addr) (x1:Addr) (x2:Str) (x3:Tok):Obj:=⟨.type "frame",none,.plain,#[some (.ref x0),some (.ref 3),some (.ref x1),none,some (.str x2 x3),none,some (.ref 0)]⟩
noncomputable def Q5 (x0:Nat) (x1:Str) (x2:Str) (x3:Tok) (x4:Addr):Obj:=⟨.type "function",none,.func (fd (tp x0) x1 3 .none .none .none (.str x2 x3) none (.ref x4) .none 0),#[]⟩
noncomputable def Q6 (P:Params) (x0:Tok) (x1:Str) (x2:Tok) (x3:Tok) (x4:Int) (x5:Tok) (x6:Tok) (x7:Addr) (x8:Str) (x9:Tok) (x10:Addr) (x11:Str) (x12:Tok) (x13:Addr) (x14:Str) (x15:Tok) (x16:Addr) (x17:Tok) (x18:Addr) (x19:Tok) (x20:Addr) (x21:Tok) (x22:Addr) (x23:Tok):Obj:=⟨.type "dict",none,.dict #[en P "__module__" x0 (.str x1 x2),en P "__firstlineno__" x3 (.int x4 x5),en P "__init__" x6 (.ref x7),en P x8 x9 (.ref x10),en P x11 x12 (.ref x13),en P x14 x15 (.ref x16),en P "__static_attributes__" x17 (.ref x18),en P "__dict__" x19 (.ref x20),en P "__weakref__" x21 (.ref x22),en P "__doc__" x23 .none] 4,#[]⟩
noncomputable def Q7 (x0:Nat) (x1:Str):Obj:=⟨.none,none,.func (fd (tp x0) x1 0 .none .none .none .none none .none .none 0),#[]⟩
noncomputable def Q8 (P:Params) (x0:Tok) (x1:Str) (x2:Tok) (x3:Tok) (x4:Str) (x5:Tok) (x6:Tok) (x7:Int) (x8:Tok) (x9:Tok) (x10:Addr) (x11:Str) (x12:Tok) (x13:Addr) (x14:Str) (x15:Tok) (x16:Addr) (x17:Str) (x18:Tok) (x19:Addr) (x20:Tok) (x21:Addr):Obj:=⟨.type "dict",none,.dict #[en P "__module__" x0 (.str x1 x2),en P "__qualname__" x3 (.str x4 x5),en P "__firstlineno__" x6 (.int x7 x8),en P "__init__" x9 (.ref x10),en P x11 x12 (.ref x13),en P x14 x15 (.ref x16),en P x17 x18 (.ref x19),en P "__static_attributes__" x20 (.ref x21)] 8,#[]⟩
noncomputable def Q9 (x0:Str) (x1:Tok) (x2:Str) (x3:Tok) (x4:Str) (x5:Tok):Obj:=⟨.type "tuple",none,.seq #[.str x0 x1,.str x2 x3,.str x4 x5] 0,#[]⟩
noncomputable def EI (x0:Int) (x1:Addr) (x2:Int) (x3:Addr) (x4:Int) (x5:Addr) (x6:Int) (x7:Addr):Obj:=⟨.none,none,.fields #[.int x0 0,.int 4 0,.ref x1,.int x2 0,.int 4 0,.ref x3,.int x4 0,.int 4 0,.ref x5,.int x6 0,.int 4 0,.ref x7],#[]⟩
noncomputable def oB (x0:Addr):Obj:=⟨.type "super",none,.fields #[.ref x0,.ref x0,.ref x0],#[]⟩
noncomputable def nT (x0:Str) (x1:Tok) (x2:Str) (x3:Tok):Obj:=⟨.type "tuple",none,.seq #[.str x0 x1,.str x2 x3] 0,#[]⟩
noncomputable def oC (x0:Addr):Obj:=⟨.type "builtin_function_or_method",none,.fields #[.builtin "object.__init_subclass__",.ref x0],#[]⟩
noncomputable def sV (x0:Tok) (x1:Addr):Obj:=⟨.type "getset_descriptor",none,.fields #[.str "__weakref__" x0,.ref x1,.builtin "ExceptionGroup.__weakref__",.none],#[]⟩
noncomputable def uf (x0:Tok) (x1:Addr):Obj:=⟨.type "getset_descriptor",none,.fields #[.str "__dict__" x0,.ref x1,.builtin "function.__dict__",.builtin "function.__dict__#set"],#[]⟩
noncomputable def nC (x0:Str) (x1:Tok):Obj:=⟨.type "tuple",none,.seq #[.str x0 x1] 0,#[]⟩
noncomputable def vq (x0:Str) (x1:Tok) (x2:Str) (x3:Tok) (x4:Str) (x5:Tok) (x6:Str) (x7:Tok):Obj:=⟨.type "tuple",none,.seq #[.str x0 x1,.str x2 x3,.str x4 x5,.str x6 x7] 0,#[]⟩
noncomputable def J0 (P:Params) (x0:Tok) (x1:Tok) (x2:Str) (x3:Tok) (x4:Tok) (x5:Int) (x6:Tok) (x7:Tok) (x8:Addr):Obj:=⟨.type "dict",none,.dict #[en P "__module__" x0 (.str "pixelpress.errors" 194),en P "__qualname__" x1 (.str x2 x3),en P "__firstlineno__" x4 (.int x5 x6),en P "__static_attributes__" x7 (.ref x8)] 4,#[]⟩
noncomputable def J1 (P:Params) (x0:Tok) (x1:Tok) (x2:Int) (x3:Tok) (x4:Tok) (x5:Addr) (x6:Tok):Obj:=⟨.type "dict",none,.dict #[en P "__module__" x0 (.str "pixelpress.errors" 194),en P "__firstlineno__" x1 (.int x2 x3),en P "__static_attributes__" x4 (.ref x5),en P "__doc__" x6 .none] 2,#[]⟩
noncomputable def Y1 (a b:Obj):BT := .node a (.node b .nil .nil) .nil
noncomputable def Y2 (a b c:Obj):BT := .node a (.node b .nil .nil) (.node c .nil .nil)
theorem qG:topGo=PySem.W.Fast.tw15667345088766844465:=PySem.W.Fast.te15667345088766844465
theorem qS:segRun=PySem.W.Fast.tw14374325043358763698:=PySem.W.Fast.te14374325043358763698
theorem qT:segRunT=PySem.W.Fast.tw10110043849684766642:=PySem.W.Fast.te10110043849684766642
theorem qR:topRun=PySem.W.Fast.tw14082659384304107361:=PySem.W.Fast.te14082659384304107361
theorem qB:treeTable=PySem.W.Fast.tw14364793385576792824:=PySem.W.Fast.te14364793385576792824
theorem qD:denote=PySem.W.Fast.tw11892475500146522536:=PySem.W.Fast.te11892475500146522536
theorem wx {l:List Stmt} {n:Nat} (h:(l.drop n).isEmpty=true):l.drop n=[]:=List.isEmpty_iff.mp h
theorem jS (l:List Stmt) (a n:Nat):l.drop a=(l.drop a).take n++l.drop (a+n):=by
 rw [← List.drop_drop,List.take_append_drop]
noncomputable def mN:Env:={ scope:=pw.main.scope,locals:=mainNs,globals:=mainNs,cells:=[],code:=(.ref 13),frame:=some 14 }
noncomputable def cE:Code := .body B mN
noncomputable abbrev m0:Nat:=11
noncomputable abbrev rC:Option Value:=some (.ref 6)
noncomputable abbrev fq:Pos:=⟨0,0,0,0⟩
noncomputable def aa:Obj:=⟨.type "tuple",none,.seq #[] 0,#[]⟩
noncomputable def aw:Obj:=⟨.none,none,.fields #[],#[]⟩
noncomputable def Gy:Obj:=Q3 "<module>" 182 183 184 1 11 12 185 186
noncomputable def Gz:Obj:=Q4 13 3 "__main__" 164
noncomputable def Ha (P:Params):Heap:=⟨#[(boot_o_0 P),(boot_o_1 P),(boot_o_2 P),(boot_o_3 P),(boot_o_4 P),(boot_o_5 P),(boot_o_6 P),(boot_o_7 P),(boot_o_8 P),(boot_o_9 P),(boot_o_10 P),aa,aw,Gy,Gz],⟨[],[],[],0,[],[],false,#[],[],0,false,false,false,0,[2000,10,10],false,0,true,[],[],0,false⟩⟩
noncomputable def Sa (w:World) (os:OsState):Shared:=⟨Ha w.params,#[],⟨0,0,0,0⟩,187,os⟩
theorem ND (w:World):(fun os=>topGo treeTable pw w m0 rC 12 ⟨boot_heap w.params,#[],boot_drawn,boot_toks,os⟩ (topStub pw))=fun os=>some (Sa w os,⟨denote treeTable cE,cE,⟨0,0,0,0⟩,[topFrame fq]⟩):=by rewrite [qG,qB,qD];kernel_rfl
noncomputable def OZ (P:Params):BT:=N (boot_o_0 P) (N (boot_o_1 P) (Y2 (boot_o_3 P) (boot_o_7 P) aa) (Y2 (boot_o_5 P) (boot_o_9 P) Gy)) (N (boot_o_2 P) (Y2 (boot_o_4 P) (boot_o_8 P) aw) (Y2 (boot_o_6 P) (boot_o_10 P) Gz))
noncomputable def S0 (w:World) (os:OsState):SharedT:=⟨OZ w.params,15,⟨[],[],[],0,[],[],false,#[],[],0,false,false,false,0,[2000,10,10],false,0,true,[],[],0,false⟩,#[],⟨0,0,0,0⟩,187,os⟩
theorem Dr (w:World):(fun os=>segRun treeTable pw w m0 rC 1 1 (Sa w os) (blockOf B mN cE ⟨0,0,0,0⟩ [topFrame fq]))=fun os=>some (.next,(S0 w os).abs,cE,⟨0,0,0,0⟩):=by rewrite [qS,qB];kernel_rfl
noncomputable def o2 (P:Params):Obj:=⟨.none,none,.dict #[en P "type.__subclasses__.Exception.0" 221 (.int 38 0),en P "type.__subclasses__.Exception.n" 222 (.int 1 0)] 2,#[]⟩
noncomputable def o3 (P:Params):Obj:=⟨.type "dict",none,.dict #[en P "__name__" 165 (.str "pixelpress.progressive_ac" 440),en P "__doc__" 166 .none,en P "__package__" 167 .none,en P "__loader__" 168 (.builtin "__main__.__loader__#opaque"),en P "__spec__" 169 .none,en P "__annotations__" 170 (.ref 6),en P "__builtins__" 171 (.ref 4),en P "__file__" 173 (.str "/claim/cut.py" 172),en P "__cached__" 174 .none,en P "_wall" 193 (.ref 21),en P "PressError" 224 (.ref 38),en P "TableError" 240 (.ref 51),en P "ScanError" 256 (.ref 63),en P "CodeError" 272 (.ref 75),en P "CutError" 288 (.ref 87),en P "RangeError" 304 (.ref 99),en P "BitWriter" 359 (.ref 139),en P "BitReader" 414 (.ref 181),en P "category" 423 (.ref 192),en P "bits_of" 431 (.ref 199),en P "value_of" 439 (.ref 206),en P "SIXTEEN_ZEROS" 443 (.int 240 442),en P "MOST_RUN" 445 (.int 32767 444),en P "MOST_CATEGORY_progressive_ac" 447 (.int 15 446),en P "run_code" 455 (.ref 213),en P "shrunk_size" 463 (.ref 220)] 26,#[]⟩
noncomputable def K4:Obj:=⟨.none,none,.fields #[.int 1 0,.int 0 0,.ref 20,.int 5 0,.int 0 0,.ref 27,.int 10 0,.int 0 0,.ref 47,.int 12 0,.int 0 0,.ref 59,.int 14 0,.int 0 0,.ref 71,.int 16 0,.int 0 0,.ref 83,.int 18 0,.int 0 0,.ref 95,.int 21 0,.int 0 0,.ref 107,.int 44 0,.int 0 0,.ref 149,.int 68 0,.int 0 0,.ref 191,.int 70 0,.int 0 0,.ref 198,.int 74 0,.int 0 0,.ref 205,.int 82 0,.int 0 0,.ref 212,.int 85 0,.int 0 0,.ref 219],#[]⟩
noncomputable def K7:Obj:=nC "k" 190
noncomputable def K8:Obj:=Q7 0 "_wall"
noncomputable def K9:Obj:=Q0 "_wall" 187 "_wall" 188 189 1 1 15 16 17 18 19 191 192
noncomputable def La:Obj:=Q5 0 "_wall" "__main__" 164 20
noncomputable def Lb:Obj:=⟨.type "tuple",none,.seq #[.type "Exception"] 0,#[]⟩
noncomputable def bV:Obj:=⟨.type "builtin_function_or_method",none,.fields #[.builtin "type.__prepare__",.type "type"],#[]⟩
noncomputable def Lc (P:Params):Obj:=⟨.type "dict",none,.dict #[en P "__module__" 203 (.str "pixelpress.errors" 194),en P "__qualname__" 205 (.str "PressError" 204),en P "__firstlineno__" 207 (.int 5 206),en P "__init__" 215 (.ref 35),en P "__static_attributes__" 217 (.ref 36)] 5,#[]⟩
noncomputable def Ld:Obj:=⟨.none,none,.fields #[.int 7 0,.int 4 0,.ref 34],#[]⟩
noncomputable def Lf:Obj:=Q3 "PressError" 198 199 200 5 25 26 201 202
noncomputable def Lg:Obj:=Q4 27 24 "pixelpress.errors" 194
noncomputable def Lh:Obj:=nT "self" 211 "message" 212
noncomputable def Lj:Obj:=Q2 2 0 "PressError.__init__"
noncomputable def Lk:Obj:=Q0 "__init__" 208 "PressError.__init__" 209 210 7 2 29 30 31 32 33 213 214
noncomputable def Ll:Obj:=Q1 2 0 "PressError.__init__" "pixelpress.errors" 194 34
noncomputable def Lm:Obj:=nC "message" 216
noncomputable def Ln (P:Params):Obj:=⟨.type "dict",none,.dict #[en P "__module__" 203 (.str "pixelpress.errors" 194),en P "__firstlineno__" 207 (.int 5 206),en P "__init__" 215 (.ref 35),en P "__static_attributes__" 217 (.ref 36),en P "__weakref__" 219 (.ref 39),en P "__doc__" 220 .none] 3,#[]⟩
noncomputable def Lo:Obj:=⟨.type "type",none,.cls (cd "PressError" [.type "Exception"] [.ref 38,.type "Exception",.type "BaseException",.type "object"] 37 "PressError" true [] [.ref 51,.ref 63,.ref 75,.ref 87,.ref 99] false none false),#[some (.ref 22),none,some (.str "PressError" 196),some (.str "PressError" 204),some (.builtin "Exception.__new__"),some (.bool true)]⟩
noncomputable def Lp:Obj:=sV 218 38
noncomputable def Lq:Obj:=oB 38
noncomputable def Ls:Obj:=oC 38
noncomputable def nA:Obj:=⟨.type "tuple",none,.seq #[.ref 38] 0,#[]⟩
noncomputable def Lu (P:Params):Obj:=J0 P 232 234 "TableError" 233 236 10 235 237 49
noncomputable def Lw:Obj:=Q3 "TableError" 227 228 229 10 45 46 230 231
noncomputable def Lx:Obj:=Q4 47 44 "pixelpress.errors" 194
noncomputable def LD (P:Params):Obj:=J1 P 232 236 10 235 237 49 238
noncomputable def LI:Obj:=⟨.type "type",none,.cls (cd "TableError" [.ref 38] [.ref 51,.ref 38,.type "Exception",.type "BaseException",.type "object"] 50 "TableError" true [] [] false none false),#[some (.ref 42),none,some (.str "TableError" 225),some (.str "TableError" 233),some (.builtin "Exception.__new__"),some (.bool true)]⟩
noncomputable def LN:Obj:=oB 51
noncomputable def LQ:Obj:=oC 51
noncomputable def L1 (P:Params):Obj:=J0 P 248 250 "ScanError" 249 252 12 251 253 61
noncomputable def Mc:Obj:=Q3 "ScanError" 243 244 245 12 57 58 246 247
noncomputable def Mf:Obj:=Q4 59 56 "pixelpress.errors" 194
noncomputable def Mi (P:Params):Obj:=J1 P 248 252 12 251 253 61 254
noncomputable def Pf:Obj:=⟨.type "type",none,.cls (cd "ScanError" [.ref 38] [.ref 63,.ref 38,.type "Exception",.type "BaseException",.type "object"] 62 "ScanError" true [] [] false none false),#[some (.ref 54),none,some (.str "ScanError" 241),some (.str "ScanError" 249),some (.builtin "Exception.__new__"),some (.bool true)]⟩
noncomputable def Pg:Obj:=oB 63
noncomputable def Ph:Obj:=oC 63
noncomputable def Pj (P:Params):Obj:=J0 P 264 266 "CodeError" 265 268 14 267 269 73
noncomputable def Pk:Obj:=Q3 "CodeError" 259 260 261 14 69 70 262 263
noncomputable def Pl:Obj:=Q4 71 68 "pixelpress.errors" 194
noncomputable def Pm (P:Params):Obj:=J1 P 264 268 14 267 269 73 270
noncomputable def Pn:Obj:=⟨.type "type",none,.cls (cd "CodeError" [.ref 38] [.ref 75,.ref 38,.type "Exception",.type "BaseException",.type "object"] 74 "CodeError" true [] [] false none false),#[some (.ref 66),none,some (.str "CodeError" 257),some (.str "CodeError" 265),some (.builtin "Exception.__new__"),some (.bool true)]⟩
noncomputable def Po:Obj:=oB 75
noncomputable def Pp:Obj:=oC 75
noncomputable def Pq (P:Params):Obj:=J0 P 280 282 "CutError" 281 284 16 283 285 85
noncomputable def Pt:Obj:=Q3 "CutError" 275 276 277 16 81 82 278 279
noncomputable def Pu:Obj:=Q4 83 80 "pixelpress.errors" 194
noncomputable def Pw (P:Params):Obj:=J1 P 280 284 16 283 285 85 286
noncomputable def Px:Obj:=⟨.type "type",none,.cls (cd "CutError" [.ref 38] [.ref 87,.ref 38,.type "Exception",.type "BaseException",.type "object"] 86 "CutError" true [] [] false none false),#[some (.ref 78),none,some (.str "CutError" 273),some (.str "CutError" 281),some (.builtin "Exception.__new__"),some (.bool true)]⟩
noncomputable def Py:Obj:=oB 87
noncomputable def Pz:Obj:=oC 87
noncomputable def PA (P:Params):Obj:=J0 P 296 298 "RangeError" 297 300 18 299 301 97
noncomputable def Nu:Obj:=Q3 "RangeError" 291 292 293 18 93 94 294 295
noncomputable def Nv:Obj:=Q4 95 92 "pixelpress.errors" 194
noncomputable def Nw (P:Params):Obj:=J1 P 296 300 18 299 301 97 302
noncomputable def Nx:Obj:=⟨.type "type",none,.cls (cd "RangeError" [.ref 38] [.ref 99,.ref 38,.type "Exception",.type "BaseException",.type "object"] 98 "RangeError" true [] [] false none false),#[some (.ref 90),none,some (.str "RangeError" 289),some (.str "RangeError" 297),some (.builtin "Exception.__new__"),some (.bool true)]⟩
noncomputable def xi:Obj:=oB 99
noncomputable def xj:Obj:=oC 99
noncomputable def xl (P:Params):Obj:=Q8 P 314 "pixelpress.bits" 305 316 "BitWriter" 315 318 21 317 325 115 "put" 334 122 "pad" 341 129 "octets" 348 136 352 137
noncomputable def AH:Obj:=EI 23 114 28 121 38 128 42 135
noncomputable def AI:Obj:=Q3 "BitWriter" 309 310 311 21 105 106 312 313
noncomputable def AJ:Obj:=Q4 107 104 "pixelpress.bits" 305
noncomputable def AK:Obj:=nC "self" 322
noncomputable def AL:Obj:=Q2 9 0 "BitWriter.__init__"
noncomputable def xm:Obj:=Q0 "__init__" 319 "BitWriter.__init__" 320 321 23 1 109 110 111 112 113 323 324
noncomputable def uG:Obj:=Q1 9 0 "BitWriter.__init__" "pixelpress.bits" 305 114
noncomputable def AM:Obj:=Q9 "self" 329 "value" 330 "size" 331
noncomputable def AN:Obj:=Q2 9 1 "BitWriter.put"
noncomputable def xn:Obj:=Q0 "put" 326 "BitWriter.put" 327 328 28 3 116 117 118 119 120 332 333
noncomputable def uH:Obj:=Q1 9 1 "BitWriter.put" "pixelpress.bits" 305 121
noncomputable def AP:Obj:=nC "self" 338
noncomputable def AQ:Obj:=Q2 9 2 "BitWriter.pad"
noncomputable def xo:Obj:=Q0 "pad" 335 "BitWriter.pad" 336 337 38 1 123 124 125 126 127 339 340
noncomputable def uI:Obj:=Q1 9 2 "BitWriter.pad" "pixelpress.bits" 305 128
noncomputable def AU:Obj:=nC "self" 345
noncomputable def AX:Obj:=Q2 9 3 "BitWriter.octets"
noncomputable def xp:Obj:=Q0 "octets" 342 "BitWriter.octets" 343 344 42 1 130 131 132 133 134 346 347
noncomputable def uJ:Obj:=Q1 9 3 "BitWriter.octets" "pixelpress.bits" 305 135
noncomputable def AY:Obj:=Q9 "full" 349 "rest" 350 "size" 351
noncomputable def xq (P:Params):Obj:=Q6 P 314 "pixelpress.bits" 305 318 21 317 325 115 "put" 334 122 "pad" 341 129 "octets" 348 136 352 137 354 140 356 141 357
noncomputable def xr:Obj:=⟨.type "type",none,.cls (cd "BitWriter" [.type "object"] [.ref 139,.type "object"] 138 "BitWriter" true [] [] false none false),#[none,none,some (.str "BitWriter" 307),some (.str "BitWriter" 315),some (.builtin "object.__new__"),some (.bool true)]⟩
noncomputable def AZ:Obj:=uf 353 139
noncomputable def A0:Obj:=sV 355 139
noncomputable def A4:Obj:=oB 139
noncomputable def A5:Obj:=oC 139
noncomputable def A6 (P:Params):Obj:=Q8 P 367 "pixelpress.bits" 305 369 "BitReader" 368 371 44 370 379 157 "left" 386 164 "bit" 394 171 "bits" 404 178 407 179
noncomputable def A7:Obj:=EI 46 156 50 163 53 170 60 177
noncomputable def A8:Obj:=Q3 "BitReader" 362 363 364 44 147 148 365 366
noncomputable def A9:Obj:=Q4 149 146 "pixelpress.bits" 305
noncomputable def Ba:Obj:=nT "self" 375 "octets" 376
noncomputable def Bb:Obj:=Q2 10 0 "BitReader.__init__"
noncomputable def xt:Obj:=Q0 "__init__" 372 "BitReader.__init__" 373 374 46 2 151 152 153 154 155 377 378
noncomputable def uK:Obj:=Q1 10 0 "BitReader.__init__" "pixelpress.bits" 305 156
noncomputable def xu:Obj:=nC "self" 383
noncomputable def xw:Obj:=Q2 10 1 "BitReader.left"
noncomputable def uL:Obj:=Q0 "left" 380 "BitReader.left" 381 382 50 1 158 159 160 161 162 384 385
noncomputable def r8:Obj:=Q1 10 1 "BitReader.left" "pixelpress.bits" 305 163
noncomputable def xx:Obj:=nT "self" 390 "found" 391
noncomputable def xy:Obj:=Q2 10 2 "BitReader.bit"
noncomputable def xA:Obj:=Q0 "bit" 387 "BitReader.bit" 388 389 53 1 165 166 167 168 169 392 393
noncomputable def uM:Obj:=Q1 10 2 "BitReader.bit" "pixelpress.bits" 305 170
noncomputable def Bc:Obj:=vq "self" 398 "size" 399 "found" 400 "turn" 401
noncomputable def Bd:Obj:=Q2 10 3 "BitReader.bits"
noncomputable def xB:Obj:=Q0 "bits" 395 "BitReader.bits" 396 397 60 2 172 173 174 175 176 402 403
noncomputable def uN:Obj:=Q1 10 3 "BitReader.bits" "pixelpress.bits" 305 177
noncomputable def Be:Obj:=nT "at" 405 "source" 406
noncomputable def xC (P:Params):Obj:=Q6 P 367 "pixelpress.bits" 305 371 44 370 379 157 "left" 386 164 "bit" 394 171 "bits" 404 178 407 179 409 182 411 183 412
noncomputable def xD:Obj:=⟨.type "type",none,.cls (cd "BitReader" [.type "object"] [.ref 181,.type "object"] 180 "BitReader" true [] [] false none false),#[none,none,some (.str "BitReader" 360),some (.str "BitReader" 368),some (.builtin "object.__new__"),some (.bool true)]⟩
noncomputable def Bf:Obj:=uf 408 181
noncomputable def Bg:Obj:=sV 410 181
noncomputable def Bh:Obj:=oB 181
noncomputable def Bi:Obj:=oC 181
noncomputable def Bj:Obj:=nC "v" 420
noncomputable def Bk:Obj:=Q7 12 "category"
noncomputable def xE:Obj:=Q0 "category" 417 "category" 418 419 68 1 186 187 188 189 190 421 422
noncomputable def uO:Obj:=Q5 12 "category" "pixelpress.magnitude" 415 191
noncomputable def Bl:Obj:=nT "v" 427 "size" 428
noncomputable def Bm:Obj:=Q7 13 "bits_of"
noncomputable def xF:Obj:=Q0 "bits_of" 424 "bits_of" 425 426 70 2 193 194 195 196 197 429 430
noncomputable def uP:Obj:=Q5 13 "bits_of" "pixelpress.magnitude" 415 198
noncomputable def Bn:Obj:=nT "bits" 435 "size" 436
noncomputable def Bo:Obj:=Q7 14 "value_of"
noncomputable def xG:Obj:=Q0 "value_of" 432 "value_of" 433 434 74 2 200 201 202 203 204 437 438
noncomputable def uQ:Obj:=Q5 14 "value_of" "pixelpress.magnitude" 415 205
noncomputable def Bp:Obj:=nT "run" 451 "size" 452
noncomputable def Bq:Obj:=Q7 19 "run_code"
noncomputable def xH:Obj:=Q0 "run_code" 448 "run_code" 449 450 82 1 207 208 209 210 211 453 454
noncomputable def uR:Obj:=Q5 19 "run_code" "pixelpress.progressive_ac" 440 212
noncomputable def Bs:Obj:=nT "value" 459 "low" 460
noncomputable def Bt:Obj:=Q7 20 "shrunk_size"
noncomputable def xI:Obj:=Q0 "shrunk_size" 456 "shrunk_size" 457 458 85 2 214 215 216 217 218 461 462
noncomputable def uS:Obj:=Q5 20 "shrunk_size" "pixelpress.progressive_ac" 440 219
noncomputable def JI (P:Params):BT:=N (boot_o_0 P) (N (boot_o_1 P) (N (o3 P) (N (boot_o_7 P) (N aa (N Lh (Y2 Pf AQ xE) (Y1 Nu aw)) (N Lw (Y2 bV A5 aa) (Y1 AK aa))) (N bV (N Lp (Y2 Pk xp uP) (Y1 bV xx)) (N bV (Y2 Px aa aw) (Y1 aa Bg)))) (N aa (N K8 (N Ll (Y2 bV aw Bl) (Y1 Nx uL)) (N LI (Y2 Pt aa Bq) (Y1 uG Be))) (N Lf (N bV (Y2 Pn xr aa) (Y1 AI uM)) (N Mc (Y2 bV Bb xI) (Y1 aa aw))))) (N (boot_o_5 P) (N (boot_o_9 P) (N K7 (N Lj (Y2 Ph uI aa) (Y1 aa aa)) (N aa (Y2 aa bV Bp) (Y1 AL xB))) (N aa (N Ls (Y2 aa AY aw) (Y1 aa xy)) (N aa (Y2 Pz Ba aa) (Y1 xn Bi)))) (N Gy (N La (N (Ln P) (Y2 aa aa Bm) (Y1 xj aa)) (N LQ (Y2 aa A8 uR) (Y1 aw xD))) (N aa (N aa (Y2 Pp A0 xG) (Y1 aa aw)) (N aa (Y1 aa uK) (Y1 AP aa)))))) (N (o2 P) (N (boot_o_4 P) (N (boot_o_8 P) (N aw (N aa (Y2 Pg xo uO) (Y1 Nv xu)) (N Lx (Y2 (Pq P) aa aw) (Y1 aa Bd))) (N (Lc P) (N Lq (Y2 Pl uJ aa) (Y1 (xl P) aa)) (N (L1 P) (Y2 Py aw Bs) (Y1 AN Bh)))) (N K4 (N K9 (N Lm (Y2 (Pj P) AU aa) (Y1 xi r8)) (N LN (Y2 Pu A7 xH) (Y1 aa (xC P)))) (N Lg (N (Lu P) (Y2 Po AZ Bo) (Y1 AJ aa)) (N Mf (Y2 (PA P) xt uS) (Y1 aw Bj))))) (N (boot_o_6 P) (N (boot_o_10 P) (N aa (N Lk (Y2 nA aa aw) (Y1 (Nw P) xw)) (N (LD P) (Y2 aw (A6 P) aa) (Y1 xm uN))) (N Ld (N nA (Y2 (Pm P) (xq P) Bn) (Y1 AH xA)) (N aw (Y2 nA aa Bt) (Y1 uH aa)))) (N Gz (N Lb (N Lo (Y2 aw AX xF) (Y1 aa aw)) (N nA (Y2 (Pw P) A9 aa) (Y1 AM Bf))) (N aw (N aw (Y2 nA A4 uQ) (Y1 aw Bc)) (N (Mi P) (Y1 aw aa) (Y1 aa Bk))))))
noncomputable def S1 (w:World) (os:OsState):SharedT:=⟨JI w.params,221,⟨[],[],[],0,[],[],false,#[],[],0,false,false,false,0,[2000,10,10],false,0,true,[],[],0,false⟩,#[],⟨0,0,0,0⟩,464,os⟩
theorem r1 (w:World):(fun os=>segRunT treeTable pw w m0 rC 1 2173 (S0 w os) (piecesOf ((B.drop 0).take 21) mN cE ⟨0,0,0,0⟩ [topFrame fq]))=fun os=>some (.next,S1 w os,cE,⟨85,0,86,28⟩):=by rewrite [qT,qB];kernel_rfl
noncomputable def QJ (P:Params):Obj:=⟨.type "dict",none,.dict #[en P "__name__" 165 (.str "pixelpress.refine_ac" 833),en P "__doc__" 166 .none,en P "__package__" 167 .none,en P "__loader__" 168 (.builtin "__main__.__loader__#opaque"),en P "__spec__" 169 .none,en P "__annotations__" 170 (.ref 6),en P "__builtins__" 171 (.ref 4),en P "__file__" 173 (.str "/claim/cut.py" 172),en P "__cached__" 174 .none,en P "_wall" 193 (.ref 21),en P "PressError" 224 (.ref 38),en P "TableError" 240 (.ref 51),en P "ScanError" 256 (.ref 63),en P "CodeError" 272 (.ref 75),en P "CutError" 288 (.ref 87),en P "RangeError" 304 (.ref 99),en P "BitWriter" 359 (.ref 139),en P "BitReader" 414 (.ref 181),en P "category" 423 (.ref 192),en P "bits_of" 431 (.ref 199),en P "value_of" 439 (.ref 206),en P "SIXTEEN_ZEROS" 443 (.int 240 442),en P "MOST_RUN" 445 (.int 32767 444),en P "MOST_CATEGORY_progressive_ac" 447 (.int 15 446),en P "run_code" 455 (.ref 213),en P "shrunk_size" 463 (.ref 220),en P "AcFirstWriter" 541 (.ref 272),en P "AcFirstReader" 604 (.ref 314),en P "MOST_CATEGORY_progressive_dc" 608 (.int 15 607),en P "DcFirstWriter" 666 (.ref 356),en P "DcRefineWriter" 720 (.ref 398),en P "DcFirstReader" 778 (.ref 440),en P "DcRefineReader" 832 (.ref 482),en P "MOST_KEPT" 836 (.int 937 835)] 34,#[]⟩
noncomputable def K5:Obj:=⟨.none,none,.fields #[.int 1 0,.int 0 0,.ref 20,.int 5 0,.int 0 0,.ref 27,.int 10 0,.int 0 0,.ref 47,.int 12 0,.int 0 0,.ref 59,.int 14 0,.int 0 0,.ref 71,.int 16 0,.int 0 0,.ref 83,.int 18 0,.int 0 0,.ref 95,.int 21 0,.int 0 0,.ref 107,.int 44 0,.int 0 0,.ref 149,.int 68 0,.int 0 0,.ref 191,.int 70 0,.int 0 0,.ref 198,.int 74 0,.int 0 0,.ref 205,.int 82 0,.int 0 0,.ref 212,.int 85 0,.int 0 0,.ref 219,.int 87 0,.int 0 0,.ref 226,.int 134 0,.int 0 0,.ref 282,.int 173 0,.int 0 0,.ref 324,.int 194 0,.int 0 0,.ref 366,.int 208 0,.int 0 0,.ref 408,.int 230 0,.int 0 0,.ref 450],#[]⟩
noncomputable def Bu (P:Params):Obj:=⟨.type "dict",none,.dict #[en P "__module__" 471 (.str "pixelpress.progressive_ac" 440),en P "__qualname__" 473 (.str "AcFirstWriter" 472),en P "__firstlineno__" 475 (.int 87 474),en P "__init__" 484 (.ref 234),en P "start" 491 (.ref 241),en P "put_run" 500 (.ref 248),en P "put_value" 510 (.ref 255),en P "code" 522 (.ref 262),en P "finish" 529 (.ref 269),en P "__static_attributes__" 534 (.ref 270)] 10,#[]⟩
noncomputable def Bv:Obj:=⟨.none,none,.fields #[.int 89 0,.int 4 0,.ref 233,.int 95 0,.int 4 0,.ref 240,.int 98 0,.int 4 0,.ref 247,.int 106 0,.int 4 0,.ref 254,.int 117 0,.int 4 0,.ref 261,.int 131 0,.int 4 0,.ref 268],#[]⟩
noncomputable def Bw:Obj:=Q3 "AcFirstWriter" 466 467 468 87 224 225 469 470
noncomputable def Bx:Obj:=Q4 226 223 "pixelpress.progressive_ac" 440
noncomputable def By:Obj:=Q9 "self" 479 "scan" 480 "sink" 481
noncomputable def Bz:Obj:=Q2 21 0 "AcFirstWriter.__init__"
noncomputable def xJ:Obj:=Q0 "__init__" 476 "AcFirstWriter.__init__" 477 478 89 3 228 229 230 231 232 482 483
noncomputable def xK:Obj:=Q1 21 0 "AcFirstWriter.__init__" "pixelpress.progressive_ac" 440 233
noncomputable def GA:Obj:=nC "self" 488
noncomputable def GB:Obj:=Q2 21 1 "AcFirstWriter.start"
noncomputable def BA:Obj:=Q0 "start" 485 "AcFirstWriter.start" 486 487 95 1 235 236 237 238 239 489 490
noncomputable def xM:Obj:=Q1 21 1 "AcFirstWriter.start" "pixelpress.progressive_ac" 440 240
noncomputable def GC:Obj:=Q9 "self" 495 "symbol" 496 "size" 497
noncomputable def GD:Obj:=Q2 21 2 "AcFirstWriter.put_run"
noncomputable def BB:Obj:=Q0 "put_run" 492 "AcFirstWriter.put_run" 493 494 98 1 242 243 244 245 246 498 499
noncomputable def xN:Obj:=Q1 21 2 "AcFirstWriter.put_run" "pixelpress.progressive_ac" 440 247
noncomputable def GG:Obj:=vq "self" 504 "zeros" 505 "value" 506 "size" 507
noncomputable def GH:Obj:=Q2 21 3 "AcFirstWriter.put_value"
noncomputable def BC:Obj:=Q0 "put_value" 501 "AcFirstWriter.put_value" 502 503 106 3 249 250 251 252 253 508 509
noncomputable def xO:Obj:=Q1 21 3 "AcFirstWriter.put_value" "pixelpress.progressive_ac" 440 254
noncomputable def GI:Obj:=⟨.type "tuple",none,.seq #[.str "self" 514,.str "place" 515,.str "row" 516,.str "zeros" 517,.str "k" 518,.str "size" 519] 0,#[]⟩
noncomputable def GJ:Obj:=Q2 21 4 "AcFirstWriter.code"
noncomputable def BD:Obj:=Q0 "code" 511 "AcFirstWriter.code" 512 513 117 3 256 257 258 259 260 520 521
noncomputable def xP:Obj:=Q1 21 4 "AcFirstWriter.code" "pixelpress.progressive_ac" 440 261
noncomputable def GK:Obj:=nC "self" 526
noncomputable def GL:Obj:=Q2 21 5 "AcFirstWriter.finish"
noncomputable def BE:Obj:=Q0 "finish" 523 "AcFirstWriter.finish" 524 525 131 1 263 264 265 266 267 527 528
noncomputable def xQ:Obj:=Q1 21 5 "AcFirstWriter.finish" "pixelpress.progressive_ac" 440 268
noncomputable def GN:Obj:=vq "key" 530 "run" 531 "scan" 532 "sink" 533
noncomputable def BH (P:Params):Obj:=⟨.type "dict",none,.dict #[en P "__module__" 471 (.str "pixelpress.progressive_ac" 440),en P "__firstlineno__" 475 (.int 87 474),en P "__init__" 484 (.ref 234),en P "start" 491 (.ref 241),en P "put_run" 500 (.ref 248),en P "put_value" 510 (.ref 255),en P "code" 522 (.ref 262),en P "finish" 529 (.ref 269),en P "__static_attributes__" 534 (.ref 270),en P "__dict__" 536 (.ref 273),en P "__weakref__" 538 (.ref 274),en P "__doc__" 539 .none] 4,#[]⟩
noncomputable def BI:Obj:=⟨.type "type",none,.cls (cd "AcFirstWriter" [.type "object"] [.ref 272,.type "object"] 271 "AcFirstWriter" true [] [] false none false),#[none,none,some (.str "AcFirstWriter" 464),some (.str "AcFirstWriter" 472),some (.builtin "object.__new__"),some (.bool true)]⟩
noncomputable def GO:Obj:=uf 535 272
noncomputable def GP:Obj:=sV 537 272
noncomputable def GQ:Obj:=oB 272
noncomputable def GS:Obj:=oC 272
noncomputable def GU (P:Params):Obj:=Q8 P 549 "pixelpress.progressive_ac" 440 551 "AcFirstReader" 550 553 134 552 562 290 "start" 570 297 "read" 585 304 "finish" 592 311 597 312
noncomputable def GV:Obj:=EI 136 289 142 296 146 303 168 310
noncomputable def GW:Obj:=Q3 "AcFirstReader" 544 545 546 134 280 281 547 548
noncomputable def GX:Obj:=Q4 282 279 "pixelpress.progressive_ac" 440
noncomputable def BJ:Obj:=Q9 "self" 557 "scan" 558 "tables" 559
noncomputable def BK:Obj:=Q2 22 0 "AcFirstReader.__init__"
noncomputable def xR:Obj:=Q0 "__init__" 554 "AcFirstReader.__init__" 555 556 136 3 284 285 286 287 288 560 561
noncomputable def uT:Obj:=Q1 22 0 "AcFirstReader.__init__" "pixelpress.progressive_ac" 440 289
noncomputable def BL:Obj:=nT "self" 566 "octets" 567
noncomputable def BN:Obj:=Q2 22 1 "AcFirstReader.start"
noncomputable def xS:Obj:=Q0 "start" 563 "AcFirstReader.start" 564 565 142 2 291 292 293 294 295 568 569
noncomputable def uU:Obj:=Q1 22 1 "AcFirstReader.start" "pixelpress.progressive_ac" 440 296
noncomputable def GY:Obj:=⟨.type "tuple",none,.seq #[.str "self" 574,.str "place" 575,.str "row" 576,.str "found" 577,.str "k" 578,.str "end" 579,.str "symbol" 580,.str "zeros" 581,.str "size" 582] 0,#[]⟩
noncomputable def GZ:Obj:=Q2 22 2 "AcFirstReader.read"
noncomputable def BO:Obj:=Q0 "read" 571 "AcFirstReader.read" 572 573 146 3 298 299 300 301 302 583 584
noncomputable def xT:Obj:=Q1 22 2 "AcFirstReader.read" "pixelpress.progressive_ac" 440 303
noncomputable def G0:Obj:=nC "self" 589
noncomputable def G1:Obj:=Q2 22 3 "AcFirstReader.finish"
noncomputable def BP:Obj:=Q0 "finish" 586 "AcFirstReader.finish" 587 588 168 1 305 306 307 308 309 590 591
noncomputable def xU:Obj:=Q1 22 3 "AcFirstReader.finish" "pixelpress.progressive_ac" 440 310
noncomputable def G2:Obj:=vq "reader" 593 "run" 594 "scan" 595 "table" 596
noncomputable def BQ (P:Params):Obj:=Q6 P 549 "pixelpress.progressive_ac" 440 553 134 552 562 290 "start" 570 297 "read" 585 304 "finish" 592 311 597 312 599 315 601 316 602
noncomputable def BS:Obj:=⟨.type "type",none,.cls (cd "AcFirstReader" [.type "object"] [.ref 314,.type "object"] 313 "AcFirstReader" true [] [] false none false),#[none,none,some (.str "AcFirstReader" 542),some (.str "AcFirstReader" 550),some (.builtin "object.__new__"),some (.bool true)]⟩
noncomputable def G3:Obj:=uf 598 314
noncomputable def G4:Obj:=sV 600 314
noncomputable def G5:Obj:=oB 314
noncomputable def G6:Obj:=oC 314
noncomputable def G7 (P:Params):Obj:=Q8 P 616 "pixelpress.progressive_dc" 605 618 "DcFirstWriter" 617 620 173 619 629 332 "start" 636 339 "code" 648 346 "finish" 655 353 659 354
noncomputable def G8:Obj:=EI 175 331 180 338 183 345 192 352
noncomputable def G9:Obj:=Q3 "DcFirstWriter" 611 612 613 173 322 323 614 615
noncomputable def Hb:Obj:=Q4 324 321 "pixelpress.progressive_dc" 605
noncomputable def Hc:Obj:=Q9 "self" 624 "scan" 625 "sink" 626
noncomputable def He:Obj:=Q2 25 0 "DcFirstWriter.__init__"
noncomputable def BU:Obj:=Q0 "__init__" 621 "DcFirstWriter.__init__" 622 623 175 3 326 327 328 329 330 627 628
noncomputable def xV:Obj:=Q1 25 0 "DcFirstWriter.__init__" "pixelpress.progressive_dc" 605 331
noncomputable def Hf:Obj:=nC "self" 633
noncomputable def Hg:Obj:=Q2 25 1 "DcFirstWriter.start"
noncomputable def BV:Obj:=Q0 "start" 630 "DcFirstWriter.start" 631 632 180 1 333 334 335 336 337 634 635
noncomputable def xW:Obj:=Q1 25 1 "DcFirstWriter.start" "pixelpress.progressive_dc" 605 338
noncomputable def Hh:Obj:=⟨.type "tuple",none,.seq #[.str "self" 640,.str "place" 641,.str "row" 642,.str "value" 643,.str "difference" 644,.str "size" 645] 0,#[]⟩
noncomputable def Hi:Obj:=Q2 25 2 "DcFirstWriter.code"
noncomputable def BX:Obj:=Q0 "code" 637 "DcFirstWriter.code" 638 639 183 3 340 341 342 343 344 646 647
noncomputable def xX:Obj:=Q1 25 2 "DcFirstWriter.code" "pixelpress.progressive_dc" 605 345
noncomputable def Hj:Obj:=nC "self" 652
noncomputable def BY:Obj:=Q2 25 3 "DcFirstWriter.finish"
noncomputable def xY:Obj:=Q0 "finish" 649 "DcFirstWriter.finish" 650 651 192 1 347 348 349 350 351 653 654
noncomputable def uV:Obj:=Q1 25 3 "DcFirstWriter.finish" "pixelpress.progressive_dc" 605 352
noncomputable def BZ:Obj:=Q9 "before" 656 "scan" 657 "sink" 658
noncomputable def xZ (P:Params):Obj:=Q6 P 616 "pixelpress.progressive_dc" 605 620 173 619 629 332 "start" 636 339 "code" 648 346 "finish" 655 353 659 354 661 357 663 358 664
noncomputable def ya:Obj:=⟨.type "type",none,.cls (cd "DcFirstWriter" [.type "object"] [.ref 356,.type "object"] 355 "DcFirstWriter" true [] [] false none false),#[none,none,some (.str "DcFirstWriter" 609),some (.str "DcFirstWriter" 617),some (.builtin "object.__new__"),some (.bool true)]⟩
noncomputable def B0:Obj:=uf 660 356
noncomputable def B4:Obj:=sV 662 356
noncomputable def B5:Obj:=oB 356
noncomputable def B6:Obj:=oC 356
noncomputable def Hk (P:Params):Obj:=Q8 P 674 "pixelpress.progressive_dc" 605 676 "DcRefineWriter" 675 678 194 677 687 374 "start" 694 381 "code" 703 388 "finish" 710 395 713 396
noncomputable def Hl:Obj:=EI 196 373 200 380 203 387 206 394
noncomputable def Hn:Obj:=Q3 "DcRefineWriter" 669 670 671 194 364 365 672 673
noncomputable def Ho:Obj:=Q4 366 363 "pixelpress.progressive_dc" 605
noncomputable def Hq:Obj:=Q9 "self" 682 "scan" 683 "sink" 684
noncomputable def Hr:Obj:=Q2 26 0 "DcRefineWriter.__init__"
noncomputable def B7:Obj:=Q0 "__init__" 679 "DcRefineWriter.__init__" 680 681 196 3 368 369 370 371 372 685 686
noncomputable def yb:Obj:=Q1 26 0 "DcRefineWriter.__init__" "pixelpress.progressive_dc" 605 373
noncomputable def Hs:Obj:=nC "self" 691
noncomputable def Ht:Obj:=Q2 26 1 "DcRefineWriter.start"
noncomputable def B8:Obj:=Q0 "start" 688 "DcRefineWriter.start" 689 690 200 1 375 376 377 378 379 692 693
noncomputable def yc:Obj:=Q1 26 1 "DcRefineWriter.start" "pixelpress.progressive_dc" 605 380
noncomputable def Hu:Obj:=Q9 "self" 698 "place" 699 "row" 700
noncomputable def Hv:Obj:=Q2 26 2 "DcRefineWriter.code"
noncomputable def B9:Obj:=Q0 "code" 695 "DcRefineWriter.code" 696 697 203 3 382 383 384 385 386 701 702
noncomputable def yd:Obj:=Q1 26 2 "DcRefineWriter.code" "pixelpress.progressive_dc" 605 387
noncomputable def Hw:Obj:=nC "self" 707
noncomputable def Hx:Obj:=Q2 26 3 "DcRefineWriter.finish"
noncomputable def Ca:Obj:=Q0 "finish" 704 "DcRefineWriter.finish" 705 706 206 1 389 390 391 392 393 708 709
noncomputable def ye:Obj:=Q1 26 3 "DcRefineWriter.finish" "pixelpress.progressive_dc" 605 394
noncomputable def Hy:Obj:=nT "scan" 711 "sink" 712
noncomputable def Cb (P:Params):Obj:=Q6 P 674 "pixelpress.progressive_dc" 605 678 194 677 687 374 "start" 694 381 "code" 703 388 "finish" 710 395 713 396 715 399 717 400 718
noncomputable def Cc:Obj:=⟨.type "type",none,.cls (cd "DcRefineWriter" [.type "object"] [.ref 398,.type "object"] 397 "DcRefineWriter" true [] [] false none false),#[none,none,some (.str "DcRefineWriter" 667),some (.str "DcRefineWriter" 675),some (.builtin "object.__new__"),some (.bool true)]⟩
noncomputable def Hz:Obj:=uf 714 398
noncomputable def HB:Obj:=sV 716 398
noncomputable def HC:Obj:=oB 398
noncomputable def HD:Obj:=oC 398
noncomputable def HE (P:Params):Obj:=Q8 P 728 "pixelpress.progressive_dc" 605 730 "DcFirstReader" 729 732 208 731 741 416 "start" 749 423 "read" 759 430 "finish" 766 437 771 438
noncomputable def HF:Obj:=EI 210 415 216 422 220 429 228 436
noncomputable def HG:Obj:=Q3 "DcFirstReader" 723 724 725 208 406 407 726 727
noncomputable def HH:Obj:=Q4 408 405 "pixelpress.progressive_dc" 605
noncomputable def HI:Obj:=Q9 "self" 736 "scan" 737 "tables" 738
noncomputable def Cd:Obj:=Q2 27 0 "DcFirstReader.__init__"
noncomputable def yf:Obj:=Q0 "__init__" 733 "DcFirstReader.__init__" 734 735 210 3 410 411 412 413 414 739 740
noncomputable def uW:Obj:=Q1 27 0 "DcFirstReader.__init__" "pixelpress.progressive_dc" 605 415
noncomputable def Ce:Obj:=nT "self" 745 "octets" 746
noncomputable def Cf:Obj:=Q2 27 1 "DcFirstReader.start"
noncomputable def yg:Obj:=Q0 "start" 742 "DcFirstReader.start" 743 744 216 2 417 418 419 420 421 747 748
noncomputable def uX:Obj:=Q1 27 1 "DcFirstReader.start" "pixelpress.progressive_dc" 605 422
noncomputable def HJ:Obj:=vq "self" 753 "place" 754 "row" 755 "size" 756
noncomputable def HK:Obj:=Q2 27 2 "DcFirstReader.read"
noncomputable def Cg:Obj:=Q0 "read" 750 "DcFirstReader.read" 751 752 220 3 424 425 426 427 428 757 758
noncomputable def yh:Obj:=Q1 27 2 "DcFirstReader.read" "pixelpress.progressive_dc" 605 429
noncomputable def HL:Obj:=nC "self" 763
noncomputable def HM:Obj:=Q2 27 3 "DcFirstReader.finish"
noncomputable def Ci:Obj:=Q0 "finish" 760 "DcFirstReader.finish" 761 762 228 1 431 432 433 434 435 764 765
noncomputable def yi:Obj:=Q1 27 3 "DcFirstReader.finish" "pixelpress.progressive_dc" 605 436
noncomputable def HN:Obj:=vq "before" 767 "reader" 768 "scan" 769 "tables" 770
noncomputable def Cj (P:Params):Obj:=Q6 P 728 "pixelpress.progressive_dc" 605 732 208 731 741 416 "start" 749 423 "read" 759 430 "finish" 766 437 771 438 773 441 775 442 776
noncomputable def Ck:Obj:=⟨.type "type",none,.cls (cd "DcFirstReader" [.type "object"] [.ref 440,.type "object"] 439 "DcFirstReader" true [] [] false none false),#[none,none,some (.str "DcFirstReader" 721),some (.str "DcFirstReader" 729),some (.builtin "object.__new__"),some (.bool true)]⟩
noncomputable def HO:Obj:=uf 772 440
noncomputable def HP:Obj:=sV 774 440
noncomputable def HQ:Obj:=oB 440
noncomputable def HS:Obj:=oC 440
noncomputable def HT (P:Params):Obj:=Q8 P 786 "pixelpress.progressive_dc" 605 788 "DcRefineReader" 787 790 230 789 798 458 "start" 806 465 "read" 815 472 "finish" 822 479 825 480
noncomputable def HU:Obj:=EI 232 457 236 464 239 471 244 478
noncomputable def HV:Obj:=Q3 "DcRefineReader" 781 782 783 230 448 449 784 785
noncomputable def HW:Obj:=Q4 450 447 "pixelpress.progressive_dc" 605
noncomputable def HX:Obj:=nT "self" 794 "scan" 795
noncomputable def HY:Obj:=Q2 28 0 "DcRefineReader.__init__"
noncomputable def Cm:Obj:=Q0 "__init__" 791 "DcRefineReader.__init__" 792 793 232 2 452 453 454 455 456 796 797
noncomputable def yj:Obj:=Q1 28 0 "DcRefineReader.__init__" "pixelpress.progressive_dc" 605 457
noncomputable def HZ:Obj:=nT "self" 802 "octets" 803
noncomputable def H3:Obj:=Q2 28 1 "DcRefineReader.start"
noncomputable def Co:Obj:=Q0 "start" 799 "DcRefineReader.start" 800 801 236 2 459 460 461 462 463 804 805
noncomputable def yk:Obj:=Q1 28 1 "DcRefineReader.start" "pixelpress.progressive_dc" 605 464
noncomputable def H4:Obj:=Q9 "self" 810 "place" 811 "row" 812
noncomputable def H5:Obj:=Q2 28 2 "DcRefineReader.read"
noncomputable def Cp:Obj:=Q0 "read" 807 "DcRefineReader.read" 808 809 239 3 466 467 468 469 470 813 814
noncomputable def yl:Obj:=Q1 28 2 "DcRefineReader.read" "pixelpress.progressive_dc" 605 471
noncomputable def H6:Obj:=nC "self" 819
noncomputable def H7:Obj:=Q2 28 3 "DcRefineReader.finish"
noncomputable def ym:Obj:=Q0 "finish" 816 "DcRefineReader.finish" 817 818 244 1 473 474 475 476 477 820 821
noncomputable def uY:Obj:=Q1 28 3 "DcRefineReader.finish" "pixelpress.progressive_dc" 605 478
noncomputable def Cq:Obj:=nT "reader" 823 "scan" 824
noncomputable def yn (P:Params):Obj:=Q6 P 786 "pixelpress.progressive_dc" 605 790 230 789 798 458 "start" 806 465 "read" 815 472 "finish" 822 479 825 480 827 483 829 484 830
noncomputable def yo:Obj:=⟨.type "type",none,.cls (cd "DcRefineReader" [.type "object"] [.ref 482,.type "object"] 481 "DcRefineReader" true [] [] false none false),#[none,none,some (.str "DcRefineReader" 779),some (.str "DcRefineReader" 787),some (.builtin "object.__new__"),some (.bool true)]⟩
noncomputable def Cr:Obj:=uf 826 482
noncomputable def Cs:Obj:=sV 828 482
noncomputable def Ct:Obj:=oB 482
noncomputable def Cu:Obj:=oC 482
noncomputable def QX (P:Params):BT:=N (boot_o_0 P) (N (boot_o_1 P) (N (QJ P) (N (boot_o_7 P) (N aa (N Lh (N Pf (Y2 AQ xO aw) (Y2 xE aa (HT P))) (N Nu (Y2 aw aa yf) (Y2 (Bu P) BY uY))) (N Lw (N bV (Y2 A5 (BH P) Hz) (Y2 aa Hf H3)) (N AK (Y2 aa BO aa) (Y1 GB Ho)))) (N bV (N Lp (N Pk (Y2 xp aa Hw) (Y2 uP aw aa)) (N bV (Y2 xx BN uX) (Y1 aa B5))) (N bV (N Px (Y2 aa (GU P) HF) (Y2 aw aa Cp)) (N aa (Y2 Bg xU (Cj P)) (Y1 BB aa))))) (N aa (N K8 (N Ll (N bV (Y2 aw aa B9) (Y2 Bl G8 HW)) (N Nx (Y2 uL aa Ce) (Y2 Bx (xZ P) Cr))) (N LI (N Pt (Y2 aa GQ aa) (Y2 Bq xW aw)) (N uG (Y2 Be G0 HM) (Y1 aw aa)))) (N Lf (N bV (N Pn (Y2 xr GL ye) (Y2 aa BU aa)) (N AI (Y2 uM aw aa) (Y1 aa (Hk P)))) (N Mc (N bV (Y2 Bb GX aw) (Y2 xI aa H6)) (N aa (Y2 aw G3 HQ) (Y1 GG Ht)))))) (N (boot_o_5 P) (N (boot_o_9 P) (N K7 (N Lj (N Ph (Y2 uI aw aa) (Y2 aa (G7 P) HU)) (N aa (Y2 aa xR aa) (Y2 Bv uV (yn P)))) (N aa (N aa (Y2 bV GO HC) (Y2 Bp Hg yk)) (N AL (Y2 xB aa HL) (Y1 xM aw)))) (N aa (N Ls (N aa (Y2 AY GK Hx) (Y2 aw aa Cm)) (N aa (Y2 xy uU aw) (Y1 xJ aa))) (N aa (N Pz (Y2 Ba GV HH) (Y2 aa BX aa)) (N xn (Y2 Bi (BQ P) HO) (Y1 aa Hs))))) (N Gy (N La (N (Ln P) (N aa (Y2 aa BD aa) (Y2 Bm Hb aw)) (N xj (Y2 aa BL Cf) (Y2 aw B0 Ct))) (N LQ (N aa (Y2 A8 aa (HE P)) (Y2 uR aw aa)) (N aw (Y2 xD G1 yi) (Y1 aa B7)))) (N aa (N aa (N Pp (Y2 A0 xQ (Cb P)) (Y2 xG aa HZ)) (N aa (Y2 aw aa Cg) (Y1 GA Hl))) (N aa (N aa (Y2 uK aw aa) (Y2 aa Hj H7)) (N AP (Y2 aa G5 aa) (Y1 GH yc))))))) (N (o2 P) (N (boot_o_4 P) (N (boot_o_8 P) (N aw (N aa (N Pg (Y2 xo aa Hu) (Y2 uO bV aa)) (N Nv (Y2 xu BK uW) (Y2 aa xY Cq))) (N Lx (N (Pq P) (Y2 aa BI HB) (Y2 aw aa Co)) (N aa (Y2 Bd xT aw) (Y1 BA aa)))) (N (Lc P) (N Lq (N Pl (Y2 uJ aw aa) (Y2 aa Hc HY)) (N (xl P) (Y2 aa xS aa) (Y1 Bz B6))) (N (L1 P) (N Py (Y2 aw aa HG) (Y2 Bs Hi yl)) (N AN (Y2 Bh G2 Ck) (Y1 xN aw))))) (N K5 (N K9 (N Lm (N (Pj P) (Y2 AU GJ yd) (Y2 aa G9 aa)) (N xi (Y2 r8 aw aa) (Y2 aa ya Cs))) (N LN (N Pu (Y2 A7 GS bV) (Y2 xH aa H4)) (N aa (Y2 (xC P) aa Ci) (Y1 GC Hr)))) (N Lg (N (Lu P) (N Po (Y2 AZ BE Hy) (Y2 Bo xV aw)) (N AJ (Y2 aa GY HK) (Y1 aw aa))) (N Mf (N (PA P) (Y2 xt aa HI) (Y2 uS aw aa)) (N aw (Y2 Bj G4 HS) (Y1 aa B8)))))) (N (boot_o_6 P) (N (boot_o_10 P) (N aa (N Lk (N nA (Y2 aa GI Hv) (Y2 aw aa HV)) (N (Nw P) (Y2 xw uT aw) (Y2 Bw BZ yo))) (N (LD P) (N aw (Y2 (A6 P) GP HD) (Y2 aa BV aa)) (N xm (Y2 uN aw aa) (Y1 aa Hq)))) (N Ld (N nA (N (Pm P) (Y2 (xq P) aa Ca) (Y2 Bn He yj)) (N AH (Y2 xA aa HJ) (Y1 xK bV))) (N aw (N nA (Y2 aa GW aa) (Y2 Bt xX aw)) (N uH (Y2 aa BS HP) (Y1 aw aa))))) (N Gz (N Lb (N Lo (N aw (Y2 AX xP aw) (Y2 xF aa HX)) (N aa (Y2 aw aa yg) (Y2 By B4 Cu))) (N nA (N (Pw P) (Y2 A9 bV aa) (Y2 aa Hh H5)) (N AM (Y2 Bf BP HN) (Y1 GD yb)))) (N aw (N aw (N nA (Y2 A4 GN Cc) (Y2 uQ aw aa)) (N aw (Y2 Bc GZ yh) (Y1 aa Hn))) (N (Mi P) (N aw (Y2 aa BJ Cd) (Y2 bV aa ym)) (N aa (Y2 Bk G6 bV) (Y1 BC aa)))))))
noncomputable def S2 (w:World) (os:OsState):SharedT:=⟨QX w.params,487,⟨[],[],[],0,[],[],false,#[],[],0,false,false,false,0,[2000,10,10],false,0,true,[],[],0,false⟩,#[],⟨0,0,0,0⟩,837,os⟩
theorem r2 (w:World):(fun os=>segRunT treeTable pw w m0 rC 1 2040 (S1 w os) (piecesOf ((B.drop 21).take 10) mN cE ⟨85,0,86,28⟩ [topFrame fq]))=fun os=>some (.next,S2 w os,cE,⟨247,0,247,9⟩):=by rewrite [qT,qB];kernel_rfl
noncomputable def QK (P:Params):Obj:=⟨.type "dict",none,.dict #[en P "__name__" 165 (.str "law_nt0574_01" 1250),en P "__doc__" 166 .none,en P "__package__" 167 .none,en P "__loader__" 168 (.builtin "__main__.__loader__#opaque"),en P "__spec__" 169 .none,en P "__annotations__" 170 (.ref 6),en P "__builtins__" 171 (.ref 4),en P "__file__" 173 (.str "/claim/cut.py" 172),en P "__cached__" 174 .none,en P "_wall" 193 (.ref 21),en P "PressError" 224 (.ref 38),en P "TableError" 240 (.ref 51),en P "ScanError" 256 (.ref 63),en P "CodeError" 272 (.ref 75),en P "CutError" 288 (.ref 87),en P "RangeError" 304 (.ref 99),en P "BitWriter" 359 (.ref 139),en P "BitReader" 414 (.ref 181),en P "category" 423 (.ref 192),en P "bits_of" 431 (.ref 199),en P "value_of" 439 (.ref 206),en P "SIXTEEN_ZEROS" 443 (.int 240 442),en P "MOST_RUN" 445 (.int 32767 444),en P "MOST_CATEGORY_progressive_ac" 447 (.int 15 446),en P "run_code" 455 (.ref 213),en P "shrunk_size" 463 (.ref 220),en P "AcFirstWriter" 541 (.ref 272),en P "AcFirstReader" 604 (.ref 314),en P "MOST_CATEGORY_progressive_dc" 608 (.int 15 607),en P "DcFirstWriter" 666 (.ref 356),en P "DcRefineWriter" 720 (.ref 398),en P "DcFirstReader" 778 (.ref 440),en P "DcRefineReader" 832 (.ref 482),en P "MOST_KEPT" 836 (.int 937 835),en P "AcRefineWriter" 926 (.ref 545),en P "AcRefineReader" 1017 (.ref 608),en P "check_band" 1027 (.ref 619),en P "progressive_writer" 1036 (.ref 626),en P "progressive_reader" 1045 (.ref 633),en P "MOST_BITS" 1049 (.int 16 1048),en P "MOST_SYMBOLS" 1051 (.int 256 1050),en P "code_rows" 1063 (.ref 640),en P "check_told" 1073 (.ref 647),en P "HuffTable" 1132 (.ref 678),en P "Scan" 1189 (.ref 713),en P "CodeSink" 1249 (.ref 755),en P "_law_source" 1262 (.ref 766),en P "_law_draw" 1271 (.ref 773),en P "_law_table" 1277 (.ref 778),en P "_law_number" 1286 (.ref 785),en P "_law_passed" 1292 (.ref 790),en P "_law_due" 1308 (.ref 797)] 52,#[]⟩
noncomputable def K6:Obj:=⟨.none,none,.fields #[.int 1 0,.int 0 0,.ref 20,.int 5 0,.int 0 0,.ref 27,.int 10 0,.int 0 0,.ref 47,.int 12 0,.int 0 0,.ref 59,.int 14 0,.int 0 0,.ref 71,.int 16 0,.int 0 0,.ref 83,.int 18 0,.int 0 0,.ref 95,.int 21 0,.int 0 0,.ref 107,.int 44 0,.int 0 0,.ref 149,.int 68 0,.int 0 0,.ref 191,.int 70 0,.int 0 0,.ref 198,.int 74 0,.int 0 0,.ref 205,.int 82 0,.int 0 0,.ref 212,.int 85 0,.int 0 0,.ref 219,.int 87 0,.int 0 0,.ref 226,.int 134 0,.int 0 0,.ref 282,.int 173 0,.int 0 0,.ref 324,.int 194 0,.int 0 0,.ref 366,.int 208 0,.int 0 0,.ref 408,.int 230 0,.int 0 0,.ref 450,.int 248 0,.int 0 0,.ref 492,.int 311 0,.int 0 0,.ref 555,.int 371 0,.int 0 0,.ref 618,.int 380 0,.int 0 0,.ref 625,.int 385 0,.int 0 0,.ref 632,.int 393 0,.int 0 0,.ref 639,.int 405 0,.int 0 0,.ref 646,.int 415 0,.int 0 0,.ref 653,.int 442 0,.int 0 0,.ref 688,.int 459 0,.int 0 0,.ref 723,.int 478 0,.int 0 0,.ref 765,.int 485 0,.int 0 0,.ref 772,.int 492 0,.int 0 0,.ref 777,.int 498 0,.int 0 0,.ref 784,.int 504 0,.int 0 0,.ref 789,.int 514 0,.int 0 0,.ref 796],#[]⟩
noncomputable def H8 (P:Params):Obj:=⟨.type "dict",none,.dict #[en P "__module__" 844 (.str "pixelpress.refine_ac" 833),en P "__qualname__" 846 (.str "AcRefineWriter" 845),en P "__firstlineno__" 848 (.int 248 847),en P "__init__" 857 (.ref 500),en P "start" 864 (.ref 507),en P "put_bits" 873 (.ref 514),en P "put_run" 882 (.ref 521),en P "last_new" 892 (.ref 528),en P "code" 906 (.ref 535),en P "finish" 913 (.ref 542),en P "__static_attributes__" 919 (.ref 543)] 11,#[]⟩
noncomputable def Ly:Obj:=⟨.none,none,.fields #[.int 250 0,.int 4 0,.ref 499,.int 257 0,.int 4 0,.ref 506,.int 261 0,.int 4 0,.ref 513,.int 265 0,.int 4 0,.ref 520,.int 275 0,.int 4 0,.ref 527,.int 282 0,.int 4 0,.ref 534,.int 308 0,.int 4 0,.ref 541],#[]⟩
noncomputable def Lz:Obj:=Q3 "AcRefineWriter" 839 840 841 248 490 491 842 843
noncomputable def LA:Obj:=Q4 492 489 "pixelpress.refine_ac" 833
noncomputable def LB:Obj:=Q9 "self" 852 "scan" 853 "sink" 854
noncomputable def LC:Obj:=Q2 31 0 "AcRefineWriter.__init__"
noncomputable def H9:Obj:=Q0 "__init__" 849 "AcRefineWriter.__init__" 850 851 250 3 494 495 496 497 498 855 856
noncomputable def Cv:Obj:=Q1 31 0 "AcRefineWriter.__init__" "pixelpress.refine_ac" 833 499
noncomputable def LG:Obj:=nC "self" 861
noncomputable def LH:Obj:=Q2 31 1 "AcRefineWriter.start"
noncomputable def Ia:Obj:=Q0 "start" 858 "AcRefineWriter.start" 859 860 257 1 501 502 503 504 505 862 863
noncomputable def Cw:Obj:=Q1 31 1 "AcRefineWriter.start" "pixelpress.refine_ac" 833 506
noncomputable def LJ:Obj:=Q9 "self" 868 "some" 869 "bit" 870
noncomputable def LK:Obj:=Q2 31 2 "AcRefineWriter.put_bits"
noncomputable def Ib:Obj:=Q0 "put_bits" 865 "AcRefineWriter.put_bits" 866 867 261 2 508 509 510 511 512 871 872
noncomputable def Cy:Obj:=Q1 31 2 "AcRefineWriter.put_bits" "pixelpress.refine_ac" 833 513
noncomputable def LL:Obj:=Q9 "self" 877 "symbol" 878 "size" 879
noncomputable def LM:Obj:=Q2 31 3 "AcRefineWriter.put_run"
noncomputable def Ic:Obj:=Q0 "put_run" 874 "AcRefineWriter.put_run" 875 876 265 1 515 516 517 518 519 880 881
noncomputable def Cz:Obj:=Q1 31 3 "AcRefineWriter.put_run" "pixelpress.refine_ac" 833 520
noncomputable def LO:Obj:=vq "self" 886 "row" 887 "last" 888 "k" 889
noncomputable def LP:Obj:=Q2 31 4 "AcRefineWriter.last_new"
noncomputable def Ie:Obj:=Q0 "last_new" 883 "AcRefineWriter.last_new" 884 885 275 2 522 523 524 525 526 890 891
noncomputable def CA:Obj:=Q1 31 4 "AcRefineWriter.last_new" "pixelpress.refine_ac" 833 527
noncomputable def LS:Obj:=⟨.type "tuple",none,.seq #[.str "self" 896,.str "place" 897,.str "row" 898,.str "last" 899,.str "zeros" 900,.str "here" 901,.str "k" 902,.str "size" 903] 0,#[]⟩
noncomputable def LU:Obj:=Q2 31 5 "AcRefineWriter.code"
noncomputable def Ig:Obj:=Q0 "code" 893 "AcRefineWriter.code" 894 895 282 3 529 530 531 532 533 904 905
noncomputable def CB:Obj:=Q1 31 5 "AcRefineWriter.code" "pixelpress.refine_ac" 833 534
noncomputable def LV:Obj:=nC "self" 910
noncomputable def LW:Obj:=Q2 31 6 "AcRefineWriter.finish"
noncomputable def Ih:Obj:=Q0 "finish" 907 "AcRefineWriter.finish" 908 909 308 1 536 537 538 539 540 911 912
noncomputable def yp:Obj:=Q1 31 6 "AcRefineWriter.finish" "pixelpress.refine_ac" 833 541
noncomputable def Ii:Obj:=⟨.type "tuple",none,.seq #[.str "kept" 914,.str "key" 915,.str "run" 916,.str "scan" 917,.str "sink" 918] 0,#[]⟩
noncomputable def CC (P:Params):Obj:=⟨.type "dict",none,.dict #[en P "__module__" 844 (.str "pixelpress.refine_ac" 833),en P "__firstlineno__" 848 (.int 248 847),en P "__init__" 857 (.ref 500),en P "start" 864 (.ref 507),en P "put_bits" 873 (.ref 514),en P "put_run" 882 (.ref 521),en P "last_new" 892 (.ref 528),en P "code" 906 (.ref 535),en P "finish" 913 (.ref 542),en P "__static_attributes__" 919 (.ref 543),en P "__dict__" 921 (.ref 546),en P "__weakref__" 923 (.ref 547),en P "__doc__" 924 .none] 4,#[]⟩
noncomputable def CD:Obj:=⟨.type "type",none,.cls (cd "AcRefineWriter" [.type "object"] [.ref 545,.type "object"] 544 "AcRefineWriter" true [] [] false none false),#[none,none,some (.str "AcRefineWriter" 837),some (.str "AcRefineWriter" 845),some (.builtin "object.__new__"),some (.bool true)]⟩
noncomputable def Ij:Obj:=uf 920 545
noncomputable def Ik:Obj:=sV 922 545
noncomputable def Il:Obj:=oB 545
noncomputable def Im:Obj:=oC 545
noncomputable def Io (P:Params):Obj:=⟨.type "dict",none,.dict #[en P "__module__" 934 (.str "pixelpress.refine_ac" 833),en P "__qualname__" 936 (.str "AcRefineReader" 935),en P "__firstlineno__" 938 (.int 311 937),en P "__init__" 947 (.ref 563),en P "start" 955 (.ref 570),en P "correct" 965 (.ref 577),en P "pass_by" 975 (.ref 584),en P "new_value" 983 (.ref 591),en P "read" 998 (.ref 598),en P "finish" 1005 (.ref 605),en P "__static_attributes__" 1010 (.ref 606)] 11,#[]⟩
noncomputable def LX:Obj:=⟨.none,none,.fields #[.int 313 0,.int 4 0,.ref 562,.int 319 0,.int 4 0,.ref 569,.int 323 0,.int 4 0,.ref 576,.int 328 0,.int 4 0,.ref 583,.int 339 0,.int 4 0,.ref 590,.int 346 0,.int 4 0,.ref 597,.int 367 0,.int 4 0,.ref 604],#[]⟩
noncomputable def LY:Obj:=Q3 "AcRefineReader" 929 930 931 311 553 554 932 933
noncomputable def LZ:Obj:=Q4 555 552 "pixelpress.refine_ac" 833
noncomputable def L0:Obj:=Q9 "self" 942 "scan" 943 "tables" 944
noncomputable def L3:Obj:=Q2 32 0 "AcRefineReader.__init__"
noncomputable def Ip:Obj:=Q0 "__init__" 939 "AcRefineReader.__init__" 940 941 313 3 557 558 559 560 561 945 946
noncomputable def CE:Obj:=Q1 32 0 "AcRefineReader.__init__" "pixelpress.refine_ac" 833 562
noncomputable def L4:Obj:=nT "self" 951 "octets" 952
noncomputable def L5:Obj:=Q2 32 1 "AcRefineReader.start"
noncomputable def Iq:Obj:=Q0 "start" 948 "AcRefineReader.start" 949 950 319 2 564 565 566 567 568 953 954
noncomputable def CF:Obj:=Q1 32 1 "AcRefineReader.start" "pixelpress.refine_ac" 833 569
noncomputable def L6:Obj:=vq "self" 959 "row" 960 "k" 961 "more" 962
noncomputable def L7:Obj:=Q2 32 2 "AcRefineReader.correct"
noncomputable def Ir:Obj:=Q0 "correct" 956 "AcRefineReader.correct" 957 958 323 3 571 572 573 574 575 963 964
noncomputable def CG:Obj:=Q1 32 2 "AcRefineReader.correct" "pixelpress.refine_ac" 833 576
noncomputable def L8:Obj:=vq "self" 969 "row" 970 "k" 971 "zeros" 972
noncomputable def L9:Obj:=Q2 32 3 "AcRefineReader.pass_by"
noncomputable def It:Obj:=Q0 "pass_by" 966 "AcRefineReader.pass_by" 967 968 328 4 578 579 580 581 582 973 974
noncomputable def CH:Obj:=Q1 32 3 "AcRefineReader.pass_by" "pixelpress.refine_ac" 833 583
noncomputable def Ma:Obj:=nT "self" 979 "symbol" 980
noncomputable def Mb:Obj:=Q2 32 4 "AcRefineReader.new_value"
noncomputable def Iu:Obj:=Q0 "new_value" 976 "AcRefineReader.new_value" 977 978 339 2 585 586 587 588 589 981 982
noncomputable def CI:Obj:=Q1 32 4 "AcRefineReader.new_value" "pixelpress.refine_ac" 833 590
noncomputable def Md:Obj:=⟨.type "tuple",none,.seq #[.str "self" 987,.str "place" 988,.str "row" 989,.str "found" 990,.str "k" 991,.str "end" 992,.str "symbol" 993,.str "zeros" 994,.str "value" 995] 0,#[]⟩
noncomputable def Me:Obj:=Q2 32 5 "AcRefineReader.read"
noncomputable def Iv:Obj:=Q0 "read" 984 "AcRefineReader.read" 985 986 346 3 592 593 594 595 596 996 997
noncomputable def CJ:Obj:=Q1 32 5 "AcRefineReader.read" "pixelpress.refine_ac" 833 597
noncomputable def Mg:Obj:=nC "self" 1002
noncomputable def Mh:Obj:=Q2 32 6 "AcRefineReader.finish"
noncomputable def Iw:Obj:=Q0 "finish" 999 "AcRefineReader.finish" 1000 1001 367 1 599 600 601 602 603 1003 1004
noncomputable def CK:Obj:=Q1 32 6 "AcRefineReader.finish" "pixelpress.refine_ac" 833 604
noncomputable def Iy:Obj:=vq "reader" 1006 "run" 1007 "scan" 1008 "table" 1009
noncomputable def CL (P:Params):Obj:=⟨.type "dict",none,.dict #[en P "__module__" 934 (.str "pixelpress.refine_ac" 833),en P "__firstlineno__" 938 (.int 311 937),en P "__init__" 947 (.ref 563),en P "start" 955 (.ref 570),en P "correct" 965 (.ref 577),en P "pass_by" 975 (.ref 584),en P "new_value" 983 (.ref 591),en P "read" 998 (.ref 598),en P "finish" 1005 (.ref 605),en P "__static_attributes__" 1010 (.ref 606),en P "__dict__" 1012 (.ref 609),en P "__weakref__" 1014 (.ref 610),en P "__doc__" 1015 .none] 4,#[]⟩
noncomputable def CM:Obj:=⟨.type "type",none,.cls (cd "AcRefineReader" [.type "object"] [.ref 608,.type "object"] 607 "AcRefineReader" true [] [] false none false),#[none,none,some (.str "AcRefineReader" 927),some (.str "AcRefineReader" 935),some (.builtin "object.__new__"),some (.bool true)]⟩
noncomputable def Iz:Obj:=uf 1011 608
noncomputable def IA:Obj:=sV 1013 608
noncomputable def IB:Obj:=oB 608
noncomputable def IC:Obj:=oC 608
noncomputable def ID:Obj:=nT "scan" 1023 "n" 1024
noncomputable def IE:Obj:=Q7 34 "check_band"
noncomputable def IF:Obj:=Q0 "check_band" 1020 "check_band" 1021 1022 371 2 613 614 615 616 617 1025 1026
noncomputable def CN:Obj:=Q5 34 "check_band" "pixelpress.progressive" 1018 618
noncomputable def Mj:Obj:=Q9 "scan" 1031 "n" 1032 "sink" 1033
noncomputable def Mk:Obj:=Q7 35 "progressive_writer"
noncomputable def IG:Obj:=Q0 "progressive_writer" 1028 "progressive_writer" 1029 1030 380 3 620 621 622 623 624 1034 1035
noncomputable def CO:Obj:=Q5 35 "progressive_writer" "pixelpress.progressive" 1018 625
noncomputable def Ml:Obj:=Q9 "scan" 1040 "n" 1041 "tables" 1042
noncomputable def Mm:Obj:=Q7 36 "progressive_reader"
noncomputable def IH:Obj:=Q0 "progressive_reader" 1037 "progressive_reader" 1038 1039 385 3 627 628 629 630 631 1043 1044
noncomputable def CP:Obj:=Q5 36 "progressive_reader" "pixelpress.progressive" 1018 632
noncomputable def Mn:Obj:=⟨.type "tuple",none,.seq #[.str "counts" 1055,.str "rows" 1056,.str "code" 1057,.str "place" 1058,.str "size" 1059,.str "many" 1060] 0,#[]⟩
noncomputable def Mo:Obj:=Q7 40 "code_rows"
noncomputable def II:Obj:=Q0 "code_rows" 1052 "code_rows" 1053 1054 393 1 634 635 636 637 638 1061 1062
noncomputable def CQ:Obj:=Q5 40 "code_rows" "pixelpress.huffman" 1046 639
noncomputable def Mp:Obj:=vq "counts" 1067 "symbols" 1068 "met" 1069 "symbol" 1070
noncomputable def Mq:Obj:=Q7 41 "check_told"
noncomputable def IJ:Obj:=Q0 "check_told" 1064 "check_told" 1065 1066 405 2 641 642 643 644 645 1071 1072
noncomputable def CR:Obj:=Q5 41 "check_told" "pixelpress.huffman" 1046 646
noncomputable def Mr (P:Params):Obj:=⟨.type "dict",none,.dict #[en P "__module__" 1081 (.str "pixelpress.huffman" 1046),en P "__qualname__" 1083 (.str "HuffTable" 1082),en P "__firstlineno__" 1085 (.int 415 1084),en P "__init__" 1099 (.ref 661),en P "code" 1108 (.ref 668),en P "read" 1120 (.ref 675),en P "__static_attributes__" 1125 (.ref 676)] 7,#[]⟩
noncomputable def Ms:Obj:=⟨.none,none,.fields #[.int 417 0,.int 4 0,.ref 660,.int 428 0,.int 4 0,.ref 667,.int 434 0,.int 4 0,.ref 674],#[]⟩
noncomputable def Mu:Obj:=Q3 "HuffTable" 1076 1077 1078 415 651 652 1079 1080
noncomputable def Mv:Obj:=Q4 653 650 "pixelpress.huffman" 1046
noncomputable def Mw:Obj:=⟨.type "tuple",none,.seq #[.str "self" 1089,.str "counts" 1090,.str "symbols" 1091,.str "size" 1092,.str "first" 1093,.str "many" 1094,.str "place" 1095,.str "k" 1096] 0,#[]⟩
noncomputable def Mx:Obj:=Q2 42 0 "HuffTable.__init__"
noncomputable def IK:Obj:=Q0 "__init__" 1086 "HuffTable.__init__" 1087 1088 417 3 655 656 657 658 659 1097 1098
noncomputable def CS:Obj:=Q1 42 0 "HuffTable.__init__" "pixelpress.huffman" 1046 660
noncomputable def My:Obj:=Q9 "self" 1103 "symbol" 1104 "found" 1105
noncomputable def Mz:Obj:=Q2 42 1 "HuffTable.code"
noncomputable def IL:Obj:=Q0 "code" 1100 "HuffTable.code" 1101 1102 428 2 662 663 664 665 666 1106 1107
noncomputable def CT:Obj:=Q1 42 1 "HuffTable.code" "pixelpress.huffman" 1046 667
noncomputable def IM:Obj:=⟨.type "tuple",none,.seq #[.str "self" 1112,.str "reader" 1113,.str "code" 1114,.str "first" 1115,.str "many" 1116,.str "place" 1117] 0,#[]⟩
noncomputable def IP:Obj:=Q2 42 2 "HuffTable.read"
noncomputable def CU:Obj:=Q0 "read" 1109 "HuffTable.read" 1110 1111 434 2 669 670 671 672 673 1118 1119
noncomputable def yq:Obj:=Q1 42 2 "HuffTable.read" "pixelpress.huffman" 1046 674
noncomputable def IQ:Obj:=vq "codes" 1121 "counts" 1122 "rows" 1123 "symbols" 1124
noncomputable def CV (P:Params):Obj:=⟨.type "dict",none,.dict #[en P "__module__" 1081 (.str "pixelpress.huffman" 1046),en P "__firstlineno__" 1085 (.int 415 1084),en P "__init__" 1099 (.ref 661),en P "code" 1108 (.ref 668),en P "read" 1120 (.ref 675),en P "__static_attributes__" 1125 (.ref 676),en P "__dict__" 1127 (.ref 679),en P "__weakref__" 1129 (.ref 680),en P "__doc__" 1130 .none] 4,#[]⟩
noncomputable def CW:Obj:=⟨.type "type",none,.cls (cd "HuffTable" [.type "object"] [.ref 678,.type "object"] 677 "HuffTable" true [] [] false none false),#[none,none,some (.str "HuffTable" 1074),some (.str "HuffTable" 1082),some (.builtin "object.__new__"),some (.bool true)]⟩
noncomputable def IS:Obj:=uf 1126 678
noncomputable def IT:Obj:=sV 1128 678
noncomputable def IU:Obj:=oB 678
noncomputable def MA:Obj:=oC 678
noncomputable def MC (P:Params):Obj:=⟨.type "dict",none,.dict #[en P "__module__" 1142 (.str "pixelpress.scans" 1133),en P "__qualname__" 1144 (.str "Scan" 1143),en P "__firstlineno__" 1146 (.int 442 1145),en P "__init__" 1160 (.ref 696),en P "is_alone" 1167 (.ref 703),en P "is_finer" 1174 (.ref 710),en P "__static_attributes__" 1182 (.ref 711)] 7,#[]⟩
noncomputable def MD:Obj:=⟨.none,none,.fields #[.int 444 0,.int 4 0,.ref 695,.int 453 0,.int 4 0,.ref 702,.int 456 0,.int 4 0,.ref 709],#[]⟩
noncomputable def MF:Obj:=Q3 "Scan" 1137 1138 1139 442 686 687 1140 1141
noncomputable def MG:Obj:=Q4 688 685 "pixelpress.scans" 1133
noncomputable def MH:Obj:=⟨.type "tuple",none,.seq #[.str "self" 1150,.str "places" 1151,.str "dc_slots" 1152,.str "ac_slots" 1153,.str "start" 1154,.str "end" 1155,.str "high" 1156,.str "low" 1157] 0,#[]⟩
noncomputable def MI:Obj:=Q2 44 0 "Scan.__init__"
noncomputable def IV:Obj:=Q0 "__init__" 1147 "Scan.__init__" 1148 1149 444 8 690 691 692 693 694 1158 1159
noncomputable def CX:Obj:=Q1 44 0 "Scan.__init__" "pixelpress.scans" 1133 695
noncomputable def MJ:Obj:=nC "self" 1164
noncomputable def MK:Obj:=Q2 44 1 "Scan.is_alone"
noncomputable def ML:Obj:=Q0 "is_alone" 1161 "Scan.is_alone" 1162 1163 453 1 697 698 699 700 701 1165 1166
noncomputable def MM:Obj:=Q1 44 1 "Scan.is_alone" "pixelpress.scans" 1133 702
noncomputable def MN:Obj:=nC "self" 1171
noncomputable def MO:Obj:=Q2 44 2 "Scan.is_finer"
noncomputable def MP:Obj:=Q0 "is_finer" 1168 "Scan.is_finer" 1169 1170 456 1 704 705 706 707 708 1172 1173
noncomputable def MQ:Obj:=Q1 44 2 "Scan.is_finer" "pixelpress.scans" 1133 709
noncomputable def MR:Obj:=⟨.type "tuple",none,.seq #[.str "ac_slots" 1175,.str "dc_slots" 1176,.str "end" 1177,.str "high" 1178,.str "low" 1179,.str "places" 1180,.str "start" 1181] 0,#[]⟩
noncomputable def IW (P:Params):Obj:=⟨.type "dict",none,.dict #[en P "__module__" 1142 (.str "pixelpress.scans" 1133),en P "__firstlineno__" 1146 (.int 442 1145),en P "__init__" 1160 (.ref 696),en P "is_alone" 1167 (.ref 703),en P "is_finer" 1174 (.ref 710),en P "__static_attributes__" 1182 (.ref 711),en P "__dict__" 1184 (.ref 714),en P "__weakref__" 1186 (.ref 715),en P "__doc__" 1187 .none] 4,#[]⟩
noncomputable def IX:Obj:=⟨.type "type",none,.cls (cd "Scan" [.type "object"] [.ref 713,.type "object"] 712 "Scan" true [] [] false none false),#[none,none,some (.str "Scan" 1135),some (.str "Scan" 1143),some (.builtin "object.__new__"),some (.bool true)]⟩
noncomputable def MU:Obj:=uf 1183 713
noncomputable def MV:Obj:=sV 1185 713
noncomputable def MW:Obj:=oB 713
noncomputable def MX:Obj:=oC 713
noncomputable def MY (P:Params):Obj:=Q8 P 1199 "pixelpress.sinks" 1190 1201 "CodeSink" 1200 1203 459 1202 1211 731 "symbol" 1222 738 "bits" 1231 745 "finish" 1239 752 1242 753
noncomputable def MZ:Obj:=EI 461 730 465 737 469 744 472 751
noncomputable def M0:Obj:=Q3 "CodeSink" 1194 1195 1196 459 721 722 1197 1198
noncomputable def M1:Obj:=Q4 723 720 "pixelpress.sinks" 1190
noncomputable def M3:Obj:=nT "self" 1207 "tables" 1208
noncomputable def M6:Obj:=Q2 46 0 "CodeSink.__init__"
noncomputable def IY:Obj:=Q0 "__init__" 1204 "CodeSink.__init__" 1205 1206 461 2 725 726 727 728 729 1209 1210
noncomputable def CY:Obj:=Q1 46 0 "CodeSink.__init__" "pixelpress.sinks" 1190 730
noncomputable def IZ:Obj:=⟨.type "tuple",none,.seq #[.str "self" 1215,.str "key" 1216,.str "s" 1217,.str "bits" 1218,.str "size" 1219] 0,#[]⟩
noncomputable def I0:Obj:=Q2 46 1 "CodeSink.symbol"
noncomputable def CZ:Obj:=Q0 "symbol" 1212 "CodeSink.symbol" 1213 1214 465 3 732 733 734 735 736 1220 1221
noncomputable def yr:Obj:=Q1 46 1 "CodeSink.symbol" "pixelpress.sinks" 1190 737
noncomputable def I1:Obj:=Q9 "self" 1226 "v" 1227 "size" 1228
noncomputable def I2:Obj:=Q2 46 2 "CodeSink.bits"
noncomputable def C0:Obj:=Q0 "bits" 1223 "CodeSink.bits" 1224 1225 469 3 739 740 741 742 743 1229 1230
noncomputable def yt:Obj:=Q1 46 2 "CodeSink.bits" "pixelpress.sinks" 1190 744
noncomputable def M7:Obj:=nT "self" 1235 "found" 1236
noncomputable def M8:Obj:=Q2 46 3 "CodeSink.finish"
noncomputable def I3:Obj:=Q0 "finish" 1232 "CodeSink.finish" 1233 1234 472 1 746 747 748 749 750 1237 1238
noncomputable def Dc:Obj:=Q1 46 3 "CodeSink.finish" "pixelpress.sinks" 1190 751
noncomputable def M9:Obj:=nT "tables" 1240 "writer" 1241
noncomputable def I4 (P:Params):Obj:=Q6 P 1199 "pixelpress.sinks" 1190 1203 459 1202 1211 731 "symbol" 1222 738 "bits" 1231 745 "finish" 1239 752 1242 753 1244 756 1246 757 1247
noncomputable def I5:Obj:=⟨.type "type",none,.cls (cd "CodeSink" [.type "object"] [.ref 755,.type "object"] 754 "CodeSink" true [] [] false none false),#[none,none,some (.str "CodeSink" 1192),some (.str "CodeSink" 1200),some (.builtin "object.__new__"),some (.bool true)]⟩
noncomputable def Na:Obj:=uf 1243 755
noncomputable def Nb:Obj:=sV 1245 755
noncomputable def Nc:Obj:=oB 755
noncomputable def Nd:Obj:=oC 755
noncomputable def Nf:Obj:=⟨.type "tuple",none,.seq #[.str "script" 1255,.str "cell" 1256,.str "size" 1257,.str "mixed" 1258,.str "one" 1259] 0,#[]⟩
noncomputable def Ng:Obj:=Q7 48 "_law_source"
noncomputable def I6:Obj:=Q0 "_law_source" 1252 "_law_source" 1253 1254 478 1 760 761 762 763 764 1260 1261
noncomputable def Dd:Obj:=Q5 48 "_law_source" "law_nt0574_01" 1250 765
noncomputable def Nh:Obj:=Q9 "source" 1266 "many" 1267 "found" 1268
noncomputable def Ni:Obj:=Q7 49 "_law_draw"
noncomputable def I7:Obj:=Q0 "_law_draw" 1263 "_law_draw" 1264 1265 485 2 767 768 769 770 771 1269 1270
noncomputable def De:Obj:=Q5 49 "_law_draw" "law_nt0574_01" 1250 772
noncomputable def Nj:Obj:=Q7 50 "_law_table"
noncomputable def I8:Obj:=⟨.type "code",none,.fields #[.str "_law_table" 1272,.str "_law_table" 1273,.str "/claim/cut.py" 1274,.int 492 0,.int 1 0,.int 0 0,.int 0 0,.int 3 0,.ref 774,.bool true,.int 181 0,.ref 775,.none,.none,.none,.ref 776,.int 1275 0,.int 492 0,.str "/claim/cut.py" 1276],#[]⟩
noncomputable def Df:Obj:=Q5 50 "_law_table" "law_nt0574_01" 1250 777
noncomputable def Nk:Obj:=Q9 "source" 1281 "kind" 1282 "size" 1283
noncomputable def Nl:Obj:=Q7 51 "_law_number"
noncomputable def I9:Obj:=Q0 "_law_number" 1278 "_law_number" 1279 1280 498 1 779 780 781 782 783 1284 1285
noncomputable def Dg:Obj:=Q5 51 "_law_number" "law_nt0574_01" 1250 784
noncomputable def Nm:Obj:=Q7 52 "_law_passed"
noncomputable def Ja:Obj:=⟨.type "code",none,.fields #[.str "_law_passed" 1287,.str "_law_passed" 1288,.str "/claim/cut.py" 1289,.int 504 0,.int 5 0,.int 0 0,.int 0 0,.int 3 0,.ref 786,.bool true,.int 181 0,.ref 787,.none,.none,.none,.ref 788,.int 1290 0,.int 504 0,.str "/claim/cut.py" 1291],#[]⟩
noncomputable def Dh:Obj:=Q5 52 "_law_passed" "law_nt0574_01" 1250 789
noncomputable def Nn:Obj:=⟨.type "tuple",none,.seq #[.str "rows" 1296,.str "known" 1297,.str "start" 1298,.str "end" 1299,.str "low" 1300,.str "found" 1301,.str "k" 1302,.str "row" 1303,.str "at" 1304,.str "size" 1305] 0,#[]⟩
noncomputable def Np:Obj:=Q7 53 "_law_due"
noncomputable def Jb:Obj:=Q0 "_law_due" 1293 "_law_due" 1294 1295 514 5 791 792 793 794 795 1306 1307
noncomputable def Di:Obj:=Q5 53 "_law_due" "law_nt0574_01" 1250 796
noncomputable def NT (P:Params):BT:=N Pf (N AQ (Y2 xO aa aa) (Y1 aw II)) (N xE (Y1 aa L7) (Y1 (HT P) MM))
noncomputable def NU (P:Params):BT:=N bV (N A5 (Y2 (BH P) Ie Nl) (Y1 Hz aa)) (N aa (Y1 Hf CI) (Y1 H3 bV))
noncomputable def NW:BT:=N AK (N aa (Y1 BO L0) (Y1 aa MD)) (N GB (Y1 Ho aa) (Y1 aw I3))
noncomputable def NX:BT:=N Pk (N xp (Y2 aa LM aw) (Y1 Hw CR)) (N uP (Y1 aw It) (Y1 aa MR))
noncomputable def NY (P:Params):BT:=N Px (N aa (Y2 (GU P) CB aa) (Y1 HF aw)) (N aw (Y1 aa aa) (Y1 Cp M3))
noncomputable def NZ (P:Params):BT:=N aa (N Bg (Y1 xU aa) (Y1 (Cj P) IV)) (N BB (Y1 aa Mm) (Y1 LG Nd))
noncomputable def N4:BT:=N bV (N aw (Y2 aa aa Ni) (Y1 B9 Mp)) (N Bl (Y1 G8 aw) (Y1 HW aa))
noncomputable def N8:BT:=N Pt (N aa (Y2 GQ LS aw) (Y1 aa Mx)) (N Bq (Y1 xW aa) (Y1 aw M0))
noncomputable def N9:BT:=N uG (N Be (Y1 G0 CE) (Y1 HM aw)) (N aw (Y1 aa aa) (Y1 H9 I5))
noncomputable def Oa:BT:=N Pn (N xr (Y2 GL aw aa) (Y1 ye aa)) (N aa (Y1 BU Ma) (Y1 aa MV))
noncomputable def Oc (P:Params):BT:=N AI (N uM (Y1 aw LY) (Y1 aa aa)) (N aa (Y1 (Hk P) CN) (Y1 Ly aw))
noncomputable def Od:BT:=N bV (N Bb (Y2 GX aa Np) (Y1 aw IL)) (N xI (Y1 aa Mh) (Y1 H6 CY))
noncomputable def Oe:BT:=N aa (N aw (Y1 G3 aa) (Y1 HQ MJ)) (N GG (Y1 Ht aw) (Y1 Cw aa))
noncomputable def Of (P:Params):BT:=N Ph (N uI (Y2 aw Ib Nh) (Y1 aa aa)) (N aa (Y1 (G7 P) CG) (Y1 HU aw))
noncomputable def Og:BT:=N aa (N bV (Y2 GO aa Dg) (Y1 HC Mw)) (N Bp (Y1 Hg aw) (Y1 yk aa))
noncomputable def Oh:BT:=N AL (N xB (Y1 aa L3) (Y1 HL MG)) (N xM (Y1 aw IG) (Y1 aa M9))
noncomputable def Oi:BT:=N aa (N AY (Y2 GK Cz I8) (Y1 Hx bV)) (N aw (Y1 aa aa) (Y1 Cm IX))
noncomputable def Oj:BT:=N Pz (N Ba (Y2 GV aw Nn) (Y1 HH aa)) (N aa (Y1 BX Mg) (Y1 aa M6))
noncomputable def Ol (P:Params):BT:=N xn (N Bi (Y1 (BQ P) Iq) (Y1 HO aa)) (N aa (Y1 Hs CP) (Y1 LH aw))
noncomputable def Om:BT:=N aa (N aa (Y2 BD LL De) (Y1 aa Mq)) (N Bm (Y1 Hb aa) (Y1 aw MP))
noncomputable def Oo (P:Params):BT:=N aa (N A8 (Y2 aa LU Ja) (Y1 (HE P) CS)) (N uR (Y1 aw Iv) (Y1 aa aa))
noncomputable def Oq:BT:=N aw (N xD (Y1 G1 aw) (Y1 yi aa)) (N aa (Y1 B7 Ml) (Y1 aa Nb))
noncomputable def Ot (P:Params):BT:=N Pp (N A0 (Y2 xQ aa Nk) (Y1 (Cb P) Mu)) (N xG (Y1 aa Mb) (Y1 HZ MX))
noncomputable def Ou (P:Params):BT:=N aa (N aw (Y1 aa aa) (Y1 Cg (MC P))) (N GA (Y1 Hl aw) (Y1 LA aa))
noncomputable def Ov:BT:=N aa (N uK (Y2 aw Ih Di) (Y1 aa aa)) (N aa (Y1 Hj CK) (Y1 H7 aw))
noncomputable def Ow:BT:=N AP (N aa (Y1 G5 L6) (Y1 aa MK)) (N GH (Y1 yc aa) (Y1 aw I6))
noncomputable def Ox:BT:=N Pg (N xo (Y2 aa LK aw) (Y1 Hu CQ)) (N uO (Y1 bV Ir) (Y1 aa aa))
noncomputable def Oy (P:Params):BT:=N (Pq P) (N aa (Y2 BI CA I9) (Y1 HB aw)) (N aw (Y1 aa aa) (Y1 Co (MY P)))
noncomputable def Oz:BT:=N aa (N Bd (Y1 xT aa) (Y1 aw MF)) (N BA (Y1 aa Mk) (Y1 LB Dc))
noncomputable def OA (P:Params):BT:=N Pl (N uJ (Y2 aw Ic Nj) (Y1 aa aa)) (N aa (Y1 Hc CH) (Y1 HY (IW P)))
noncomputable def OB:BT:=N Py (N aw (Y2 aa aa aw) (Y1 HG My)) (N Bs (Y1 Hi aw) (Y1 yl aa))
noncomputable def OC:BT:=N AN (N Bh (Y1 G2 L5) (Y1 Ck CX)) (N xN (Y1 aw IH) (Y1 aa aa))
noncomputable def OD (P:Params):BT:=N (Pj P) (N AU (Y2 GJ aw I7) (Y1 yd aa)) (N aa (Y1 G9 L8) (Y1 aa MO))
noncomputable def OF:BT:=N Pu (N A7 (Y2 GS aa Nm) (Y1 bV IK)) (N xH (Y1 aa Me) (Y1 H4 M1))
noncomputable def OG (P:Params):BT:=N aa (N (xC P) (Y1 aa aa) (Y1 Ci MH)) (N GC (Y1 Hr aw) (Y1 Cv Na))
noncomputable def OH:BT:=N Po (N AZ (Y2 BE LO aw) (Y1 Hy Ms)) (N Bo (Y1 xV aa) (Y1 aw MW))
noncomputable def OI:BT:=N AJ (N aa (Y1 GY LZ) (Y1 HK bV)) (N aw (Y1 aa aa) (Y1 Lz M7))
noncomputable def OJ (P:Params):BT:=N (PA P) (N xt (Y2 aa LW Jb) (Y1 HI CT)) (N uS (Y1 aw Iw) (Y1 aa aa))
noncomputable def OK:BT:=N aw (N Bj (Y1 G4 aw) (Y1 HS aa)) (N aa (Y1 B8 Mn) (Y1 aa Ng))
noncomputable def OL:BT:=N nA (N aa (Y2 GI Cy aa) (Y1 Hv aw)) (N aw (Y1 aa aa) (Y1 HV MN))
noncomputable def OM (P:Params):BT:=N aw (N (A6 P) (Y2 GP aw aa) (Y1 HD aa)) (N aa (Y1 BV Md) (Y1 aa MZ))
noncomputable def ON (P:Params):BT:=N xm (N uN (Y1 aw Ip) (Y1 aa aa)) (N aa (Y1 Hq CO) (Y1 LC (I4 P)))
noncomputable def OO (P:Params):BT:=N (Pm P) (N (xq P) (Y2 aa aa Df) (Y1 Ca (Mr P))) (N Bn (Y1 He aw) (Y1 yj MU))
noncomputable def OP:BT:=N AH (N xA (Y1 aa LX) (Y1 HJ MA)) (N xK (Y1 bV IF) (Y1 aa aa))
noncomputable def OQ:BT:=N nA (N aa (Y2 GW LV aa) (Y1 aa Mz)) (N Bt (Y1 xX aa) (Y1 aw IY))
noncomputable def OR:BT:=N uH (N aa (Y1 BS CF) (Y1 HP aw)) (N aw (Y1 aa aa) (Y1 Ia Nf))
noncomputable def OS:BT:=N aw (N AX (Y2 xP aa aa) (Y1 aw IJ)) (N xF (Y1 aa L9) (Y1 HX MQ))
noncomputable def OT (P:Params):BT:=N (Pw P) (N A9 (Y2 bV Ig Dh) (Y1 aa aa)) (N aa (Y1 Hh CJ) (Y1 H5 aw))
noncomputable def OU:BT:=N AM (N Bf (Y1 BP L4) (Y1 HN MI)) (N GD (Y1 yb aa) (Y1 aw Nc))
noncomputable def OV:BT:=N nA (N A4 (Y2 GN LP aa) (Y1 Cc Mv)) (N uQ (Y1 aw Iu) (Y1 aa aa))
noncomputable def OW:BT:=N aw (N Bc (Y1 GZ aw) (Y1 yh aa)) (N aa (Y1 Hn Mj) (Y1 aa M8))
noncomputable def OX:BT:=N aa (N Bk (Y1 G6 aa) (Y1 bV ML)) (N BC (Y1 aa Mo) (Y1 LJ Dd))
noncomputable def Sn (P:Params):BT:=N (boot_o_0 P) (N (boot_o_1 P) (N (QK P) (N (boot_o_7 P) (N aa (N Lh (NT P) (N Nu (N aw (Y1 aa Ii) (Y1 yf IM)) (N (Bu P) (Y1 BY (CL P)) (Y1 uY aa)))) (N Lw (NU P) NW)) (N bV (N Lp NX (N bV (N xx (Y1 BN bV) (Y1 uX IS)) (N aa (Y1 B5 ID) (Y1 aa I2)))) (N bV (NY P) (NZ P)))) (N aa (N K8 (N Ll N4 (N Nx (N uL (Y1 aa Ik) (Y1 Ce yq)) (N Bx (Y1 (xZ P) IB) (Y1 Cr aa)))) (N LI N8 N9)) (N Lf (N bV Oa (Oc P)) (N Mc Od Oe)))) (N (boot_o_5 P) (N (boot_o_9 P) (N K7 (N Lj (Of P) (N aa (N aa (Y1 xR CD) (Y1 aa IP)) (N Bv (Y1 uV Iz) (Y1 (yn P) CZ)))) (N aa Og Oh)) (N aa (N Ls Oi (N aa (N xy (Y1 uU aa) (Y1 aw IU)) (N xJ (Y1 aa IE) (Y1 (H8 P) yt)))) (N aa Oj (Ol P)))) (N Gy (N La (N (Ln P) Om (N xj (N aa (Y1 BL Im) (Y1 Cf (CV P))) (N aw (Y1 B0 aa) (Y1 Ct I1)))) (N LQ (Oo P) Oq)) (N aa (N aa (Ot P) (Ou P)) (N aa Ov Ow))))) (N (o2 P) (N (boot_o_4 P) (N (boot_o_8 P) (N aw (N aa Ox (N Nv (N xu (Y1 BK (CC P)) (Y1 uW aa)) (N aa (Y1 xY CM) (Y1 Cq I0)))) (N Lx (Oy P) Oz)) (N (Lc P) (N Lq (OA P) (N (xl P) (N aa (Y1 xS (Io P)) (Y1 aa IT)) (N Bz (Y1 B6 aa) (Y1 bV C0)))) (N (L1 P) OB OC))) (N K6 (N K9 (N Lm (OD P) (N xi (N r8 (Y1 aw Il) (Y1 aa IQ)) (N aa (Y1 ya IC) (Y1 Cs aw)))) (N LN OF (OG P))) (N Lg (N (Lu P) OH OI) (N Mf (OJ P) OK)))) (N (boot_o_6 P) (N (boot_o_10 P) (N aa (N Lk OL (N (Nw P) (N xw (Y1 uT Ij) (Y1 aw CU)) (N Bw (Y1 BZ IA) (Y1 yo yr)))) (N (LD P) (OM P) (ON P))) (N Ld (N nA (OO P) OP) (N aw OQ OR))) (N Gz (N Lb (N Lo OS (N aa (N aw (Y1 aa aa) (Y1 yg CW)) (N By (Y1 B4 aw) (Y1 Cu aa)))) (N nA (OT P) OU)) (N aw (N aw OV OW) (N (Mi P) (N aw (N aa (Y1 BJ yp) (Y1 Cd aw)) (N bV (Y1 aa Iy) (Y1 ym IZ))) OX)))))
noncomputable def S3 (w:World) (os:OsState):SharedT:=⟨Sn w.params,798,⟨[],[],[],0,[],[],false,#[],[],0,false,false,false,0,[2000,10,10],false,0,true,[],[],0,false⟩,#[],⟨0,0,0,0⟩,1309,os⟩
theorem r3 (w:World):(fun os=>segRunT treeTable pw w m0 rC 1 2181 (S2 w os) (piecesOf ((B.drop 31).take 23) mN cE ⟨247,0,247,9⟩ [topFrame fq]))=fun os=>some (.next,S3 w os,cE,⟨514,0,524,16⟩):=by rewrite [qT,qB];kernel_rfl
noncomputable def HA (P:Params):Obj:=⟨.type "dict",none,.dict #[en P "__name__" 165 (.str "law_nt0574_01" 1250),en P "__doc__" 166 .none,en P "__package__" 167 .none,en P "__loader__" 168 (.builtin "__main__.__loader__#opaque"),en P "__spec__" 169 .none,en P "__annotations__" 170 (.ref 6),en P "__builtins__" 171 (.ref 4),en P "__file__" 173 (.str "/claim/cut.py" 172),en P "__cached__" 174 .none,en P "_wall" 193 (.ref 21),en P "PressError" 224 (.ref 38),en P "TableError" 240 (.ref 51),en P "ScanError" 256 (.ref 63),en P "CodeError" 272 (.ref 75),en P "CutError" 288 (.ref 87),en P "RangeError" 304 (.ref 99),en P "BitWriter" 359 (.ref 139),en P "BitReader" 414 (.ref 181),en P "category" 423 (.ref 192),en P "bits_of" 431 (.ref 199),en P "value_of" 439 (.ref 206),en P "SIXTEEN_ZEROS" 443 (.int 240 442),en P "MOST_RUN" 445 (.int 32767 444),en P "MOST_CATEGORY_progressive_ac" 447 (.int 15 446),en P "run_code" 455 (.ref 213),en P "shrunk_size" 463 (.ref 220),en P "AcFirstWriter" 541 (.ref 272),en P "AcFirstReader" 604 (.ref 314),en P "MOST_CATEGORY_progressive_dc" 608 (.int 15 607),en P "DcFirstWriter" 666 (.ref 356),en P "DcRefineWriter" 720 (.ref 398),en P "DcFirstReader" 778 (.ref 440),en P "DcRefineReader" 832 (.ref 482),en P "MOST_KEPT" 836 (.int 937 835),en P "AcRefineWriter" 926 (.ref 545),en P "AcRefineReader" 1017 (.ref 608),en P "check_band" 1027 (.ref 619),en P "progressive_writer" 1036 (.ref 626),en P "progressive_reader" 1045 (.ref 633),en P "MOST_BITS" 1049 (.int 16 1048),en P "MOST_SYMBOLS" 1051 (.int 256 1050),en P "code_rows" 1063 (.ref 640),en P "check_told" 1073 (.ref 647),en P "HuffTable" 1132 (.ref 678),en P "Scan" 1189 (.ref 713),en P "CodeSink" 1249 (.ref 755),en P "_law_source" 1262 (.ref 766),en P "_law_draw" 1271 (.ref 773),en P "_law_table" 1277 (.ref 778),en P "_law_number" 1286 (.ref 785),en P "_law_passed" 1292 (.ref 790),en P "_law_due" 1308 (.ref 797),en P "_law_sixteen_right" 1319 (.ref 804),en P "law" 1325 (.ref 809)] 54,#[]⟩
noncomputable def E7:Obj:=⟨.none,none,.fields #[.int 1 0,.int 0 0,.ref 20,.int 5 0,.int 0 0,.ref 27,.int 10 0,.int 0 0,.ref 47,.int 12 0,.int 0 0,.ref 59,.int 14 0,.int 0 0,.ref 71,.int 16 0,.int 0 0,.ref 83,.int 18 0,.int 0 0,.ref 95,.int 21 0,.int 0 0,.ref 107,.int 44 0,.int 0 0,.ref 149,.int 68 0,.int 0 0,.ref 191,.int 70 0,.int 0 0,.ref 198,.int 74 0,.int 0 0,.ref 205,.int 82 0,.int 0 0,.ref 212,.int 85 0,.int 0 0,.ref 219,.int 87 0,.int 0 0,.ref 226,.int 134 0,.int 0 0,.ref 282,.int 173 0,.int 0 0,.ref 324,.int 194 0,.int 0 0,.ref 366,.int 208 0,.int 0 0,.ref 408,.int 230 0,.int 0 0,.ref 450,.int 248 0,.int 0 0,.ref 492,.int 311 0,.int 0 0,.ref 555,.int 371 0,.int 0 0,.ref 618,.int 380 0,.int 0 0,.ref 625,.int 385 0,.int 0 0,.ref 632,.int 393 0,.int 0 0,.ref 639,.int 405 0,.int 0 0,.ref 646,.int 415 0,.int 0 0,.ref 653,.int 442 0,.int 0 0,.ref 688,.int 459 0,.int 0 0,.ref 723,.int 478 0,.int 0 0,.ref 765,.int 485 0,.int 0 0,.ref 772,.int 492 0,.int 0 0,.ref 777,.int 498 0,.int 0 0,.ref 784,.int 504 0,.int 0 0,.ref 789,.int 514 0,.int 0 0,.ref 796,.int 525 0,.int 0 0,.ref 803,.int 534 0,.int 0 0,.ref 808],#[]⟩
noncomputable def Nq:Obj:=⟨.type "tuple",none,.seq #[.str "rows" 1312,.str "known" 1313,.str "table" 1314,.str "scan" 1315,.str "due" 1316] 0,#[]⟩
noncomputable def Nr:Obj:=Q7 54 "_law_sixteen_right"
noncomputable def Jc:Obj:=Q0 "_law_sixteen_right" 1309 "_law_sixteen_right" 1310 1311 525 0 798 799 800 801 802 1317 1318
noncomputable def Dj:Obj:=Q5 54 "_law_sixteen_right" "law_nt0574_01" 1250 803
noncomputable def Nt:Obj:=Q7 55 "law"
noncomputable def Jd:Obj:=⟨.type "code",none,.fields #[.str "law" 1320,.str "law" 1321,.str "/claim/cut.py" 1322,.int 534 0,.int 1 0,.int 0 0,.int 0 0,.int 3 0,.ref 805,.bool true,.int 181 0,.ref 806,.none,.none,.none,.ref 807,.int 1323 0,.int 534 0,.str "/claim/cut.py" 1324],#[]⟩
noncomputable def Dk:Obj:=Q5 55 "law" "law_nt0574_01" 1250 808
noncomputable def JJ (P:Params):BT:=N (boot_o_0 P) (N (boot_o_1 P) (N (HA P) (N (boot_o_7 P) (N aa (N Lh (NT P) (N Nu (N aw (Y2 aa Ii aw) (Y1 yf IM)) (N (Bu P) (Y1 BY (CL P)) (Y1 uY aa)))) (N Lw (NU P) NW)) (N bV (N Lp NX (N bV (N xx (Y2 BN bV Nt) (Y1 uX IS)) (N aa (Y1 B5 ID) (Y1 aa I2)))) (N bV (NY P) (NZ P)))) (N aa (N K8 (N Ll N4 (N Nx (N uL (Y2 aa Ik Jc) (Y1 Ce yq)) (N Bx (Y1 (xZ P) IB) (Y1 Cr aa)))) (N LI N8 N9)) (N Lf (N bV Oa (Oc P)) (N Mc Od Oe)))) (N (boot_o_5 P) (N (boot_o_9 P) (N K7 (N Lj (Of P) (N aa (N aa (Y2 xR CD aa) (Y1 aa IP)) (N Bv (Y1 uV Iz) (Y1 (yn P) CZ)))) (N aa Og Oh)) (N aa (N Ls Oi (N aa (N xy (Y2 uU aa Dk) (Y1 aw IU)) (N xJ (Y1 aa IE) (Y1 (H8 P) yt)))) (N aa Oj (Ol P)))) (N Gy (N La (N (Ln P) Om (N xj (N aa (Y2 BL Im aa) (Y1 Cf (CV P))) (N aw (Y1 B0 aa) (Y1 Ct I1)))) (N LQ (Oo P) Oq)) (N aa (N aa (Ot P) (Ou P)) (N aa Ov Ow))))) (N (o2 P) (N (boot_o_4 P) (N (boot_o_8 P) (N aw (N aa Ox (N Nv (N xu (Y2 BK (CC P) Nq) (Y1 uW aa)) (N aa (Y1 xY CM) (Y1 Cq I0)))) (N Lx (Oy P) Oz)) (N (Lc P) (N Lq (OA P) (N (xl P) (N aa (Y2 xS (Io P) Jd) (Y1 aa IT)) (N Bz (Y1 B6 aa) (Y1 bV C0)))) (N (L1 P) OB OC))) (N E7 (N K9 (N Lm (OD P) (N xi (N r8 (Y2 aw Il Dj) (Y1 aa IQ)) (N aa (Y1 ya IC) (Y1 Cs aw)))) (N LN OF (OG P))) (N Lg (N (Lu P) OH OI) (N Mf (OJ P) OK)))) (N (boot_o_6 P) (N (boot_o_10 P) (N aa (N Lk OL (N (Nw P) (N xw (Y2 uT Ij Nr) (Y1 aw CU)) (N Bw (Y1 BZ IA) (Y1 yo yr)))) (N (LD P) (OM P) (ON P))) (N Ld (N nA (OO P) OP) (N aw OQ OR))) (N Gz (N Lb (N Lo OS (N aa (N aw (Y2 aa aa aw) (Y1 yg CW)) (N By (Y1 B4 aw) (Y1 Cu aa)))) (N nA (OT P) OU)) (N aw (N aw OV OW) (N (Mi P) (N aw (N aa (Y2 BJ yp aa) (Y1 Cd aw)) (N bV (Y1 aa Iy) (Y1 ym IZ))) OX)))))
noncomputable def S4 (w:World) (os:OsState):SharedT:=⟨JJ w.params,810,⟨[],[],[],0,[],[],false,#[],[],0,false,false,false,0,[2000,10,10],false,0,true,[],[],0,false⟩,#[],⟨0,0,0,0⟩,1326,os⟩
theorem r4 (w:World):(fun os=>segRunT treeTable pw w m0 rC 1 60 (S3 w os) (piecesOf ((B.drop 54).take 2) mN cE ⟨514,0,524,16⟩ [topFrame fq]))=fun os=>some (.next,S4 w os,cE,⟨534,0,550,70⟩):=by rewrite [qT,qB];kernel_rfl
noncomputable def H1 (P:Params):Heap:=⟨#[(boot_o_0 P),(boot_o_1 P),(o2 P),(HA P),(boot_o_4 P),(boot_o_5 P),(boot_o_6 P),(boot_o_7 P),(boot_o_8 P),(boot_o_9 P),(boot_o_10 P),aa,E7,Gy,Gz,aa,aw,K7,aa,K8,K9,La,Lb,bV,(Lc P),aa,Ld,Lf,Lg,aa,aw,Lh,aa,Lj,Lk,Ll,Lm,(Ln P),Lo,Lp,Lq,Ls,nA,bV,(Lu P),aa,aw,Lw,Lx,aa,(LD P),LI,LN,LQ,nA,bV,(L1 P),aa,aw,Mc,Mf,aa,(Mi P),Pf,Pg,Ph,nA,bV,(Pj P),aa,aw,Pk,Pl,aa,(Pm P),Pn,Po,Pp,nA,bV,(Pq P),aa,aw,Pt,Pu,aa,(Pw P),Px,Py,Pz,nA,bV,(PA P),aa,aw,Nu,Nv,aa,(Nw P),Nx,xi,xj,aa,bV,(xl P),aa,AH,AI,AJ,aa,aw,AK,aa,AL,xm,uG,aa,aw,AM,aa,AN,xn,uH,aa,aw,AP,aa,AQ,xo,uI,aa,aw,AU,aa,AX,xp,uJ,AY,(xq P),xr,AZ,A0,A4,A5,aa,bV,(A6 P),aa,A7,A8,A9,aa,aw,Ba,aa,Bb,xt,uK,aa,aw,xu,aa,xw,uL,r8,aa,aw,xx,aa,xy,xA,uM,aa,aw,Bc,aa,Bd,xB,uN,Be,(xC P),xD,Bf,Bg,Bh,Bi,aa,aw,Bj,aa,Bk,xE,uO,aa,aw,Bl,aa,Bm,xF,uP,aa,aw,Bn,aa,Bo,xG,uQ,aa,aw,Bp,aa,Bq,xH,uR,aa,aw,Bs,aa,Bt,xI,uS,aa,bV,(Bu P),aa,Bv,Bw,Bx,aa,aw,By,aa,Bz,xJ,xK,aa,aw,GA,aa,GB,BA,xM,aa,aw,GC,aa,GD,BB,xN,aa,aw,GG,aa,GH,BC,xO,aa,aw,GI,aa,GJ,BD,xP,aa,aw,GK,aa,GL,BE,xQ,GN,(BH P),BI,GO,GP,GQ,GS,aa,bV,(GU P),aa,GV,GW,GX,aa,aw,BJ,aa,BK,xR,uT,aa,aw,BL,aa,BN,xS,uU,aa,aw,GY,aa,GZ,BO,xT,aa,aw,G0,aa,G1,BP,xU,G2,(BQ P),BS,G3,G4,G5,G6,aa,bV,(G7 P),aa,G8,G9,Hb,aa,aw,Hc,aa,He,BU,xV,aa,aw,Hf,aa,Hg,BV,xW,aa,aw,Hh,aa,Hi,BX,xX,aa,aw,Hj,aa,BY,xY,uV,BZ,(xZ P),ya,B0,B4,B5,B6,aa,bV,(Hk P),aa,Hl,Hn,Ho,aa,aw,Hq,aa,Hr,B7,yb,aa,aw,Hs,aa,Ht,B8,yc,aa,aw,Hu,aa,Hv,B9,yd,aa,aw,Hw,aa,Hx,Ca,ye,Hy,(Cb P),Cc,Hz,HB,HC,HD,aa,bV,(HE P),aa,HF,HG,HH,aa,aw,HI,aa,Cd,yf,uW,aa,aw,Ce,aa,Cf,yg,uX,aa,aw,HJ,aa,HK,Cg,yh,aa,aw,HL,aa,HM,Ci,yi,HN,(Cj P),Ck,HO,HP,HQ,HS,aa,bV,(HT P),aa,HU,HV,HW,aa,aw,HX,aa,HY,Cm,yj,aa,aw,HZ,aa,H3,Co,yk,aa,aw,H4,aa,H5,Cp,yl,aa,aw,H6,aa,H7,ym,uY,Cq,(yn P),yo,Cr,Cs,Ct,Cu,aa,bV,(H8 P),aa,Ly,Lz,LA,aa,aw,LB,aa,LC,H9,Cv,aa,aw,LG,aa,LH,Ia,Cw,aa,aw,LJ,aa,LK,Ib,Cy,aa,aw,LL,aa,LM,Ic,Cz,aa,aw,LO,aa,LP,Ie,CA,aa,aw,LS,aa,LU,Ig,CB,aa,aw,LV,aa,LW,Ih,yp,Ii,(CC P),CD,Ij,Ik,Il,Im,aa,bV,(Io P),aa,LX,LY,LZ,aa,aw,L0,aa,L3,Ip,CE,aa,aw,L4,aa,L5,Iq,CF,aa,aw,L6,aa,L7,Ir,CG,aa,aw,L8,aa,L9,It,CH,aa,aw,Ma,aa,Mb,Iu,CI,aa,aw,Md,aa,Me,Iv,CJ,aa,aw,Mg,aa,Mh,Iw,CK,Iy,(CL P),CM,Iz,IA,IB,IC,aa,aw,ID,aa,IE,IF,CN,aa,aw,Mj,aa,Mk,IG,CO,aa,aw,Ml,aa,Mm,IH,CP,aa,aw,Mn,aa,Mo,II,CQ,aa,aw,Mp,aa,Mq,IJ,CR,aa,bV,(Mr P),aa,Ms,Mu,Mv,aa,aw,Mw,aa,Mx,IK,CS,aa,aw,My,aa,Mz,IL,CT,aa,aw,IM,aa,IP,CU,yq,IQ,(CV P),CW,IS,IT,IU,MA,aa,bV,(MC P),aa,MD,MF,MG,aa,aw,MH,aa,MI,IV,CX,aa,aw,MJ,aa,MK,ML,MM,aa,aw,MN,aa,MO,MP,MQ,MR,(IW P),IX,MU,MV,MW,MX,aa,bV,(MY P),aa,MZ,M0,M1,aa,aw,M3,aa,M6,IY,CY,aa,aw,IZ,aa,I0,CZ,yr,aa,aw,I1,aa,I2,C0,yt,aa,aw,M7,aa,M8,I3,Dc,M9,(I4 P),I5,Na,Nb,Nc,Nd,aa,aw,Nf,aa,Ng,I6,Dd,aa,aw,Nh,aa,Ni,I7,De,aa,aw,Nj,I8,Df,aa,aw,Nk,aa,Nl,I9,Dg,aa,aw,Nm,Ja,Dh,aa,aw,Nn,aa,Np,Jb,Di,aa,aw,Nq,aa,Nr,Jc,Dj,aa,aw,Nt,Jd,Dk],⟨[],[],[],0,[],[],false,#[],[],0,false,false,false,0,[2000,10,10],false,0,true,[],[],0,false⟩⟩
noncomputable def Sz (w:World) (os:OsState):Shared:=⟨H1 w.params,#[],⟨0,0,0,0⟩,1326,os⟩
theorem NB (w:World):(fun os=>topRun treeTable pw w m0 rC 2 (S4 w os).abs ⟨doneF .next,cE,⟨534,0,550,70⟩,[topFrame fq]⟩)=fun os=>some (Sz w os):=by rewrite [qR,qB];kernel_rfl
theorem c4 (w:World) (os:OsState):topRun treeTable pw w m0 rC 2 (S4 w os).abs (restOf (B.drop 56) mN cE ⟨534,0,550,70⟩ [topFrame fq])=some (Sz w os):=by
 rw [wx (by kernel_rfl)];exact piece_nil (congrFun (NB w) os)
theorem c3 (w:World) (os:OsState):topRun treeTable pw w m0 rC 62 (S3 w os).abs (restOf (B.drop 54) mN cE ⟨514,0,524,16⟩ [topFrame fq])=some (Sz w os):=by
 rw [jS B 54 2];exact piece_app (n:=60) (N:=2) (segRun_of (congrFun (r4 w) os)) (c4 w os)
theorem c2 (w:World) (os:OsState):topRun treeTable pw w m0 rC 2243 (S2 w os).abs (restOf (B.drop 31) mN cE ⟨247,0,247,9⟩ [topFrame fq])=some (Sz w os):=by
 rw [jS B 31 23];exact piece_app (n:=2181) (N:=62) (segRun_of (congrFun (r3 w) os)) (c3 w os)
theorem c1 (w:World) (os:OsState):topRun treeTable pw w m0 rC 4283 (S1 w os).abs (restOf (B.drop 21) mN cE ⟨85,0,86,28⟩ [topFrame fq])=some (Sz w os):=by
 rw [jS B 21 10];exact piece_app (n:=2040) (N:=2243) (segRun_of (congrFun (r2 w) os)) (c2 w os)
theorem c0 (w:World) (os:OsState):topRun treeTable pw w m0 rC 6456 (S0 w os).abs (restOf (B.drop 0) mN cE ⟨0,0,0,0⟩ [topFrame fq])=some (Sz w os):=by
 rw [jS B 0 21];exact piece_app (n:=2173) (N:=4283) (segRun_of (congrFun (r1 w) os)) (c1 w os)
theorem cB (w:World) (os:OsState):topRun treeTable pw w m0 rC 6457 (Sa w os) ⟨denote treeTable cE,cE,⟨0,0,0,0⟩,[topFrame fq]⟩=some (Sz w os):=piece_block (n:=1) (N:=6456) (congrFun (Dr w) os) (c0 w os)
noncomputable abbrev cM:Nat:=6469
theorem Kv (w:World) (os:OsState):topRun treeTable pw w m0 rC cM ⟨boot_heap w.params,#[],boot_drawn,boot_toks,os⟩ (topStub pw)=some (Sz w os):=go_top (n:=12) (N:=6457) (congrFun (ND w) os) (cB w os)
end Hd
end Mine
end
section
open PySem PySem.W PySem.Calls PyProof.Rows
set_option Elab.async false
set_option maxRecDepth 1000000
set_option autoImplicit false
set_option linter.unusedVariables false
namespace Mine
noncomputable def bD:List Str:=[(Str.ofString "full"),(Str.ofString "rest"),(Str.ofString "size"),(Str.ofString "source"),(Str.ofString "at"),(Str.ofString "scan"),(Str.ofString "sink"),(Str.ofString "key"),(Str.ofString "run"),(Str.ofString "table"),(Str.ofString "reader"),(Str.ofString "before"),(Str.ofString "tables"),(Str.ofString "kept"),(Str.ofString "places"),(Str.ofString "dc_slots"),(Str.ofString "ac_slots"),(Str.ofString "start"),(Str.ofString "end"),(Str.ofString "high"),(Str.ofString "low"),(Str.ofString "counts"),(Str.ofString "symbols"),(Str.ofString "rows"),(Str.ofString "codes"),(Str.ofString "writer"),(Str.ofString "put"),(Str.ofString "pad"),(Str.ofString "octets"),(Str.ofString "left"),(Str.ofString "bit"),(Str.ofString "bits"),(Str.ofString "put_run"),(Str.ofString "put_value"),(Str.ofString "code"),(Str.ofString "finish"),(Str.ofString "read"),(Str.ofString "put_bits"),(Str.ofString "last_new"),(Str.ofString "correct"),(Str.ofString "pass_by"),(Str.ofString "new_value"),(Str.ofString "symbol")]
noncomputable def G:List (Str×GF):=[((Str.ofString "category"),GF.fn 192),((Str.ofString "bits_of"),GF.fn 199),((Str.ofString "value_of"),GF.fn 206),((Str.ofString "run_code"),GF.fn 213),((Str.ofString "shrunk_size"),GF.fn 220),((Str.ofString "check_band"),GF.fn 619),((Str.ofString "progressive_writer"),GF.fn 626),((Str.ofString "progressive_reader"),GF.fn 633),((Str.ofString "code_rows"),GF.fn 640),((Str.ofString "check_told"),GF.fn 647),((Str.ofString "_law_source"),GF.fn 766),((Str.ofString "_law_draw"),GF.fn 773),((Str.ofString "_law_table"),GF.fn 778),((Str.ofString "_law_number"),GF.fn 785),((Str.ofString "_law_passed"),GF.fn 790),((Str.ofString "_law_due"),GF.fn 797),((Str.ofString "_law_sixteen_right"),GF.fn 804),((Str.ofString "law"),GF.fn 809),((Str.ofString "BitWriter"),GF.cls 139),((Str.ofString "BitReader"),GF.cls 181),((Str.ofString "AcFirstWriter"),GF.cls 272),((Str.ofString "AcFirstReader"),GF.cls 314),((Str.ofString "DcFirstWriter"),GF.cls 356),((Str.ofString "DcRefineWriter"),GF.cls 398),((Str.ofString "DcFirstReader"),GF.cls 440),((Str.ofString "DcRefineReader"),GF.cls 482),((Str.ofString "AcRefineWriter"),GF.cls 545),((Str.ofString "AcRefineReader"),GF.cls 608),((Str.ofString "HuffTable"),GF.cls 678),((Str.ofString "Scan"),GF.cls 713),((Str.ofString "CodeSink"),GF.cls 755),((Str.ofString "len"),GF.blt .len),((Str.ofString "abs"),GF.blt .abs),((Str.ofString "min"),GF.blt .min),((Str.ofString "sum"),GF.blt .sum),((Str.ofString "list"),GF.blt .list),((Str.ofString "tuple"),GF.blt .tuple),((Str.ofString "set"),GF.blt .set),((Str.ofString "int"),GF.blt .int),((Str.ofString "bytes"),GF.blt .bytes),((Str.ofString "bytearray"),GF.blt .aB),((Str.ofString "range"),GF.blt .range),((Str.ofString "SIXTEEN_ZEROS"),GF.const 240),((Str.ofString "MOST_RUN"),GF.const 32767),((Str.ofString "MOST_CATEGORY_progressive_ac"),GF.const 15),((Str.ofString "MOST_CATEGORY_progressive_dc"),GF.const 15),((Str.ofString "MOST_KEPT"),GF.const 937),((Str.ofString "MOST_BITS"),GF.const 16),((Str.ofString "MOST_SYMBOLS"),GF.const 256)]
noncomputable def ta:List (Addr×List Nat):=[(139,[0,1,2]),(181,[3,4]),(272,[5,6,7,8]),(314,[5,9,10,8]),(356,[5,6,11]),(398,[5,6]),(440,[5,12,11,10]),(482,[5,10]),(545,[5,6,7,8,13]),(608,[5,9,10,8]),(678,[21,22,23,24]),(713,[14,15,16,17,18,19,20]),(755,[12,25])]
noncomputable def tK:List (Addr×List (Nat×Addr)):=[(139,[(26,122),(27,129),(28,136)]),(181,[(29,164),(30,171),(31,178)]),(272,[(17,241),(32,248),(33,255),(34,262),(35,269)]),(314,[(17,297),(36,304),(35,311)]),(356,[(17,339),(34,346),(35,353)]),(398,[(17,381),(34,388),(35,395)]),(440,[(17,423),(36,430),(35,437)]),(482,[(17,465),(36,472),(35,479)]),(545,[(17,507),(37,514),(32,521),(38,528),(34,535),(35,542)]),(608,[(17,570),(39,577),(40,584),(41,591),(36,598),(35,605)]),(678,[(34,668),(36,675)]),(713,[]),(755,[(42,738),(31,745),(35,752)])]
noncomputable def wM:List (Addr×Addr):=[(139,115),(181,157),(272,234),(314,290),(356,332),(398,374),(440,416),(482,458),(545,500),(608,563),(678,661),(713,696),(755,731)]
noncomputable def mv:MB:=(.cons (.ret (.iY .bits (.blt .abs (.cons (.loc 0) .nil)) .nil)) .nil)
noncomputable def nU:MB:=(.cons (.ite (.cmp .Lt (.loc 0) (.int 0)) (.cons (.ret (.bin .Sub (.bin .Add (.loc 0) (.bin .Pow (.int 2) (.loc 1))) (.int 1))) .nil) .nil) (.cons (.ret (.loc 0)) .nil))
noncomputable def mx:MB:=(.cons (.ite (.and (.cmp .Gt (.loc 1) (.int 0)) (.cmp .Lt (.loc 0) (.bin .Pow (.int 2) (.bin .Sub (.loc 1) (.int 1))))) (.cons (.ret (.bin .Add (.bin .Sub (.loc 0) (.bin .Pow (.int 2) (.loc 1))) (.int 1))) .nil) .nil) (.cons (.ret (.loc 0)) .nil))
noncomputable def mw:MB:=(.cons (.asg 1 (.bin .Sub (.iY .bits (.loc 0) .nil) (.int 1))) (.cons (.ret (.tup (.cons (.bin .Mult (.int 16) (.loc 1)) (.cons (.loc 1) .nil)))) .nil))
noncomputable def jx:MB:=(.cons (.ret (.bin .RShift (.blt .abs (.cons (.loc 0) .nil)) (.loc 1))) .nil)
noncomputable def oE:MB:=(.cons (.ite (.or (.cmp .Lt (.attr (.loc 0) 17) (.int 0)) (.or (.cmp .Gt (.attr (.loc 0) 17) (.attr (.loc 0) 18)) (.cmp .Gt (.attr (.loc 0) 18) (.bin .Sub (.bin .Mult (.loc 1) (.loc 1)) (.int 1))))) (.cons .dead .nil) .nil) (.cons (.ite (.and (.cmp .Eq (.attr (.loc 0) 17) (.int 0)) (.cmp .NotEq (.attr (.loc 0) 18) (.int 0))) (.cons .dead .nil) .nil) (.cons (.ite (.and (.cmp .Gt (.attr (.loc 0) 17) (.int 0)) (.cmp .NotEq (.blt .len (.cons (.attr (.loc 0) 14) .nil)) (.int 1))) (.cons .dead .nil) .nil) (.cons (.ite (.or (.cmp .Lt (.attr (.loc 0) 20) (.int 0)) (.or (.cmp .Gt (.attr (.loc 0) 20) (.int 13)) (.and (.cmp .NotEq (.attr (.loc 0) 19) (.int 0)) (.cmp .NotEq (.attr (.loc 0) 19) (.bin .Add (.attr (.loc 0) 20) (.int 1)))))) (.cons .dead .nil) .nil) .nil))))
noncomputable def dc:MB:=(.cons (.expr (.fn 619 (.cons (.loc 0) (.cons (.loc 1) .nil)))) (.cons (.ite (.cmp .Eq (.attr (.loc 0) 17) (.int 0)) (.cons (.ret (.ite (.cmp .Eq (.attr (.loc 0) 19) (.int 0)) (.cls 356 (.cons (.loc 0) (.cons (.loc 2) .nil))) (.cls 398 (.cons (.loc 0) (.cons (.loc 2) .nil))))) .nil) .nil) (.cons (.ret (.ite (.cmp .Eq (.attr (.loc 0) 19) (.int 0)) (.cls 272 (.cons (.loc 0) (.cons (.loc 2) .nil))) (.cls 545 (.cons (.loc 0) (.cons (.loc 2) .nil))))) .nil)))
noncomputable def c9:MB:=(.cons (.expr (.fn 619 (.cons (.loc 0) (.cons (.loc 1) .nil)))) (.cons (.ite (.cmp .Eq (.attr (.loc 0) 17) (.int 0)) (.cons (.ret (.ite (.cmp .Eq (.attr (.loc 0) 19) (.int 0)) (.cls 440 (.cons (.loc 0) (.cons (.loc 2) .nil))) (.cls 482 (.cons (.loc 0) .nil)))) .nil) .nil) (.cons (.ret (.ite (.cmp .Eq (.attr (.loc 0) 19) (.int 0)) (.cls 314 (.cons (.loc 0) (.cons (.loc 2) .nil))) (.cls 608 (.cons (.loc 0) (.cons (.loc 2) .nil))))) .nil)))
noncomputable def pZ:MB:=(.cons (.asg 1 (.list .nil)) (.cons (.ry false [2,3] (.tup (.cons (.int 0) (.cons (.int 0) .nil)))) (.cons (.fr [4] false (.blt .range (.cons (.int 1) (.cons (.bin .Add (.blt .len (.cons (.loc 0) .nil)) (.int 1)) .nil))) (.cons (.asg 5 (.sub (.loc 0) (.bin .Sub (.loc 4) (.int 1)))) (.cons (.expr (.iY .append (.loc 1) (.cons (.tup (.cons (.loc 2) (.cons (.loc 5) (.cons (.loc 3) .nil)))) .nil))) (.cons (.asg 2 (.bin .Add (.loc 2) (.loc 5))) (.cons (.asg 3 (.bin .Add (.loc 3) (.loc 5))) (.cons (.ite (.and (.cmp .GtE (.loc 2) (.bin .Pow (.int 2) (.loc 4))) (.cmp .Gt (.loc 5) (.int 0))) (.cons .dead .nil) .nil) (.cons (.asg 2 (.bin .Mult (.loc 2) (.int 2))) .nil))))))) (.cons (.ret (.loc 1)) .nil))))
noncomputable def oF:MB:=(.cons (.ite (.or (.cmp .NotEq (.blt .len (.cons (.loc 0) .nil)) (.int 16)) (.cmp .Lt (.blt .min (.cons (.loc 0) .nil)) (.int 0))) (.cons .dead .nil) .nil) (.cons (.ite (.or (.cmp .NotEq (.blt .sum (.cons (.loc 0) .nil)) (.blt .len (.cons (.loc 1) .nil))) (.cmp .Gt (.blt .len (.cons (.loc 1) .nil)) (.int 256))) (.cons .dead .nil) .nil) (.cons (.asg 2 (.blt .set .nil)) (.cons (.fr [3] false (.loc 1) (.cons (.ite (.cmp .In (.loc 3) (.loc 2)) (.cons .dead .nil) .nil) (.cons (.expr (.iY .add (.loc 2) (.cons (.loc 3) .nil))) .nil))) .nil))))
noncomputable def bX:MB:=(.cons (.asg 1 (.ite (.cmp .Gt (.blt .len (.cons (.loc 0) .nil)) (.int 0)) (.sub (.loc 0) (.int 0)) (.int 0))) (.cons (.asg 2 (.blt .abs (.cons (.blt .int (.cons (.loc 1) .nil)) .nil))) (.cons (.asg 3 (.bin .Add (.bin .Mod (.blt .int (.cons (.loc 2) .nil)) (.int 2147483629)) (.bin .Mult (.int 17) (.blt .int (.cons (.cmp .Lt (.loc 1) (.int 0)) .nil))))) (.cons (.fr [4] false (.EB (.loc 0) 20) (.cons (.asg 3 (.bin .Mod (.blt .int (.cons (.bin .Add (.bin .Add (.bin .Mult (.loc 3) (.int 48271)) (.blt .abs (.cons (.blt .int (.cons (.loc 4) .nil)) .nil))) (.int 11)) .nil)) (.int 2147483647))) .nil)) (.cons (.ret (.list (.cons (.bin .Mult (.loc 2) (.blt .int (.cons (.cmp .GtE (.loc 2) (.bin .Pow (.int 10) (.int 18))) .nil))) (.cons (.loc 3) .nil)))) .nil)))))
noncomputable def p6:MB:=(.cons (.ite (.cmp .Gt (.sub (.loc 0) (.int 0)) (.int 0)) (.cons (.asg 2 (.bin .Mod (.blt .int (.cons (.sub (.loc 0) (.int 0)) .nil)) (.loc 1))) (.cons (.lz (.loc 0) (.int 0) (.bin .FloorDiv (.sub (.loc 0) (.int 0)) (.loc 1))) (.cons (.ret (.loc 2)) .nil))) .nil) (.cons (.lz (.loc 0) (.int 1) (.bin .Mod (.blt .int (.cons (.bin .Add (.bin .Mult (.sub (.loc 0) (.int 1)) (.int 48271)) (.int 11)) .nil)) (.int 2147483647))) (.cons (.ret (.bin .Mod (.blt .int (.cons (.bin .FloorDiv (.bin .Mod (.blt .int (.cons (.bin .Mult (.sub (.loc 0) (.int 1)) (.sub (.loc 0) (.int 1))) .nil)) (.int 2147483629)) (.int 16)) .nil)) (.loc 1))) .nil)))
noncomputable def jO:MB:=(.cons (.asg 1 (.list .nil)) (.cons (.fr [2] false (.blt .range (.cons (.loc 0) .nil)) (.cons (.asg 1 (.bin .Add (.loc 1) (.comp [none,none,some 2] 1 (.blt .range (.cons (.int 6) .nil)) (.bin .Add (.bin .Mult (.int 16) (.loc 2)) (.loc 1))))) .nil)) (.cons (.asg 3 (.ite (.cmp .Eq (.loc 0) (.int 4)) (.int 5) (.int 7))) (.cons (.ret (.cls 678 (.cons (.comp [none,none,none,some 3,some 1] 1 (.blt .range (.cons (.int 16) .nil)) (.ite (.cmp .Eq (.loc 1) (.bin .Sub (.loc 3) (.int 1))) (.blt .len (.cons (.loc 4) .nil)) (.int 0))) (.cons (.loc 1) .nil)))) .nil))))
noncomputable def nD:MB:=(.cons (.asg 1 (.fn 773 (.cons (.loc 0) (.cons (.int 8) .nil)))) (.cons (.ite (.cmp .Lt (.loc 1) (.int 4)) (.cons (.ret (.int 0)) .nil) .nil) (.cons (.asg 2 (.sub (.list (.cons (.int 1) (.cons (.int 1) (.cons (.int 3) (.cons (.int 12) .nil))))) (.bin .Sub (.loc 1) (.int 4)))) (.cons (.ret (.bin .Mult (.bin .Add (.int 1) (.fn 773 (.cons (.loc 0) (.cons (.loc 2) .nil)))) (.bin .Sub (.int 1) (.bin .Mult (.int 2) (.fn 773 (.cons (.loc 0) (.cons (.int 2) .nil))))))) .nil))))
noncomputable def eS:MB:=(.cons (.asg 5 (.fn 626 (.cons (.loc 0) (.cons (.loc 1) (.cons (.cls 755 (.cons (.loc 4) .nil)) .nil))))) (.cons (.expr (.aQ (.loc 5) 17 .nil)) (.cons (.fr [6] false (.loc 2) (.cons (.expr (.aQ (.loc 5) 34 (.cons (.int 0) (.cons (.loc 6) .nil)))) .nil)) (.cons (.asg 7 (.fn 633 (.cons (.loc 0) (.cons (.loc 1) (.cons (.loc 4) .nil))))) (.cons (.expr (.aQ (.loc 7) 17 (.cons (.aQ (.loc 5) 35 .nil) .nil))) (.cons (.asg 8 (.comp [none,none,some 7] 1 (.loc 3) (.aQ (.loc 2) 36 (.cons (.int 0) (.cons (.loc 1) .nil))))) (.cons (.expr (.aQ (.loc 7) 35 .nil)) (.cons (.ret (.loc 8)) .nil))))))))
noncomputable def rE:MB:=(.cons (.asg 5 (.list .nil)) (.cons (.fr [6] false (.blt .range (.cons (.blt .len (.cons (.loc 0) .nil)) .nil)) (.cons (.asg 7 (.blt .list (.cons (.sub (.loc 1) (.loc 6)) .nil))) (.cons (.fr [8] false (.blt .range (.cons (.loc 2) (.cons (.bin .Add (.loc 3) (.int 1)) .nil))) (.cons (.asg 9 (.bin .Mult (.bin .FloorDiv (.blt .abs (.cons (.sub (.sub (.loc 0) (.loc 6)) (.loc 8)) .nil)) (.bin .Pow (.int 2) (.loc 4))) (.bin .Pow (.int 2) (.loc 4)))) (.cons (.lz (.loc 7) (.loc 8) (.ite (.cmp .Gt (.sub (.sub (.loc 0) (.loc 6)) (.loc 8)) (.int 0)) (.loc 9) (.neg (.loc 9)))) .nil))) (.cons (.ite (.cmp .Eq (.loc 2) (.int 0)) (.cons (.lz (.loc 7) (.int 0) (.bin .Mult (.bin .FloorDiv (.sub (.sub (.loc 0) (.loc 6)) (.int 0)) (.bin .Pow (.int 2) (.loc 4))) (.bin .Pow (.int 2) (.loc 4)))) .nil) .nil) (.cons (.expr (.iY .append (.loc 5) (.cons (.loc 7) .nil))) .nil))))) (.cons (.ret (.loc 5)) .nil)))
noncomputable def iV:MB:=(.cons (.asg 0 (.list (.cons (.bin .Add (.bin .Add (.bin .Add (.bin .Add (.bin .Mult (.list (.cons (.int 0) .nil)) (.int 18)) (.list (.cons (.int 2) .nil))) (.bin .Mult (.list (.cons (.int 0) .nil)) (.int 3))) (.list (.cons (.neg (.int 1)) .nil))) (.bin .Mult (.list (.cons (.int 0) .nil)) (.int 2))) (.cons (.bin .Mult (.list (.cons (.int 0) .nil)) (.int 25)) .nil)))) (.cons (.ry true [1,2] (.tup (.cons (.list (.cons (.bin .Mult (.list (.cons (.int 0) .nil)) (.int 25)) (.cons (.bin .Mult (.list (.cons (.int 0) .nil)) (.int 25)) .nil))) (.cons (.fn 778 (.cons (.int 16) .nil)) .nil)))) (.cons (.fr [3] false (.list (.cons (.cls 713 (.cons (.list (.cons (.int 0) .nil)) (.cons (.list (.cons (.int 0) .nil)) (.cons (.list (.cons (.int 0) .nil)) (.cons (.int 1) (.cons (.int 24) (.cons (.int 0) (.cons (.int 1) .nil)))))))) (.cons (.cls 713 (.cons (.list (.cons (.int 0) .nil)) (.cons (.list (.cons (.int 0) .nil)) (.cons (.list (.cons (.int 0) .nil)) (.cons (.int 1) (.cons (.int 24) (.cons (.int 1) (.cons (.int 0) .nil)))))))) .nil))) (.cons (.asg 4 (.fn 797 (.cons (.loc 0) (.cons (.loc 1) (.cons (.int 1) (.cons (.int 24) (.cons (.attr (.loc 3) 20) .nil))))))) (.cons (.asg 1 (.fn 790 (.cons (.loc 3) (.cons (.int 5) (.cons (.loc 0) (.cons (.loc 1) (.cons (.aC [([1,0],2)]) .nil))))))) (.cons (.ite (.cmp .NotEq (.loc 1) (.loc 4)) (.cons (.ret (.bool false)) .nil) .nil) .nil)))) (.cons (.ret (.cmp .Eq (.loc 1) (.loc 0))) .nil))))
noncomputable def iU:MB:=(.cons (.asg 1 (.fn 766 (.cons (.loc 0) .nil))) (.cons (.asg 2 (.ite (.cmp .Gt (.sub (.loc 1) (.int 0)) (.int 0)) (.sub (.list (.cons (.int 2) (.cons (.int 2) (.cons (.int 4) .nil)))) (.fn 773 (.cons (.loc 1) (.cons (.int 3) .nil)))) (.int 2))) (.cons (.asg 3 (.fn 778 (.cons (.ite (.cmp .Eq (.loc 2) (.int 4)) (.int 16) (.int 4)) .nil))) (.cons (.asg 4 (.comp [none,none,none,some 2,some 1] 1 (.blt .range (.cons (.bin .Add (.int 1) (.fn 773 (.cons (.loc 1) (.cons (.ite (.cmp .Eq (.loc 2) (.int 2)) (.int 4) (.int 2)) .nil)))) .nil)) (.comp [none,none,none,some 4] 1 (.blt .range (.cons (.bin .Mult (.loc 3) (.loc 3)) .nil)) (.fn 785 (.cons (.loc 3) .nil))))) (.cons (.asg 5 (.comp [none,none,some 2] 1 (.loc 4) (.bin .Mult (.list (.cons (.int 0) .nil)) (.bin .Mult (.loc 2) (.loc 2))))) (.cons (.asg 6 (.bin .Add (.int 1) (.fn 773 (.cons (.loc 1) (.cons (.bin .Sub (.bin .Mult (.loc 2) (.loc 2)) (.int 1)) .nil))))) (.cons (.asg 7 (.ite (.cmp .Eq (.loc 6) (.bin .Sub (.bin .Mult (.loc 2) (.loc 2)) (.int 1))) (.list (.cons (.tup (.cons (.int 0) (.cons (.int 0) .nil))) (.cons (.tup (.cons (.int 1) (.cons (.bin .Sub (.bin .Mult (.loc 2) (.loc 2)) (.int 1)) .nil))) .nil))) (.list (.cons (.tup (.cons (.int 0) (.cons (.int 0) .nil))) (.cons (.tup (.cons (.int 1) (.cons (.loc 6) .nil))) (.cons (.tup (.cons (.bin .Add (.loc 6) (.int 1)) (.cons (.bin .Sub (.bin .Mult (.loc 2) (.loc 2)) (.int 1)) .nil))) .nil)))))) (.cons (.fr [8,9] true (.loc 7) (.cons (.asg 10 (.fn 773 (.cons (.loc 1) (.cons (.int 3) .nil)))) (.cons (.fr [11] false (.blt .range (.cons (.loc 10) (.cons (.neg (.int 1)) (.cons (.neg (.int 1)) .nil)))) (.cons (.asg 12 (.cls 713 (.cons (.list (.cons (.int 0) .nil)) (.cons (.list (.cons (.int 0) .nil)) (.cons (.list (.cons (.int 0) .nil)) (.cons (.loc 8) (.cons (.loc 9) (.cons (.ite (.cmp .Eq (.loc 11) (.loc 10)) (.int 0) (.bin .Add (.loc 11) (.int 1))) (.cons (.loc 11) .nil))))))))) (.cons (.asg 13 (.fn 797 (.cons (.loc 4) (.cons (.loc 5) (.cons (.loc 8) (.cons (.loc 9) (.cons (.loc 11) .nil))))))) (.cons (.asg 5 (.fn 790 (.cons (.loc 12) (.cons (.loc 2) (.cons (.loc 4) (.cons (.loc 5) (.cons (.aC [([0,0],3),([1,0],3)]) .nil))))))) (.cons (.ite (.cmp .NotEq (.loc 5) (.loc 13)) (.cons (.ret (.bool false)) .nil) .nil) .nil))))) .nil))) (.cons (.ret (.and (.cmp .Eq (.loc 5) (.loc 4)) (.or (.cmp .Lt (.blt .len (.cons (.loc 0) .nil)) (.int 2)) (.fn 804 .nil)))) .nil)))))))))
noncomputable def fw:MB:=(.cons (.aI (.loc 0) 0 (.blt .aB .nil)) (.cons (.aI (.loc 0) 1 (.int 0)) (.cons (.aI (.loc 0) 2 (.int 0)) .nil)))
noncomputable def lU:MB:=(.cons (.ite (.or (.cmp .Lt (.loc 2) (.int 0)) (.not (.Aj .LtE .Lt (.int 0) (.loc 1) (.bin .LShift (.int 1) (.loc 2))))) (.cons .dead .nil) .nil) (.cons (.aI (.loc 0) 1 (.bin .BitOr (.bin .LShift (.attr (.loc 0) 1) (.loc 2)) (.loc 1))) (.cons (.aI (.loc 0) 2 (.bin .Add (.attr (.loc 0) 2) (.loc 2))) (.cons (.EE (.cmp .GtE (.attr (.loc 0) 2) (.int 8)) (.cons (.aI (.loc 0) 2 (.bin .Sub (.attr (.loc 0) 2) (.int 8))) (.cons (.expr (.iY .eF (.attr (.loc 0) 0) (.cons (.bin .RShift (.attr (.loc 0) 1) (.attr (.loc 0) 2)) .nil))) (.cons (.aI (.loc 0) 1 (.bin .BitAnd (.attr (.loc 0) 1) (.bin .Sub (.bin .LShift (.int 1) (.attr (.loc 0) 2)) (.int 1)))) .nil)))) .nil))))
noncomputable def lT:MB:=(.cons (.ite (.cmp .Gt (.attr (.loc 0) 2) (.int 0)) (.cons (.expr (.aQ (.loc 0) 26 (.cons (.bin .Sub (.bin .LShift (.int 1) (.bin .Sub (.int 8) (.attr (.loc 0) 2))) (.int 1)) (.cons (.bin .Sub (.int 8) (.attr (.loc 0) 2)) .nil)))) .nil) .nil) .nil)
noncomputable def dM:MB:=(.cons (.ret (.blt .bytes (.cons (.attr (.loc 0) 0) .nil))) .nil)
noncomputable def fp:MB:=(.cons (.aI (.loc 0) 3 (.loc 1)) (.cons (.aI (.loc 0) 4 (.int 0)) .nil))
noncomputable def fu:MB:=(.cons (.ret (.bin .Sub (.bin .Mult (.int 8) (.blt .len (.cons (.attr (.loc 0) 3) .nil))) (.attr (.loc 0) 4))) .nil)
noncomputable def lS:MB:=(.cons (.ite (.cmp .GtE (.attr (.loc 0) 4) (.bin .Mult (.int 8) (.blt .len (.cons (.attr (.loc 0) 3) .nil)))) (.cons .dead .nil) .nil) (.cons (.asg 1 (.bin .BitAnd (.bin .RShift (.sub (.attr (.loc 0) 3) (.bin .RShift (.attr (.loc 0) 4) (.int 3))) (.bin .Sub (.int 7) (.bin .BitAnd (.attr (.loc 0) 4) (.int 7)))) (.int 1))) (.cons (.aI (.loc 0) 4 (.bin .Add (.attr (.loc 0) 4) (.int 1))) (.cons (.ret (.loc 1)) .nil))))
noncomputable def kT:MB:=(.cons (.ite (.cmp .Gt (.loc 1) (.aQ (.loc 0) 29 .nil)) (.cons .dead .nil) .nil) (.cons (.asg 2 (.int 0)) (.cons (.fr [3] false (.blt .range (.cons (.loc 1) .nil)) (.cons (.asg 2 (.bin .Add (.bin .Mult (.loc 2) (.int 2)) (.aQ (.loc 0) 30 .nil))) .nil)) (.cons (.ret (.loc 2)) .nil))))
noncomputable def c6:MB:=(.cons (.aI (.loc 0) 5 (.loc 1)) (.cons (.aI (.loc 0) 6 (.loc 2)) (.cons (.aI (.loc 0) 7 (.tup (.cons (.int 1) (.cons (.sub (.attr (.loc 1) 16) (.int 0)) .nil)))) (.cons (.aI (.loc 0) 8 (.int 0)) .nil))))
noncomputable def cN:MB:=(.cons (.aI (.loc 0) 8 (.int 0)) .nil)
noncomputable def fo:MB:=(.cons (.ite (.cmp .Gt (.attr (.loc 0) 8) (.int 0)) (.cons (.ry false [1,2] (.fn 213 (.cons (.attr (.loc 0) 8) .nil))) (.cons (.expr (.aQ (.attr (.loc 0) 6) 42 (.cons (.attr (.loc 0) 7) (.cons (.loc 1) .nil)))) (.cons (.ite (.cmp .Gt (.loc 2) (.int 0)) (.cons (.expr (.aQ (.attr (.loc 0) 6) 31 (.cons (.bin .Sub (.attr (.loc 0) 8) (.bin .Pow (.int 2) (.loc 2))) (.cons (.loc 2) .nil)))) .nil) .nil) (.cons (.aI (.loc 0) 8 (.int 0)) .nil)))) .nil) .nil)
noncomputable def ee:MB:=(.cons (.expr (.aQ (.loc 0) 32 .nil)) (.cons (.EE (.cmp .Gt (.loc 1) (.int 15)) (.cons (.expr (.aQ (.attr (.loc 0) 6) 42 (.cons (.attr (.loc 0) 7) (.cons (.int 240) .nil)))) (.cons (.asg 1 (.bin .Sub (.loc 1) (.int 16))) .nil))) (.cons (.asg 3 (.fn 192 (.cons (.loc 2) .nil))) (.cons (.ite (.cmp .Gt (.loc 3) (.int 15)) (.cons .dead .nil) .nil) (.cons (.expr (.aQ (.attr (.loc 0) 6) 42 (.cons (.attr (.loc 0) 7) (.cons (.bin .Add (.bin .Mult (.int 16) (.loc 1)) (.loc 3)) .nil)))) (.cons (.expr (.aQ (.attr (.loc 0) 6) 31 (.cons (.fn 199 (.cons (.loc 2) (.cons (.loc 3) .nil))) (.cons (.loc 3) .nil)))) .nil))))))
noncomputable def iR:MB:=(.cons (.asg 3 (.int 0)) (.cons (.fr [4] false (.blt .range (.cons (.attr (.attr (.loc 0) 5) 17) (.cons (.bin .Add (.attr (.attr (.loc 0) 5) 18) (.int 1)) .nil))) (.cons (.asg 5 (.fn 220 (.cons (.sub (.loc 2) (.loc 4)) (.cons (.attr (.attr (.loc 0) 5) 20) .nil)))) (.cons (.ite (.cmp .Eq (.loc 5) (.int 0)) (.cons (.asg 3 (.bin .Add (.loc 3) (.int 1))) .nil) (.cons (.expr (.aQ (.loc 0) 33 (.cons (.loc 3) (.cons (.ite (.cmp .Gt (.sub (.loc 2) (.loc 4)) (.int 0)) (.loc 5) (.neg (.loc 5))) .nil)))) (.cons (.asg 3 (.int 0)) .nil))) .nil))) (.cons (.ite (.cmp .Gt (.loc 3) (.int 0)) (.cons (.aI (.loc 0) 8 (.bin .Add (.attr (.loc 0) 8) (.int 1))) (.cons (.ite (.cmp .Eq (.attr (.loc 0) 8) (.int 32767)) (.cons (.expr (.aQ (.loc 0) 32 .nil)) .nil) .nil) .nil)) .nil) .nil)))
noncomputable def cv:MB:=(.cons (.expr (.aQ (.loc 0) 32 .nil)) (.cons (.ret (.aQ (.attr (.loc 0) 6) 35 .nil)) .nil))
noncomputable def cZ:MB:=(.cons (.aI (.loc 0) 5 (.loc 1)) (.cons (.aI (.loc 0) 9 (.sub (.loc 2) (.tup (.cons (.int 1) (.cons (.sub (.attr (.loc 1) 16) (.int 0)) .nil))))) (.cons (.aI (.loc 0) 10 .none) (.cons (.aI (.loc 0) 8 (.int 0)) .nil))))
noncomputable def cL:MB:=(.cons (.aI (.loc 0) 8 (.int 0)) (.cons (.aI (.loc 0) 10 (.cls 181 (.cons (.loc 1) .nil))) .nil))
noncomputable def iQ:MB:=(.cons (.asg 3 (.blt .list (.cons (.loc 2) .nil))) (.cons (.ite (.cmp .Gt (.attr (.loc 0) 8) (.int 0)) (.cons (.aI (.loc 0) 8 (.bin .Sub (.attr (.loc 0) 8) (.int 1))) (.cons (.ret (.loc 3)) .nil)) .nil) (.cons (.ry true [4,5] (.tup (.cons (.attr (.attr (.loc 0) 5) 17) (.cons (.attr (.attr (.loc 0) 5) 18) .nil)))) (.cons (.EE (.cmp .LtE (.loc 4) (.loc 5)) (.cons (.asg 6 (.aQ (.attr (.loc 0) 9) 36 (.cons (.attr (.loc 0) 10) .nil))) (.cons (.ry true [7,8] (.tup (.cons (.bin .RShift (.loc 6) (.int 4)) (.cons (.bin .BitAnd (.loc 6) (.int 15)) .nil)))) (.cons (.ite (.and (.cmp .Eq (.loc 8) (.int 0)) (.cmp .Lt (.loc 7) (.int 15))) (.cons (.aI (.loc 0) 8 (.bin .Sub (.bin .Pow (.int 2) (.loc 7)) (.int 1))) (.cons (.ite (.cmp .Gt (.loc 7) (.int 0)) (.cons (.aI (.loc 0) 8 (.bin .Add (.attr (.loc 0) 8) (.aQ (.attr (.loc 0) 10) 31 (.cons (.loc 7) .nil)))) .nil) .nil) (.cons (.ret (.loc 3)) .nil))) .nil) (.cons (.asg 4 (.bin .Add (.loc 4) (.loc 7))) (.cons (.ite (.cmp .Gt (.loc 4) (.loc 5)) (.cons .dead .nil) .nil) (.cons (.ite (.cmp .Gt (.loc 8) (.int 0)) (.cons (.lz (.loc 3) (.loc 4) (.bin .Mult (.fn 206 (.cons (.aQ (.attr (.loc 0) 10) 31 (.cons (.loc 8) .nil)) (.cons (.loc 8) .nil))) (.bin .Pow (.int 2) (.attr (.attr (.loc 0) 5) 20)))) .nil) .nil) (.cons (.asg 4 (.bin .Add (.loc 4) (.int 1))) .nil)))))))) (.cons (.ret (.loc 3)) .nil)))))
noncomputable def cu:MB:=(.cons (.ite (.cmp .Gt (.attr (.loc 0) 8) (.int 0)) (.cons .dead .nil) .nil) .nil)
noncomputable def c8:MB:=(.cons (.aI (.loc 0) 5 (.loc 1)) (.cons (.aI (.loc 0) 6 (.loc 2)) (.cons (.aI (.loc 0) 11 (.list .nil)) .nil)))
noncomputable def cR:MB:=(.cons (.aI (.loc 0) 11 (.bin .Mult (.list (.cons (.int 0) .nil)) (.blt .len (.cons (.attr (.attr (.loc 0) 5) 14) .nil)))) .nil)
noncomputable def iT:MB:=(.cons (.asg 3 (.bin .RShift (.sub (.loc 2) (.int 0)) (.attr (.attr (.loc 0) 5) 20))) (.cons (.asg 4 (.bin .Sub (.loc 3) (.sub (.attr (.loc 0) 11) (.loc 1)))) (.cons (.lz (.attr (.loc 0) 11) (.loc 1) (.loc 3)) (.cons (.asg 5 (.fn 192 (.cons (.loc 4) .nil))) (.cons (.expr (.aQ (.attr (.loc 0) 6) 42 (.cons (.tup (.cons (.int 0) (.cons (.sub (.attr (.attr (.loc 0) 5) 15) (.loc 1)) .nil))) (.cons (.loc 5) .nil)))) (.cons (.ite (.cmp .Gt (.loc 5) (.int 0)) (.cons (.expr (.aQ (.attr (.loc 0) 6) 31 (.cons (.fn 199 (.cons (.loc 4) (.cons (.loc 5) .nil))) (.cons (.loc 5) .nil)))) .nil) .nil) .nil))))))
noncomputable def cA:MB:=(.cons (.ret (.aQ (.attr (.loc 0) 6) 35 .nil)) .nil)
noncomputable def cT:MB:=(.cons (.aI (.loc 0) 5 (.loc 1)) (.cons (.aI (.loc 0) 6 (.loc 2)) .nil))
noncomputable def cD:MB:=(.cons .pass .nil)
noncomputable def il:MB:=(.cons (.expr (.aQ (.attr (.loc 0) 6) 31 (.cons (.bin .BitAnd (.bin .RShift (.sub (.loc 2) (.int 0)) (.attr (.attr (.loc 0) 5) 20)) (.int 1)) (.cons (.int 1) .nil)))) .nil)
noncomputable def cf:MB:=(.cons (.ret (.aQ (.attr (.loc 0) 6) 35 .nil)) .nil)
noncomputable def c7:MB:=(.cons (.aI (.loc 0) 5 (.loc 1)) (.cons (.aI (.loc 0) 12 (.loc 2)) (.cons (.aI (.loc 0) 11 (.list .nil)) (.cons (.aI (.loc 0) 10 .none) .nil))))
noncomputable def cQ:MB:=(.cons (.aI (.loc 0) 11 (.bin .Mult (.list (.cons (.int 0) .nil)) (.blt .len (.cons (.attr (.attr (.loc 0) 5) 14) .nil)))) (.cons (.aI (.loc 0) 10 (.cls 181 (.cons (.loc 1) .nil))) .nil))
noncomputable def iS:MB:=(.cons (.asg 3 (.aQ (.sub (.attr (.loc 0) 12) (.tup (.cons (.int 0) (.cons (.sub (.attr (.attr (.loc 0) 5) 15) (.loc 1)) .nil)))) 36 (.cons (.attr (.loc 0) 10) .nil))) (.cons (.ite (.cmp .Gt (.loc 3) (.int 15)) (.cons .dead .nil) .nil) (.cons (.ite (.cmp .Gt (.loc 3) (.int 0)) (.cons (.lz (.attr (.loc 0) 11) (.loc 1) (.bin .Add (.sub (.attr (.loc 0) 11) (.loc 1)) (.fn 206 (.cons (.aQ (.attr (.loc 0) 10) 31 (.cons (.loc 3) .nil)) (.cons (.loc 3) .nil))))) .nil) .nil) (.cons (.ret (.bin .Add (.list (.cons (.bin .Mult (.sub (.attr (.loc 0) 11) (.loc 1)) (.bin .Pow (.int 2) (.attr (.attr (.loc 0) 5) 20))) .nil)) (.blt .list (.cons (.Kt (.loc 2) 1) .nil)))) .nil))))
noncomputable def cz:MB:=(.cons .pass .nil)
noncomputable def cS:MB:=(.cons (.aI (.loc 0) 5 (.loc 1)) (.cons (.aI (.loc 0) 10 .none) .nil))
noncomputable def cC:MB:=(.cons (.aI (.loc 0) 10 (.cls 181 (.cons (.loc 1) .nil))) .nil)
noncomputable def ik:MB:=(.cons (.ite (.cmp .Eq (.aQ (.attr (.loc 0) 10) 30 .nil) (.int 0)) (.cons (.ret (.blt .list (.cons (.loc 2) .nil))) .nil) .nil) (.cons (.ret (.bin .Add (.list (.cons (.bin .BitOr (.sub (.loc 2) (.int 0)) (.bin .Pow (.int 2) (.attr (.attr (.loc 0) 5) 20))) .nil)) (.blt .list (.cons (.Kt (.loc 2) 1) .nil)))) .nil))
noncomputable def b9:MB:=(.cons .pass .nil)
noncomputable def cP:MB:=(.cons (.aI (.loc 0) 5 (.loc 1)) (.cons (.aI (.loc 0) 6 (.loc 2)) (.cons (.aI (.loc 0) 7 (.tup (.cons (.int 1) (.cons (.sub (.attr (.loc 1) 16) (.int 0)) .nil)))) (.cons (.aI (.loc 0) 8 (.int 0)) (.cons (.aI (.loc 0) 13 (.list .nil)) .nil)))))
noncomputable def cy:MB:=(.cons (.aI (.loc 0) 8 (.int 0)) (.cons (.aI (.loc 0) 13 (.list .nil)) .nil))
noncomputable def et:MB:=(.cons (.fr [2] false (.loc 1) (.cons (.expr (.aQ (.attr (.loc 0) 6) 31 (.cons (.loc 2) (.cons (.int 1) .nil)))) .nil)) .nil)
noncomputable def eR:MB:=(.cons (.ite (.cmp .Gt (.attr (.loc 0) 8) (.int 0)) (.cons (.ry false [1,2] (.fn 213 (.cons (.attr (.loc 0) 8) .nil))) (.cons (.expr (.aQ (.attr (.loc 0) 6) 42 (.cons (.attr (.loc 0) 7) (.cons (.loc 1) .nil)))) (.cons (.ite (.cmp .Gt (.loc 2) (.int 0)) (.cons (.expr (.aQ (.attr (.loc 0) 6) 31 (.cons (.bin .Sub (.attr (.loc 0) 8) (.bin .Pow (.int 2) (.loc 2))) (.cons (.loc 2) .nil)))) .nil) .nil) (.cons (.expr (.aQ (.loc 0) 37 (.cons (.attr (.loc 0) 13) .nil))) (.cons (.aI (.loc 0) 8 (.int 0)) (.cons (.aI (.loc 0) 13 (.list .nil)) .nil)))))) .nil) .nil)
noncomputable def ei:MB:=(.cons (.asg 2 (.bin .Sub (.attr (.attr (.loc 0) 5) 17) (.int 1))) (.cons (.fr [3] false (.blt .range (.cons (.attr (.attr (.loc 0) 5) 17) (.cons (.bin .Add (.attr (.attr (.loc 0) 5) 18) (.int 1)) .nil))) (.cons (.ite (.cmp .Eq (.fn 220 (.cons (.sub (.loc 1) (.loc 3)) (.cons (.attr (.attr (.loc 0) 5) 20) .nil))) (.int 1)) (.cons (.asg 2 (.loc 3)) .nil) .nil) .nil)) (.cons (.ret (.loc 2)) .nil)))
noncomputable def ij:MB:=(.cons (.ry true [3,4,5] (.tup (.cons (.aQ (.loc 0) 38 (.cons (.loc 2) .nil)) (.cons (.int 0) (.cons (.list .nil) .nil))))) (.cons (.fr [6] false (.blt .range (.cons (.attr (.attr (.loc 0) 5) 17) (.cons (.bin .Add (.attr (.attr (.loc 0) 5) 18) (.int 1)) .nil))) (.cons (.asg 7 (.fn 220 (.cons (.sub (.loc 2) (.loc 6)) (.cons (.attr (.attr (.loc 0) 5) 20) .nil)))) (.cons (.ite (.cmp .Eq (.loc 7) (.int 0)) (.cons (.asg 4 (.bin .Add (.loc 4) (.int 1))) .nil) (.cons (.EE (.and (.cmp .Gt (.loc 4) (.int 15)) (.cmp .LtE (.loc 6) (.loc 3))) (.cons (.expr (.aQ (.loc 0) 32 .nil)) (.cons (.expr (.aQ (.attr (.loc 0) 6) 42 (.cons (.attr (.loc 0) 7) (.cons (.int 240) .nil)))) (.cons (.expr (.aQ (.loc 0) 37 (.cons (.loc 5) .nil))) (.cons (.ry true [4,5] (.tup (.cons (.bin .Sub (.loc 4) (.int 16)) (.cons (.list .nil) .nil)))) .nil))))) (.cons (.ite (.cmp .Gt (.loc 7) (.int 1)) (.cons (.expr (.iY .append (.loc 5) (.cons (.bin .BitAnd (.loc 7) (.int 1)) .nil))) .nil) (.cons (.expr (.aQ (.loc 0) 32 .nil)) (.cons (.expr (.aQ (.attr (.loc 0) 6) 42 (.cons (.attr (.loc 0) 7) (.cons (.bin .Add (.bin .Mult (.int 16) (.loc 4)) (.int 1)) .nil)))) (.cons (.expr (.aQ (.attr (.loc 0) 6) 31 (.cons (.ite (.cmp .Gt (.sub (.loc 2) (.loc 6)) (.int 0)) (.int 1) (.int 0)) (.cons (.int 1) .nil)))) (.cons (.expr (.aQ (.loc 0) 37 (.cons (.loc 5) .nil))) (.cons (.ry true [4,5] (.tup (.cons (.int 0) (.cons (.list .nil) .nil)))) .nil)))))) .nil))) .nil))) (.cons (.ite (.or (.cmp .Gt (.loc 4) (.int 0)) (.cmp .NotEq (.loc 5) (.list .nil))) (.cons (.aI (.loc 0) 8 (.bin .Add (.attr (.loc 0) 8) (.int 1))) (.cons (.aI (.loc 0) 13 (.bin .Add (.attr (.loc 0) 13) (.loc 5))) (.cons (.ite (.or (.cmp .Eq (.attr (.loc 0) 8) (.int 32767)) (.cmp .Gt (.blt .len (.cons (.attr (.loc 0) 13) .nil)) (.int 937))) (.cons (.expr (.aQ (.loc 0) 32 .nil)) .nil) .nil) .nil))) .nil) .nil)))
noncomputable def b8:MB:=(.cons (.expr (.aQ (.loc 0) 32 .nil)) (.cons (.ret (.aQ (.attr (.loc 0) 6) 35 .nil)) .nil))
noncomputable def cO:MB:=(.cons (.aI (.loc 0) 5 (.loc 1)) (.cons (.aI (.loc 0) 9 (.sub (.loc 2) (.tup (.cons (.int 1) (.cons (.sub (.attr (.loc 1) 16) (.int 0)) .nil))))) (.cons (.aI (.loc 0) 10 .none) (.cons (.aI (.loc 0) 8 (.int 0)) .nil))))
noncomputable def cx:MB:=(.cons (.aI (.loc 0) 8 (.int 0)) (.cons (.aI (.loc 0) 10 (.cls 181 (.cons (.loc 1) .nil))) .nil))
noncomputable def bW:MB:=(.cons (.ite (.and (.cmp .Eq (.aQ (.attr (.loc 0) 10) 30 .nil) (.int 1)) (.cmp .Eq (.bin .BitAnd (.fn 220 (.cons (.sub (.loc 1) (.loc 2)) (.cons (.attr (.attr (.loc 0) 5) 20) .nil))) (.int 1)) (.int 0))) (.cons (.asg 3 (.bin .Pow (.int 2) (.attr (.attr (.loc 0) 5) 20))) (.cons (.lz (.loc 1) (.loc 2) (.ite (.cmp .Gt (.sub (.loc 1) (.loc 2)) (.int 0)) (.bin .Add (.sub (.loc 1) (.loc 2)) (.loc 3)) (.bin .Sub (.sub (.loc 1) (.loc 2)) (.loc 3)))) .nil)) .nil) .nil)
noncomputable def eQ:MB:=(.cons (.EE (.cmp .LtE (.loc 2) (.attr (.attr (.loc 0) 5) 18)) (.cons (.ite (.cmp .NotEq (.sub (.loc 1) (.loc 2)) (.int 0)) (.cons (.expr (.aQ (.loc 0) 39 (.cons (.loc 1) (.cons (.loc 2) .nil)))) .nil) (.cons (.ite (.cmp .Eq (.loc 3) (.int 0)) (.cons (.ret (.loc 2)) .nil) (.cons (.asg 3 (.bin .Sub (.loc 3) (.int 1))) .nil)) .nil)) (.cons (.asg 2 (.bin .Add (.loc 2) (.int 1))) .nil))) (.cons (.ret (.loc 2)) .nil))
noncomputable def bN:MB:=(.cons (.ite (.cmp .Eq (.loc 1) (.int 240)) (.cons (.ret (.int 0)) .nil) .nil) (.cons (.ite (.cmp .NotEq (.bin .BitAnd (.loc 1) (.int 15)) (.int 1)) (.cons .dead .nil) .nil) (.cons (.ret (.ite (.cmp .Eq (.aQ (.attr (.loc 0) 10) 30 .nil) (.int 1)) (.bin .Pow (.int 2) (.attr (.attr (.loc 0) 5) 20)) (.neg (.bin .Pow (.int 2) (.attr (.attr (.loc 0) 5) 20))))) .nil)))
noncomputable def ig:MB:=(.cons (.ry true [3,4,5] (.tup (.cons (.blt .list (.cons (.loc 2) .nil)) (.cons (.attr (.attr (.loc 0) 5) 17) (.cons (.attr (.attr (.loc 0) 5) 18) .nil))))) (.cons (.EE (.and (.cmp .Eq (.attr (.loc 0) 8) (.int 0)) (.cmp .LtE (.loc 4) (.loc 5))) (.cons (.asg 6 (.aQ (.attr (.loc 0) 9) 36 (.cons (.attr (.loc 0) 10) .nil))) (.cons (.asg 7 (.bin .RShift (.loc 6) (.int 4))) (.cons (.ite (.and (.cmp .Eq (.bin .BitAnd (.loc 6) (.int 15)) (.int 0)) (.cmp .Lt (.loc 7) (.int 15))) (.cons (.aI (.loc 0) 8 (.bin .Pow (.int 2) (.loc 7))) (.cons (.ite (.cmp .Gt (.loc 7) (.int 0)) (.cons (.aI (.loc 0) 8 (.bin .Add (.attr (.loc 0) 8) (.aQ (.attr (.loc 0) 10) 31 (.cons (.loc 7) .nil)))) .nil) .nil) .nil)) (.cons (.asg 8 (.aQ (.loc 0) 41 (.cons (.loc 6) .nil))) (.cons (.asg 4 (.aQ (.loc 0) 40 (.cons (.loc 3) (.cons (.loc 4) (.cons (.loc 7) .nil))))) (.cons (.ite (.cmp .Gt (.loc 4) (.loc 5)) (.cons .dead .nil) .nil) (.cons (.lz (.loc 3) (.loc 4) (.loc 8)) (.cons (.asg 4 (.bin .Add (.loc 4) (.int 1))) .nil)))))) .nil)))) (.cons (.ite (.cmp .Gt (.attr (.loc 0) 8) (.int 0)) (.cons (.expr (.aQ (.loc 0) 40 (.cons (.loc 3) (.cons (.loc 4) (.cons (.bin .Add (.loc 5) (.int 1)) .nil))))) (.cons (.aI (.loc 0) 8 (.bin .Sub (.attr (.loc 0) 8) (.int 1))) .nil)) .nil) (.cons (.ret (.loc 3)) .nil))))
noncomputable def b7:MB:=(.cons (.ite (.cmp .Gt (.attr (.loc 0) 8) (.int 0)) (.cons .dead .nil) .nil) .nil)
noncomputable def fy:MB:=(.cons (.expr (.fn 647 (.cons (.loc 1) (.cons (.loc 2) .nil)))) (.cons (.aI (.loc 0) 21 (.blt .tuple (.cons (.loc 1) .nil))) (.cons (.aI (.loc 0) 22 (.blt .tuple (.cons (.loc 2) .nil))) (.cons (.aI (.loc 0) 23 (.fn 640 (.cons (.attr (.loc 0) 21) .nil))) (.cons (.aI (.loc 0) 24 .az) (.cons (.fr [3] false (.blt .range (.cons (.int 1) (.cons (.bin .Add (.int 16) (.int 1)) .nil))) (.cons (.ry false [4,5,6] (.sub (.attr (.loc 0) 23) (.bin .Sub (.loc 3) (.int 1)))) (.cons (.fr [7] false (.blt .range (.cons (.loc 5) .nil)) (.cons (.lz (.attr (.loc 0) 24) (.sub (.attr (.loc 0) 22) (.bin .Add (.loc 6) (.loc 7))) (.tup (.cons (.bin .Add (.loc 4) (.loc 7)) (.cons (.loc 3) .nil)))) .nil)) .nil))) .nil))))))
noncomputable def fx:MB:=(.cons (.asg 2 (.iY .get (.attr (.loc 0) 24) (.cons (.loc 1) .nil))) (.cons (.ite (.cmp .Is (.loc 2) .none) (.cons .dead .nil) .nil) (.cons (.ret (.loc 2)) .nil)))
noncomputable def kU:MB:=(.cons (.asg 2 (.int 0)) (.cons (.fr [3,4,5] true (.attr (.loc 0) 23) (.cons (.asg 2 (.bin .Add (.bin .Mult (.loc 2) (.int 2)) (.aQ (.loc 1) 30 .nil))) (.cons (.ite (.cmp .Lt (.bin .Sub (.loc 2) (.loc 3)) (.loc 4)) (.cons (.ret (.sub (.attr (.loc 0) 22) (.bin .Sub (.bin .Add (.loc 5) (.loc 2)) (.loc 3)))) .nil) .nil) .nil))) (.cons .dead .nil)))
noncomputable def lJ:MB:=(.cons (.aI (.loc 0) 14 (.loc 1)) (.cons (.aI (.loc 0) 15 (.loc 2)) (.cons (.aI (.loc 0) 16 (.loc 3)) (.cons (.aI (.loc 0) 17 (.loc 4)) (.cons (.aI (.loc 0) 18 (.loc 5)) (.cons (.aI (.loc 0) 19 (.loc 6)) (.cons (.aI (.loc 0) 20 (.loc 7)) .nil)))))))
noncomputable def hX:MB:=(.cons (.aI (.loc 0) 12 (.loc 1)) (.cons (.aI (.loc 0) 25 (.cls 139 .nil)) .nil))
noncomputable def jN:MB:=(.cons (.ry false [3,4] (.aQ (.sub (.attr (.loc 0) 12) (.loc 1)) 34 (.cons (.loc 2) .nil))) (.cons (.expr (.aQ (.attr (.loc 0) 25) 26 (.cons (.loc 3) (.cons (.loc 4) .nil)))) .nil))
noncomputable def lV:MB:=(.cons (.expr (.aQ (.attr (.loc 0) 25) 26 (.cons (.loc 1) (.cons (.loc 2) .nil)))) .nil)
noncomputable def eE:MB:=(.cons (.expr (.aQ (.attr (.loc 0) 25) 27 .nil)) (.cons (.asg 1 (.aQ (.attr (.loc 0) 25) 28 .nil)) (.cons (.aI (.loc 0) 25 (.cls 139 .nil)) (.cons (.ret (.loc 1)) .nil))))
noncomputable def ah (st:Stmt):Scope:=Hd.fdOf st default fun _ _ _ sc _=>sc
noncomputable def ai (st:Stmt):List Stmt:=Hd.fdOf st [] fun _ _ b _ _=>b
end Mine
end
section
open PySem PySem.W PySem.Calls PyProof.Rows
set_option Elab.async false
set_option maxRecDepth 1000000
set_option autoImplicit false
set_option genSizeOf false
set_option genInjectivity false
set_option linter.unusedVariables false
namespace Mine
open Hd
noncomputable def aH (P:Params):Frag:=[(3,HA P),(114,xm),(115,uG),(121,xn),(122,uH),(128,xo),(129,uI),(135,xp),(136,uJ),(138,xq P),(139,xr),(156,xt),(157,uK),(163,uL),(164,r8),(170,xA),(171,uM),(177,xB),(178,uN),(180,xC P),(181,xD),(191,xE),(192,uO),(198,xF),(199,uP),(205,xG),(206,uQ),(212,xH),(213,uR),(219,xI),(220,uS),(233,xJ),(234,xK),(240,BA),(241,xM),(247,BB),(248,xN),(254,BC),(255,xO),(261,BD),(262,xP),(268,BE),(269,xQ),(271,BH P),(272,BI),(289,xR),(290,uT),(296,xS),(297,uU),(303,BO),(304,xT),(310,BP),(311,xU),(313,BQ P),(314,BS),(331,BU),(332,xV),(338,BV),(339,xW),(345,BX),(346,xX),(352,xY),(353,uV),(355,xZ P),(356,ya),(373,B7),(374,yb),(380,B8),(381,yc),(387,B9),(388,yd),(394,Ca),(395,ye),(397,Cb P),(398,Cc),(415,yf),(416,uW),(422,yg),(423,uX),(429,Cg),(430,yh),(436,Ci),(437,yi),(439,Cj P),(440,Ck),(457,Cm),(458,yj),(464,Co),(465,yk),(471,Cp),(472,yl),(478,ym),(479,uY),(481,yn P),(482,yo),(499,H9),(500,Cv),(506,Ia),(507,Cw),(513,Ib),(514,Cy),(520,Ic),(521,Cz),(527,Ie),(528,CA),(534,Ig),(535,CB),(541,Ih),(542,yp),(544,CC P),(545,CD),(562,Ip),(563,CE),(569,Iq),(570,CF),(576,Ir),(577,CG),(583,It),(584,CH),(590,Iu),(591,CI),(597,Iv),(598,CJ),(604,Iw),(605,CK),(607,CL P),(608,CM),(618,IF),(619,CN),(625,IG),(626,CO),(632,IH),(633,CP),(639,II),(640,CQ),(646,IJ),(647,CR),(660,IK),(661,CS),(667,IL),(668,CT),(674,CU),(675,yq),(677,CV P),(678,CW),(695,IV),(696,CX),(712,IW P),(713,IX),(730,IY),(731,CY),(737,CZ),(738,yr),(744,C0),(745,yt),(751,I3),(752,Dc),(754,I4 P),(755,I5),(765,I6),(766,Dd),(772,I7),(773,De),(777,I8),(778,Df),(784,I9),(785,Dg),(789,Ja),(790,Dh),(796,Jb),(797,Di),(803,Jc),(804,Dj),(808,Jd),(809,Dk)]
noncomputable def Gv (i:Nat):Str:=bD.getD i (Str.ofString "")
noncomputable def s9 (C:Addr) (x:Nat):Bool:=match ta.lookup C with | some l=>l.contains x&&decide (x<43) | none=>false
noncomputable def w9 (C:Addr) (x:Nat):Option Addr:=match tK.lookup C with | some l=>(match l.lookup x with | some f=>if x<43 then some f else none | none=>none) | none=>none
theorem QE:bD.length=43:=by kernel_rfl
theorem xd:bD.Nodup:=by decide +kernel
theorem tO {i j:Nat} (hi:i<43) (hj:j<43) (e:Gv i=Gv j):i=j:=by
 unfold Gv at e
 rw [List.getD_eq_getElem?_getD,List.getD_eq_getElem?_getD,List.getElem?_eq_getElem (by skip;exact hi),List.getElem?_eq_getElem (by skip;exact hj)] at e
 exact (List.getElem_inj xd).mp e
theorem jM {C:Addr} {x:Nat} (h:s9 C x=true):x<43∧∃ l,(C,l)∈ta∧x∈l:=by
 unfold s9 at h
 split at h
 ·rename_i l e
  rw [Bool.and_eq_true,decide_eq_true_eq,List.contains_iff_mem] at h
  refine dy (List.lookup_eq_some_iff.mp e) fun l1 l2 e' _=>?_
  exact⟨h.2,l,by rw [e'];simp,h.1⟩
 ·contradiction
theorem qE {C:Addr} {x:Nat} {f:Addr} (h:w9 C x=some f):x<43∧∃ l,(C,l)∈tK∧(x,f)∈l:=by
 unfold w9 at h
 split at h
 ·rename_i l e
  split at h
  ·rename_i g e2
   split at h
   ·rename_i hx
    have h:=Option.some.inj h;subst h
    refine dy (List.lookup_eq_some_iff.mp e) fun l1 l2 e' _=>?_
    refine dy (List.lookup_eq_some_iff.mp e2) fun m1 m2 e3 _=>?_
    exact⟨hx,l,by rw [e'];simp,by rw [e3];simp⟩
   ·contradiction
  ·contradiction
 ·contradiction
theorem vJ:(tK.all fun p=>p.2.all fun m=>ta.all fun q=>q.1 != p.1 || !q.2.contains m.1)=true:=by decide +kernel
noncomputable def TT (pin:List Value):sW where
 pin:=pin
 nm:=Gv
 attr:=s9
 aQ:=w9
 init:=fun C=>wM.lookup C
 KY:=fun C x y f h1 h2 e=>by
  obtain⟨hx,l,hl,hm⟩:=qE h1
  obtain⟨hy,l',hl',hm'⟩:=jM h2
  have e':=tO hy hx e
  subst e'
  have z:=List.all_eq_true.mp (List.all_eq_true.mp (List.all_eq_true.mp vJ _ hl) _ hm) _ hl'
  simp only [bne_self_eq_false,Bool.false_or,Bool.not_eq_true'] at z
  rw [List.contains_iff_mem.mpr hm'] at z
  cases z
 inj:=fun C i j h1 h2 e=>tO (jM h1).1 (jM h2).1 e
noncomputable def Kf (K:Frag):Bool:=ta.all fun p=>plainGet K p.1 "" && hasDictIn K p.1&&findIn K (.ref p.1) "__setattr__" == some (some (.builtin "object.__setattr__"))&&plainOver K p.1&&p.2.all fun x=>findIn K (.ref p.1) (Gv x)==some none
noncomputable def Kh (K:Frag):Bool:=tK.all fun p=>plainGet K p.1 "" && p.2.all fun m=>findIn K (.ref p.1) (Gv m.1)==some (some (.ref m.2))&&isFn K (.ref m.2)
noncomputable def Kg (K:Frag):Bool:=wM.all fun p=>makesIn K p.1&&findIn K (.ref p.1) "__init__" == some (some (.ref p.2))&&isFn K (.ref p.2)&&keepIn K (.ref p.1)
theorem Gn {K:Frag} {vs:List Value} (a:Kf K=true) (m:Kh K=true) (i:Kg K=true):O7 (TT vs) K:=by
 have ha:∀ C x,s9 C x=true->plainGet K C "" = true∧hasDictIn K C=true∧findIn K (.ref C) "__setattr__" = some (some (.builtin "object.__setattr__"))∧plainOver K C=true∧findIn K (.ref C) (Gv x)=some none:=fun C x h=>by
  refine bx (jM h) fun hx zp1=>?_;refine jg zp1 fun l zq=>?_;have hl:=zq.1;have hm:=zq.2
  have z:=List.all_eq_true.mp a _ hl
  simp only [Bool.and_eq_true,beq_iff_eq,List.all_eq_true] at z
  exact⟨z.1.1.1.1,z.1.1.1.2,z.1.1.2,z.1.2,z.2 x hm⟩
 refine⟨fun C x h y=>(ha C x h).1,fun C x h=>(ha C x h).2.1,fun C x h=>(ha C x h).2.2.2.2,fun C x h=>(ha C x h).2.2.1,fun C x h=>(ha C x h).2.2.2.1,fun C x f h=>?_,fun C f h=>?_⟩
 ·refine bx (qE h) fun hx zp1=>?_;refine jg zp1 fun l zq=>?_;skip;skip
  have z:=List.all_eq_true.mp m _ zq.1
  simp only [Bool.and_eq_true,beq_iff_eq,List.all_eq_true] at z
  exact⟨fun y=>z.1,z.2 _ zq.2⟩
 ·refine dy (List.lookup_eq_some_iff.mp (show wM.lookup C=some f from h)) fun l1 l2 e' _=>?_
  have z:=List.all_eq_true.mp i (C,f) (by rw [e'];simp)
  simp only [Bool.and_eq_true,beq_iff_eq] at z
  exact⟨z.1.1.1,z.1.1.2,z.1.2,z.2⟩
theorem kA (P:Params):Kf (aH P)=true:=by kernel_rfl
theorem kM (P:Params):Kh (aH P)=true:=by kernel_rfl
theorem kI (P:Params):Kg (aH P)=true:=by kernel_rfl
theorem Se (P:Params) (vs:List Value):O7 (TT vs) (aH P):=Gn (kA P) (kM P) (kI P)
noncomputable def E0 (v:Option (Option Value)) (i:Int):Bool:=by
 cases v with
 | none=>exact false
 | some w =>
  cases w with
  | none=>exact false
  | some u =>
   cases u with
   | int j t=>exact decide (j=i)
   | _=>exact false
noncomputable def PQ (v:Option (Option Value)) (i:Int):Prop:=∃ t,v=some (some (.int i t))
theorem wN {v:Option (Option Value)} {i:Int}:E0 v i=true->PQ v i:=by
 cases v with
 | none=>exact fun h=>absurd h Bool.false_ne_true
 | some w =>
  cases w with
  | none=>exact fun h=>absurd h Bool.false_ne_true
  | some u =>
   cases u with
   | int j t=>exact fun h=>⟨t,congrArg (fun k:Int=>some (some (Value.int k t))) (of_decide_eq_true h)⟩
   | _=>exact fun h=>absurd h Bool.false_ne_true
noncomputable def Sd (K:Frag) (x:Str):GF->Bool
 | .fn a=>nsIn K mainGlobals x==some (some (.ref a))
 | .cls a=>nsIn K mainGlobals x==some (some (.ref a))
 | .const i=>E0 (nsIn K mainGlobals x) i
 | .blt _=>nsIn K mainGlobals x==some none&&x != Str.ofString "__name__"
noncomputable def gB (x:Str):GF->Bool
 | .fn _=>true
 | .cls _=>true
 | .const _=>true
 | .blt b=>bootBuiltins x==some b.val
noncomputable def Qk (K:Frag):Bool:=G.all fun p=>Sd K p.1 p.2
noncomputable def Qj:Bool:=G.all fun p=>gB p.1 p.2
theorem kB:Qj=true:=by kernel_rfl
theorem kG (P:Params):Qk (aH P)=true:=by kernel_rfl
structure Ev where
 pin:List Value
 w:World
 p:Program
 loose:List Str
 uE:ExcName->Option Value
 mg:Str->Option Value
 mb:Str->Option Value
 gens:Array GenState
 drawn:Drawn
 os:OsState
noncomputable def PE (E:Ev):Tp:={ T:=TT E.pin,prog:=pw,w:=E.w,K:=aH E.w.params,p:=E.p,loose:=E.loose,uE:=E.uE,mg:=E.mg,mb:=E.mb,gens:=E.gens,drawn:=E.drawn,os:=E.os }
theorem ay (E:Ev):dr (PE E) G bD:=by
 refine⟨fun x g h=>?_,fun i x h=>?_⟩
 ·refine dy (List.lookup_eq_some_iff.mp h) fun l1 l2 e' _=>?_
  have hm:(x,g)∈G:=by rw [e'];simp
  have z:=List.all_eq_true.mp (kG E.w.params) _ hm
  skip
  cases g with
  | fn a=>exact beq_iff_eq.mp z
  | cls a=>exact beq_iff_eq.mp z
  | const i=>exact wN z
  | blt b =>
   have z':=Bool.and_eq_true_iff.mp z
   exact⟨beq_iff_eq.mp z'.1,beq_iff_eq.mp (List.all_eq_true.mp kB _ hm),bne_iff_ne.mp z'.2⟩
 ·refine (?_:bD.getD i _=x)
  rw [List.getD_eq_getElem?_getD,h];rfl
noncomputable def Kz (st:Stmt):Bool:=Nat.beq st.ctorIdx 0
noncomputable def yU (sc:Scope) (pn:List Str):Bool:=sc.names.take pn.length==pn.map (fun x=>(x,NameKind.local))&&decide (sc.names.map (·.1)).Nodup&&sc.kind == .function && !sc.isCoroutine && !sc.isGenerator
noncomputable def RT (st:Stmt):Prop:=∃ n a b d r x sc c e f,st = .FunctionDef n a b d r x sc c e f
theorem Aq {st:Stmt}:Kz st=true->RT st:=by
 cases st with
 | FunctionDef n a b d r x sc c e f=>exact fun _=>⟨n,a,b,d,r,x,sc,c,e,f,rfl⟩
 | _=>exact fun h=>absurd h Bool.false_ne_true
theorem af {K:Frag} {a:Addr} {st:Stmt} {oc:Value} {od:Option Addr} {Nz:Array (Option Value)} {qual:Str} {pm vt:Value} (pn:List Str) (hf:Kz st=true):K.lookup a=some ⟨oc,od,.func (Hd.fd st qual 3 .none .none .none pm none vt .none 0),Nz⟩ →
  codeIn K vt qual=true->(∀ vals:List Value,vals.length=pn.length->bindArgs (Hd.fd st qual 3 .none .none .none pm none vt .none 0) ⟨vals,[]⟩=pure (pn.zip vals))->yU (ah st) pn=true->FnAt K a (ah st) (ai st) pn:=by
 refine Sb (Aq hf) fun n ar b d r x sc c zp8=>?_;refine ES zp8 fun e f zp2=>?_;subst zp2
 intro hl hc hb hs
 simp only [yU,Bool.and_eq_true,beq_iff_eq,decide_eq_true_eq,Bool.not_eq_true'] at hs
 exact⟨⟨⟨oc,od,Nz,n,qual,ar,.none,.none,.none,pm,none,vt,.none⟩,hl,hc,hb⟩,hs.1.1.1.1,hs.1.1.1.2,hs.1.1.2,hs.1.2,hs.2⟩
theorem bK {q:List Value->Prop} (h:q []):∀ v:List Value,v.length=0->q v:=fun v e=>by cases v with | nil=>exact h | cons=>contradiction
theorem aJ {n:Nat} {q:List Value->Prop} (h:∀ a (r:List Value),r.length=n->q (a::r)):∀ v:List Value,v.length=n+1->q v:=fun v e=>by cases v with | nil=>cases e | cons a r=>exact h a r (by simpa using e)
theorem qo (P:Params):FnAt (aH P) 192 (ah (Hd.tp 12)) (ai (Hd.tp 12)) [Str.ofString "v"]:=af _ (by kernel_rfl) (by kernel_rfl:(aH P).lookup 192=some uO) (by kernel_rfl) (aJ fun a0=>bK (by kernel_rfl)) (by kernel_rfl)
theorem rO (P:Params):FnAt (aH P) 199 (ah (Hd.tp 13)) (ai (Hd.tp 13)) [Str.ofString "v",Str.ofString "size"]:=af _ (by kernel_rfl) (by kernel_rfl:(aH P).lookup 199=some uP) (by kernel_rfl) (aJ fun a0=>aJ fun a1=>bK (by kernel_rfl)) (by kernel_rfl)
theorem qq (P:Params):FnAt (aH P) 206 (ah (Hd.tp 14)) (ai (Hd.tp 14)) [Str.ofString "bits",Str.ofString "size"]:=af _ (by kernel_rfl) (by kernel_rfl:(aH P).lookup 206=some uQ) (by kernel_rfl) (aJ fun a0=>aJ fun a1=>bK (by kernel_rfl)) (by kernel_rfl)
theorem qp (P:Params):FnAt (aH P) 213 (ah (Hd.tp 19)) (ai (Hd.tp 19)) [Str.ofString "run"]:=af _ (by kernel_rfl) (by kernel_rfl:(aH P).lookup 213=some uR) (by kernel_rfl) (aJ fun a0=>bK (by kernel_rfl)) (by kernel_rfl)
theorem mH (P:Params):FnAt (aH P) 220 (ah (Hd.tp 20)) (ai (Hd.tp 20)) [Str.ofString "value",Str.ofString "low"]:=af _ (by kernel_rfl) (by kernel_rfl:(aH P).lookup 220=some uS) (by kernel_rfl) (aJ fun a0=>aJ fun a1=>bK (by kernel_rfl)) (by kernel_rfl)
theorem nI (P:Params):FnAt (aH P) 619 (ah (Hd.tp 34)) (ai (Hd.tp 34)) [Str.ofString "scan",Str.ofString "n"]:=af _ (by kernel_rfl) (by kernel_rfl:(aH P).lookup 619=some CN) (by kernel_rfl) (aJ fun a0=>aJ fun a1=>bK (by kernel_rfl)) (by kernel_rfl)
theorem iC (P:Params):FnAt (aH P) 626 (ah (Hd.tp 35)) (ai (Hd.tp 35)) [Str.ofString "scan",Str.ofString "n",Str.ofString "sink"]:=af _ (by kernel_rfl) (by kernel_rfl:(aH P).lookup 626=some CO) (by kernel_rfl) (aJ fun a0=>aJ fun a1=>aJ fun a2=>bK (by kernel_rfl)) (by kernel_rfl)
theorem iB (P:Params):FnAt (aH P) 633 (ah (Hd.tp 36)) (ai (Hd.tp 36)) [Str.ofString "scan",Str.ofString "n",Str.ofString "tables"]:=af _ (by kernel_rfl) (by kernel_rfl:(aH P).lookup 633=some CP) (by kernel_rfl) (aJ fun a0=>aJ fun a1=>aJ fun a2=>bK (by kernel_rfl)) (by kernel_rfl)
theorem oU (P:Params):FnAt (aH P) 640 (ah (Hd.tp 40)) (ai (Hd.tp 40)) [Str.ofString "counts"]:=af _ (by kernel_rfl) (by kernel_rfl:(aH P).lookup 640=some CQ) (by kernel_rfl) (aJ fun a0=>bK (by kernel_rfl)) (by kernel_rfl)
theorem nJ (P:Params):FnAt (aH P) 647 (ah (Hd.tp 41)) (ai (Hd.tp 41)) [Str.ofString "counts",Str.ofString "symbols"]:=af _ (by kernel_rfl) (by kernel_rfl:(aH P).lookup 647=some CR) (by kernel_rfl) (aJ fun a0=>aJ fun a1=>bK (by kernel_rfl)) (by kernel_rfl)
theorem mJ (P:Params):FnAt (aH P) 766 (ah (Hd.tp 48)) (ai (Hd.tp 48)) [Str.ofString "script"]:=af _ (by kernel_rfl) (by kernel_rfl:(aH P).lookup 766=some Dd) (by kernel_rfl) (aJ fun a0=>bK (by kernel_rfl)) (by kernel_rfl)
theorem oV (P:Params):FnAt (aH P) 773 (ah (Hd.tp 49)) (ai (Hd.tp 49)) [Str.ofString "source",Str.ofString "many"]:=af _ (by kernel_rfl) (by kernel_rfl:(aH P).lookup 773=some De) (by kernel_rfl) (aJ fun a0=>aJ fun a1=>bK (by kernel_rfl)) (by kernel_rfl)
theorem nK (P:Params):FnAt (aH P) 778 (ah (Hd.tp 50)) (ai (Hd.tp 50)) [Str.ofString "runs"]:=af _ (by kernel_rfl) (by kernel_rfl:(aH P).lookup 778=some Df) (by kernel_rfl) (aJ fun a0=>bK (by kernel_rfl)) (by kernel_rfl)
theorem mI (P:Params):FnAt (aH P) 785 (ah (Hd.tp 51)) (ai (Hd.tp 51)) [Str.ofString "source"]:=af _ (by kernel_rfl) (by kernel_rfl:(aH P).lookup 785=some Dg) (by kernel_rfl) (aJ fun a0=>bK (by kernel_rfl)) (by kernel_rfl)
theorem cF (P:Params):FnAt (aH P) 790 (ah (Hd.tp 52)) (ai (Hd.tp 52)) [Str.ofString "scan",Str.ofString "n",Str.ofString "rows",Str.ofString "known",Str.ofString "tables"]:=af _ (by kernel_rfl) (by kernel_rfl:(aH P).lookup 790=some Dh) (by kernel_rfl) (aJ fun a0=>aJ fun a1=>aJ fun a2=>aJ fun a3=>aJ fun a4=>bK (by kernel_rfl)) (by kernel_rfl)
theorem qr (P:Params):FnAt (aH P) 797 (ah (Hd.tp 53)) (ai (Hd.tp 53)) [Str.ofString "rows",Str.ofString "known",Str.ofString "start",Str.ofString "end",Str.ofString "low"]:=af _ (by kernel_rfl) (by kernel_rfl:(aH P).lookup 797=some Di) (by kernel_rfl) (aJ fun a0=>aJ fun a1=>aJ fun a2=>aJ fun a3=>aJ fun a4=>bK (by kernel_rfl)) (by kernel_rfl)
theorem iD (P:Params):FnAt (aH P) 804 (ah (Hd.tp 54)) (ai (Hd.tp 54)) []:=af _ (by kernel_rfl) (by kernel_rfl:(aH P).lookup 804=some Dj) (by kernel_rfl) (bK (by kernel_rfl)) (by kernel_rfl)
theorem wB (P:Params):FnAt (aH P) 809 (ah (Hd.tp 55)) (ai (Hd.tp 55)) [Str.ofString "script"]:=af _ (by kernel_rfl) (by kernel_rfl:(aH P).lookup 809=some Dk) (by kernel_rfl) (aJ fun a0=>bK (by kernel_rfl)) (by kernel_rfl)
theorem jY (P:Params):FnAt (aH P) 115 (ah (Hd.mb 9 0)) (ai (Hd.mb 9 0)) [Str.ofString "self"]:=af _ (by kernel_rfl) (by kernel_rfl:(aH P).lookup 115=some uG) (by kernel_rfl) (aJ fun a0=>bK (by kernel_rfl)) (by kernel_rfl)
theorem k5 (P:Params):FnAt (aH P) 122 (ah (Hd.mb 9 1)) (ai (Hd.mb 9 1)) [Str.ofString "self",Str.ofString "value",Str.ofString "size"]:=af _ (by kernel_rfl) (by kernel_rfl:(aH P).lookup 122=some uH) (by kernel_rfl) (aJ fun a0=>aJ fun a1=>aJ fun a2=>bK (by kernel_rfl)) (by kernel_rfl)
theorem k4 (P:Params):FnAt (aH P) 129 (ah (Hd.mb 9 2)) (ai (Hd.mb 9 2)) [Str.ofString "self"]:=af _ (by kernel_rfl) (by kernel_rfl:(aH P).lookup 129=some uI) (by kernel_rfl) (aJ fun a0=>bK (by kernel_rfl)) (by kernel_rfl)
theorem jt (P:Params):FnAt (aH P) 136 (ah (Hd.mb 9 3)) (ai (Hd.mb 9 3)) [Str.ofString "self"]:=af _ (by kernel_rfl) (by kernel_rfl:(aH P).lookup 136=some uJ) (by kernel_rfl) (aJ fun a0=>bK (by kernel_rfl)) (by kernel_rfl)
theorem jW (P:Params):FnAt (aH P) 157 (ah (Hd.mb 10 0)) (ai (Hd.mb 10 0)) [Str.ofString "self",Str.ofString "octets"]:=af _ (by kernel_rfl) (by kernel_rfl:(aH P).lookup 157=some uK) (by kernel_rfl) (aJ fun a0=>aJ fun a1=>bK (by kernel_rfl)) (by kernel_rfl)
theorem jX (P:Params):FnAt (aH P) 164 (ah (Hd.mb 10 1)) (ai (Hd.mb 10 1)) [Str.ofString "self"]:=af _ (by kernel_rfl) (by kernel_rfl:(aH P).lookup 164=some r8) (by kernel_rfl) (aJ fun a0=>bK (by kernel_rfl)) (by kernel_rfl)
theorem kZ (P:Params):FnAt (aH P) 171 (ah (Hd.mb 10 2)) (ai (Hd.mb 10 2)) [Str.ofString "self"]:=af _ (by kernel_rfl) (by kernel_rfl:(aH P).lookup 171=some uM) (by kernel_rfl) (aJ fun a0=>bK (by kernel_rfl)) (by kernel_rfl)
theorem jV (P:Params):FnAt (aH P) 178 (ah (Hd.mb 10 3)) (ai (Hd.mb 10 3)) [Str.ofString "self",Str.ofString "size"]:=af _ (by kernel_rfl) (by kernel_rfl:(aH P).lookup 178=some uN) (by kernel_rfl) (aJ fun a0=>aJ fun a1=>bK (by kernel_rfl)) (by kernel_rfl)
theorem iu (P:Params):FnAt (aH P) 234 (ah (Hd.mb 21 0)) (ai (Hd.mb 21 0)) [Str.ofString "self",Str.ofString "scan",Str.ofString "sink"]:=af _ (by kernel_rfl) (by kernel_rfl:(aH P).lookup 234=some xK) (by kernel_rfl) (aJ fun a0=>aJ fun a1=>aJ fun a2=>bK (by kernel_rfl)) (by kernel_rfl)
theorem gD (P:Params):FnAt (aH P) 241 (ah (Hd.mb 21 1)) (ai (Hd.mb 21 1)) [Str.ofString "self"]:=af _ (by kernel_rfl) (by kernel_rfl:(aH P).lookup 241=some xM) (by kernel_rfl) (aJ fun a0=>bK (by kernel_rfl)) (by kernel_rfl)
theorem bY (P:Params):FnAt (aH P) 248 (ah (Hd.mb 21 2)) (ai (Hd.mb 21 2)) [Str.ofString "self"]:=af _ (by kernel_rfl) (by kernel_rfl:(aH P).lookup 248=some xN) (by kernel_rfl) (aJ fun a0=>bK (by kernel_rfl)) (by kernel_rfl)
theorem dQ (P:Params):FnAt (aH P) 255 (ah (Hd.mb 21 3)) (ai (Hd.mb 21 3)) [Str.ofString "self",Str.ofString "zeros",Str.ofString "value"]:=af _ (by kernel_rfl) (by kernel_rfl:(aH P).lookup 255=some xO) (by kernel_rfl) (aJ fun a0=>aJ fun a1=>aJ fun a2=>bK (by kernel_rfl)) (by kernel_rfl)
theorem ir (P:Params):FnAt (aH P) 262 (ah (Hd.mb 21 4)) (ai (Hd.mb 21 4)) [Str.ofString "self",Str.ofString "place",Str.ofString "row"]:=af _ (by kernel_rfl) (by kernel_rfl:(aH P).lookup 262=some xP) (by kernel_rfl) (aJ fun a0=>aJ fun a1=>aJ fun a2=>bK (by kernel_rfl)) (by kernel_rfl)
theorem fE (P:Params):FnAt (aH P) 269 (ah (Hd.mb 21 5)) (ai (Hd.mb 21 5)) [Str.ofString "self"]:=af _ (by kernel_rfl) (by kernel_rfl:(aH P).lookup 269=some xQ) (by kernel_rfl) (aJ fun a0=>bK (by kernel_rfl)) (by kernel_rfl)
theorem iq (P:Params):FnAt (aH P) 290 (ah (Hd.mb 22 0)) (ai (Hd.mb 22 0)) [Str.ofString "self",Str.ofString "scan",Str.ofString "tables"]:=af _ (by kernel_rfl) (by kernel_rfl:(aH P).lookup 290=some uT) (by kernel_rfl) (aJ fun a0=>aJ fun a1=>aJ fun a2=>bK (by kernel_rfl)) (by kernel_rfl)
theorem gz (P:Params):FnAt (aH P) 297 (ah (Hd.mb 22 1)) (ai (Hd.mb 22 1)) [Str.ofString "self",Str.ofString "octets"]:=af _ (by kernel_rfl) (by kernel_rfl:(aH P).lookup 297=some uU) (by kernel_rfl) (aJ fun a0=>aJ fun a1=>bK (by kernel_rfl)) (by kernel_rfl)
theorem cU (P:Params):FnAt (aH P) 304 (ah (Hd.mb 22 2)) (ai (Hd.mb 22 2)) [Str.ofString "self",Str.ofString "place",Str.ofString "row"]:=af _ (by kernel_rfl) (by kernel_rfl:(aH P).lookup 304=some xT) (by kernel_rfl) (aJ fun a0=>aJ fun a1=>aJ fun a2=>bK (by kernel_rfl)) (by kernel_rfl)
theorem fD (P:Params):FnAt (aH P) 311 (ah (Hd.mb 22 3)) (ai (Hd.mb 22 3)) [Str.ofString "self"]:=af _ (by kernel_rfl) (by kernel_rfl:(aH P).lookup 311=some xU) (by kernel_rfl) (aJ fun a0=>bK (by kernel_rfl)) (by kernel_rfl)
theorem iA (P:Params):FnAt (aH P) 332 (ah (Hd.mb 25 0)) (ai (Hd.mb 25 0)) [Str.ofString "self",Str.ofString "scan",Str.ofString "sink"]:=af _ (by kernel_rfl) (by kernel_rfl:(aH P).lookup 332=some xV) (by kernel_rfl) (aJ fun a0=>aJ fun a1=>aJ fun a2=>bK (by kernel_rfl)) (by kernel_rfl)
theorem gJ (P:Params):FnAt (aH P) 339 (ah (Hd.mb 25 1)) (ai (Hd.mb 25 1)) [Str.ofString "self"]:=af _ (by kernel_rfl) (by kernel_rfl:(aH P).lookup 339=some xW) (by kernel_rfl) (aJ fun a0=>bK (by kernel_rfl)) (by kernel_rfl)
theorem iz (P:Params):FnAt (aH P) 346 (ah (Hd.mb 25 2)) (ai (Hd.mb 25 2)) [Str.ofString "self",Str.ofString "place",Str.ofString "row"]:=af _ (by kernel_rfl) (by kernel_rfl:(aH P).lookup 346=some xX) (by kernel_rfl) (aJ fun a0=>aJ fun a1=>aJ fun a2=>bK (by kernel_rfl)) (by kernel_rfl)
theorem fJ (P:Params):FnAt (aH P) 353 (ah (Hd.mb 25 3)) (ai (Hd.mb 25 3)) [Str.ofString "self"]:=af _ (by kernel_rfl) (by kernel_rfl:(aH P).lookup 353=some uV) (by kernel_rfl) (aJ fun a0=>bK (by kernel_rfl)) (by kernel_rfl)
theorem gO (P:Params):FnAt (aH P) 374 (ah (Hd.mb 26 0)) (ai (Hd.mb 26 0)) [Str.ofString "self",Str.ofString "scan",Str.ofString "sink"]:=af _ (by kernel_rfl) (by kernel_rfl:(aH P).lookup 374=some yb) (by kernel_rfl) (aJ fun a0=>aJ fun a1=>aJ fun a2=>bK (by kernel_rfl)) (by kernel_rfl)
theorem fL (P:Params):FnAt (aH P) 381 (ah (Hd.mb 26 1)) (ai (Hd.mb 26 1)) [Str.ofString "self"]:=af _ (by kernel_rfl) (by kernel_rfl:(aH P).lookup 381=some yc) (by kernel_rfl) (aJ fun a0=>bK (by kernel_rfl)) (by kernel_rfl)
theorem gM (P:Params):FnAt (aH P) 388 (ah (Hd.mb 26 2)) (ai (Hd.mb 26 2)) [Str.ofString "self",Str.ofString "place",Str.ofString "row"]:=af _ (by kernel_rfl) (by kernel_rfl:(aH P).lookup 388=some yd) (by kernel_rfl) (aJ fun a0=>aJ fun a1=>aJ fun a2=>bK (by kernel_rfl)) (by kernel_rfl)
theorem eY (P:Params):FnAt (aH P) 395 (ah (Hd.mb 26 3)) (ai (Hd.mb 26 3)) [Str.ofString "self"]:=af _ (by kernel_rfl) (by kernel_rfl:(aH P).lookup 395=some ye) (by kernel_rfl) (aJ fun a0=>bK (by kernel_rfl)) (by kernel_rfl)
theorem iw (P:Params):FnAt (aH P) 416 (ah (Hd.mb 27 0)) (ai (Hd.mb 27 0)) [Str.ofString "self",Str.ofString "scan",Str.ofString "tables"]:=af _ (by kernel_rfl) (by kernel_rfl:(aH P).lookup 416=some uW) (by kernel_rfl) (aJ fun a0=>aJ fun a1=>aJ fun a2=>bK (by kernel_rfl)) (by kernel_rfl)
theorem gI (P:Params):FnAt (aH P) 423 (ah (Hd.mb 27 1)) (ai (Hd.mb 27 1)) [Str.ofString "self",Str.ofString "octets"]:=af _ (by kernel_rfl) (by kernel_rfl:(aH P).lookup 423=some uX) (by kernel_rfl) (aJ fun a0=>aJ fun a1=>bK (by kernel_rfl)) (by kernel_rfl)
theorem iy (P:Params):FnAt (aH P) 430 (ah (Hd.mb 27 2)) (ai (Hd.mb 27 2)) [Str.ofString "self",Str.ofString "place",Str.ofString "row"]:=af _ (by kernel_rfl) (by kernel_rfl:(aH P).lookup 430=some yh) (by kernel_rfl) (aJ fun a0=>aJ fun a1=>aJ fun a2=>bK (by kernel_rfl)) (by kernel_rfl)
theorem fH (P:Params):FnAt (aH P) 437 (ah (Hd.mb 27 3)) (ai (Hd.mb 27 3)) [Str.ofString "self"]:=af _ (by kernel_rfl) (by kernel_rfl:(aH P).lookup 437=some yi) (by kernel_rfl) (aJ fun a0=>bK (by kernel_rfl)) (by kernel_rfl)
theorem gK (P:Params):FnAt (aH P) 458 (ah (Hd.mb 28 0)) (ai (Hd.mb 28 0)) [Str.ofString "self",Str.ofString "scan"]:=af _ (by kernel_rfl) (by kernel_rfl:(aH P).lookup 458=some yj) (by kernel_rfl) (aJ fun a0=>aJ fun a1=>bK (by kernel_rfl)) (by kernel_rfl)
theorem fK (P:Params):FnAt (aH P) 465 (ah (Hd.mb 28 1)) (ai (Hd.mb 28 1)) [Str.ofString "self",Str.ofString "octets"]:=af _ (by kernel_rfl) (by kernel_rfl:(aH P).lookup 465=some yk) (by kernel_rfl) (aJ fun a0=>aJ fun a1=>bK (by kernel_rfl)) (by kernel_rfl)
theorem gL (P:Params):FnAt (aH P) 472 (ah (Hd.mb 28 2)) (ai (Hd.mb 28 2)) [Str.ofString "self",Str.ofString "place",Str.ofString "row"]:=af _ (by kernel_rfl) (by kernel_rfl:(aH P).lookup 472=some yl) (by kernel_rfl) (aJ fun a0=>aJ fun a1=>aJ fun a2=>bK (by kernel_rfl)) (by kernel_rfl)
theorem eX (P:Params):FnAt (aH P) 479 (ah (Hd.mb 28 3)) (ai (Hd.mb 28 3)) [Str.ofString "self"]:=af _ (by kernel_rfl) (by kernel_rfl:(aH P).lookup 479=some uY) (by kernel_rfl) (aJ fun a0=>bK (by kernel_rfl)) (by kernel_rfl)
theorem gH (P:Params):FnAt (aH P) 500 (ah (Hd.mb 31 0)) (ai (Hd.mb 31 0)) [Str.ofString "self",Str.ofString "scan",Str.ofString "sink"]:=af _ (by kernel_rfl) (by kernel_rfl:(aH P).lookup 500=some Cv) (by kernel_rfl) (aJ fun a0=>aJ fun a1=>aJ fun a2=>bK (by kernel_rfl)) (by kernel_rfl)
theorem fG (P:Params):FnAt (aH P) 507 (ah (Hd.mb 31 1)) (ai (Hd.mb 31 1)) [Str.ofString "self"]:=af _ (by kernel_rfl) (by kernel_rfl:(aH P).lookup 507=some Cw) (by kernel_rfl) (aJ fun a0=>bK (by kernel_rfl)) (by kernel_rfl)
theorem dS (P:Params):FnAt (aH P) 514 (ah (Hd.mb 31 2)) (ai (Hd.mb 31 2)) [Str.ofString "self",Str.ofString "some"]:=af _ (by kernel_rfl) (by kernel_rfl:(aH P).lookup 514=some Cy) (by kernel_rfl) (aJ fun a0=>aJ fun a1=>bK (by kernel_rfl)) (by kernel_rfl)
theorem bT (P:Params):FnAt (aH P) 521 (ah (Hd.mb 31 3)) (ai (Hd.mb 31 3)) [Str.ofString "self"]:=af _ (by kernel_rfl) (by kernel_rfl:(aH P).lookup 521=some Cz) (by kernel_rfl) (aJ fun a0=>bK (by kernel_rfl)) (by kernel_rfl)
theorem dR (P:Params):FnAt (aH P) 528 (ah (Hd.mb 31 4)) (ai (Hd.mb 31 4)) [Str.ofString "self",Str.ofString "row"]:=af _ (by kernel_rfl) (by kernel_rfl:(aH P).lookup 528=some CA) (by kernel_rfl) (aJ fun a0=>aJ fun a1=>bK (by kernel_rfl)) (by kernel_rfl)
theorem gG (P:Params):FnAt (aH P) 535 (ah (Hd.mb 31 5)) (ai (Hd.mb 31 5)) [Str.ofString "self",Str.ofString "place",Str.ofString "row"]:=af _ (by kernel_rfl) (by kernel_rfl:(aH P).lookup 535=some CB) (by kernel_rfl) (aJ fun a0=>aJ fun a1=>aJ fun a2=>bK (by kernel_rfl)) (by kernel_rfl)
theorem eW (P:Params):FnAt (aH P) 542 (ah (Hd.mb 31 6)) (ai (Hd.mb 31 6)) [Str.ofString "self"]:=af _ (by kernel_rfl) (by kernel_rfl:(aH P).lookup 542=some yp) (by kernel_rfl) (aJ fun a0=>bK (by kernel_rfl)) (by kernel_rfl)
theorem gE (P:Params):FnAt (aH P) 563 (ah (Hd.mb 32 0)) (ai (Hd.mb 32 0)) [Str.ofString "self",Str.ofString "scan",Str.ofString "tables"]:=af _ (by kernel_rfl) (by kernel_rfl:(aH P).lookup 563=some CE) (by kernel_rfl) (aJ fun a0=>aJ fun a1=>aJ fun a2=>bK (by kernel_rfl)) (by kernel_rfl)
theorem fF (P:Params):FnAt (aH P) 570 (ah (Hd.mb 32 1)) (ai (Hd.mb 32 1)) [Str.ofString "self",Str.ofString "octets"]:=af _ (by kernel_rfl) (by kernel_rfl:(aH P).lookup 570=some CF) (by kernel_rfl) (aJ fun a0=>aJ fun a1=>bK (by kernel_rfl)) (by kernel_rfl)
theorem eu (P:Params):FnAt (aH P) 577 (ah (Hd.mb 32 2)) (ai (Hd.mb 32 2)) [Str.ofString "self",Str.ofString "row",Str.ofString "k"]:=af _ (by kernel_rfl) (by kernel_rfl:(aH P).lookup 577=some CG) (by kernel_rfl) (aJ fun a0=>aJ fun a1=>aJ fun a2=>bK (by kernel_rfl)) (by kernel_rfl)
theorem ew (P:Params):FnAt (aH P) 584 (ah (Hd.mb 32 3)) (ai (Hd.mb 32 3)) [Str.ofString "self",Str.ofString "row",Str.ofString "k",Str.ofString "zeros"]:=af _ (by kernel_rfl) (by kernel_rfl:(aH P).lookup 584=some CH) (by kernel_rfl) (aJ fun a0=>aJ fun a1=>aJ fun a2=>aJ fun a3=>bK (by kernel_rfl)) (by kernel_rfl)
theorem dz (P:Params):FnAt (aH P) 591 (ah (Hd.mb 32 4)) (ai (Hd.mb 32 4)) [Str.ofString "self",Str.ofString "symbol"]:=af _ (by kernel_rfl) (by kernel_rfl:(aH P).lookup 591=some CI) (by kernel_rfl) (aJ fun a0=>aJ fun a1=>bK (by kernel_rfl)) (by kernel_rfl)
theorem gF (P:Params):FnAt (aH P) 598 (ah (Hd.mb 32 5)) (ai (Hd.mb 32 5)) [Str.ofString "self",Str.ofString "place",Str.ofString "row"]:=af _ (by kernel_rfl) (by kernel_rfl:(aH P).lookup 598=some CJ) (by kernel_rfl) (aJ fun a0=>aJ fun a1=>aJ fun a2=>bK (by kernel_rfl)) (by kernel_rfl)
theorem eV (P:Params):FnAt (aH P) 605 (ah (Hd.mb 32 6)) (ai (Hd.mb 32 6)) [Str.ofString "self"]:=af _ (by kernel_rfl) (by kernel_rfl:(aH P).lookup 605=some CK) (by kernel_rfl) (aJ fun a0=>bK (by kernel_rfl)) (by kernel_rfl)
theorem j0 (P:Params):FnAt (aH P) 661 (ah (Hd.mb 42 0)) (ai (Hd.mb 42 0)) [Str.ofString "self",Str.ofString "counts",Str.ofString "symbols"]:=af _ (by kernel_rfl) (by kernel_rfl:(aH P).lookup 661=some CS) (by kernel_rfl) (aJ fun a0=>aJ fun a1=>aJ fun a2=>bK (by kernel_rfl)) (by kernel_rfl)
theorem jZ (P:Params):FnAt (aH P) 668 (ah (Hd.mb 42 1)) (ai (Hd.mb 42 1)) [Str.ofString "self",Str.ofString "symbol"]:=af _ (by kernel_rfl) (by kernel_rfl:(aH P).lookup 668=some CT) (by kernel_rfl) (aJ fun a0=>aJ fun a1=>bK (by kernel_rfl)) (by kernel_rfl)
theorem j1 (P:Params):FnAt (aH P) 675 (ah (Hd.mb 42 2)) (ai (Hd.mb 42 2)) [Str.ofString "self",Str.ofString "reader"]:=af _ (by kernel_rfl) (by kernel_rfl:(aH P).lookup 675=some yq) (by kernel_rfl) (aJ fun a0=>aJ fun a1=>bK (by kernel_rfl)) (by kernel_rfl)
theorem oT (P:Params):FnAt (aH P) 696 (ah (Hd.mb 44 0)) (ai (Hd.mb 44 0)) [Str.ofString "self",Str.ofString "places",Str.ofString "dc_slots",Str.ofString "ac_slots",Str.ofString "start",Str.ofString "end",Str.ofString "high",Str.ofString "low"]:=af _ (by kernel_rfl) (by kernel_rfl:(aH P).lookup 696=some CX) (by kernel_rfl) (aJ fun a0=>aJ fun a1=>aJ fun a2=>aJ fun a3=>aJ fun a4=>aJ fun a5=>aJ fun a6=>aJ fun a7=>bK (by kernel_rfl)) (by kernel_rfl)
theorem k7 (P:Params):FnAt (aH P) 731 (ah (Hd.mb 46 0)) (ai (Hd.mb 46 0)) [Str.ofString "self",Str.ofString "tables"]:=af _ (by kernel_rfl) (by kernel_rfl:(aH P).lookup 731=some CY) (by kernel_rfl) (aJ fun a0=>aJ fun a1=>bK (by kernel_rfl)) (by kernel_rfl)
theorem jG (P:Params):FnAt (aH P) 738 (ah (Hd.mb 46 1)) (ai (Hd.mb 46 1)) [Str.ofString "self",Str.ofString "key",Str.ofString "s"]:=af _ (by kernel_rfl) (by kernel_rfl:(aH P).lookup 738=some yr) (by kernel_rfl) (aJ fun a0=>aJ fun a1=>aJ fun a2=>bK (by kernel_rfl)) (by kernel_rfl)
theorem k6 (P:Params):FnAt (aH P) 745 (ah (Hd.mb 46 2)) (ai (Hd.mb 46 2)) [Str.ofString "self",Str.ofString "v",Str.ofString "size"]:=af _ (by kernel_rfl) (by kernel_rfl:(aH P).lookup 745=some yt) (by kernel_rfl) (aJ fun a0=>aJ fun a1=>aJ fun a2=>bK (by kernel_rfl)) (by kernel_rfl)
theorem jF (P:Params):FnAt (aH P) 752 (ah (Hd.mb 46 3)) (ai (Hd.mb 46 3)) [Str.ofString "self"]:=af _ (by kernel_rfl) (by kernel_rfl:(aH P).lookup 752=some Dc) (by kernel_rfl) (aJ fun a0=>bK (by kernel_rfl)) (by kernel_rfl)
theorem rk (E:Ev) (n:Nat):bw (PE E) n 60 ⟨(ah (Hd.tp 12)).names,G,bD⟩ (ay E) (ai (Hd.tp 12))=some mv:=by kernel_rfl
theorem sP (E:Ev) (n:Nat):bw (PE E) n 60 ⟨(ah (Hd.tp 13)).names,G,bD⟩ (ay E) (ai (Hd.tp 13))=some nU:=by kernel_rfl
theorem rn (E:Ev) (n:Nat):bw (PE E) n 60 ⟨(ah (Hd.tp 14)).names,G,bD⟩ (ay E) (ai (Hd.tp 14))=some mx:=by kernel_rfl
theorem rm (E:Ev) (n:Nat):bw (PE E) n 60 ⟨(ah (Hd.tp 19)).names,G,bD⟩ (ay E) (ai (Hd.tp 19))=some mw:=by kernel_rfl
theorem nj (E:Ev) (n:Nat):bw (PE E) n 60 ⟨(ah (Hd.tp 20)).names,G,bD⟩ (ay E) (ai (Hd.tp 20))=some jx:=by kernel_rfl
theorem nO (E:Ev) (n:Nat):bw (PE E) n 60 ⟨(ah (Hd.tp 34)).names,G,bD⟩ (ay E) (ai (Hd.tp 34))=some oE:=by kernel_rfl
theorem iN (E:Ev) (n:Nat):bw (PE E) n 60 ⟨(ah (Hd.tp 35)).names,G,bD⟩ (ay E) (ai (Hd.tp 35))=some dc:=by kernel_rfl
theorem iM (E:Ev) (n:Nat):bw (PE E) n 60 ⟨(ah (Hd.tp 36)).names,G,bD⟩ (ay E) (ai (Hd.tp 36))=some c9:=by kernel_rfl
theorem pQ (E:Ev) (n:Nat):bw (PE E) n 60 ⟨(ah (Hd.tp 40)).names,G,bD⟩ (ay E) (ai (Hd.tp 40))=some pZ:=by kernel_rfl
theorem nP (E:Ev) (n:Nat):bw (PE E) n 60 ⟨(ah (Hd.tp 41)).names,G,bD⟩ (ay E) (ai (Hd.tp 41))=some oF:=by kernel_rfl
theorem nq (E:Ev) (n:Nat):bw (PE E) n 60 ⟨(ah (Hd.tp 48)).names,G,bD⟩ (ay E) (ai (Hd.tp 48))=some bX:=by kernel_rfl
theorem pR (E:Ev) (n:Nat):bw (PE E) n 60 ⟨(ah (Hd.tp 49)).names,G,bD⟩ (ay E) (ai (Hd.tp 49))=some p6:=by kernel_rfl
theorem nQ (E:Ev) (n:Nat):bw (PE E) n 60 ⟨(ah (Hd.tp 50)).names,G,bD⟩ (ay E) (ai (Hd.tp 50))=some jO:=by kernel_rfl
theorem nk (E:Ev) (n:Nat):bw (PE E) n 60 ⟨(ah (Hd.tp 51)).names,G,bD⟩ (ay E) (ai (Hd.tp 51))=some nD:=by kernel_rfl
theorem cI (E:Ev) (n:Nat):bw (PE E) n 60 ⟨(ah (Hd.tp 52)).names,G,bD⟩ (ay E) (ai (Hd.tp 52))=some eS:=by kernel_rfl
theorem rq (E:Ev) (n:Nat):bw (PE E) n 60 ⟨(ah (Hd.tp 53)).names,G,bD⟩ (ay E) (ai (Hd.tp 53))=some rE:=by kernel_rfl
theorem iO (E:Ev) (n:Nat):bw (PE E) n 60 ⟨(ah (Hd.tp 54)).names,G,bD⟩ (ay E) (ai (Hd.tp 54))=some iV:=by kernel_rfl
theorem JN (E:Ev) (n:Nat):bw (PE E) n 60 ⟨(ah (Hd.tp 55)).names,G,bD⟩ (ay E) (ai (Hd.tp 55))=some iU:=by kernel_rfl
theorem kH (E:Ev) (n:Nat):bw (PE E) n 60 ⟨(ah (Hd.mb 9 0)).names,G,bD⟩ (ay E) (ai (Hd.mb 9 0))=some fw:=by kernel_rfl
theorem lD (E:Ev) (n:Nat):bw (PE E) n 60 ⟨(ah (Hd.mb 9 1)).names,G,bD⟩ (ay E) (ai (Hd.mb 9 1))=some lU:=by kernel_rfl
theorem lC (E:Ev) (n:Nat):bw (PE E) n 60 ⟨(ah (Hd.mb 9 2)).names,G,bD⟩ (ay E) (ai (Hd.mb 9 2))=some lT:=by kernel_rfl
theorem jv (E:Ev) (n:Nat):bw (PE E) n 60 ⟨(ah (Hd.mb 9 3)).names,G,bD⟩ (ay E) (ai (Hd.mb 9 3))=some dM:=by kernel_rfl
theorem kE (E:Ev) (n:Nat):bw (PE E) n 60 ⟨(ah (Hd.mb 10 0)).names,G,bD⟩ (ay E) (ai (Hd.mb 10 0))=some fp:=by kernel_rfl
theorem kF (E:Ev) (n:Nat):bw (PE E) n 60 ⟨(ah (Hd.mb 10 1)).names,G,bD⟩ (ay E) (ai (Hd.mb 10 1))=some fu:=by kernel_rfl
theorem lB (E:Ev) (n:Nat):bw (PE E) n 60 ⟨(ah (Hd.mb 10 2)).names,G,bD⟩ (ay E) (ai (Hd.mb 10 2))=some lS:=by kernel_rfl
theorem kD (E:Ev) (n:Nat):bw (PE E) n 60 ⟨(ah (Hd.mb 10 3)).names,G,bD⟩ (ay E) (ai (Hd.mb 10 3))=some kT:=by kernel_rfl
theorem iH (E:Ev) (n:Nat):bw (PE E) n 60 ⟨(ah (Hd.mb 21 0)).names,G,bD⟩ (ay E) (ai (Hd.mb 21 0))=some c6:=by kernel_rfl
theorem gX (E:Ev) (n:Nat):bw (PE E) n 60 ⟨(ah (Hd.mb 21 1)).names,G,bD⟩ (ay E) (ai (Hd.mb 21 1))=some cN:=by kernel_rfl
theorem bZ (E:Ev) (n:Nat):bw (PE E) n 60 ⟨(ah (Hd.mb 21 2)).names,G,bD⟩ (ay E) (ai (Hd.mb 21 2))=some fo:=by kernel_rfl
theorem d0 (E:Ev) (n:Nat):bw (PE E) n 60 ⟨(ah (Hd.mb 21 3)).names,G,bD⟩ (ay E) (ai (Hd.mb 21 3))=some ee:=by kernel_rfl
theorem iG (E:Ev) (n:Nat):bw (PE E) n 60 ⟨(ah (Hd.mb 21 4)).names,G,bD⟩ (ay E) (ai (Hd.mb 21 4))=some iR:=by kernel_rfl
theorem fY (E:Ev) (n:Nat):bw (PE E) n 60 ⟨(ah (Hd.mb 21 5)).names,G,bD⟩ (ay E) (ai (Hd.mb 21 5))=some cv:=by kernel_rfl
theorem iF (E:Ev) (n:Nat):bw (PE E) n 60 ⟨(ah (Hd.mb 22 0)).names,G,bD⟩ (ay E) (ai (Hd.mb 22 0))=some cZ:=by kernel_rfl
theorem gW (E:Ev) (n:Nat):bw (PE E) n 60 ⟨(ah (Hd.mb 22 1)).names,G,bD⟩ (ay E) (ai (Hd.mb 22 1))=some cL:=by kernel_rfl
theorem cV (E:Ev) (n:Nat):bw (PE E) n 60 ⟨(ah (Hd.mb 22 2)).names,G,bD⟩ (ay E) (ai (Hd.mb 22 2))=some iQ:=by kernel_rfl
theorem fX (E:Ev) (n:Nat):bw (PE E) n 60 ⟨(ah (Hd.mb 22 3)).names,G,bD⟩ (ay E) (ai (Hd.mb 22 3))=some cu:=by kernel_rfl
theorem iL (E:Ev) (n:Nat):bw (PE E) n 60 ⟨(ah (Hd.mb 25 0)).names,G,bD⟩ (ay E) (ai (Hd.mb 25 0))=some c8:=by kernel_rfl
theorem hG (E:Ev) (n:Nat):bw (PE E) n 60 ⟨(ah (Hd.mb 25 1)).names,G,bD⟩ (ay E) (ai (Hd.mb 25 1))=some cR:=by kernel_rfl
theorem iK (E:Ev) (n:Nat):bw (PE E) n 60 ⟨(ah (Hd.mb 25 2)).names,G,bD⟩ (ay E) (ai (Hd.mb 25 2))=some iT:=by kernel_rfl
theorem gf (E:Ev) (n:Nat):bw (PE E) n 60 ⟨(ah (Hd.mb 25 3)).names,G,bD⟩ (ay E) (ai (Hd.mb 25 3))=some cA:=by kernel_rfl
theorem hO (E:Ev) (n:Nat):bw (PE E) n 60 ⟨(ah (Hd.mb 26 0)).names,G,bD⟩ (ay E) (ai (Hd.mb 26 0))=some cT:=by kernel_rfl
theorem gi (E:Ev) (n:Nat):bw (PE E) n 60 ⟨(ah (Hd.mb 26 1)).names,G,bD⟩ (ay E) (ai (Hd.mb 26 1))=some cD:=by kernel_rfl
theorem hM (E:Ev) (n:Nat):bw (PE E) n 60 ⟨(ah (Hd.mb 26 2)).names,G,bD⟩ (ay E) (ai (Hd.mb 26 2))=some il:=by kernel_rfl
theorem fg (E:Ev) (n:Nat):bw (PE E) n 60 ⟨(ah (Hd.mb 26 3)).names,G,bD⟩ (ay E) (ai (Hd.mb 26 3))=some cf:=by kernel_rfl
theorem iI (E:Ev) (n:Nat):bw (PE E) n 60 ⟨(ah (Hd.mb 27 0)).names,G,bD⟩ (ay E) (ai (Hd.mb 27 0))=some c7:=by kernel_rfl
theorem hE (E:Ev) (n:Nat):bw (PE E) n 60 ⟨(ah (Hd.mb 27 1)).names,G,bD⟩ (ay E) (ai (Hd.mb 27 1))=some cQ:=by kernel_rfl
theorem iJ (E:Ev) (n:Nat):bw (PE E) n 60 ⟨(ah (Hd.mb 27 2)).names,G,bD⟩ (ay E) (ai (Hd.mb 27 2))=some iS:=by kernel_rfl
theorem gc (E:Ev) (n:Nat):bw (PE E) n 60 ⟨(ah (Hd.mb 27 3)).names,G,bD⟩ (ay E) (ai (Hd.mb 27 3))=some cz:=by kernel_rfl
theorem hJ (E:Ev) (n:Nat):bw (PE E) n 60 ⟨(ah (Hd.mb 28 0)).names,G,bD⟩ (ay E) (ai (Hd.mb 28 0))=some cS:=by kernel_rfl
theorem gh (E:Ev) (n:Nat):bw (PE E) n 60 ⟨(ah (Hd.mb 28 1)).names,G,bD⟩ (ay E) (ai (Hd.mb 28 1))=some cC:=by kernel_rfl
theorem hK (E:Ev) (n:Nat):bw (PE E) n 60 ⟨(ah (Hd.mb 28 2)).names,G,bD⟩ (ay E) (ai (Hd.mb 28 2))=some ik:=by kernel_rfl
theorem ff (E:Ev) (n:Nat):bw (PE E) n 60 ⟨(ah (Hd.mb 28 3)).names,G,bD⟩ (ay E) (ai (Hd.mb 28 3))=some b9:=by kernel_rfl
theorem hB (E:Ev) (n:Nat):bw (PE E) n 60 ⟨(ah (Hd.mb 31 0)).names,G,bD⟩ (ay E) (ai (Hd.mb 31 0))=some cP:=by kernel_rfl
theorem gb (E:Ev) (n:Nat):bw (PE E) n 60 ⟨(ah (Hd.mb 31 1)).names,G,bD⟩ (ay E) (ai (Hd.mb 31 1))=some cy:=by kernel_rfl
theorem d7 (E:Ev) (n:Nat):bw (PE E) n 60 ⟨(ah (Hd.mb 31 2)).names,G,bD⟩ (ay E) (ai (Hd.mb 31 2))=some et:=by kernel_rfl
theorem bU (E:Ev) (n:Nat):bw (PE E) n 60 ⟨(ah (Hd.mb 31 3)).names,G,bD⟩ (ay E) (ai (Hd.mb 31 3))=some eR:=by kernel_rfl
theorem d6 (E:Ev) (n:Nat):bw (PE E) n 60 ⟨(ah (Hd.mb 31 4)).names,G,bD⟩ (ay E) (ai (Hd.mb 31 4))=some ei:=by kernel_rfl
theorem g9 (E:Ev) (n:Nat):bw (PE E) n 60 ⟨(ah (Hd.mb 31 5)).names,G,bD⟩ (ay E) (ai (Hd.mb 31 5))=some ij:=by kernel_rfl
theorem fe (E:Ev) (n:Nat):bw (PE E) n 60 ⟨(ah (Hd.mb 31 6)).names,G,bD⟩ (ay E) (ai (Hd.mb 31 6))=some b8:=by kernel_rfl
theorem gY (E:Ev) (n:Nat):bw (PE E) n 60 ⟨(ah (Hd.mb 32 0)).names,G,bD⟩ (ay E) (ai (Hd.mb 32 0))=some cO:=by kernel_rfl
theorem fZ (E:Ev) (n:Nat):bw (PE E) n 60 ⟨(ah (Hd.mb 32 1)).names,G,bD⟩ (ay E) (ai (Hd.mb 32 1))=some cx:=by kernel_rfl
theorem eA (E:Ev) (n:Nat):bw (PE E) n 60 ⟨(ah (Hd.mb 32 2)).names,G,bD⟩ (ay E) (ai (Hd.mb 32 2))=some bW:=by kernel_rfl
theorem eB (E:Ev) (n:Nat):bw (PE E) n 60 ⟨(ah (Hd.mb 32 3)).names,G,bD⟩ (ay E) (ai (Hd.mb 32 3))=some eQ:=by kernel_rfl
theorem dF (E:Ev) (n:Nat):bw (PE E) n 60 ⟨(ah (Hd.mb 32 4)).names,G,bD⟩ (ay E) (ai (Hd.mb 32 4))=some bN:=by kernel_rfl
theorem g8 (E:Ev) (n:Nat):bw (PE E) n 60 ⟨(ah (Hd.mb 32 5)).names,G,bD⟩ (ay E) (ai (Hd.mb 32 5))=some ig:=by kernel_rfl
theorem fc (E:Ev) (n:Nat):bw (PE E) n 60 ⟨(ah (Hd.mb 32 6)).names,G,bD⟩ (ay E) (ai (Hd.mb 32 6))=some b7:=by kernel_rfl
theorem kK (E:Ev) (n:Nat):bw (PE E) n 60 ⟨(ah (Hd.mb 42 0)).names,G,bD⟩ (ay E) (ai (Hd.mb 42 0))=some fy:=by kernel_rfl
theorem kJ (E:Ev) (n:Nat):bw (PE E) n 60 ⟨(ah (Hd.mb 42 1)).names,G,bD⟩ (ay E) (ai (Hd.mb 42 1))=some fx:=by kernel_rfl
theorem kL (E:Ev) (n:Nat):bw (PE E) n 60 ⟨(ah (Hd.mb 42 2)).names,G,bD⟩ (ay E) (ai (Hd.mb 42 2))=some kU:=by kernel_rfl
theorem pP (E:Ev) (n:Nat):bw (PE E) n 60 ⟨(ah (Hd.mb 44 0)).names,G,bD⟩ (ay E) (ai (Hd.mb 44 0))=some lJ:=by kernel_rfl
theorem lF (E:Ev) (n:Nat):bw (PE E) n 60 ⟨(ah (Hd.mb 46 0)).names,G,bD⟩ (ay E) (ai (Hd.mb 46 0))=some hX:=by kernel_rfl
theorem jK (E:Ev) (n:Nat):bw (PE E) n 60 ⟨(ah (Hd.mb 46 1)).names,G,bD⟩ (ay E) (ai (Hd.mb 46 1))=some jN:=by kernel_rfl
theorem lE (E:Ev) (n:Nat):bw (PE E) n 60 ⟨(ah (Hd.mb 46 2)).names,G,bD⟩ (ay E) (ai (Hd.mb 46 2))=some lV:=by kernel_rfl
theorem jJ (E:Ev) (n:Nat):bw (PE E) n 60 ⟨(ah (Hd.mb 46 3)).names,G,bD⟩ (ay E) (ai (Hd.mb 46 3))=some eE:=by kernel_rfl
end Mine
end
section
open PySem PySem.W PySem.Calls PyProof.Rows
set_option Elab.async false
set_option maxRecDepth 1000000
set_option autoImplicit false
set_option linter.unusedVariables false
namespace Mine
open Hd
noncomputable def qv:Program:=view pw [55]
noncomputable def lo:List Str:=pw.boundNames
theorem yy:opening pw=plainProg pw.main.scope.names:=by kernel_rfl
theorem Ar (s:Shared):fenceModules? pw s=some s:=by kernel_rfl
noncomputable def Xt (_:Shared):Bool:=true
noncomputable def Yf (s:Shared):Heap×Array GenState×Drawn:=(s.heap,s.gens,s.drawn)
noncomputable def Ya (w:World):Heap×Array GenState×Drawn:=(H1 w.params,#[],⟨0,0,0,0⟩)
theorem JH (P:Params) (w:World) (os:OsState):((boot_heap P).isNs mainGlobals&&(#[]:Array GenState).size==0)=true:=by kernel_rfl
theorem F1 (P:Params):(staticsOk (importedModules pw.main.body) (boot_heap P) (H1 P)&&namesBound pw (H1 P)&&true&&laidKept (boot_heap P) (H1 P))=true:=by kernel_rfl
theorem qO:openSeen=PySem.W.Fast.tw4187177175401517315:=PySem.W.Fast.te4187177175401517315
theorem DT (w:World) (os:OsState):openSeen qv lo (importedModules pw.main.body) Xt true (Sz w os)=openGood qv lo:=by rewrite [qO];kernel_rfl
theorem O6 (w:World) (os:OsState):Yf (Sz w os)=Ya w:=rfl
theorem KU (P:Params):(boot_heap P).objs.size=m0:=by kernel_rfl
theorem Fw (P:Params):(boot_heap P).nsMap mainGlobals "__annotations__" = rC:=by kernel_rfl
theorem zC (w:World) (os:OsState):topFrom treeTable pw w cM ⟨boot_heap w.params,#[],boot_drawn,boot_toks,os⟩=some (Sz w os):=by
 unfold topFrom
 skip
 rw [JH w.params w os,KU,Fw]
 skip
 rw [Kv w os]
 refine (?_:(match (staticsOk (importedModules pw.main.body) (boot_heap w.params) (H1 w.params)&&namesBound pw (H1 w.params)&&true&&laidKept (boot_heap w.params) (H1 w.params)) with | true=>some (Sz w os) | false=>none)=_)
 rw [F1]
theorem left:LeftO pw qv lo Xt Yf Ya cM:=fun w=>by
 refine aA (Option.map_eq_some_iff.mp (boot_open (N:=cM) yy rfl Ar w)) fun s₀ h1 h2=>?_
 obtain⟨hp,g,d,k,os⟩:=s₀
 refine bx (Prod.mk.inj h2) fun e1 h2=>?_
 refine bx (Prod.mk.inj h2) fun e2 h2=>?_
 refine bx (Prod.mk.inj h2) fun e3 e4=>?_
 dsimp only at e1 e2 e3 e4
 subst e1 e2 e3 e4
 delta openEnds
 rw [h1,Option.bind_some,zC,Option.map_some,DT w os,O6]
noncomputable def Qc (st:Stmt):Arguments:=Hd.fdOf st default fun _ a _ _ _=>a
noncomputable def Sl (st:Stmt):Scope:=Hd.fdOf st default fun _ _ _ sc _=>sc
noncomputable def RY (st:Stmt):List Stmt:=Hd.fdOf st [] fun _ _ b _ _=>b
noncomputable def Sj (st:Stmt):Pos:=Hd.fdOf st default fun _ _ _ _ p=>p
noncomputable def uy:DefRec:={ name:=Str.ofString "law",params:=Qc (tp 55),body:=RY (tp 55),scope:=Sl (tp 55),pos:=Sj (tp 55) }
theorem Al:defOf qv (Str.ofString "law")=some (uy,[]):=by kernel_rfl
theorem Ew:pw.theDef (Str.ofString "law")=some (uy.params,uy.body,uy.scope):=by kernel_rfl
theorem Gp:kwWritten? uy.params.kwonlyargs uy.params.kw_defaults=some []:=by kernel_rfl
theorem Ke:(chainsOk qv&&opensWell pw&&(frees PySem.Challenge.rw_nt0574_01.row.toRowW&&PySem.Challenge.rw_nt0574_01.row.within.isEmpty))=true:=by kernel_rfl
theorem Gs (P:Params):(H1 P).nsMap mainGlobals (Str.ofString "law")=some (.ref 809):=by kernel_rfl
set_option maxHeartbeats 8000000 in
theorem law_said:PySem.Challenge.rw_nt0574_01.wellSaid=true:=by
 iterate 18 refine look_both ?_ (by decide +kernel)
 unfold OpenRow.wellSaid
 iterate 2 refine look_both ?_ (by decide +kernel)
 unfold OpenRow.partSaid
 iterate 13 refine look_both ?_ (by decide +kernel)
 unfold looksOpen
 iterate 5 refine look_both ?_ (by decide +kernel)
 decide +kernel
end Mine
end
section
open PySem PySem.W PySem.Calls PyProof.Rows
set_option Elab.async false
set_option maxRecDepth 100000
set_option autoImplicit false
set_option linter.unusedVariables false
namespace Mine
noncomputable def ae:Nat->Nat->List Bool
 | 0,_=>[]
 | n+1,v=>v.testBit n::ae n v
noncomputable def aU (b:List UInt8):List Bool:=b.flatMap fun c=>ae 8 c.toNat
theorem iX {n v:Nat}:ae (n+1) v=v.testBit n::ae n v:=rfl
theorem ax:∀ n v,(ae n v).length=n
 | 0,_=>rfl
 | n+1,v=>by simp [iX,ax n v]
theorem rH {m n a v:Nat} (h:v<2^n) (hm:m≤n):ae m (2^n*a+v)=ae m v:=by
 induction m with
 | zero=>rfl
 | succ m ih =>
  simp only [iX,ih (Nat.le_of_succ_le hm),Nat.testBit_two_pow_mul_add a h,if_pos (Nat.lt_of_succ_le hm)]
theorem jC {n a v:Nat} (h:v<2^n):∀ m:Nat,ae (m+n) (2^n*a+v)=ae m a++ae n v
 | 0=>by rw [Nat.zero_add,rH h (Nat.le_refl _)];rfl
 | m+1=>by
  rw [Nat.succ_add m n,iX,jC h m,Nat.testBit_two_pow_mul_add a h,if_neg (Nat.not_lt.mpr (Nat.le_add_left n m)),Nat.add_sub_cancel]
  rfl
theorem oJ (m n r:Nat):ae (m+n) r=ae m (r/2^n)++ae n (r%2^n):=by
 have:=jC (n:=n) (a:=r/2^n) (v:=r%2^n) (Nat.mod_lt _ (Nat.two_pow_pos n)) m
 rwa [Nat.div_add_mod] at this
theorem mA (b:List UInt8) {c:Nat} (h:c<256):aU (b++[UInt8.ofNat c])=aU b++ae 8 c:=by
 unfold aU
 skip
 simp [UInt8.toNat_ofNat',Nat.mod_eq_of_lt h]
theorem cX (b:List UInt8):(aU b).length=8*b.length:=by
 unfold aU
 induction b with
 | nil=>rfl
 | cons c r ih=>simp only [List.flatMap_cons,List.length_append,ih,ax,List.length_cons,Nat.mul_succ];exact Nat.add_comm _ _
theorem Ad {r n v:Nat} (h:v<2^n):Builtin.bitOr ((r:Int)*2^n) (v:Int)=((2^n*r+v:Nat):Int):=by
 simp only [bitOr_and,bitAnd_pp (Int.mul_nonneg (Int.natCast_nonneg r) (Int.le_of_lt (kbt_pos n))) (Int.natCast_nonneg v)]
 have e1:((r:Int)*2^n)=((2^n*r:Nat):Int):=by push_cast;simp only [Int.mul_comm]
 simp only [e1,Int.toNat_natCast,Int.toNat_natCast]
 have e2:2^n*r &&& v=0:=by
  apply Nat.eq_of_testBit_eq
  intro i
  simp only [Nat.testBit_and,Nat.zero_testBit,Nat.testBit_two_pow_mul]
  by_cases hi:i<n
  ·simp [Nat.not_le.mpr hi]
  ·simp only [Nat.testBit_lt_two_pow (Nat.lt_of_lt_of_le h (Nat.pow_le_pow_right (by decide) (Nat.le_of_not_lt hi)))];simp
 simp only [e2]
 push_cast
 omega
theorem kq (r n:Nat):(r:Int).fdiv (2^n)=((r/2^n:Nat):Int):=by
 rw [← kbt_cast,Int.fdiv_eq_ediv_of_nonneg _ (Int.natCast_nonneg _)];rfl
theorem sZ (r n:Nat):Builtin.bitAnd (r:Int) (1*2^n-1)=((r%2^n:Nat):Int):=by
 rw [Int.one_mul,kbt_mask,← kbt_cast];rfl
noncomputable def b5 (m:Nat) (b:List UInt8) (ri si:Int) (L:List Bool):Prop:=∃ r s:Nat,ri=r∧si=s∧r<2^s∧s<m∧aU b++ae s r=L
theorem b5.len {m:Nat} {b:List UInt8} {ri si:Int} {L:List Bool} (h:b5 m b ri si L):8*b.length+si.toNat=L.length:=by
 refine uz h fun r s zp2 zp3 h1 h2 zp6=>?_;subst zp2;subst zp3;subst zp6
 simp only [List.length_append,cX,ax,Int.toNat_natCast]
theorem lb {n:Nat} (hn:n≤1000000):decide ((n:Int)<0)=false∧decide (0≤(n:Int))=true∧0≤(n:Int)∧(n:Int)≤1000000:=⟨decide_eq_false (Int.not_lt.mpr (Int.natCast_nonneg n)),decide_eq_true (Int.natCast_nonneg n),Int.natCast_nonneg n,Int.ofNat_le.mpr hn⟩
theorem QF (v:Nat):decide (0≤(v:Int))=true:=decide_eq_true (Int.natCast_nonneg v)
theorem pD (n:Nat):((n:Int)-0).toNat=n:=by skip;rfl
theorem QI {b:Bool} (h:b=false):(!b)=true:=by rw [h];rfl
theorem QH {b:Bool} (h:b=true):(!b)=false:=by rw [h];rfl
theorem DU {v n:Nat} (hv:v<2^n):decide ((v:Int)<1*2^(n:Int).toNat)=true:=decide_eq_true (by rw [Int.one_mul,Int.toNat_natCast,← kbt_cast];exact Int.ofNat_lt.mpr hv)
theorem ou:small 1:=⟨by decide,by decide⟩
theorem RJ {k:Int} (h:(decide (-(2^64)<k)&&decide (k<2^64))=true):small k:=⟨of_decide_eq_true (Bool.and_eq_true_iff.mp h).1,of_decide_eq_true (Bool.and_eq_true_iff.mp h).2⟩
theorem pU:small 2:=⟨by decide,by decide⟩
theorem Sr:small 8:=⟨by decide,by decide⟩
theorem QW:small 16:=⟨by decide,by decide⟩
theorem b5.small {b:List UInt8} {ri si:Int} {L:List Bool} (h:b5 60 b ri si L):small ri:=by
 obtain⟨r,s,rfl,rfl,h1,h2,_⟩:=h
 have:2^s≤2^60:=Nat.pow_le_pow_right (by decide) (Nat.le_of_lt h2)
 exact⟨Int.lt_of_lt_of_le (by decide) (Int.natCast_nonneg r),Int.lt_trans (Int.ofNat_lt.mpr (Nat.lt_of_lt_of_le h1 this)) (by decide)⟩
theorem b5.up {m m':Nat} {b:List UInt8} {ri si:Int} {L:List Bool} (h:b5 m b ri si L) (e:m≤m'):b5 m' b ri si L:=by
 refine uz h fun r s e1 e2 h1 h2 h3=>?_
 exact⟨r,s,e1,e2,h1,Nat.lt_of_lt_of_le h2 e,h3⟩
theorem b5.put {b:List UInt8} {ri si:Int} {L:List Bool} {n v:Nat} (h:b5 8 b ri si L) (hv:v<2^n) (hn:n≤50):b5 60 b (Builtin.bitOr (ri*2^(n:Int).toNat) v) (si+n) (L++ae n v):=by
 refine uz h fun r s zp2 zp3 hr hs hL=>?_;subst zp2;subst zp3
 refine⟨2^n*r+v,s+n,?_,by push_cast;rfl,?_,Nat.lt_of_lt_of_le (Nat.add_lt_add_of_lt_of_le hs hn) (by decide),?_⟩
 ·rw [Int.toNat_natCast,← Ad hv]
 ·rw [Nat.pow_add,Nat.mul_comm (2^s)]
  calc 2^n*r+v<2^n*r+2^n:=Nat.add_lt_add_left hv _
   _=2^n*(r+1):=by rw [Nat.mul_add,Nat.mul_one]
   _≤2^n*2^s:=Nat.mul_le_mul_left _ hr
 ·rw [jC hv s,← List.append_assoc,hL]
theorem b5.more {m:Nat} {b:List UInt8} {ri si:Int} {L:List Bool} (h:b5 m b ri si L) (c:decide (8≤si)=true) (hz:L.length≤1000000):0≤si-8∧si-8≤1000000∧b.length≤1000000∧0≤ri.fdiv (2^(si-8).toNat)∧ri.fdiv (2^(si-8).toNat)<256 ∧
  (si-8).toNat<si.toNat∧b5 m (b++[UInt8.ofNat (ri.fdiv (2^(si-8).toNat)).toNat]) (Builtin.bitAnd ri (1*2^(si-8).toNat-1)) (si-8) L:=by
 skip
 refine uz h fun r s zp2 zp3 hr hs hL=>?_;subst zp2;subst zp3
 simp only [decide_eq_true_eq] at c
 have s8:8≤s:=Int.ofNat_le.mp c
 have hs8:((s:Int)-8).toNat=s-8:=Int.toNat_sub s 8
 have hp:s=8+(s-8):=(Nat.add_sub_cancel' s8).symm
 skip
 skip
 have hlt:r/2^(s-8)<256:=by
  rw [Nat.div_lt_iff_lt_mul (Nat.two_pow_pos _)]
  calc r<2^s:=hr
   _=256*2^(s-8):=by conv=>lhs;rw [hp,Nat.pow_add]
 rw [hs8,kq,sZ]
 exact⟨Int.sub_nonneg_of_le c,Int.le_trans (Int.sub_le_self _ (by decide)) (Int.ofNat_le.mpr (Nat.le_trans (Nat.le_add_left s _) (h.len.symm▸hz))),Nat.le_trans (Nat.le_trans (Nat.le_mul_of_pos_left _ (by decide)) (Nat.le_add_right _ s)) (h.len.symm▸hz),Int.natCast_nonneg _,Int.ofNat_lt.mpr hlt,Nat.sub_lt (Nat.lt_of_lt_of_le (by decide) s8) (by decide),r%2^(s-8),s-8,rfl,(Int.ofNat_sub s8).symm,Nat.mod_lt _ (Nat.two_pow_pos _),Nat.lt_of_le_of_lt (Nat.sub_le _ _) hs,by
  rw [Int.toNat_natCast,mA _ hlt,List.append_assoc,← oJ,← hp];exact hL⟩
theorem b5.less {m:Nat} {b:List UInt8} {ri si:Int} {L:List Bool} (h:b5 m b ri si L) (c:decide (8≤si)=false):b5 8 b ri si L:=by
 refine uz h fun r s zp2 zp3 hr hs hL=>?_;subst zp2;subst zp3
 rw [decide_eq_false_iff_not] at c
 exact⟨r,s,rfl,rfl,hr,Int.ofNat_lt.mp (Int.not_le.mp c),hL⟩
theorem PF {st j z en:Nat} (h:j+z<en+1-st):st+j+z≤en:=by omega
theorem K2 {b:Nat} (h:0<b):decide ((b:Int)=0)=false:=decide_eq_false fun e=>Nat.ne_of_gt h (Int.ofNat_inj.mp e)
theorem yB {b:Nat} (h:0<b):decide ((0:Int)<b)=true:=decide_eq_true (Int.ofNat_lt.mpr h)
theorem oI {b k:Nat} (h:b≤k) (hk:k≤1000000):(b:Int)≤1000000:=Int.ofNat_le.mpr (Nat.le_trans h hk)
theorem E9 {b k:Nat} (h:0<b) (hb:b≤k) (hk:k≤1000000):(0:Int)≤(b:Int)-1∧(b:Int)-1≤1000000:=⟨Int.sub_nonneg_of_le (Int.ofNat_le.mpr h),Int.le_trans (Int.sub_le_self _ (by decide)) (oI hb hk)⟩
theorem E6 (m:Nat):¬ 1+m=0:=by omega
theorem KS {st j z en n:Nat} (h:j+z<en+1-st) (he:en<n) (hn:n≤25):((st+j:Nat):Int)+z<1000000:=Int.ofNat_lt.mpr (Nat.lt_of_le_of_lt (PF h) (Nat.lt_of_lt_of_le he (Nat.le_trans hn (by decide))))
theorem m8 {st en k:Nat} (h:k<en+1-st):st+k≤en:=by omega
theorem Qh {st en n j:Nat} (h1:1≤st) (h:en<n) (hl:n≤25):en+1-st-j≤24:=by omega
theorem Sp {runs m j z:Nat} (h:runs=16∨m≤runs∧m≤16) (h1:z≤15) (h2:j+z<m):z<runs:=h.elim (fun e=>e▸Nat.lt_succ_of_le h1) fun e=>Nat.lt_of_lt_of_le (Nat.lt_of_le_of_lt (Nat.le_add_left z j) h2) e.1
theorem Sq {runs m j:Nat} (h:runs=16∨m≤runs∧m≤16) (h2:j+16<m):runs=16:=h.resolve_right fun e=>absurd (Nat.lt_of_lt_of_le h2 e.2) (Nat.not_lt.mpr (Nat.le_add_left 16 j))
theorem NK {st en k:Nat} (h:k<en+1-st):st≤en:=Nat.le_trans (Nat.le_add_right st k) (m8 h)
theorem Gm {st en k n:Nat} (hk:k<en+1-st) (h:en<n) (hl:n≤25):k<32:=Nat.lt_of_lt_of_le hk (Nat.le_trans (Nat.sub_le _ _) (Nat.le_trans h (Nat.le_trans hl (by decide))))
theorem ix {st en k:Nat} (hk:k<en+1-st) (aZ:en<25):st+k≤en∧(0:Int)≤(st:Int)+(k:Int)*1∧(st:Int)+(k:Int)*1<1000000:=by
 rw [Int.mul_one];exact⟨m8 hk,Int.natCast_nonneg (st+k),Int.ofNat_lt.mpr (Nat.lt_of_le_of_lt (m8 hk) (Nat.lt_of_lt_of_le aZ (by decide)))⟩
theorem eK {n:Nat} (h:n<1000):near (n:Int)∧near ((n:Int)+1):=⟨di (Nat.le_trans (Nat.le_of_lt h) (by decide)),di (n:=n+1) (Nat.le_trans h (by decide))⟩
theorem EU {v:Int} (h1 : -25<v) (h2:v<25):∃ r:_root_.Fin 49,((r.1:Nat):Int)-24=v:=⟨⟨(v+24).toNat,by omega⟩,by simp only;omega⟩
theorem Ks {v:Int} (h1 : -13<v) (h2:v<13):∃ r:_root_.Fin 25,((r.1:Nat):Int)-12=v:=⟨⟨(v+12).toNat,by omega⟩,by simp only;omega⟩
theorem K0 {v:Int} (h : -25<v∧v<25):((v.natAbs:Nat):Int)<25:=by omega
theorem KO {a b c:List Bool} {n:Nat} (h:(a++b++c).length≤n):a.length≤n:=by
 rw [List.append_assoc,List.length_append] at h;exact Nat.le_trans (Nat.le_add_right _ _) h
theorem tG {a b c:List Bool} {n:Nat} (h:a++b=c) (hc:c.length≤n):a.length≤n:=by
 rw [← h,List.length_append] at hc;exact Nat.le_trans (Nat.le_add_right _ _) hc
noncomputable def b2i (c:Bool):Int:=if c then 1 else 0
theorem mz:∀ (n v i:Nat),i<n->(ae n v)[i]?=some (v.testBit (n-1-i))
 | 0,_,_,h=>by exact (Nat.not_lt_zero _ h).elim
 | n+1,v,0,_=>by rfl
 | n+1,v,i+1,h=>by
  rw [iX,List.getElem?_cons_succ,mz n v i (Nat.lt_of_succ_lt_succ h),show n+1-1-(i+1)=n-1-i from by rw [Nat.add_sub_cancel,Nat.sub_sub,Nat.add_comm 1 i]]
theorem jy:∀ (o:List UInt8) (a:Nat),a<8*o.length->∃ c,o[a/8]?=some c∧(aU o)[a]?=some (c.toNat.testBit (7-a%8))
 | [],a,h=>by cases h
 | c::r,a,h=>by
  have e:aU (c::r)=ae 8 c.toNat++aU r:=rfl
  by_cases h8:a<8
  ·refine⟨c,by rw [Nat.div_eq_of_lt h8];rfl,?_⟩
   rw [e,List.getElem?_append_left (by skip;exact h8),mz 8 _ _ h8,Nat.mod_eq_of_lt h8]
  ·refine jg (Nat.exists_eq_add_of_le (Nat.le_of_not_lt h8)) fun k zp1=>?_;subst zp1
   rw [List.length_cons,Nat.mul_succ,Nat.add_comm] at h
   refine aA (jy r k (Nat.lt_of_add_lt_add_right h)) fun d h1 h2=>?_
   refine⟨d,?_,?_⟩
   ·rw [Nat.add_div_left k (by decide),List.getElem?_cons_succ];exact h1
   ·rw [e,List.getElem?_append_right (by skip;exact Nat.le_add_right 8 k),ax,Nat.add_sub_cancel_left,h2,Nat.add_mod_left]
noncomputable def aX (o:List UInt8) (a:Int) (l:List Bool):Prop:=o.length≤100000∧∃ n:Nat,a=n∧(aU o).drop n=l
theorem aX.bit {o:List UInt8} {a:Int} {c:Bool} {l:List Bool} (h:aX o a (c::l)):o.length≤1000000∧decide (8*(o.length:Int)≤a)=false∧0≤a.fdiv (2^(3:Int).toNat)∧0≤7-Builtin.bitAnd a 7∧aX o (a+1) l ∧
  ∃ d:UInt8,o[(a.fdiv (2^(3:Int).toNat)).toNat]?=some d∧Builtin.bitAnd ((d.toNat:Int).fdiv (2^(7-Builtin.bitAnd a 7).toNat)) 1=b2i c:=by
 refine bx h fun h1 zp1=>?_;obtain⟨n,zq⟩:=zp1;have zp2:=zq.1;have h2:=zq.2;subst zp2
 have hlt:n<8*o.length:=by
  apply Nat.lt_of_not_le
  intro q
  rw [List.drop_eq_nil_of_le (by rw [cX];exact q)] at h2
  contradiction
 refine aA (jy o n hlt) fun d g1 g2=>?_
 have hc:c=d.toNat.testBit (7-n%8):=by
  have:((aU o).drop n)[0]?=some c:=by rw [h2];rfl
  simp only [List.getElem?_drop,Nat.add_zero,g2] at this
  exact (Option.some.inj this).symm
 have e3:(n:Int).fdiv (2^(3:Int).toNat)=((n/8:Nat):Int):=kq n 3
 have e7:Builtin.bitAnd (n:Int) 7=((n%8:Nat):Int):=by rw [bitAnd_m3];rfl
 have e8:(7-((n%8:Nat):Int)).toNat=7-n%8:=Int.toNat_sub 7 (n%8)
 simp only [e3,e7,e8,Int.toNat_natCast]
 refine⟨Nat.le_trans h1 (by decide),decide_eq_false (Int.not_le.mpr (Int.ofNat_lt.mpr hlt)),Int.natCast_nonneg _,Int.sub_nonneg_of_le (Int.ofNat_le.mpr (Nat.le_of_lt_succ (Nat.mod_lt n (by decide)))),⟨h1,n+1,by push_cast;rfl,?_⟩,d,g1,?_⟩
 ·rw [← List.drop_drop,h2];rfl
 ·simp only [kq,bitAnd_m1,hc,Nat.testBit_eq_decide_div_mod_eq]
  refine Or.elim (Nat.mod_two_eq_zero_or_one (d.toNat/2^(7-n%8))) (fun q=>?_) (fun q=>?_)
  ·rw [q];exact congrArg (Nat.cast:Nat->Int) q
  ·rw [q];exact congrArg (Nat.cast:Nat->Int) q
theorem aX.left {o:List UInt8} {a:Int} {l:List Bool} (h:aX o a l) (hl:l≠[]):8*(o.length:Int)-a=l.length:=by
 obtain⟨h1,n,rfl,rfl⟩:=h
 rw [List.length_drop,cX]
 have:n<8*o.length:=by
  apply Nat.lt_of_not_le
  intro q
  exact hl (List.drop_eq_nil_of_le (by rw [cX];exact q))
 exact (Int.ofNat_sub (Nat.le_of_lt this)).symm
theorem aX.fits {o:List UInt8} {a:Int} {m l:List Bool} (h:aX o a (m++l)) (hm:m≠[]):o.length≤1000000∧decide (8*(o.length:Int)-a<m.length)=false:=by
 have:=h.left (by intro e;exact hm (List.append_eq_nil_iff.mp e).1)
 rw [List.length_append] at this
 exact⟨Nat.le_trans h.1 (by decide),decide_eq_false (by rw [this];exact Int.not_lt.mpr (Int.ofNat_le.mpr (Nat.le_add_right _ _)))⟩
theorem aX.at {o:List UInt8} {a:Int} {m l:List Bool} (h:aX o a (m++l)) {k:Nat} (hk:k≤m.length):aX o (a+k) (m.drop k++l):=by
 refine bx h fun h1 zp1=>?_;refine aA zp1 fun n zp1 h2=>?_;subst zp1
 exact⟨h1,n+k,by push_cast;rfl,by rw [← List.drop_drop,h2,List.drop_append_of_le_length hk]⟩
theorem aX.one {o:List UInt8} {a:Int} {m l:List Bool} (h:aX o a (m++l)) {k:Nat} (hk:k<m.length):aX o (a+k) (m[k]::(m.drop (k+1)++l)):=by
 have:=h.at (Nat.le_of_lt hk)
 rwa [List.drop_eq_getElem_cons hk] at this
noncomputable def lH (l:List Bool):Nat:=l.foldl (fun a c=>a*2+c.toNat) 0
theorem vn (l:List Bool) (c:Bool):(lH (l++[c]):Int)=(lH l:Int)*2+b2i c:=by
 unfold lH
 refine List.foldl_append▸?_
 cases c<;>rfl
theorem jo {l:List Bool} {k:Nat} (h:k<l.length):(lH (l.take k):Int)*2+b2i l[k]=lH (l.take (k+1)):=by
 simp only [List.take_succ_eq_append_getElem h,vn]
theorem lQ:∀ (n v:Nat),lH (ae n v)=v%2^n:=by
 have key:∀ (n v a:Nat),(ae n v).foldl (fun a c=>a*2+c.toNat) a=a*2^n+v%2^n:=by
  intro n v
  induction n with
  | zero=>intro a;simp [show ae 0 v=[] from rfl,Nat.mod_one]
  | succ n ih =>
   intro a
   simp only [iX,List.foldl_cons,ih]
   have e:(v.testBit n).toNat=v/2^n%2:=by
    rw [Nat.testBit_eq_decide_div_mod_eq]
    refine Or.elim (Nat.mod_two_eq_zero_or_one (v/2^n)) (fun q=>?_) (fun q=>?_)<;>simp [q]
   simp only [e,Nat.pow_succ,Nat.mod_mul,Nat.add_mul,Nat.mul_assoc a 2,Nat.mul_comm 2,Nat.mul_comm (2^n) (v/2^n%2)]
   omega
 intro n v
 have:=key n v 0
 unfold lH
 omega
end Mine
end
section
open PySem PySem.W PySem.Calls PyProof.Rows
set_option Elab.async false
set_option maxRecDepth 100000
set_option autoImplicit false
set_option linter.unusedVariables false
namespace Mine
open Hd
noncomputable def PG:List (Addr×(Nat×Nat×MB)):=[(192,1,2,mv),(199,2,2,nU),(206,2,2,mx),(213,1,2,mw),(220,2,3,jx),(626,3,8,dc),(633,3,8,c9),(766,1,8,bX),(115,1,2,fw),(136,1,2,dM),(157,2,2,fp),(164,1,2,fu),(234,3,3,c6),(241,1,1,cN),(269,1,1,cv),(290,3,3,cZ),(297,2,3,cL),(311,1,2,cu),(332,3,3,c8),(339,1,2,cR),(353,1,1,cA),(374,3,3,cT),(381,1,1,cD),(395,1,1,cf),(416,3,3,c7),(423,2,4,cQ),(437,1,1,cz),(458,2,2,cS),(465,2,3,cC),(479,1,1,b9),(500,3,3,cP),(507,1,1,cy),(542,1,1,b8),(563,3,3,cO),(570,2,3,cx),(577,3,5,bW),(591,2,4,bN),(605,1,2,b7),(661,3,13,fy),(668,2,5,fx),(696,8,8,lJ),(731,2,3,hX),(752,1,3,eE)]
noncomputable def TB:FT:=fun f=>PG.lookup f
noncomputable def Ent (E:Ev) (p:Addr×(Nat×Nat×MB)):Prop:=∃ sc body pn G nm kk,∃ ok:dr (PE E) G nm,FnAt (PE E).K p.1 sc body pn∧(∀ n,bw (PE E) n kk ⟨sc.names,G,nm⟩ ok body=some p.2.2.2)∧pn.length=p.2.1∧sc.names.length=p.2.2.1
theorem au {E:Ev} {p:Addr×(Nat×Nat×MB)} {l:List (Addr×(Nat×Nat×MB))} (h:Ent E p) (k:∀ q∈l,Ent E q):∀ q∈p::l,Ent E q:=List.forall_mem_cons.mpr ⟨h,k⟩
theorem aD {E:Ev} {f:Addr} {np nl kk:Nat} {b:MB} {sc:Scope} {body:List Stmt} {pn:List Str} {G:List (Str×GF)} {nm:List Str} {ok:dr (PE E) G nm} (fa:FnAt (PE E).K f sc body pn) (tr:∀ n,bw (PE E) n kk ⟨sc.names,G,nm⟩ ok body=some b) (h1:pn.length=np) (h2:sc.names.length=nl):Ent E (f,np,nl,b):=⟨_,_,_,_,_,_,_,fa,tr,h1,h2⟩
theorem Qb (E:Ev):∀ p∈PG,Ent E p:=by
 unfold PG
 refine au (aD (qo _) (rk E) rfl (by kernel_rfl)) ?_
 refine au (aD (rO _) (sP E) rfl (by kernel_rfl)) ?_
 refine au (aD (qq _) (rn E) rfl (by kernel_rfl)) ?_
 refine au (aD (qp _) (rm E) rfl (by kernel_rfl)) ?_
 refine au (aD (mH _) (nj E) rfl (by kernel_rfl)) ?_
 refine au (aD (iC _) (iN E) rfl (by kernel_rfl)) ?_
 refine au (aD (iB _) (iM E) rfl (by kernel_rfl)) ?_
 refine au (aD (mJ _) (nq E) rfl (by kernel_rfl)) ?_
 refine au (aD (jY _) (kH E) rfl (by kernel_rfl)) ?_
 refine au (aD (jt _) (jv E) rfl (by kernel_rfl)) ?_
 refine au (aD (jW _) (kE E) rfl (by kernel_rfl)) ?_
 refine au (aD (jX _) (kF E) rfl (by kernel_rfl)) ?_
 refine au (aD (iu _) (iH E) rfl (by kernel_rfl)) ?_
 refine au (aD (gD _) (gX E) rfl (by kernel_rfl)) ?_
 refine au (aD (fE _) (fY E) rfl (by kernel_rfl)) ?_
 refine au (aD (iq _) (iF E) rfl (by kernel_rfl)) ?_
 refine au (aD (gz _) (gW E) rfl (by kernel_rfl)) ?_
 refine au (aD (fD _) (fX E) rfl (by kernel_rfl)) ?_
 refine au (aD (iA _) (iL E) rfl (by kernel_rfl)) ?_
 refine au (aD (gJ _) (hG E) rfl (by kernel_rfl)) ?_
 refine au (aD (fJ _) (gf E) rfl (by kernel_rfl)) ?_
 refine au (aD (gO _) (hO E) rfl (by kernel_rfl)) ?_
 refine au (aD (fL _) (gi E) rfl (by kernel_rfl)) ?_
 refine au (aD (eY _) (fg E) rfl (by kernel_rfl)) ?_
 refine au (aD (iw _) (iI E) rfl (by kernel_rfl)) ?_
 refine au (aD (gI _) (hE E) rfl (by kernel_rfl)) ?_
 refine au (aD (fH _) (gc E) rfl (by kernel_rfl)) ?_
 refine au (aD (gK _) (hJ E) rfl (by kernel_rfl)) ?_
 refine au (aD (fK _) (gh E) rfl (by kernel_rfl)) ?_
 refine au (aD (eX _) (ff E) rfl (by kernel_rfl)) ?_
 refine au (aD (gH _) (hB E) rfl (by kernel_rfl)) ?_
 refine au (aD (fG _) (gb E) rfl (by kernel_rfl)) ?_
 refine au (aD (eW _) (fe E) rfl (by kernel_rfl)) ?_
 refine au (aD (gE _) (gY E) rfl (by kernel_rfl)) ?_
 refine au (aD (fF _) (fZ E) rfl (by kernel_rfl)) ?_
 refine au (aD (eu _) (eA E) rfl (by kernel_rfl)) ?_
 refine au (aD (dz _) (dF E) rfl (by kernel_rfl)) ?_
 refine au (aD (eV _) (fc E) rfl (by kernel_rfl)) ?_
 refine au (aD (j0 _) (kK E) rfl (by kernel_rfl)) ?_
 refine au (aD (jZ _) (kJ E) rfl (by kernel_rfl)) ?_
 refine au (aD (oT _) (pP E) rfl (by kernel_rfl)) ?_
 refine au (aD (k7 _) (lF E) rfl (by kernel_rfl)) ?_
 refine au (aD (jF _) (jJ E) rfl (by kernel_rfl)) ?_
 exact List.forall_mem_nil _
theorem bH (E:Ev):vz (PE E) TB:=fun f np nl b h=>by
 obtain⟨l1,l2,e,_⟩:=List.lookup_eq_some_iff.mp (show PG.lookup f=_ from h)
 exact Qb E (f,(np,nl,b)) (by rw [e];simp)
theorem Gr {α:Type} {p:α->Prop} {a:α} (h1:p a):∀ x∈[a],p x:=List.forall_mem_cons.mpr ⟨h1,List.forall_mem_nil _⟩
theorem w8 {α:Type} {p:α->Prop} {a:α} {l:List α} (h1:p a) (h2:∀ x∈l,p x):∀ x∈a::l,p x:=List.forall_mem_cons.mpr ⟨h1,h2⟩
noncomputable def BW (r s:Int):NO := .inst 139 [(0,.id 1),(1,.int r),(2,.int s)]
noncomputable def SK (tb:Addr) (r s:Int) (b:List UInt8):List NO:=[.inst 755 [(12,.at tb),(25,.id 1)],.inst 139 [(0,.id 2),(1,.int r),(2,.int s)],.aB b]
theorem Rp (tb:Addr) (r s:Int) (b:List UInt8):∀ o∈SK tb r s b,o.okN 3∧o ≠ .dead:=w8 ⟨w8 trivial (Gr (show 1<3 by decide)),nofun⟩ (w8 ⟨w8 (show 2<3 by decide) (w8 trivial (Gr trivial)),nofun⟩ (Gr ⟨trivial,nofun⟩))
noncomputable def sym (i:Nat):Int:=16*(i/6:Nat)+(i%6:Nat)
noncomputable def bz (runs:Nat):List Int:=(List.range (6*runs)).map sym
structure P0 where
 ct:Addr
 sy:Addr
 rl:Addr
 cd:Addr
 rws:List Addr
 aF:List (Int×AV)
 r:Addr
structure TabOk (d:P0) (fz:Hp) (t:Addr) (runs sz:Nat):Prop where
 h1:fz t=some (.inst 678 [(21,.ref d.ct),(22,.ref d.sy),(23,.ref d.rl),(24,.ref d.cd)])
 h2:fz d.sy=some (.tup ((bz runs).map .int))
 h3:fz d.rl=some (.list (d.rws.map .ref))
 h4:(d.rws.map AV.ref).length=16
 h5:∀ k,k+1<sz->∃ a,fv ((d.rws.map AV.ref).getD k .none) = .at a∧fz a=some (.tup [.int 0,.int 0,.int 0])
 h6:∀ k,k+1=sz->fv ((d.rws.map AV.ref).getD k .none) = .at d.r
 h7:fz d.r=some (.tup [.int 0,.int (6*runs:Nat),.int 0])
 h8:fz d.cd=some (.az d.aF)
 h9:∀ i,i<6*runs->∃ tp,KP (sym i) (d.aF.map fun p=>(p.1,fv p.2)) = .at tp∧fz tp=some (.tup [.int i,.int sz])
noncomputable def TabAt (fz:Hp) (t:Addr) (runs sz:Nat):Prop:=∃ d,TabOk d fz t runs sz
theorem TabAt.keeps {fz fz':Hp} {t:Addr} {runs sz:Nat} (h:TabAt fz t runs sz) (le:ak fz fz'):TabAt fz' t runs sz :=
 let⟨d,h⟩:=h;⟨d,le _ _ h.h1,le _ _ h.h2,le _ _ h.h3,h.h4,fun k hk=>let⟨a,e1,e2⟩:=h.h5 k hk;⟨a,e1,le _ _ e2⟩,h.h6,le _ _ h.h7,le _ _ h.h8,fun i hi=>let⟨tp,e1,e2⟩:=h.h9 i hi;⟨tp,e1,le _ _ e2⟩⟩
noncomputable def gx (fz:Hp) (tb:Addr) (c:Int) (runs sz:Nat):Prop:=∃ (kv:List (List Int×AV)) (t:Addr),fz tb=some (.aC kv)∧(kv.map fun p=>(p.1,fv p.2)).lookup [c,0]=some (.at t)∧TabAt fz t runs sz
theorem gx.keeps {fz fz':Hp} {t:Addr} {c:Int} {runs sz:Nat} (h:gx fz t c runs sz) (le:ak fz fz'):gx fz' t c runs sz:=let⟨kv,t,h1,h2,h3⟩:=h;⟨kv,t,le _ _ h1,h2,h3.keeps le⟩
noncomputable def BR (o:List UInt8) (a:Int):NO := .inst 181 [(3,.bytes o),(4,.int a)]
end Mine
end
section
open PySem PySem.W PySem.Calls PyProof.Rows
set_option Elab.async false
set_option maxRecDepth 100000
set_option autoImplicit false
set_option linter.unusedVariables false
namespace Mine
inductive K where
 | z
 | c (b:Bool)
 | n (s:Nat) (bs:List Bool)
noncomputable def K.new:K->Bool
 | .n _ _=>true
 | _=>false
noncomputable def ba (vs:List K):Bool:=vs.any K.new
noncomputable def dg:List K->List Bool
 | []=>[]
 | .c b::r=>b::dg r
 | _::r=>dg r
noncomputable def zeros:List K->Nat
 | []=>0
 | .z::r=>zeros r+1
 | _::r=>zeros r
section
variable (sz:Nat)
noncomputable def bj (run:Nat) (kept:List Bool):List Bool:=if run=0 then [] else ae sz (6*Nat.log2 run)++ae (Nat.log2 run) (run-2^Nat.log2 run)++kept
noncomputable def fl (κ:Nat->List Bool->Nat->List Bool->List Bool) (run:Nat) (kept:List Bool) (z:Nat) (here:List Bool):List Bool :=
 if 16≤z then bj sz run kept++ae sz 90++here++κ 0 [] (z-16) [] else κ run kept z here
noncomputable def bb (κ:Nat->List Bool->List Bool):Nat->List Bool->Nat->List Bool->List K->List Bool
 | run,kept,z,here,[]=>if z=0∧here=[] then κ run kept else κ (run+1) (kept++here)
 | run,kept,z,here,.z::vs=>bb κ run kept (z+1) here vs
 | run,kept,z,here,.c b::vs=>if ba vs then fl sz (fun r k z h=>bb κ r k z (h++[b]) vs) run kept z here else bb κ run kept z (here++[b]) vs
 | run,kept,z,here,.n s bs::vs=>fl sz (fun r k z h=>bj sz r k++ae sz (6*z+s)++bs++h++bb κ 0 [] 0 [] vs) run kept z here
noncomputable def aT (run:Nat) (kept:List Bool):List (List K)->List Bool
 | []=>bj sz run kept
 | vs::rest=>bb sz (fun r k=>aT r k rest) run kept 0 [] vs
variable {sz}
theorem gT:bj sz 0 []=[]:=rfl
section
variable {κ:Nat->List Bool->List Bool} {run z s:Nat} {kept here bs:List Bool} {b:Bool} {vs:List K} {rest:List (List K)}
theorem PB:bb sz κ run kept z here []=if z=0∧here=[] then κ run kept else κ (run+1) (kept++here):=rfl
theorem QS:bb sz κ run kept z here (.z::vs)=bb sz κ run kept (z+1) here vs:=rfl
theorem zP:bb sz κ run kept z here (.c b::vs)=if ba vs then fl sz (fun r k z h=>bb sz κ r k z (h++[b]) vs) run kept z here else bb sz κ run kept z (here++[b]) vs:=rfl
theorem zQ:bb sz κ run kept z here (.n s bs::vs)=fl sz (fun r k z h=>bj sz r k++ae sz (6*z+s)++bs++h++bb sz κ 0 [] 0 [] vs) run kept z here:=rfl
theorem NA:aT sz run kept []=bj sz run kept:=rfl
theorem PC:aT sz run kept (vs::rest)=bb sz (fun r k=>aT sz r k rest) run kept 0 [] vs:=rfl
theorem Qm:dg []=[]:=rfl
theorem Rr:dg (.c b::vs)=b::dg vs:=rfl
end
theorem m4 (κ:Nat->List Bool->List Bool):∀ (vs:List K) (run:Nat) (kept:List Bool) (z:Nat) (here:List Bool),ba vs=true->bb sz κ run kept z here vs=bj sz run kept++bb sz κ 0 [] z here vs
 | [],_,_,_,_,h=>by cases h
 | .z::vs,run,kept,z,here,h=>m4 κ vs run kept (z+1) here h
 | .c b::vs,run,kept,z,here,h=>by
  have h:ba vs=true:=h
  simp only [zP,zP,if_pos h,if_pos h,fl,fl]
  by_cases hz:16≤z
  ·simp only [if_pos hz,if_pos hz,gT];simp [List.append_assoc]
  ·simp only [if_neg hz,if_neg hz];exact m4 κ vs run kept z _ h
 | .n s bs::vs,run,kept,z,here,h=>by
  dsimp only [zQ,zQ,fl,fl]
  by_cases hz:16≤z
  ·simp only [if_pos hz,if_pos hz,gT];simp [List.append_assoc]
  ·simp only [if_neg hz,if_neg hz,gT];simp [List.append_assoc]
theorem fT (κ:Nat->List Bool->List Bool):∀ (vs:List K) (run:Nat) (kept:List Bool) (z:Nat) (here:List Bool),ba vs=false->(z≠0∨here≠[]∨vs≠[])->bb sz κ run kept z here vs=κ (run+1) (kept++here++dg vs)
 | [],run,kept,z,here,_,h=>by
  rw [PB,if_neg (by rintro⟨rfl,rfl⟩;simp at h),Qm,List.append_nil]
 | .z::vs,run,kept,z,here,h,_=>fT κ vs run kept (z+1) here h (.inl (by omega))
 | .c b::vs,run,kept,z,here,h,_=>by
  have h:ba vs=false:=h
  rw [zP,if_neg (by rw [h];decide),fT κ vs run kept z (here++[b]) h (.inr (.inl (by simp))),Rr]
  simp [List.append_assoc]
 | .n s bs::vs,run,kept,z,here,h,_=>by contradiction
theorem lq:∀ (rows:List (List K)) (run:Nat) (kept:List Bool),(∀ r∈rows,r≠[])->0<run->∃ m,m≤rows.length∧(∀ r∈rows.take m,ba r=false)∧aT sz run kept rows=bj sz (run+m) (kept++(rows.take m).flatMap dg)++aT sz 0 [] (rows.drop m)
 | [],run,kept,_,hr=>⟨0,Nat.le_refl 0,nofun,by rw [List.take_nil,List.drop_nil,NA,NA,gT];simp⟩
 | vs::rest,run,kept,hn,hr=>by
  by_cases h:ba vs=true
  ·exact⟨0,Nat.zero_le _,nofun,by
    rw [PC,m4 _ vs run kept 0 [] h];simp [PC]⟩
  ·rw [Bool.not_eq_true] at h
   obtain⟨m,zq⟩:=lq rest (run+1) (kept++[]++dg vs) (fun r hr=>hn r (List.mem_cons_of_mem _ hr)) ((Nat.lt_succ_of_lt (by assumption)));have h1:=zq.1;have h2:=zq.2.1;skip
   refine⟨m+1,Nat.succ_le_succ h1,fun r hr=>?_,?_⟩
   ·rw [List.take_succ_cons,List.mem_cons] at hr
    rcases hr with rfl | hr
    ·exact h
    ·exact h2 r hr
   ·rw [PC,fT _ vs run kept 0 [] h (.inr (.inr (hn vs List.mem_cons_self))),zq.2.2]
    simp [List.append_assoc,Nat.add_assoc,Nat.add_comm 1 m]
theorem tX (κ:Nat->List Bool->List Bool):∀ (vs:List K) (z:Nat) (here:List Bool),ba vs=true->z+vs.length<16+1->bb sz κ 0 [] (16+z) here vs=ae sz 90++here++bb sz κ 0 [] z [] vs
 | [],_,_,h,_=>by cases h
 | .z::vs,z,here,h,hl=>tX κ vs (z+1) here h (by rw [List.length_cons] at hl;omega)
 | .c b::vs,z,here,h,hl=>by
  have h:ba vs=true:=h
  simp only [List.length_cons] at hl
  rw [zP,zP,if_pos h,if_pos h,fl,fl,if_pos ((Nat.le_add_right _ _)),if_neg (by omega),gT,Nat.add_sub_cancel_left]
  rfl
 | .n s bs::vs,z,here,h,hl=>by
  simp only [List.length_cons] at hl
  rw [zQ,zQ,fl,fl,if_pos ((Nat.le_add_right _ _)),if_neg (by omega),gT,Nat.add_sub_cancel_left]
  rfl
theorem jl (κ:Nat->List Bool->List Bool):∀ (vs:List K) (z:Nat) (here:List Bool),ba vs=true->z≤15->z+vs.length<32->∃ pre t vs',vs=pre++t::vs'∧ba pre=false ∧
  ((∃ s bs,t = .n s bs∧z+zeros pre≤15∧bb sz κ 0 [] z here vs=ae sz (6*(z+zeros pre)+s)++bs++here++dg pre++bb sz κ 0 [] 0 [] vs') ∨
   (t = .z∧ba vs'=true∧z+zeros pre=15∧bb sz κ 0 [] z here vs=ae sz 90++here++dg pre++bb sz κ 0 [] 0 [] vs'))
 | [],_,_,h,_,_=>by cases h
 | .z::vs,z,here,h,hz,hl=>by
  rw [List.length_cons] at hl
  by_cases h15:z=15
  ·subst h15
   refine⟨[],.z,vs,rfl,rfl,.inr ⟨rfl,h,rfl,?_⟩⟩
   rw [QS,tX κ vs 0 here h (by omega),Qm];simp
  ·obtain⟨pre,t,vs',rfl,h2,h3⟩:=jl κ vs (z+1) here h (by omega) (by omega)
   refine⟨.z::pre,t,vs',rfl,h2,?_⟩
   rw [show z+zeros (.z::pre)=z+1+zeros pre from (Nat.add_comm (zeros pre) 1▸(Nat.add_assoc z 1 (zeros pre)).symm :),QS]
   exact h3
 | .c b::vs,z,here,h,hz,hl=>by
  have h:ba vs=true:=h
  rw [List.length_cons] at hl
  obtain⟨pre,t,vs',rfl,h2,h3⟩:=jl κ vs z (here++[b]) h hz (by omega)
  refine⟨.c b::pre,t,vs',rfl,h2,?_⟩
  rw [show zeros (.c b::pre)=zeros pre from rfl,zP,if_pos h,fl,if_neg (by omega),Rr]
  simpa [List.append_assoc] using h3
 | .n s bs::vs,z,here,h,hz,hl=>by
  refine⟨[],.n s bs,vs,rfl,rfl,.inl ⟨s,bs,rfl,hz,?_⟩⟩
  rw [zQ,fl,if_neg (by omega),gT,Qm,show zeros []=0 from rfl];simp
end
noncomputable def tP (vs:List K):Bool:=vs.all fun k=>match k with | .c _=>false | _=>true
theorem dX:∀ {vs:List K},tP vs=true->dg vs=[]
 | [],_=>rfl
 | .z::vs,h=>dX (vs:=vs) h
 | .n _ _::vs,h=>dX (vs:=vs) h
 | .c _::vs,h=>by contradiction
theorem dG:∀ {vs:List K},tP vs=true->ba vs=false->vs=List.replicate (zeros vs) .z
 | [],_,_=>rfl
 | .z::vs,h,h2=>by rw [show zeros (.z::vs)=zeros vs+1 from rfl,List.replicate_succ,← dG (vs:=vs) h h2]
 | .n _ _::vs,h,h2=>by contradiction
 | .c _::vs,h,_=>by contradiction
theorem mh {a b:List K} (h:tP (a++b)=true):tP a=true∧tP b=true:=by
 unfold tP at *;rw [List.all_append,Bool.and_eq_true] at h;exact h
theorem zW {sz:Nat} (κ:Nat->List Bool->List Bool) (vs:List K) (hc:tP vs=true) (h0:vs≠[]) (hl:vs.length≤24) :
  (∃ z s bs vs',z≤15∧vs=List.replicate z .z ++ .n s bs::vs'∧bb sz κ 0 [] 0 [] vs=ae sz (6*z+s)++(bs++bb sz κ 0 [] 0 [] vs')) ∨
  (∃ vs',vs=List.replicate 15 .z ++ .z::vs'∧vs'≠[]∧bb sz κ 0 [] 0 [] vs=ae sz 90++bb sz κ 0 [] 0 [] vs') ∨
  (ba vs=false∧bb sz κ 0 [] 0 [] vs=κ 1 []):=by
 cases hN:ba vs with
 | false=>exact .inr (.inr ⟨rfl,by rw [fT κ vs 0 [] 0 [] hN (.inr (.inr h0)),dX hc];rfl⟩)
 | true =>
  refine n9 (jl (sz:=sz) κ vs 0 [] hN (by decide) (by omega)) fun pre t vs' zp3 hp zp5=>?_;subst zp3;obtain h | h:=zp5
  ·refine nH h fun s bs zp2 h1 h2=>?_;subst zp2
   have hq:=dG (mh hc).1 hp
   refine .inl ⟨zeros pre,s,bs,vs',by omega,by rw [← hq],?_⟩
   rw [h2,dX (mh hc).1,Nat.zero_add];simp
  ·refine vv h fun zp0 h1 h2 h3=>?_;subst zp0
   skip
   refine .inr (.inl ⟨vs',?_,?_,?_⟩)
   ·rw [Nat.zero_add] at h2;rw [← h2,← (dG (mh hc).1 hp)]
   ·intro e;subst e;contradiction
   ·simp only [h3,dX (mh hc).1];simp
noncomputable def setB (f:Int->Int) (row tr:List Int) (st j:Nat):List Int:=row.take st++(((tr.drop st).take j).map f++row.drop (st+j))
theorem pL {f:Int->Int} {row tr:List Int} {st:Nat}:setB f row tr st 0=row:=by
 unfold setB;simp
theorem JU {row:List Int} {st j:Nat} (h:st+j≤row.length):(row.take st).length=st:=List.length_take_of_le (Nat.le_trans (Nat.le_add_right st j) h)
theorem JV {f:Int->Int} {row tr:List Int} {st j:Nat} (he:tr.length=row.length) (h:st+j≤row.length):(((tr.drop st).take j).map f).length=j:=by
 simp only [List.length_map,List.length_take,List.length_drop,he];exact Nat.min_eq_left (Nat.le_sub_of_add_le (Nat.add_comm st j▸h))
theorem fV {f:Int->Int} {row tr:List Int} {st j:Nat} (he:tr.length=row.length) (h:st+j≤row.length):(setB f row tr st j).length=row.length:=by
 unfold setB;simp only [List.length_append,List.length_append,JU h,JV he h,List.length_drop,← Nat.add_assoc,Nat.add_sub_cancel' h]
theorem kj {f:Int->Int} {row tr:List Int} {st j:Nat} (he:tr.length=row.length) (h:st+j<row.length):(setB f row tr st j).set (st+j) (f (tr.getD (st+j) 0))=setB f row tr st (j+1):=by
 skip
 skip
 unfold setB
 rw [List.set_append_right _ _ (by rw [(JU (Nat.le_of_lt h))];exact Nat.le_add_right st j),(JU (Nat.le_of_lt h)),Nat.add_sub_cancel_left,List.set_append_right _ _ (by rw [(JV (f:=f) he (Nat.le_of_lt h))];exact Nat.le_refl j),(JV (f:=f) he (Nat.le_of_lt h)),Nat.sub_self,List.drop_eq_getElem_cons h,List.set_cons_zero,List.take_succ_eq_append_getElem (by rw [List.length_drop,he];exact Nat.lt_sub_of_add_lt (Nat.add_comm st j▸h)),List.map_append]
 simp [List.getD,he,h,Nat.add_assoc]
theorem qY {f:Int->Int} {row tr:List Int} {st j i:Nat} (he:tr.length=row.length) (hi:st+j≤i) (h:i<row.length):(setB f row tr st j)[i]?=row[i]?:=by
 have hj:=Nat.le_trans hi (Nat.le_of_lt h)
 skip
 skip
 unfold setB
 rw [List.getElem?_append_right (by rw [(JU hj)];exact Nat.le_trans (Nat.le_add_right st j) hi),(JU hj),List.getElem?_append_right (by rw [(JV (f:=f) he hj)];exact Nat.le_sub_of_add_le (Nat.add_comm st j▸hi)),(JV (f:=f) he hj),List.getElem?_drop,Nat.sub_sub,Nat.add_sub_cancel' hi]
theorem ot {f:Int->Int} {row tr:List Int} {st j:Nat} (he:tr.length=row.length) (h:st+j<row.length) (h0:row.getD (st+j) 0=f (tr.getD (st+j) 0)):setB f row tr st (j+1)=setB f row tr st j:=by
 rw [← kj he h,← h0]
 skip
 refine List.ext_getElem? fun i=>?_
 rw [List.getElem?_set]
 by_cases hi:st+j=i
 ·subst hi
  rw [if_pos rfl,(qY (f:=f) he (Nat.le_refl _) h),if_pos (by rw [fV he (Nat.le_of_lt h)];exact h),List.getD,List.getElem?_eq_getElem h];rfl
 ·exact (if_neg hi)
end Mine
end
section
open PySem PySem.W PySem.Calls PyProof.Rows
set_option Elab.async false
set_option maxRecDepth 100000
set_option autoImplicit false
set_option linter.unusedVariables false
namespace Mine
open WT
local macro_rules
 | `(tactic| k_extra "side") => `(tactic| (with_reducible repeat' apply And.intro)<;>first | with_reducible (first | exact trivial | assumption | rfl) | exact rfl | exact of_decide_eq_true rfl | with_reducible (first | (refine Or.inr ?_;assumption) | (refine Or.inl ?_;assumption) | exact Or.inl (RJ rfl) | exact Or.inr (RJ rfl)) | omega)
 | `(tactic| k_extra "dec") => `(tactic| first | with_reducible (first | assumption | exact QI (by assumption) | exact QH (by assumption)) | rfl)
 | `(tactic| k_extra "w") => `(tactic| repeat first
  | (refine w6 rfl ?_ ?_;focus k_extra "side")
  | (refine mT rfl ?_ ?_;focus k_extra "dec")
  | (refine mF rfl ?_ ?_;focus k_extra "dec")
  | (refine tJ rfl (by k_extra "dec") ?_)
  | (refine w4 rfl (by k_extra "dec") ?_))
theorem v9 (E:Ev) (fz:Hp) (b:List UInt8) (ri si:Int) (L:List Bool) (n v:Nat) (ok:b5 8 b ri si L) (hn:n≤50) (hv:v<2^n) (hb:L.length≤900000) :
  aO (PE E) 1 122 [.id 0,.int v,.int n] [BW ri si,.aB b] fz fun R=>∀ b' r' s',b5 8 b' r' s' (L++ae n v)->R .none [BW r' s',.aB b'] fz:=by
 skip
 skip
 skip
 have f4:=(lb (n:=n) (Nat.le_trans hn (by decide))).2.2.2
 skip
 have f5:=DU hv
 have f6:=(ok.up (m':=60) (by decide)).small
 have f7:=ou
 refine aj (bH E) 0 4 2 [some (.id 0),some (.int v),some (.int n),none] (ay E) (k5 _) (lD E 0) rfl (by kernel_rfl) rfl rfl rfl rfl fun Q hQ=>?_
 k_extra "w"
 refine ec rfl ?_
 refine nt 2 (fun i:Int×Int×List UInt8=>⟨[some (.id 0),some (.int v),some (.int n),none],[BW i.1 i.2.1,.aB i.2.2],fz⟩) (fun i=>b5 60 i.2.2 i.1 i.2.1 (L++ae n v)) (fun i=>i.2.1.toNat) (Builtin.bitOr (ri*2^(n:Int).toNat) v,si+n,b) (ok.put hv hn) (Up.self (Nat.le_refl 2) rfl) (Nat.le_refl 2) fun i ok L' hL=>?_
 refine ey rfl (fun h=>?_) (fun h=>hQ _ _ (Fin.w rfl fun R hR=>hR _ _ _ (ok.less h)))
 have g:=ok.more h (by rw [List.length_append,ax];omega)
 have g1:=g.1
 have g2:=g.2.1
 have g3:=g.2.2.1
 have g4:=g.2.2.2.1
 have g5:=g.2.2.2.2.1
 k_extra "w"
 exact hL.nx (_,_,_) _ g.2.2.2.2.2.2 g.2.2.2.2.2.1 (Up.self (Nat.le_refl 2) rfl)
theorem qb (E:Ev) (fz:Hp) (o:List UInt8) (a:Int) (c:Bool) (l:List Bool) (h:aX o a (c::l)):aO (PE E) 1 171 [.id 0] [BR o a] fz fun R=>R (.int (b2i c)) [BR o (a+1)] fz:=by
 refine FZ h.bit fun h1 h2 h3 h4 h5 zp5=>?_;refine aA zp5 fun d h6 h7=>?_
 have h6:=(Option.map_eq_some_iff (f:=fun c:UInt8=>NV.int (c.toNat:Nat))).mpr ⟨d,h6,rfl⟩
 skip
 refine aj (bH E) 0 4 1 [some (.id 0),none,none,none] (ay E) (kZ _) (lB E 0) rfl (by kernel_rfl) rfl rfl rfl rfl fun Q hQ=>?_
 k_extra "w"
 refine hQ _ _ (Fin.w rfl fun R hR=>?_)
 exact (congrArg (fun z=>R (.int z) _ _) h7).mpr hR
theorem FO (E:Ev) (fz:Hp) (o:List UInt8) (a:Int) (m l:List Bool) (h:aX o a (m++l)) (hm:m.length≤1000) (hm0:m≠[]):aO (PE E) 2 178 [.id 0,.int m.length] [BR o a] fz fun R=>R (.int (lH m)) [BR o (a+m.length)] fz:=by
 have h1:=(h.fits hm0).1
 have h2:=(h.fits hm0).2
 refine aj (bH E) 1 6 1 [some (.id 0),some (.int m.length),none,none,none,none] (ay E) (jV _) (kD E 1) rfl (by kernel_rfl) rfl rfl rfl rfl fun Q hQ=>?_
 k_extra "w"
 refine ec rfl ?_
 refine bG (eI (j:=1) rfl (N:=m.length) (pD m.length) dh (di (Nat.le_trans hm (by decide)))) (n':=2) (fun k (i:(Int×Int)×Option NV)=>⟨[some (.id 0),some (.int m.length),some (.int i.1.1),i.2,none,none],[BR o i.1.2,.range 0 m.length 1],fz⟩) (fun k i=>i.1.1=lH (m.take k)∧i.1.2=a+k) ((0,a),none) ⟨rfl,(Int.add_zero a).symm⟩ (Up.self (Nat.le_refl 2) rfl) (Nat.le_succ 1) (fun _ _ _ _=>trivial) (fun k i hk hi L hL=>?_) fun i hi=>?_
 ·k_extra "w"
  refine aq rfl 1 [0] _ [.id 0] (qb E fz o i.1.2 m[k] (m.drop (k+1)++l) (hi.2▸h.one hk)) (Nat.le_refl 1) (by decide) rfl rfl ?_
  k_extra "w"
  exact hL.nx ((_,_),_) _ ⟨(congrArg (· * 2+b2i m[k]) hi.1).trans (jo hk),(congrArg (· + 1) hi.2).trans (Int.add_assoc a k 1)⟩ (Up.self (Nat.le_refl 2) rfl)
 ·k_extra "w"
  refine hQ _ _ (Fin.cw [BR o i.1.2] rfl rfl rfl rfl fun R hR=>?_)
  exact (congrArg (fun z:Int×Int=>R (.int z.1) [BR o z.2] fz) (Prod.ext (hi.1.trans (by exact List.take_length▸rfl)) hi.2:i.1=(↑(lH m),a+m.length))).mpr hR
theorem dv (E:Ev) (fz:Hp) (tb:Addr) (b:List UInt8) (ri si:Int) (L:List Bool) (n v:Nat) (ok:b5 8 b ri si L) (hn:n≤50) (hv:v<2^n) (hb:L.length≤900000) :
  aO (PE E) 2 745 [.id 0,.int v,.int n] (SK tb ri si b) fz fun R=>∀ b' r' s',b5 8 b' r' s' (L++ae n v)->R .none (SK tb r' s' b') fz:=by
 refine aj (bH E) 1 3 3 [some (.id 0),some (.int v),some (.int n)] (ay E) (k6 _) (lE E 1) rfl (by kernel_rfl) rfl rfl rfl rfl fun Q hQ=>?_
 k_extra "w"
 refine aq rfl 1 [1,2] [BW ri si,.aB b] [.id 0,.int v,.int n] (v9 E fz b ri si L n v ok hn hv hb) (Nat.le_refl 1) (by decide) rfl rfl fun b' r' s' ok'=>?_
 k_extra "w"
 exact hQ _ _ (Fin.w rfl fun R hR=>hR _ _ _ ok')
theorem dO (E:Ev) (fz:Hp) (tb k:Addr) (c:Int) (runs sz i:Nat) (b:List UInt8) (ri si:Int) (L:List Bool) (ht:gx fz tb c runs sz) (hk:fz k=some (.tup [.int c,.int 0])) (hi:i<6*runs) (hs:i<2^sz) (hz:sz≤50) (ok:b5 8 b ri si L) (hb:L.length≤900000) :
  aO (PE E) 3 738 [.id 0,.at k,.int (sym i)] (SK tb ri si b) fz fun R=>∀ b' r' s',b5 8 b' r' s' (L++ae sz i)->R .none (SK tb r' s' b') fz:=by
 refine nH ht fun kv t e1 e2 ht=>?_
 refine jg ht fun d ht=>?_
 refine aA (ht.h9 i hi) fun tp g1 g2=>?_
 have h1:=ht.h1
 have h8:=ht.h8
 have g1:=congrArg some g1
 refine aj (bH E) 2 5 3 [some (.id 0),some (.at k),some (.int (sym i)),none,none] (ay E) (jG _) (jK E 2) rfl (by kernel_rfl) rfl rfl rfl rfl fun Q hQ=>?_
 k_extra "w"
 refine ec rfl ⟨[c,0],.at t,rfl,e2,?_⟩
 k_extra "w"
 refine aq rfl 1 [1,2] [BW ri si,.aB b] [.id 0,.int i,.int sz] (v9 E fz b ri si L sz i ok hz hs hb) (by decide) (by decide) rfl rfl fun b' r' s' ok'=>?_
 k_extra "w"
 exact hQ _ _ (Fin.w rfl fun R hR=>hR _ _ _ ok')
theorem zL {l:List Bool} {k:Nat} (h:k<l.length):decide ((lH (l.take k):Int)*2+b2i l[k]-0<0)=false:=by rw [jo h];exact decide_eq_false (by omega)
theorem ky {runs s:Nat} (h:s<6*runs):(bz runs)[s]?=some (sym s):=by unfold bz;rw [List.getElem?_map,List.getElem?_range h];rfl
theorem vc {e:Int} {s runs:Nat} (he:e=s) (hs:s<6*runs) (h:s<65536):decide (e-0<(6*runs:Nat))=true∧0≤0+e-0∧0+e-0<1000000∧(((bz runs).map AV.int).map fv)[(0+e-0).toNat]?=some (.int (sym s)):=by
 subst he
 refine⟨decide_eq_true ((Int.ofNat_lt.mpr (by assumption))),(Int.ofNat_nonneg _),by omega,?_⟩
 simp only [show (0+(s:Int)-0).toNat=s by omega,List.getElem?_map,List.getElem?_map,ky hs];rfl
theorem EC {sz s k:Nat} (hz:s<2^sz) (hk:k<(ae sz s).length) (e:k+1=sz):(lH ((ae sz s).take k):Int)*2+b2i (ae sz s)[k]=s:=by
 simp only [jo hk,e,List.take_of_length_le (Nat.le_of_eq (ax _ _)),lQ,Nat.mod_eq_of_lt hz]
theorem jD (E:Ev) (fz:Hp) (t:Addr) (runs sz s:Nat) (o:List UInt8) (a:Int) (l:List Bool) (ht:TabAt fz t runs sz) (hs:s<6*runs) (hz:s<2^sz) (h16:sz≤16) (h0:0<sz) (hr:aX o a (ae sz s++l)) :
  aO (PE E) 2 675 [.at t,.id 0] [BR o a] fz fun R=>R (.int (sym s)) [BR o (a+sz)] fz:=by
 refine jg ht fun d ht=>?_
 have h1:=ht.h1
 have h2:=ht.h2
 have h3:=ht.h3
 have h4:=ht.h4
 have h7:=ht.h7
 refine aj (bH E) 1 7 1 [some (.at t),some (.id 0),none,none,none,none,none] (ay E) (j1 _) (kL E 1) rfl (by kernel_rfl) rfl rfl rfl rfl fun Q hQ=>?_
 k_extra "w"
 refine ec rfl ?_
 refine bG (jz h3 (Nat.le_trans (Nat.le_of_eq h4) (by decide))) (n':=1) (fun k (i:(Int×Int)×(Option NV×Option NV×Option NV))=>⟨[some (.at t),some (.id 0),some (.int i.1.1),i.2.1,i.2.2.1,i.2.2.2,none],[BR o i.1.2],fz⟩)
  (fun k i=>k<sz∧i.1.1=lH ((ae sz s).take k)∧i.1.2=a+k) ((0,a),none,none,none) ⟨h0,rfl,(Int.add_zero a).symm⟩ (Up.self (Nat.le_refl 1) rfl) (Nat.le_refl 1) (fun _ _ _ _ _ _ x=>x) (fun k i hk hi L hL=>?_) fun i hi=>absurd hi.1 (h4▸Nat.not_lt.mpr h16)
 have hb:k<(ae sz s).length:=by simp only [ax];exact hi.1
 have cb:=qb E fz o i.1.2 _ _ (hi.2.2▸hr.one hb)
 have e2:i.1.2+1=a+(k+1:Nat):=(congrArg (· + 1) hi.2.2).trans (Int.add_assoc _ _ _)
 by_cases hk1:k+1<sz
 ·refine aA (ht.h5 k hk1) fun r' g0 g2=>?_
  have g3:decide (i.1.1*2+b2i (ae sz s)[k]-0<0)=false:=hi.2.1▸zL hb
  refine g0▸?_
  k_extra "w"
  refine aq rfl 1 [0] _ [.id 0] cb (Nat.le_refl 1) (by decide) rfl rfl ?_
  k_extra "w"
  exact hL.nx ((_,_),_,_,_) _ ⟨hk1,(congrArg (· * 2+b2i (ae sz s)[k]) hi.2.1).trans (jo hb),e2⟩ (Up.self (Nat.le_refl 1) rfl)
 ·have e:k+1=sz:=Nat.le_antisymm hi.1 (Nat.not_lt.mp hk1)
  have g:=vc (runs:=runs) (hi.2.1▸EC hz hb e) hs (Nat.lt_of_lt_of_le hz (Nat.pow_le_pow_right (by decide) h16))
  have g1:=g.1
  have g2:=g.2.1
  have g3:=g.2.2.1
  have g4:=g.2.2.2
  refine ht.h6 k e▸?_
  k_extra "w"
  refine aq rfl 1 [0] _ [.id 0] cb (Nat.le_refl 1) (by decide) rfl rfl ?_
  k_extra "w"
  refine hL.rt _ _ (hQ _ _ (Fin.w rfl fun R hR=>?_))
  exact (congrArg (fun z:Int=>R _ [BR o z] fz) (e▸e2)).mpr hR
noncomputable def eO (fz:Hp) (sc:Addr) (st en hi lo:Nat):Prop:=∃ p d a,fz sc=some (.inst 713 [(14,.ref p),(15,.ref d),(16,.ref a),(17,.int st),(18,.int en),(19,.int hi),(20,.int lo)])∧fz p=some (.list [.int 0])∧fz d=some (.list [.int 0])∧fz a=some (.list [.int 0])
noncomputable def MB.drop:Nat->MB->MB
 | n+1,.cons _ r=>MB.drop n r
 | _,b=>b
structure zT (w st en hi lo:Nat):Prop where
 w1:small w
 f1:decide (((st:Nat):Int)<0)=false
 f2:decide (((en:Nat):Int)<(st:Nat))=false
 f3:decide ((w:Int)*w-1<((en:Nat):Int))=false
 f4:decide (((st:Nat):Int)=0)=true->decide (((en:Nat):Int)≠0)=false
 l1:decide (((lo:Nat):Int)<0)=false
 l2:decide (13<((lo:Nat):Int))=false
 l3:decide (((hi:Nat):Int)≠0)=true->decide (((hi:Nat):Int)≠(lo:Int)+1)=false
theorem Ai {w st en hi lo:Nat} (hw:w≤5) (bu:st≤en) (aZ:en<w*w) (h0:st=0->en=0) (h2:lo≤2) (hh:hi=0∨hi=lo+1):zT w st en hi lo:=by
 skip
 exact⟨⟨(Int.ofNat_nonneg _),by omega⟩,decide_eq_false (by omega),decide_eq_false (by omega),decide_eq_false (by skip;omega),fun h=>decide_eq_false fun h1=>h1 (congrArg Nat.cast (h0 (Int.ofNat_inj.mp (of_decide_eq_true h)))),decide_eq_false (by omega),decide_eq_false (by omega),fun h=>decide_eq_false fun h1=>(hh.elim (fun e=>of_decide_eq_true h (congrArg Nat.cast e)) fun e=>h1 (congrArg Nat.cast e))⟩
set_option maxHeartbeats 4000000 in
theorem eG (E:Ev) (fz:Hp) (sc:Addr) (w st en hi lo:Nat) (hsc:eO fz sc st en hi lo) (c:zT w st en hi lo):aO (PE E) 1 619 [.at sc,.int w] [] fz fun R=>R .none [] fz:=by
 refine ip hsc fun p d a hsc hp _ _=>?_
 obtain⟨w1,f1,f2,f3,f4,l1,l2,l3⟩:=c
 refine aj (bH E) 0 4 0 [some (.at sc),some (.int w),none,none] (ay E) (nI _) (nO E 0) rfl (by kernel_rfl) rfl rfl rfl rfl fun Q hQ=>?_
 have last:den (PE E) (jr (PE E) (lW (PE E) TB 0) 0 (.cons (.ite (.or (.cmp .Lt (.attr (.loc 0) 20) (.int 0)) (.or (.cmp .Gt (.attr (.loc 0) 20) (.int 13)) (.and (.cmp .NotEq (.attr (.loc 0) 19) (.int 0)) (.cmp .NotEq (.attr (.loc 0) 19) (.bin .Add (.attr (.loc 0) 20) (.int 1)))))) (.cons .dead .nil) .nil) .nil) ⟨[some (.at sc),some (.int w),none,none],[],fz⟩ Q):=by
  k_extra "w"
  refine ey rfl (fun h=>?_) fun h=>?_
  ·have l3:=l3 h
   k_extra "w"
   exact hQ _ _ (Fin.w rfl fun R hR=>hR)
  ·k_extra "w"
   exact hQ _ _ (Fin.w rfl fun R hR=>hR)
 k_extra "w"
 refine ey rfl (fun h=>?_) fun h=>?_
 ·have f4:=f4 h
  k_extra "w"
  refine ey rfl (fun h2=>?_) fun h2=>?_
  ·iterate 4 first | (refine w6 rfl ?_ ?_;focus k_extra "side") | refine mF rfl (by k_extra "dec") ?_ | refine tJ rfl (by k_extra "dec") ?_
   exact last
  ·refine mF rfl (by k_extra "dec") ?_
   exact last
 ·k_extra "w"
  refine ey rfl (fun h2=>?_) fun h2=>?_
  ·iterate 4 first | (refine w6 rfl ?_ ?_;focus k_extra "side") | refine mF rfl (by k_extra "dec") ?_ | refine tJ rfl (by k_extra "dec") ?_
   exact last
  ·refine mF rfl (by k_extra "dec") ?_
   exact last
noncomputable def AW (sc key tb:Addr) (run:Int) (r s:Int) (b:List UInt8):List NO:=[.inst 272 [(5,.at sc),(6,.id 1),(7,.at key),(8,.int run)],.inst 755 [(12,.at tb),(25,.id 2)],.inst 139 [(0,.id 3),(1,.int r),(2,.int s)],.aB b]
theorem dH {run:Nat} (h0:¬ run=0) (hr:run≤9):16*((Builtin.Int.intBits run:Nat)-1:Int)=sym (6*run.log2)∧run.log2≤3∧(0:Int)≤(Builtin.Int.intBits run:Nat)-1∧((Builtin.Int.intBits run:Nat)-1:Int)≤1000000 ∧
  ((run:Int)-2^((Builtin.Int.intBits run:Nat)-1:Int).toNat,((Builtin.Int.intBits run:Nat)-1:Int))=(((run-2^run.log2:Nat):Int),(run.log2:Int))∧run-2^run.log2<2^run.log2∧6*run.log2<6*4:=by
 have key:∀ r:_root_.Fin 10,¬ r.1=0->16*((Builtin.Int.intBits r.1:Nat)-1:Int)=sym (6*r.1.log2)∧r.1.log2≤3∧(0:Int)≤(Builtin.Int.intBits r.1:Nat)-1∧((Builtin.Int.intBits r.1:Nat)-1:Int)≤1000000 ∧
  ((r.1:Int)-2^((Builtin.Int.intBits r.1:Nat)-1:Int).toNat,((Builtin.Int.intBits r.1:Nat)-1:Int))=(((r.1-2^r.1.log2:Nat):Int),(r.1.log2:Int))∧r.1-2^r.1.log2<2^r.1.log2∧6*r.1.log2<6*4:=by decide +kernel
 exact key ⟨run,Nat.lt_succ_of_le hr⟩ h0
theorem qW {run sz:Nat} (h0:¬ run=0) (hr:run≤9) (h:decide ((0:Int)<(Builtin.Int.intBits run:Nat)-1)=false):bj sz run []=ae sz (6*run.log2):=by
 have e:=congrArg Prod.snd (dH h0 hr).2.2.2.2.1
 skip
 dsimp only at e
 have hz:run.log2=0:=Nat.eq_zero_of_not_pos fun x=>(of_decide_eq_false h) (by simp only [e];exact Int.ofNat_lt.mpr x)
 rw [bj,if_neg h0,hz];simp [ae]
theorem qd (E:Ev) (fz:Hp) (sc key tb:Addr) (runs sz run:Nat) (b:List UInt8) (ri si:Int) (L:List Bool) (ht:gx fz tb 1 runs sz) (hk:fz key=some (.tup [.int 1,.int 0])) (hr:run≤9) (h4:4≤runs) (hs:6*runs≤2^sz) (hz:sz≤50) (ok:b5 8 b ri si L) (hb:L.length≤800000) :
  aO (PE E) 4 248 [.id 0] (AW sc key tb run ri si b) fz fun R=>∀ fz' b' r' s',ak fz fz'->b5 8 b' r' s' (L++bj sz run [])->R .none (AW sc key tb (0:Nat) r' s' b') fz':=by
 by_cases h0:run=0
 ·subst h0
  refine aj (bH E) 3 4 4 [some (.id 0),none,none,none] (ay E) (bY _) (bZ E 3) rfl (by kernel_rfl) rfl rfl rfl rfl fun Q hQ=>?_
  k_extra "w"
  exact hQ _ _ (Fin.w rfl fun R hR=>hR fz _ _ _ (ak.refl _) (by simp only [gT,List.append_nil];exact ok))
 ·have h1:=yB (Nat.pos_of_ne_zero h0)
  refine aj (bH E) 3 4 4 [some (.id 0),none,none,none] (ay E) (bY _) (bZ E 3) rfl (by kernel_rfl) rfl rfl rfl rfl fun Q hQ=>?_
  have f:=dH h0 hr
  have g2:=f.2.2.1
  have g3:=f.2.2.2.1
  have g4:=pU
  k_extra "w"
  refine dq rfl fun tp fz1 (le:ak fz fz1) e=>?_
  k_extra "w"
  refine aq rfl 3 [1,2,3] (SK tb ri si b) [.id 0,.at key,.int (sym (6*run.log2))] (dO E fz1 tb key 1 runs sz (6*run.log2) b ri si L (ht.keeps le) (le _ _ hk) (Nat.lt_of_lt_of_le f.2.2.2.2.2.2 (Nat.mul_le_mul_left 6 h4)) (Nat.lt_of_lt_of_le f.2.2.2.2.2.2 (Nat.le_trans (Nat.mul_le_mul_left 6 h4) hs)) hz ok (Nat.le_trans hb (by decide))) (Nat.le_refl 3) (by decide) rfl (congrArg (fun z:Int=>[NV.id 1,.at key,.int z]) f.1) fun b1 r1 s1 ok1=>?_
  k_extra "w"
  refine ey rfl (fun h=>?_) fun h=>?_
  ·k_extra "w"
   refine aq rfl 2 [1,2,3] (SK tb r1 s1 b1) [.id 0,.int (run-2^run.log2:Nat),.int run.log2] (dv E fz1 tb b1 r1 s1 _ run.log2 (run-2^run.log2) ok1 (Nat.le_trans f.2.1 (by decide)) f.2.2.2.2.2.1 (by rw [List.length_append,ax];exact Nat.le_trans (Nat.add_le_add hb hz) (by decide))) (by decide) (by decide) rfl (congrArg (fun z:Int×Int=>[NV.id 1,.int z.1,.int z.2]) f.2.2.2.2.1) fun b2 r2 s2 ok2=>?_
   k_extra "w"
   exact hQ _ _ (Fin.w rfl fun R hR=>hR fz1 _ _ _ le (by rw [bj,if_neg h0,List.append_nil,← List.append_assoc];exact ok2))
  ·k_extra "w"
   exact hQ _ _ (Fin.w rfl fun R hR=>hR fz1 _ _ _ le (by rw [qW h0 hr h];exact ok1))
noncomputable def zr (sz z:Nat):List Bool:=if 16≤z then ae sz 90 else []
noncomputable def nb (v:Int):Nat:=Builtin.Int.intBits (v.natAbs:Int)
noncomputable def bo (v:Int):Nat:=if v<0 then (v+2^nb v-1).toNat else v.toNat
theorem mR {v:Int} (h0:v≠0) (h1 : -25<v) (h2:v<25):0<nb v∧nb v<6∧bo v<2^nb v∧(if v<0 then v+2^nb v-1 else v)=(bo v:Nat):=by
 have key:∀ r:_root_.Fin 49,(r.1:Int)-24≠0->0<nb (r.1-24)∧nb (r.1-24)<6∧bo (r.1-24)<2^nb (r.1-24)∧(if (r.1:Int)-24<0 then (r.1:Int)-24+2^nb (r.1-24)-1 else (r.1:Int)-24)=(bo (r.1-24):Nat):=by decide +kernel
 refine jg (EU h1 h2) fun r zp1=>?_;subst zp1
 exact key r h0
theorem sM {z s:Nat} (h:s<6):sym (6*z+s)=((16*z+s:Nat):Int):=by
 unfold sym;rw [Nat.mul_add_div (by decide),Nat.div_eq_of_lt h,Nat.add_zero,Nat.mul_add_mod,Nat.mod_eq_of_lt h];rfl
noncomputable def JP (sz z:Nat) (T:List Bool) (i:Int×(Nat×List Bool)×Int×Int×List UInt8):Prop:=i.1=i.2.1.1∧i.2.1.1<32∧i.2.1.1%16=z%16∧i.2.1.1≤z∧b5 8 i.2.2.2.2 i.2.2.1 i.2.2.2.1 i.2.1.2∧i.2.1.2++zr sz i.2.1.1=T
theorem JP.more {sz z runs:Nat} {T:List Bool} {i:Int×(Nat×List Bool)×Int×Int×List UInt8} (hi:JP sz z T i) (hzr:runs=16∨z<runs∧z<16) (h:decide (15<i.1)=true):90<6*runs ∧
  (∀ b r s,b5 8 b r s (i.2.1.2++ae sz 90)->JP sz z T (i.1-16,(i.2.1.1-16,i.2.1.2++ae sz 90),r,s,b)∧(i.1-16).toNat<i.1.toNat)∧(T.length≤800000->i.2.1.2.length≤900000):=by
 obtain⟨a,zp1,zq⟩:=i;skip;skip;skip;obtain⟨zi,Li⟩:=zp1
 refine FZ hi fun h1 h2 h3 h4 h5 h6=>?_
 dsimp only at *
 subst h1
 obtain⟨k,rfl⟩:=Nat.exists_eq_add_of_le (show 16≤zi from Int.ofNat_lt.mp (of_decide_eq_true h))
 have l:=Nat.le_add_right 16 k
 have l2:16+k-16<16:=Nat.sub_lt_left_of_lt_add l h2
 refine⟨hzr.elim (fun e=>e▸(by decide)) fun e=>absurd (Nat.le_trans l h4) (Nat.not_le.mpr e.2),fun b r s ok=>⟨⟨(Int.ofNat_sub l).symm,Nat.lt_trans l2 (by decide),?_,Nat.le_trans (Nat.sub_le _ _) h4,ok,?_⟩,?_⟩,fun hT=>Nat.le_trans (tG h6 hT) (by decide)⟩
 ·refine (?_:(16+k-16)%16=_)
  rw [Nat.add_sub_cancel_left,← h3,Nat.add_mod_left]
 ·refine (?_:_++zr sz (16+k-16)=T)
  simp only [← h6,zr,zr,if_neg (Nat.not_le.mpr l2),if_pos l,List.append_nil]
 ·refine (?_:(((16+k:Nat):Int)-(16:Nat)).toNat<16+k)
  rw [Int.toNat_sub];exact Nat.sub_lt (Nat.lt_of_lt_of_le (by decide) l) (by decide)
theorem JP.less {sz z runs n:Nat} {T:List Bool} {i:Int×(Nat×List Bool)×Int×Int×List UInt8} (hi:JP sz z T i) (hzr:runs=16∨z<runs∧z<16) (h:decide (15<i.1)=false) (hn:n<6):6*(z%16)+n<6*runs ∧
  16*i.1+(n:Nat)=sym (6*(z%16)+n)∧b5 8 i.2.2.2.2 i.2.2.1 i.2.2.2.1 T∧(T.length≤800000->T.length≤900000):=by
 obtain⟨a,zp1,zq⟩:=i;skip;skip;skip;obtain⟨zi,Li⟩:=zp1
 refine FZ hi fun h1 h2 h3 h4 h5 h6=>?_
 dsimp only at *
 subst h1
 have l:zi<16:=Nat.lt_succ_of_le (Int.ofNat_le.mp (Int.not_lt.mp (of_decide_eq_false h)))
 skip
 rw [← h3,Nat.mod_eq_of_lt l,sM hn]
 refine⟨Nat.lt_of_lt_of_le (Nat.add_lt_add_left hn _) (Nat.mul_le_mul_left 6 (hzr.elim (fun e=>e▸l) fun e=>Nat.lt_of_le_of_lt h4 e.1)),rfl,?_,fun h=>Nat.le_trans h (by decide)⟩
 rw [zr,if_neg (Nat.not_le.mpr l),List.append_nil] at h6;simp only [← h6];exact h5
theorem qe (E:Ev) (fz:Hp) (sc key tb:Addr) (runs sz run z:Nat) (v:Int) (b:List UInt8) (ri si:Int) (L:List Bool) (ht:gx fz tb 1 runs sz) (hk:fz key=some (.tup [.int 1,.int 0])) (hr:run≤9) (h4:4≤runs) (hs:6*runs≤2^sz) (hz:sz≤50) (ok:b5 8 b ri si L) (hb:(L++bj sz run []++zr sz z).length≤800000)
  (h0:v≠0) (v1 : -25<v) (v2:v<25) (hz32:z<32) (hzr:runs=16∨z<runs∧z<16) :
  aO (PE E) 5 255 [.id 0,.int z,.int v] (AW sc key tb run ri si b) fz fun R=>∀ fz' b' r' s',ak fz fz'->b5 8 b' r' s' (L++bj sz run []++zr sz z++ae sz (6*(z%16)+nb v)++ae (nb v) (bo v))->R .none (AW sc key tb (0:Nat) r' s' b') fz':=by
 refine aj (bH E) 4 10 4 [some (.id 0),some (.int z),some (.int v),none,none,none,none,none,none,none] (ay E) (dQ _) (d0 E 4) rfl (by kernel_rfl) rfl rfl rfl rfl fun Q hQ=>?_
 k_extra "w"
 refine aq rfl 4 [0,1,2,3] (AW sc key tb run ri si b) [.id 0] (qd E fz sc key tb runs sz run b ri si L ht hk hr h4 hs hz ok (KO hb)) (Nat.le_refl 4) (by decide) rfl rfl fun fz1 b1 r1 s1 le ok1=>?_
 have ht:=ht.keeps le
 have hk:=le _ _ hk
 k_extra "w"
 have n1:=mR h0 v1 v2
 have n2:decide ((15:Int)<(Builtin.Int.intBits (v.natAbs:Int):Nat))=false:=decide_eq_false (Int.not_lt.mpr (Int.ofNat_le.mpr (Nat.le_trans (Nat.le_of_lt n1.2.1) (by decide))))
 have n3:=lb (n:=nb v) (Nat.le_trans (Nat.le_of_lt n1.2.1) (by decide))
 skip
 have n5:((Builtin.Int.intBits (v.natAbs:Int):Nat):Int)≤1000000:=n3.2.2.2
 have n6:=pU
 refine ec rfl ?_
 refine nt 4 (fun i:Int×(Nat×List Bool)×Int×Int×List UInt8=>⟨[some (.id 0),some (.int i.1),some (.int v),none,none,none,none,none,none,none],AW sc key tb (0:Nat) i.2.2.1 i.2.2.2.1 i.2.2.2.2,fz1⟩)
  (JP sz z (L++bj sz run []++zr sz z)) (fun i=>i.1.toNat) (z,(z,_),r1,s1,b1) ⟨rfl,hz32,rfl,Nat.le_refl _,ok1,rfl⟩ (Up.self (Nat.le_refl 4) rfl) (Nat.le_refl 4) fun i hi L' hL=>?_
 refine ey rfl (fun h=>?_) fun h=>?_
 ·have p:=hi.more hzr h
  k_extra "w"
  refine aq rfl 3 [1,2,3] (SK tb i.2.2.1 i.2.2.2.1 i.2.2.2.2) [.id 0,.at key,.int (sym 90)] (dO E fz1 tb key 1 runs sz 90 i.2.2.2.2 i.2.2.1 i.2.2.2.1 _ ht hk p.1 (Nat.lt_of_lt_of_le p.1 hs) hz hi.2.2.2.2.1 (p.2.2 hb)) (by decide) (by decide) rfl rfl fun b2 r2 s2 ok2=>?_
  k_extra "w"
  exact hL.nx (_,(_,_),_,_,_) _ (p.2.1 _ _ _ ok2).1 (p.2.1 _ _ _ ok2).2 (Up.self (Nat.le_refl 4) rfl)
 ·have p:=hi.less hzr h n1.2.1
  k_extra "w"
  refine aq rfl 3 [1,2,3] (SK tb i.2.2.1 i.2.2.2.1 i.2.2.2.2) [.id 0,.at key,.int (sym (6*(z%16)+nb v))] (dO E fz1 tb key 1 runs sz _ i.2.2.2.2 i.2.2.1 i.2.2.2.1 _ ht hk p.1 (Nat.lt_of_lt_of_le p.1 hs) hz p.2.2.1 (p.2.2.2 hb)) (by decide) (by decide) rfl (congrArg (fun z:Int=>[NV.id 1,.at key,.int z]) p.2.1) fun b2 r2 s2 ok2=>?_
  k_extra "w"
  refine ey rfl (fun h2=>?_) fun h2=>?_
  ·have e:=(if_pos (of_decide_eq_true h2)).symm.trans n1.2.2.2
   k_extra "w"
   refine aq rfl 2 [1,2,3] (SK tb r2 s2 b2) [.id 0,.int (bo v),.int (nb v)] (dv E fz1 tb b2 r2 s2 _ (nb v) (bo v) ok2 (Nat.le_trans (Nat.le_of_lt n1.2.1) (by decide)) n1.2.2.1 (by rw [List.length_append,ax];exact Nat.le_trans (Nat.add_le_add hb hz) (by decide))) (by decide) (by decide) rfl (congrArg (fun z:Int=>[NV.id 1,.int z,.int (nb v)]) e) fun b3 r3 s3 ok3=>?_
   k_extra "w"
   exact hQ _ _ (Fin.w rfl fun R hR=>hR fz1 _ _ _ le ok3)
  ·have e:=(if_neg (of_decide_eq_false h2)).symm.trans n1.2.2.2
   k_extra "w"
   refine aq rfl 2 [1,2,3] (SK tb r2 s2 b2) [.id 0,.int (bo v),.int (nb v)] (dv E fz1 tb b2 r2 s2 _ (nb v) (bo v) ok2 (Nat.le_trans (Nat.le_of_lt n1.2.1) (by decide)) n1.2.2.1 (by rw [List.length_append,ax];exact Nat.le_trans (Nat.add_le_add hb hz) (by decide))) (by decide) (by decide) rfl (congrArg (fun z:Int=>[NV.id 1,.int z,.int (nb v)]) e) fun b3 r3 s3 ok3=>?_
   k_extra "w"
   exact hQ _ _ (Fin.w rfl fun R hR=>hR fz1 _ _ _ le ok3)
noncomputable def aL (lo:Nat) (v:Int):Int:=((v.natAbs:Nat):Int).fdiv (2^((lo:Nat):Int).toNat)
noncomputable def sL (lo:Nat) (v:Int):Int:=if 0<v then aL lo v else -aL lo v
noncomputable def KA (lo:Nat) (v:Int):K:=if aL lo v=0 then .z else .n (nb (sL lo v)) (ae (nb (sL lo v)) (bo (sL lo v)))
noncomputable def band (f:Int->K) (row:List Int) (st en:Nat):List K:=((row.drop st).take (en+1-st)).map f
theorem bO {f:Int->K} {row:List Int} {st en:Nat} (h:en<row.length) (h1:st≤en):(band f row st en).length=en+1-st:=by
 unfold band;rw [List.length_map,List.length_take,List.length_drop];exact Nat.min_eq_left (Nat.sub_le_sub_right h st)
theorem cW {f:Int->K} {row:List Int} {st en k:Nat} (h:en<row.length) (hk:k<en+1-st):(band f row st en).drop k=f (row.getD (st+k) 0)::(band f row st en).drop (k+1):=by
 skip
 simp only [List.drop_eq_getElem_cons ((bO (f:=f) h (NK hk)).symm▸hk)]
 congr 1
 unfold band
 simp only [List.getElem_map,List.getElem_take,List.getElem_drop,List.getD,List.getElem?_eq_getElem (Nat.lt_of_le_of_lt (m8 hk) h)];rfl
theorem kg {row:List Int} {j:Nat} (h:j<row.length):row.getD j 0∈row:=by
 simp only [List.getD,List.getElem?_eq_getElem h];exact List.getElem_mem h
theorem kh {row:List Int} {st k:Nat} (h:st+k<row.length):((row.map AV.int).map fv)[((st:Int)+(k:Int)*1).toNat]?=some (.int (row.getD (st+k) 0)):=by
 rw [show ((st:Int)+(k:Int)*1).toNat=st+k from by rw [Int.mul_one];rfl,List.getElem?_map,List.getElem?_map,List.getD,List.getElem?_eq_getElem h];rfl
theorem j9 (st en:Nat):((en:Int)+1-st).toNat=en+1-st:=Int.toNat_sub (en+1) st
theorem Js {sz:Nat} {κ:Nat->List Bool->List Bool} {run z s:Nat} {bs L T:List Bool} {vs:List K} (hz:z<32) (h:L++bb sz κ run [] z [] (.n s bs::vs)=T):(L++bj sz run []++zr sz z++ae sz (6*(z%16)+s)++bs)++bb sz κ 0 [] 0 [] vs=T:=by
 simp only [← h,zQ,fl,zr]
 by_cases h16:16≤z
 ·rw [if_pos h16,if_pos h16,gT,(Nat.mod_eq_sub_mod h16).trans (Nat.mod_eq_of_lt (Nat.sub_lt_left_of_lt_add h16 hz))];simp
 ·rw [if_neg h16,if_neg h16,Nat.mod_eq_of_lt (Nat.lt_of_not_le h16)];simp
noncomputable def vy (sz lo st en:Nat) (row:List Int) (κ:Nat->List Bool->List Bool) (T:List Bool) (fz:Hp) (run0:Nat) (k:Nat) (i:(Nat×Nat×List Bool)×(Int×Int×List UInt8)×Hp×Option NV×Option NV):Prop :=
 i.1.1≤k∧i.1.2.1≤run0∧b5 8 i.2.1.2.2 i.2.1.1 i.2.1.2.1 i.1.2.2∧i.1.2.2++bb sz κ i.1.2.1 [] i.1.1 [] ((band (KA lo) row st en).drop k)=T∧ak fz i.2.2.1
section
variable {sz lo st en:Nat} {row:List Int} {κ:Nat->List Bool->List Bool} {T:List Bool} {fz:Hp} {run0 k:Nat} {i:(Nat×Nat×List Bool)×(Int×Int×List UInt8)×Hp×Option NV×Option NV}
theorem vy.zero {a b:Option NV} (hi:vy sz lo st en row κ T fz run0 k i) (aZ:en<row.length) (hk:k<en+1-st) (h:decide (aL lo (row.getD (st+k) 0)=0)=true) :
  vy sz lo st en row κ T fz run0 (k+1) ((i.1.1+1,i.1.2.1,i.1.2.2),(i.2.1.1,i.2.1.2.1,i.2.1.2.2),i.2.2.1,a,b):=by
 refine⟨Nat.succ_le_succ hi.1,hi.2.1,hi.2.2.1,?_,hi.2.2.2.2⟩
 have:=hi.2.2.2.1
 rw [cW aZ hk,show KA lo (row.getD (st+k) 0) = .z from if_pos (of_decide_eq_true h)] at this
 exact this
noncomputable def u9 (sz lo:Nat) (v:Int) (i:Nat×Nat×List Bool):List Bool:=i.2.2++bj sz i.2.1 []++zr sz i.1++ae sz (6*(i.1%16)+nb (sL lo v))++ae (nb (sL lo v)) (bo (sL lo v))
theorem vy.some (hi:vy sz lo st en row κ T fz run0 k i) (aZ:en<row.length) (hk:k<en+1-st) (hl:row.length≤25) (h:decide (aL lo (row.getD (st+k) 0)=0)=false) :
  u9 sz lo (row.getD (st+k) 0) i.1++bb sz κ 0 [] 0 [] ((band (KA lo) row st en).drop (k+1))=T:=by
 have:=hi.2.2.2.1
 rw [cW aZ hk,show KA lo (row.getD (st+k) 0) = .n _ _ from if_neg (of_decide_eq_false h)] at this
 exact Js (Nat.lt_of_le_of_lt hi.1 (Gm hk aZ hl)) this
theorem vy.after {a b:Option NV} {r s:Int} {o:List UInt8} {g:Hp} (hi:vy sz lo st en row κ T fz run0 k i) (q:u9 sz lo (row.getD (st+k) 0) i.1++bb sz κ 0 [] 0 [] ((band (KA lo) row st en).drop (k+1))=T) (le:ak i.2.2.1 g) (ok:b5 8 o r s (u9 sz lo (row.getD (st+k) 0) i.1)) :
  vy sz lo st en row κ T fz run0 (k+1) ((0,0,u9 sz lo (row.getD (st+k) 0) i.1),(r,s,o),g,a,b):=⟨Nat.zero_le _,Nat.zero_le _,ok,q,hi.2.2.2.2.trans le⟩
theorem vy.last (hi:vy sz lo st en row κ T fz run0 (en+1-st) i) (aZ:en<row.length) (bu:st≤en):i.1.2.2++κ (if i.1.1=0 then i.1.2.1 else i.1.2.1+1) []=T:=by
 have:=hi.2.2.2.1
 rw [List.drop_of_length_le (Nat.le_of_eq (bO aZ bu)),PB] at this
 by_cases h:i.1.1=0
 ·rw [if_pos h,← this,if_pos ⟨h,rfl⟩]
 ·rw [if_neg h,← this,if_neg (fun e=>h e.1)];rfl
theorem vH (lo:Nat) (v:Int):0≤aL lo v∧aL lo v≤v.natAbs:=by
 unfold aL
 simp only [Int.toNat_natCast,kq]
 exact⟨Int.natCast_nonneg _,Int.ofNat_le.mpr (Nat.div_le_self _ _)⟩
theorem qX {v:Int} (h1 : -25<v∧v<25) (h:decide (aL lo v=0)=false):sL lo v≠0 ∧ -25<sL lo v∧sL lo v<25:=by
 have:=vH lo v
 have h:=of_decide_eq_false h
 skip
 unfold sL
 split
 ·exact⟨h,Int.lt_of_lt_of_le (by decide) this.1,(Int.lt_of_le_of_lt this.2 (K0 h1))⟩
 ·exact⟨fun e=>h (Int.neg_eq_zero.mp e),Int.neg_lt_neg (Int.lt_of_le_of_lt this.2 (K0 h1)),Int.lt_of_le_of_lt (Int.neg_nonpos_of_nonneg this.1) (by decide)⟩
theorem qM {sz lo:Nat} {v:Int} {j:Nat×Nat×List Bool} {X T:List Bool} (q:u9 sz lo v j++X=T) (hb:T.length≤700000):(j.2.2++bj sz j.2.1 []++zr sz j.1).length≤800000:=by
 unfold u9 at q
 rw [List.append_assoc,List.append_assoc] at q
 exact Nat.le_trans (tG q hb) (by decide)
end
theorem Ae (E:Ev) (fz:Hp) (sc key tb ra:Addr) (pl:NV) (runs sz run st en hi lo:Nat) (row:List Int) (rest:List (List K)) (b:List UInt8) (ri si:Int) (L T:List Bool) (ht:gx fz tb 1 runs sz) (hk0:fz key=some (.tup [.int 1,.int 0])) (hsc:eO fz sc st en hi lo) (hra:fz ra=some (.list (row.map .int)))
  (hr:run≤8) (h4:4≤runs) (hs:6*runs≤2^sz) (hz:sz≤50) (bu:st≤en) (aZ:en<row.length) (hl:row.length≤25) (hv:∀ x∈row,-25<x∧x<25) (hzr:runs=16∨en+1-st≤runs∧en+1-st≤16) (ok:b5 8 b ri si L)
  (hT:L++aT sz run [] (band (KA lo) row st en::rest)=T) (hb:T.length≤700000) :
  aO (PE E) 6 262 [.id 0,.int 0,.at ra] (AW sc key tb run ri si b) fz fun R=>∀ fz' b' r' s' L' (run':Nat),ak fz fz'->run'≤run+1->b5 8 b' r' s' L'->L'++aT sz run' [] rest=T->R .none (AW sc key tb run' r' s' b') fz':=by
 refine ip hsc fun p d a hsc _ _ _=>?_
 have s1:(0:Int)≤lo:=Int.natCast_nonneg lo
 have he:=Nat.lt_of_lt_of_le aZ hl
 refine aj (bH E) 5 9 4 [some (.id 0),some (.int 0),some (.at ra),none,none,none,none,none,none] (ay E) (ir _) (iG E 5) rfl (by kernel_rfl) rfl rfl rfl rfl fun Q hQ=>?_
 k_extra "w"
 refine ec rfl ?_
 refine bG (eI (j:=4) rfl (N:=en+1-st) (j9 st en) (eK (Nat.lt_of_le_of_lt bu (Nat.lt_of_lt_of_le he (by decide)))).1 (eK (Nat.lt_of_lt_of_le he (by decide))).2) (n':=4) (fun k (i:(Nat×Nat×List Bool)×(Int×Int×List UInt8)×Hp×Option NV×Option NV)=>⟨[some (.id 0),some (.int 0),some (.at ra),some (.int i.1.1),i.2.2.2.1,i.2.2.2.2,none,none,none],AW sc key tb i.1.2.1 i.2.1.1 i.2.1.2.1 i.2.1.2.2++[.range st (en+1) 1],i.2.2.1⟩)
  (vy sz lo st en row (fun r k=>aT sz r k rest) T fz run) ((0,run,L),(ri,si,b),fz,none,none) ⟨Nat.le_refl _,Nat.le_refl _,ok,hT,ak.refl _⟩ (Up.self (Nat.le_succ 4) rfl) (Nat.le_refl 4) (fun _ _ _ _=>trivial) (fun k i hk hi L hL=>?_) fun i hi=>?_
 ·have le:=hi.2.2.2.2
  have hra:=le _ _ hra
  have hsc:=le _ _ hsc
  have hk1:st+k<row.length:=Nat.lt_of_le_of_lt (m8 hk) aZ
  have g:=kh hk1
  skip
  have c2:=(ix hk he).2.2
  k_extra "w"
  refine ey rfl (fun h=>?_) fun h=>?_
  ·k_extra "w"
   exact hL.nx ((i.1.1+1,_,_),(_,_,_),_,_,_) _ (hi.zero aZ hk h) (Up.self (Nat.le_succ 4) rfl)
  ·have q:=hi.some aZ hk hl h
   have v1:=qX (hv (row.getD (st+k) 0) (kg hk1)) h
   skip
   k_extra "w"
   refine ey rfl (fun h2=>?_) fun h2=>?_
   ·k_extra "w"
    refine aq rfl 5 [0,1,2,3] (AW sc key tb i.1.2.1 i.2.1.1 i.2.1.2.1 i.2.1.2.2) [.id 0,.int i.1.1,.int (sL lo (row.getD (st+k) 0))] (qe E i.2.2.1 sc key tb runs sz i.1.2.1 i.1.1 (sL lo (row.getD (st+k) 0)) i.2.1.2.2 i.2.1.1 i.2.1.2.1 i.1.2.2 (ht.keeps le) (le _ _ hk0) (Nat.le_trans hi.2.1 (Nat.le_trans hr (by decide))) h4 hs hz hi.2.2.1 (qM q hb) v1.1 v1.2.1 v1.2.2 (Nat.lt_of_le_of_lt hi.1 (Gm hk aZ hl)) (hzr.imp_right fun e=>⟨Nat.lt_of_le_of_lt hi.1 (Nat.lt_of_lt_of_le hk e.1),Nat.lt_of_le_of_lt hi.1 (Nat.lt_of_lt_of_le hk e.2)⟩)) (Nat.le_refl 5) (by decide) rfl (congrArg (fun z:Int=>[NV.id 0,.int i.1.1,.int z]) (if_pos (of_decide_eq_true h2)).symm) fun fz1 b1 r1 s1 le1 ok1=>?_
    k_extra "w"
    exact hL.nx ((0,0,_),(_,_,_),_,_,_) _ (hi.after q le1 ok1) (Up.self (Nat.le_succ 4) rfl)
   ·k_extra "w"
    refine aq rfl 5 [0,1,2,3] (AW sc key tb i.1.2.1 i.2.1.1 i.2.1.2.1 i.2.1.2.2) [.id 0,.int i.1.1,.int (sL lo (row.getD (st+k) 0))] (qe E i.2.2.1 sc key tb runs sz i.1.2.1 i.1.1 (sL lo (row.getD (st+k) 0)) i.2.1.2.2 i.2.1.1 i.2.1.2.1 i.1.2.2 (ht.keeps le) (le _ _ hk0) (Nat.le_trans hi.2.1 (Nat.le_trans hr (by decide))) h4 hs hz hi.2.2.1 (qM q hb) v1.1 v1.2.1 v1.2.2 (Nat.lt_of_le_of_lt hi.1 (Gm hk aZ hl)) (hzr.imp_right fun e=>⟨Nat.lt_of_le_of_lt hi.1 (Nat.lt_of_lt_of_le hk e.1),Nat.lt_of_le_of_lt hi.1 (Nat.lt_of_lt_of_le hk e.2)⟩)) (Nat.le_refl 5) (by decide) rfl (congrArg (fun z:Int=>[NV.id 0,.int i.1.1,.int z]) (if_neg (of_decide_eq_false h2)).symm) fun fz1 b1 r1 s1 le1 ok1=>?_
    k_extra "w"
    exact hL.nx ((0,0,_),(_,_,_),_,_,_) _ (hi.after q le1 ok1) (Up.self (Nat.le_succ 4) rfl)
 ·have q:=hi.last aZ bu
  have n1:decide ((i.1.2.1:Int)+1=32767)=false:=decide_eq_false fun e=>Nat.ne_of_lt (Nat.lt_of_le_of_lt (Nat.succ_le_succ (Nat.le_trans hi.2.1 hr)) (by decide)) (Int.ofNat_inj.mp e)
  refine ey rfl (fun h=>?_) fun h=>?_
  ·have e:¬ i.1.1=0:=Nat.ne_of_gt (Int.ofNat_lt.mp (of_decide_eq_true h))
   rw [if_neg e] at q
   k_extra "w"
   exact hQ _ _ (Fin.cw (AW sc key tb (i.1.2.1+1:Nat) i.2.1.1 i.2.1.2.1 i.2.1.2.2) rfl rfl rfl rfl fun R hR=>hR _ _ _ _ _ _ hi.2.2.2.2 (Nat.succ_le_succ hi.2.1) hi.2.2.1 q)
  ·have e:i.1.1=0:=Nat.eq_zero_of_not_pos fun x=>of_decide_eq_false h (Int.ofNat_lt.mpr x)
   rw [if_pos e] at q
   k_extra "w"
   exact hQ _ _ (Fin.cw (AW sc key tb i.1.2.1 i.2.1.1 i.2.1.2.1 i.2.1.2.2) rfl rfl rfl rfl fun R hR=>hR _ _ _ _ _ _ hi.2.2.2.2 (Nat.le_succ_of_le hi.2.1) hi.2.2.1 q)
noncomputable def fA (lo:Nat) (v:Int):Int:=sL lo v*2^((lo:Nat):Int).toNat
theorem QT {lo:Nat} {v:Int} (h:aL lo v=0):sL lo v=0:=by unfold sL;rw [h];split<;>rfl
theorem PT {lo:Nat} {v:Int} (h:KA lo v = .z):fA lo v=0:=by
 unfold KA at h
 split at h
 ·rename_i e;unfold fA;rw [QT e,Int.zero_mul]
 ·contradiction
theorem PS {lo s:Nat} {v:Int} {bs:List Bool} (h:KA lo v = .n s bs):s=nb (sL lo v)∧bs=ae (nb (sL lo v)) (bo (sL lo v))∧decide (aL lo v=0)=false:=by
 unfold KA at h
 split at h
 ·contradiction
 ·rename_i e;cases h;exact⟨rfl,rfl,decide_eq_false e⟩
theorem mS {lo:Nat}:∀ {l:List Int},tP (l.map (KA lo))=true
 | []=>rfl
 | v::r=>by
  refine (?_:(_&&tP (r.map (KA lo)))=true)
  rw [mS,Bool.and_true]
  unfold KA;split<;>rfl
structure zS (lo st en:Nat) (kn tr:List Int):Prop where
 aZ:en<tr.length
 hl:tr.length≤25
 he:tr.length=kn.length
 h1:1≤st
 bu:st≤en
 kz:∀ i,st≤i->i≤en->kn.getD i 0=0
 hv:∀ x∈tr,-25<x∧x<25
section
variable {lo st en j z:Nat} {kn tr:List Int}
theorem dN {f:Int->K} {row:List Int} (h:en<row.length) (bu:st≤en) (hj:¬ j<en+1-st):(band f row st en).drop j=[]:=List.drop_eq_nil_of_le (by rw [bO h bu];exact Nat.le_of_not_lt hj)
theorem zS.zs (c:zS lo st en kn tr):∀ {z j:Nat} {q:List K},(band (KA lo) tr st en).drop j=List.replicate z .z++q->j≤en+1-st->j+z≤en+1-st∧q=(band (KA lo) tr st en).drop (j+z)∧setB (fA lo) kn tr st (j+z)=setB (fA lo) kn tr st j
 | 0,j,q,h,hj=>⟨hj,h.symm,rfl⟩
 | z+1,j,q,h,hj=>by
  have hlt:j<en+1-st:=Nat.lt_of_not_le fun hge=>by replace h:=(dN c.aZ c.bu (Nat.not_lt.mpr hge))▸h;contradiction
  simp only [cW c.aZ hlt,List.replicate_succ,List.cons_append,List.cons.injEq] at h
  refine md (c.zs (z:=z) (j:=j+1) h.2 hlt) fun h1 h2 h3=>?_
  rw [Nat.add_assoc,Nat.add_comm 1] at h1 h2 h3
  have hk:st+j≤en:=Nat.le_of_lt_succ (Nat.add_comm _ _▸Nat.add_lt_of_lt_sub hlt)
  exact⟨h1,h2,h3.trans (ot c.he (Nat.lt_of_le_of_lt hk (c.he▸c.aZ)) ((c.kz _ (Nat.le_add_right _ _) hk).trans (PT h.1).symm))⟩
theorem zS.next (c:zS lo st en kn tr) {sz runs:Nat} {rest:List (List K)} {o:List UInt8} {a:Int} {l:List Bool} (hzr:runs=16∨en+1-st≤runs∧en+1-st≤16) (cn:∀ r∈rest,r≠[]) (hj:j<en+1-st) (hr:aX o a (bb sz (fun r k=>aT sz r k rest) 0 [] 0 [] ((band (KA lo) tr st en).drop j)++l)) {G:Prop}
  (gA:∀ z v,z≤15->j+z<en+1-st->z<runs->v≠0 → -25<v->v<25->aX o a (ae sz (6*z+nb v)++(ae (nb v) (bo v)++(bb sz (fun r k=>aT sz r k rest) 0 [] 0 [] ((band (KA lo) tr st en).drop (j+z+1))++l)))->(setB (fA lo) kn tr st j).set (st+(j+z)) (v*2^((lo:Nat):Int).toNat)=setB (fA lo) kn tr st (j+z+1)->G)
  (gB:runs=16->j+15<en+1-st->aX o a (ae sz 90++(bb sz (fun r k=>aT sz r k rest) 0 [] 0 [] ((band (KA lo) tr st en).drop (j+16))++l))->setB (fA lo) kn tr st (j+16)=setB (fA lo) kn tr st j->G)
  (gC:∀ m,m≤rest.length->(∀ r∈rest.take m,ba r=false)->aX o a (bj sz (1+m) []++(aT sz 0 [] (rest.drop m)++l))->setB (fA lo) kn tr st (en+1-st)=setB (fA lo) kn tr st j->(∀ r∈rest,tP r=true)->G) (hc:∀ r∈rest,tP r=true):G:=by
 have hn:tP ((band (KA lo) tr st en).drop j)=true:=by unfold band;rw [← List.map_drop];exact mS
 have hlen:((band (KA lo) tr st en).drop j).length=en+1-st-j:=by rw [List.length_drop,bO c.aZ c.bu]
 have h0:(band (KA lo) tr st en).drop j≠[]:=fun e=>by rw [e] at hlen;exact absurd hlen (Nat.ne_of_lt (Nat.sub_pos_of_lt hj))
 by_cases hN:ba ((band (KA lo) tr st en).drop j)=false
 ·have e:=dG hn hN
  skip
  refine md (c.zs (q:=[]) ((e.trans (List.append_nil _).symm)) (Nat.le_of_lt hj)) fun _ _ h3=>?_
  simp only [((List.length_replicate.symm.trans (congrArg List.length e).symm).trans hlen),Nat.add_sub_cancel' (Nat.le_of_lt hj)] at h3
  refine jT (lq (sz:=sz) rest 1 [] cn (by decide)) fun m m1 m2 m3=>?_
  rw [fT _ _ 0 [] 0 [] hN (.inr (.inr h0)),dX hn] at hr
  have hr:aX o a (aT sz 1 [] rest++l):=hr
  rw [m3] at hr
  have hf:(rest.take m).flatMap dg=[]:=List.flatMap_eq_nil_iff.mpr fun r hr=>dX (hc r (List.mem_of_mem_take hr))
  rw [hf,List.append_assoc] at hr
  exact gC m m1 m2 hr h3 hc
 ·rcases zW (sz:=sz) (fun r k=>aT sz r k rest) _ hn h0 (hlen▸Qh c.h1 c.aZ c.hl) with ⟨z,s,bs,vs',h1,h2,h3⟩ | ⟨vs',h2,h1,h3⟩ | ⟨h1,-⟩
  ·refine md (c.zs h2 (Nat.le_of_lt hj)) fun q1 q2 q3=>?_
   have hlt:j+z<en+1-st:=Nat.lt_of_not_le fun hge=>by replace q2:=(dN c.aZ c.bu (Nat.not_lt.mpr hge))▸q2;contradiction
   rw [cW c.aZ hlt,List.cons.injEq] at q2
   refine md (PS q2.1.symm) fun zp0 zp1 e=>?_;subst zp0;subst zp1
   have v1:=qX (c.hv _ (kg (Nat.lt_of_le_of_lt (m8 hlt) c.aZ))) e
   simp only [h3,q2.2,List.append_assoc,List.append_assoc] at hr
   exact gA z _ h1 hlt (Sp hzr h1 hlt) v1.1 v1.2.1 v1.2.2 hr (q3▸kj c.he (Nat.lt_of_le_of_lt (m8 hlt) (c.he▸c.aZ)))
  ·have h2':(band (KA lo) tr st en).drop j=List.replicate 16 .z++vs':=h2
   refine md (c.zs h2' (Nat.le_of_lt hj)) fun q1 q2 q3=>?_
   have hlt:j+16<en+1-st:=Nat.lt_of_not_le fun hge=>h1 (by rw [q2];exact dN c.aZ c.bu (Nat.not_lt.mpr hge))
   simp only [h3,q2,List.append_assoc] at hr
   exact gB (Sq hzr hlt) (Nat.lt_of_succ_lt hlt) hr q3
  ·exact absurd h1 hN
end
noncomputable def KB (lo:Nat) (v:Int):K:=if aL lo v=0 then .z else if 1<aL lo v then .c (decide (Builtin.bitAnd (aL lo v) 1=1)) else .n 1 [decide (0<v)]
theorem PV {lo:Nat} {v:Int} (h:decide (aL lo v=0)=true):KB lo v = .z:=if_pos (of_decide_eq_true h)
theorem PU {lo:Nat} {v:Int} (h:decide (aL lo v=0)=false) (h2:decide (1<aL lo v)=true):KB lo v = .c (decide (Builtin.bitAnd (aL lo v) 1=1)):=(if_neg (of_decide_eq_false h)).trans (if_pos (of_decide_eq_true h2))
theorem Fn {lo:Nat} {v:Int} (h:decide (aL lo v=0)=false) (h2:decide (1<aL lo v)=false):KB lo v = .n 1 [decide (0<v)]:=(if_neg (of_decide_eq_false h)).trans (if_neg (of_decide_eq_false h2))
theorem Fo {lo:Nat} {v:Int}:(KB lo v).new=decide (aL lo v=1):=by
 have:=(vH lo v).1
 unfold KB
 by_cases h:aL lo v=0
 ·rw [if_pos h,h];rfl
 ·rw [if_neg h]
  by_cases h2:1<aL lo v
  ·rw [if_pos h2];exact (decide_eq_false (by omega)).symm
  ·rw [if_neg h2];exact (decide_eq_true (by omega)).symm
theorem zY (c:Bool):b2i c=(c.toNat:Nat):=by cases c<;>rfl
theorem FF (c:Bool):ae 1 c.toNat=[c]:=by cases c<;>rfl
theorem toNat_lt (c:Bool):c.toNat<2^1:=by cases c<;>decide
theorem Ny (x:Int):Builtin.bitAnd x 1=b2i (decide (Builtin.bitAnd x 1=1)):=by
 rw [bitAnd_m1]
 refine Or.elim (Int.emod_two_eq x) (fun h=>?_) (fun h=>?_)<;>rw [h]<;>rfl
section
variable {sz:Nat} {κ:Nat->List Bool->List Bool} {run z:Nat} {kept here:List Bool} {vs:List K}
theorem k9 {t:K}:ba (t::vs)=(t.new||ba vs):=rfl
theorem pJ {t:K} (ht:t ≠ .z) (hz:16≤z) (hz2:z<32) (hN:ba (t::vs)=true):bb sz κ run kept z here (t::vs)=bj sz run kept++ae sz 90++here++bb sz κ 0 [] (z-16) [] (t::vs):=by
 cases t with
 | z=>exact absurd rfl ht
 | c b =>
  have hN:ba vs=true:=hN
  rw [zP,zP,if_pos hN,if_pos hN,fl,fl,if_pos hz,if_neg (by omega)]
 | n s bs=>rw [zQ,zQ,fl,fl,if_pos hz,if_neg (by omega)]
theorem vb {b:Bool} (h:¬ (16≤z∧ba vs=true)):bb sz κ run kept z here (.c b::vs)=bb sz κ run kept z (here++[b]) vs:=by
 rw [zP]
 by_cases hN:ba vs=true
 ·rw [if_pos hN,fl,if_neg (fun q=>h ⟨q,hN⟩)]
 ·rw [if_neg hN]
theorem yL {s:Nat} {bs:List Bool} (h:z<16):bb sz κ run kept z here (.n s bs::vs)=bj sz run kept++ae sz (6*z+s)++bs++here++bb sz κ 0 [] 0 [] vs:=by
 rw [zQ,fl,if_neg (Nat.not_le.mpr h)]
end
noncomputable def zN (vs:List K) (st k:Nat) (la:Int):Prop:=la<(st:Int)+k∧∀ j,j≤k->decide (((st+j:Nat):Int)≤la)=ba ((vs.take k).drop j)
theorem zN.start {vs:List K} {st:Nat}:zN vs st 0 ((st:Int)-1):=⟨by omega,fun j hj=>by
 cases Nat.le_zero.mp hj;exact decide_eq_false (by omega)⟩
theorem wK {a b:List K}:ba (a++b)=(ba a||ba b):=List.any_append
theorem zN.step {vs:List K} {st k:Nat} {la:Int} (h:zN vs st k la) {t:K} (ht:vs[k]?=some t):zN vs st (k+1) (if t.new=true then (st:Int)+k else la):=by
 have hk:=(List.getElem?_eq_some_iff.mp ht).1
 have e:vs.take (k+1)=vs.take k++[t]:=by rw [List.take_add_one,ht];rfl
 have hl:(vs.take k).length=k:=by rw [List.length_take];omega
 refine⟨by have:=h.1;split<;>omega,fun j hj=>?_⟩
 rw [e]
 by_cases hjk:j≤k
 ·rw [List.drop_append_of_le_length (by simp only [hl];exact hjk),wK,← h.2 j hjk]
  cases hn:t.new with
  | true=>rw [if_pos rfl,show ba [t]=true by rw [k9,hn];rfl,Bool.or_true];exact decide_eq_true (by omega)
  | false=>rw [if_neg Bool.false_ne_true,show ba [t]=false by rw [k9,hn];rfl,Bool.or_false]
 ·have ej:j=k+1:=by omega
  subst ej
  rw [List.drop_eq_nil_of_le (by rw [List.length_append,hl];exact Nat.le_refl _)]
  have:=h.1
  exact decide_eq_false (by split<;>omega)
noncomputable def DW (sc tb:Addr) (r s:Int) (b:List UInt8):List NO:=[.inst 398 [(5,.at sc),(6,.id 1)],.inst 755 [(12,.at tb),(25,.id 2)],.inst 139 [(0,.id 3),(1,.int r),(2,.int s)],.aB b]
noncomputable def dB (lo:Nat) (v:Int):Nat:=(v.fdiv (2^((lo:Nat):Int).toNat)%2).toNat
theorem Km (lo:Nat) (v:Int):Builtin.bitAnd (v.fdiv (2^((lo:Nat):Int).toNat)) 1=(dB lo v:Nat):=by
 rw [bitAnd_m1,dB,Int.toNat_of_nonneg (Int.emod_nonneg _ (by decide))]
theorem EO (lo:Nat) (v:Int):dB lo v<2^1:=by
 skip
 unfold dB;omega
theorem tY {row:List Int} (h:0<row.length):((row.map AV.int).map fv)[(0:Int).toNat]?=some (.int (row.getD 0 0)):=kh (st:=0) (k:=0) h
theorem v7 (E:Ev) (fz:Hp) (sc tb ra:Addr) (st en hi lo:Nat) (row:List Int) (b:List UInt8) (ri si:Int) (L:List Bool) (hsc:eO fz sc st en hi lo) (hra:fz ra=some (.list (row.map .int))) (h0:0<row.length) (ok:b5 8 b ri si L) (hb:L.length≤800000) :
  aO (PE E) 3 388 [.id 0,.int 0,.at ra] (DW sc tb ri si b) fz fun R=>∀ b' r' s',b5 8 b' r' s' (L++ae 1 (dB lo (row.getD 0 0)))->R .none (DW sc tb r' s' b') fz:=by
 refine ip hsc fun p d a hsc _ _ _=>?_
 skip
 have g:=tY h0
 refine aj (bH E) 2 3 4 [some (.id 0),some (.int 0),some (.at ra)] (ay E) (gM _) (hM E 2) rfl (by kernel_rfl) rfl rfl rfl rfl fun Q hQ=>?_
 k_extra "w"
 refine aq rfl 2 [1,2,3] (SK tb ri si b) [.id 0,.int (dB lo (row.getD 0 0)),.int (1:Nat)] (dv E fz tb b ri si L 1 _ ok (by decide) (EO lo _) (Nat.le_trans hb (by decide))) (Nat.le_refl 2) (by decide) rfl (congrArg (fun z:Int=>[NV.id 1,.int z,.int 1]) (Km lo _)) fun b' r' s' ok'=>?_
 k_extra "w"
 exact hQ _ _ (Fin.w rfl fun R hR=>hR _ _ _ ok')
noncomputable def DF (sc tb:Addr) (bf:Int) (r s:Int) (b:List UInt8):List NO:=[.inst 356 [(5,.at sc),(6,.id 1),(11,.id 4)],.inst 755 [(12,.at tb),(25,.id 2)],.inst 139 [(0,.id 3),(1,.int r),(2,.int s)],.aB b,.list [.int bf]]
noncomputable abbrev dL (lo:Nat) (v:Int):Int:=v.fdiv (2^((lo:Nat):Int).toNat)
noncomputable def dE (sz:Nat) (d:Int):List Bool:=ae sz (nb d)++ae (nb d) (bo d)
theorem Qn {sz:Nat} {d:Int} (q:nb d=0):dE sz d=ae sz (nb d):=by
 unfold dE;rw [show ae (nb d) (bo d)=[] by rw [q];rfl,List.append_nil]
theorem r6 {v:Int} (h1 : -25<v) (h2:v<25):nb v<6∧bo v<2^nb v∧(if v<0 then v+2^nb v-1 else v)=(bo v:Nat)∧((nb v:Nat):Int)=sym (nb v):=by
 have key:nb v<6∧bo v<2^nb v∧(if v<0 then v+2^nb v-1 else v)=(bo v:Nat):=by
  by_cases h:v=0
  ·subst h;decide +kernel
  ·exact (mR h h1 h2).2
 exact⟨key.1,key.2.1,key.2.2,by unfold sym;simp only [Nat.div_eq_of_lt key.1,Nat.mod_eq_of_lt key.1];simp⟩
theorem yT {sz v:Nat} {L:List Bool} (hb:L.length≤800000) (hz:sz≤50):(L++ae sz v).length≤900000:=by rw [List.length_append,ax];omega
set_option maxHeartbeats 2000000 in
theorem vY (E:Ev) (fz:Hp) (sc tb ra:Addr) (runs sz st en hi lo:Nat) (bf:Int) (row:List Int) (b:List UInt8) (ri si:Int) (L:List Bool) (ht:gx fz tb 0 runs sz) (hsc:eO fz sc st en hi lo) (hra:fz ra=some (.list (row.map .int))) (h0:0<row.length) (h4:4≤runs) (hs:6*runs≤2^sz) (hz:sz≤50)
  (d1 : -25<dL lo (row.getD 0 0)-bf) (d2:dL lo (row.getD 0 0)-bf<25) (ok:b5 8 b ri si L) (hb:L.length≤800000) :
  aO (PE E) 4 346 [.id 0,.int 0,.at ra] (DF sc tb bf ri si b) fz fun R=>∀ fz' b' r' s',ak fz fz'->b5 8 b' r' s' (L++dE sz (dL lo (row.getD 0 0)-bf))->R .none (DF sc tb (dL lo (row.getD 0 0)) r' s' b') fz':=by
 refine ip hsc fun p d a hsc _ hd _=>?_
 have s1:(0:Int)≤lo:=Int.natCast_nonneg lo
 have g:=tY h0
 have n1:=r6 d1 d2
 have n2:=n1.2.2.1
 have n3:=lb (n:=nb (dL lo (row.getD 0 0)-bf)) (Nat.le_trans (Nat.le_of_lt n1.1) (by decide))
 have n4:(0:Int)≤(Builtin.Int.intBits ((dL lo (row.getD 0 0)-bf).natAbs:Int):Nat):=n3.2.2.1
 have n5:((Builtin.Int.intBits ((dL lo (row.getD 0 0)-bf).natAbs:Int):Nat):Int)≤1000000:=n3.2.2.2
 have n6:=pU
 refine aj (bH E) 3 8 5 [some (.id 0),some (.int 0),some (.at ra),none,none,none,none,none] (ay E) (iz _) (iK E 3) rfl (by kernel_rfl) rfl rfl rfl rfl fun Q hQ=>?_
 k_extra "w"
 refine dq rfl fun key fz1 (le:ak fz fz1) e=>?_
 k_extra "w"
 have hl:nb (dL lo (row.getD 0 0)-bf)<6*runs:=Nat.lt_of_lt_of_le n1.1 (Nat.le_trans (by decide) (Nat.mul_le_mul_left 6 h4))
 refine aq rfl 3 [1,2,3] (SK tb ri si b) [.id 0,.at key,.int (sym (nb (dL lo (row.getD 0 0)-bf)))] (dO E fz1 tb key 0 runs sz _ b ri si L (ht.keeps le) e hl (Nat.lt_of_lt_of_le hl hs) hz ok (Nat.le_trans hb (by decide))) (Nat.le_refl 3) (by decide) rfl (congrArg (fun z:Int=>[NV.id 1,.at key,.int z]) n1.2.2.2) fun b1 r1 s1 ok1=>?_
 have cs:=dv E fz1 tb b1 r1 s1 _ (nb (dL lo (row.getD 0 0)-bf)) (bo (dL lo (row.getD 0 0)-bf)) ok1 (Nat.le_trans (Nat.le_of_lt n1.1) (by decide)) n1.2.1 (yT hb hz)
 k_extra "w"
 refine ey rfl (fun h=>?_) fun h=>?_
 ·k_extra "w"
  refine ey rfl (fun h2=>?_) fun h2=>?_
  ·have q:=(if_pos (of_decide_eq_true h2)).symm.trans n2
   k_extra "w"
   refine aq rfl 2 [1,2,3] (SK tb r1 s1 b1) [.id 0,.int (bo (dL lo (row.getD 0 0)-bf)),.int (nb (dL lo (row.getD 0 0)-bf))] cs (by decide) (by decide) rfl (congrArg (fun z:Int=>[NV.id 1,.int z,.int (nb (dL lo (row.getD 0 0)-bf))]) q) fun b2 r2 s2 ok2=>?_
   k_extra "w"
   exact hQ _ _ (Fin.w rfl fun R hR=>hR _ _ _ _ le (by rw [dE,← List.append_assoc];exact ok2))
  ·have q:=(if_neg (of_decide_eq_false h2)).symm.trans n2
   k_extra "w"
   refine aq rfl 2 [1,2,3] (SK tb r1 s1 b1) [.id 0,.int (bo (dL lo (row.getD 0 0)-bf)),.int (nb (dL lo (row.getD 0 0)-bf))] cs (by decide) (by decide) rfl (congrArg (fun z:Int=>[NV.id 1,.int z,.int (nb (dL lo (row.getD 0 0)-bf))]) q) fun b2 r2 s2 ok2=>?_
   k_extra "w"
   exact hQ _ _ (Fin.w rfl fun R hR=>hR _ _ _ _ le (by rw [dE,← List.append_assoc];exact ok2))
 ·have q:nb (dL lo (row.getD 0 0)-bf)=0:=Nat.eq_zero_of_not_pos fun x=>of_decide_eq_false h (Int.ofNat_lt.mpr x)
  k_extra "w"
  exact hQ _ _ (Fin.w rfl fun R hR=>hR _ _ _ _ le (by rw [Qn q];exact ok1))
noncomputable def DR (sc:Addr) (o:List UInt8) (a:Int):List NO:=[.inst 482 [(5,.at sc),(10,.id 1)],BR o a]
noncomputable def Kp (lo:Nat) (row:List Int) (c:Bool):List Int:=if c then Builtin.bitOr (row.getD 0 0) (2^((lo:Nat):Int).toNat)::row.drop 1 else row
theorem v3 (E:Ev) (fz:Hp) (sc ra:Addr) (st en hi lo:Nat) (row:List Int) (o:List UInt8) (a:Int) (c:Bool) (l:List Bool) (hsc:eO fz sc st en hi lo) (hra:fz ra=some (.list (row.map .int))) (h0:0<row.length) (hl:row.length≤25) (h1:((row.map AV.int).map fv)[(0:Int).toNat]?=some (.int (row.getD 0 0))) (h2:lo≤20) (hr:aX o a (c::l)) :
  aO (PE E) 2 472 [.id 0,.int 0,.at ra] (DR sc o a) fz fun R=>∀ fz' x,ak fz fz'->fz' x=some (.list ((Kp lo row c).map .int))->R (.at x) (DR sc o (a+1)) fz':=by
 refine ip hsc fun p d ac hsc _ _ _=>?_
 have s1:(0:Int)≤lo:=Int.natCast_nonneg lo
 have s2:(lo:Int)≤1000000:=by omega
 have s3:((row.map AV.int).map fv).length≤1000000:=by rw [List.length_map,List.length_map];omega
 have s4:=pU
 have s5:(((row.map AV.int).map fv).drop (Int.toNat 1)).length≤1000000:=by rw [List.length_drop];omega
 have s6:1+(((row.map AV.int).map fv).drop (Int.toNat 1)).length≤1000000:=by rw [List.length_drop,List.length_map,List.length_map];omega
 refine aj (bH E) 1 4 2 [some (.id 0),some (.int 0),some (.at ra),none] (ay E) (gL _) (hK E 1) rfl (by kernel_rfl) rfl rfl rfl rfl fun Q hQ=>?_
 k_extra "w"
 refine aq rfl 1 [1] [BR o a] [.id 0] (qb E fz o a c l hr) (Nat.le_refl 1) (by decide) rfl rfl ?_
 cases c with
 | false =>
  k_extra "w"
  exact hQ _ _ (Fin.fr 2 (row.map .int) (DR sc o (a+1)) rfl rfl rfl rfl rfl fun x fz' le e R hR=>hR fz' x le e)
 | true =>
  k_extra "w"
  exact hQ _ _ (Fin.fr 5 ((Kp lo row true).map .int) (DR sc o (a+1)) rfl (congrArg (fun l=>some (NO.list (NV.int (Builtin.bitOr (row.getD 0 0) (2^((lo:Nat):Int).toNat))::l))) ((congrArg (List.drop 1) rfl).trans (by rw [List.map_drop,List.map_drop]))) rfl rfl rfl fun x fz' le e R hR=>hR fz' x le e)
noncomputable def DG (sc tb:Addr) (bf:Int) (o:List UInt8) (a:Int):List NO:=[.inst 440 [(5,.at sc),(12,.at tb),(11,.id 1),(10,.id 2)],.list [.int bf],BR o a]
theorem rz {d:Int} (h1 : -25<d) (h2:d<25):(0<nb d->decide ((bo d:Int)<2^((nb d:Int)-1).toNat)=true->(bo d:Int)-2^((nb d:Nat):Int).toNat+1=d)∧(0<nb d->decide ((bo d:Int)<2^((nb d:Int)-1).toNat)=false->(bo d:Int)=d)∧(nb d=0->d=0):=by
 have key:∀ r:_root_.Fin 49,(0<nb (r.1-24)->decide ((bo (r.1-24):Int)<2^((nb (r.1-24):Int)-1).toNat)=true->(bo (r.1-24):Int)-2^((nb (r.1-24):Nat):Int).toNat+1=(r.1:Int)-24)∧(0<nb (r.1-24)->decide ((bo (r.1-24):Int)<2^((nb (r.1-24):Int)-1).toNat)=false->(bo (r.1-24):Int)=(r.1:Int)-24)∧(nb (r.1-24)=0->(r.1:Int)-24=0):=by decide +kernel
 have:=key ⟨(d+24).toNat,by omega⟩
 rwa [show (((⟨(d+24).toNat,by omega⟩:_root_.Fin 49).1:Nat):Int)-24=d by simp only;omega] at this
theorem aX.skip {o:List UInt8} {a:Int} {n v:Nat} {l:List Bool} (h:aX o a (ae n v++l)):aX o (a+n) l:=by
 have:=h.at (Nat.le_of_eq (ax n v).symm)
 rwa [List.drop_of_length_le (Nat.le_of_eq (ax n v)),List.nil_append] at this
theorem ma (E:Ev) (fz:Hp) (o:List UInt8) (a:Int) (n v:Nat) (l:List Bool) (h:aX o a (ae n v++l)) (hn:n≤1000) (h0:0<n) (hv:v<2^n):aO (PE E) 2 178 [.id 0,.int n] [BR o a] fz fun R=>R (.int v) [BR o (a+n)] fz:=by
 have:=FO E fz o a (ae n v) l h (by rw [ax];exact hn) (fun e=>by rw [← ax n v,e] at h0;exact (Nat.not_lt_zero _ h0).elim)
 rwa [ax,lQ,Nat.mod_eq_of_lt hv] at this
theorem mP {lo:Nat} (h:lo≤20):small (2^((lo:Nat):Int).toNat):=by
 have key:∀ r:_root_.Fin 21,(2:Int)^((r.1:Nat):Int).toNat<2^64 ∧ -(2^64)<(2:Int)^((r.1:Nat):Int).toNat:=by decide +kernel
 have:=key ⟨lo,(Nat.lt_of_le_of_lt (by assumption) (by decide))⟩
 exact⟨this.2,this.1⟩
theorem oR (x:Int) (row:List Int):some (NO.list (NV.int x::((row.map AV.int).map fv).drop (Int.toNat 1)))=some (.list (((x::row.drop 1).map AV.int).map fv)):=by
 rw [← List.map_drop,← List.map_drop];rfl
theorem TabAt.inst {fz:Hp} {t:Addr} {runs sz:Nat} (h:TabAt fz t runs sz):∃ fs,fz t=some (.inst 678 fs):=jg h fun _ h=>⟨_,h.h1⟩
theorem vZ (E:Ev) (fz:Hp) (sc tb ra:Addr) (runs sz st en hi lo:Nat) (bf d:Int) (row:List Int) (o:List UInt8) (a:Int) (l:List Bool) (ht:gx fz tb 0 runs sz) (hsc:eO fz sc st en hi lo) (hra:fz ra=some (.list (row.map .int))) (hl:row.length≤25) (h2:lo≤20) (h4:4≤runs) (hs:6*runs≤2^sz) (hz:sz≤16) (hz0:0<sz) (d1 : -25<d) (d2:d<25) (hr:aX o a (dE sz d++l)) :
  aO (PE E) 3 430 [.id 0,.int 0,.at ra] (DG sc tb bf o a) fz fun R=>∀ fz' x,ak fz fz'->fz' x=some (.list ((((bf+d)*2^((lo:Nat):Int).toNat)::row.drop 1).map .int))->R (.at x) (DG sc tb (bf+d) o (a+sz+nb d)) fz':=by
 refine ip hsc fun p sl ac hsc _ hsl _=>?_
 refine nH ht fun kv t e1 e2 ht=>?_
 refine jg ht.inst fun tf ti=>?_
 have s1:(0:Int)≤lo:=Int.natCast_nonneg lo
 have n1:=r6 d1 d2
 have s2:((lo:Nat):Int)≤(1000000:Nat):=Int.ofNat_le.mpr (Nat.le_trans h2 (by decide))
 have s4:=pU
 have s5:=mP h2
 have s6:((row.map AV.int).map fv).length≤1000000:=by rw [List.length_map,List.length_map];omega
 have s7:(((row.map AV.int).map fv).drop (Int.toNat 1)).length≤1000000:=by rw [List.length_drop];omega
 have s8:1+(((row.map AV.int).map fv).drop (Int.toNat 1)).length≤1000000:=by rw [List.length_drop,List.length_map,List.length_map];omega
 have hr:=(by rw [dE,List.append_assoc] at hr;exact hr:aX o a (ae sz (nb d)++(ae (nb d) (bo d)++l)))
 refine aj (bH E) 2 9 3 [some (.id 0),some (.int 0),some (.at ra),none,none,none,none,none,none] (ay E) (iy _) (iJ E 2) rfl (by kernel_rfl) rfl rfl rfl rfl fun Q hQ=>?_
 k_extra "w"
 refine dq rfl fun key fz1 (le:ak fz fz1) e=>?_
 have e1:=le _ _ e1
 have ti:=le _ _ ti
 have hsc:=le _ _ hsc
 have hra:=le _ _ hra
 k_extra "w"
 refine ec rfl ⟨[0,0],.at t,rfl,e2,?_⟩
 k_extra "w"
 have hn:nb d<6*runs:=Nat.lt_of_lt_of_le n1.1 (Nat.le_trans (by decide) (Nat.mul_le_mul_left 6 h4))
 refine aq rfl 2 [2] [BR o a] [.at t,.id 0] (jD E fz1 t runs sz (nb d) o a _ (ht.keeps le) hn (Nat.lt_of_lt_of_le hn hs) hz hz0 hr) (Nat.le_refl 2) (by decide) rfl rfl ?_
 refine n1.2.2.2▸?_
 have v:=rz d1 d2
 have n2:decide ((15:Int)<(nb d:Nat))=false:=decide_eq_false (Int.not_lt.mpr (Int.ofNat_le.mpr (Nat.le_trans (Nat.le_of_lt n1.1) (by decide))))
 k_extra "w"
 refine ey rfl (fun h=>?_) fun h=>?_
 ·have h0:0<nb d:=Int.ofNat_lt.mp (of_decide_eq_true h)
  have cb:=ma E fz1 o (a+sz) (nb d) (bo d) l hr.skip (Nat.le_trans (Nat.le_of_lt n1.1) (by decide)) h0 n1.2.1
  k_extra "w"
  refine aq rfl 2 [2] [BR o (a+sz)] [.id 0,.int (nb d)] cb (Nat.le_refl 2) (by decide) rfl rfl ?_
  have q1:(0:Int)≤(nb d:Nat)-1:=by omega
  have q2:((nb d:Nat):Int)-1≤1000000:=by omega
  have q3:(0:Int)≤(nb d:Nat):=Int.natCast_nonneg _
  have q4:((nb d:Nat):Int)≤1000000:=by omega
  k_extra "w"
  refine ey rfl (fun h2=>?_) fun h2=>?_
  ·k_extra "w"
   exact hQ _ _ (Fin.fr 6 ((((bf+((bo d:Int)-2^((nb d:Nat):Int).toNat+1))*2^((lo:Nat):Int).toNat)::row.drop 1).map .int) (DG sc tb (bf+((bo d:Int)-2^((nb d:Nat):Int).toNat+1)) o (a+sz+nb d)) rfl (oR _ row) rfl rfl rfl fun x fz' le' e R hR=>by
    rw [v.1 h0 h2] at e ⊢;exact hR fz' x (le.trans le') e)
  ·k_extra "w"
   exact hQ _ _ (Fin.fr 6 ((((bf+(bo d:Int))*2^((lo:Nat):Int).toNat)::row.drop 1).map .int) (DG sc tb (bf+(bo d:Int)) o (a+sz+nb d)) rfl (oR _ row) rfl rfl rfl fun x fz' le' e R hR=>by
    rw [v.2.1 h0 h2] at e ⊢;exact hR fz' x (le.trans le') e)
 ·have h0:nb d=0:=Nat.eq_zero_of_not_pos fun x=>of_decide_eq_false h (Int.ofNat_lt.mpr x)
  k_extra "w"
  exact hQ _ _ (Fin.fr 6 (((bf*2^((lo:Nat):Int).toNat)::row.drop 1).map .int) (DG sc tb bf o (a+sz)) rfl (oR _ row) rfl rfl rfl fun x fz' le' e R hR=>by
   rw [v.2.2 h0,Int.add_zero,show ((nb 0:Nat):Int)=0 from rfl,Int.add_zero] at hR;exact hR fz' x (le.trans le') e)
noncomputable def AR (sc t:Addr) (run:Int) (o:List UInt8) (a:Int):List NO:=[.inst 314 [(5,.at sc),(9,.at t),(10,.id 1),(8,.int run)],BR o a]
noncomputable def vD (sz run:Nat) (rows:List (List K)) (pad l:List Bool):Prop:=run≤rows.length∧(∀ r∈rows.take run,ba r=false)∧l=aT sz 0 [] (rows.drop run)++pad
noncomputable abbrev aS (sc t ra:Addr) (o:List UInt8) (en:Nat) (k:Int) (a:Int) (xs:List NV) (x y z:Option NV) (g:Hp):NS:=⟨[some (.id 0),some (.int 0),some (.at ra),some (.id 2),some (.int k),some (.int en),x,y,z,none,none,none],AR sc t (0:Nat) o a++[.list xs],g⟩
theorem sX {sc t ra:Addr} {o:List UInt8} {en:Nat} {k k':Int} {a:Int} {xs xs':List NV} {x y z:Option NV} {g:Hp} (e:k=k') (e2:xs=xs'):aS sc t ra o en k a xs x y z g=aS sc t ra o en k' a xs' x y z g:=e▸e2▸rfl
theorem bF {z s:Nat} (h:s<6):(sym (6*z+s)).fdiv (2^(4:Int).toNat)=z∧Builtin.bitAnd (sym (6*z+s)) 15=s:=by
 rw [sM h]
 skip
 exact⟨(kq _ 4).trans (congrArg _ (by rw [Nat.mul_add_div (by decide),Nat.div_eq_of_lt (Nat.lt_of_lt_of_le h (by decide:6≤2^4))];rfl)),(sZ _ 4).trans (congrArg _ (by rw [Nat.mul_add_mod,Nat.mod_eq_of_lt (Nat.lt_of_lt_of_le h (by decide:6≤2^4))]))⟩
theorem gP {xs:List Int} {k:Int} {n:Nat} {v:Int} (e:k=n):((xs.map AV.int).map fv).set k.toNat (.int v)=((xs.set n v).map AV.int).map fv:=by
 subst e;simp only [Int.toNat_natCast,List.map_set,List.map_set];rfl
theorem bJ {xs:List Int}:((xs.map AV.int).map fv).length=xs.length:=by rw [List.length_map,List.length_map]
theorem zS.skip {lo st en:Nat} {kn tr:List Int} (c:zS lo st en kn tr) (h:ba (band (KA lo) tr st en)=false):setB (fA lo) kn tr st (en+1-st)=kn:=by
 skip
 skip
 have:=(c.zs (j:=0) (z:=en+1-st) (q:=[]) (by rw [List.drop_zero,List.append_nil,← ((List.length_replicate.symm.trans (congrArg List.length (dG (mS (lo:=lo) (l:=(tr.drop st).take (en+1-st))) h)).symm).trans (bO c.aZ c.bu))];exact (dG (mS (lo:=lo) (l:=(tr.drop st).take (en+1-st))) h)) (Nat.zero_le _)).2.2
 rw [Nat.zero_add] at this
 rw [this,pL]
theorem yP (m:Nat):(2:Int)^(((1+m).log2:Nat):Int).toNat-1+(1+m-2^(1+m).log2:Nat)=m:=by
 have h:=Nat.log2_self_le (n:=1+m) (by omega)
 simp only [Int.toNat_natCast,Int.natCast_sub h]
 push_cast
 omega
theorem oq {m:Nat} (h:¬ (0:Int)<((1+m).log2:Nat)):m=0:=by
 apply Nat.eq_zero_of_not_pos
 intro hm
 exact h (Int.ofNat_lt.mpr ((Nat.le_log2 (k:=1) (by omega)).mpr (by omega)))
theorem Kw {st j en:Nat} (h:decide (((st+j:Nat):Int)≤(en:Nat))=true):j<en+1-st:=by have:=of_decide_eq_true h;omega
theorem Qp {st j en:Nat} (h:decide (((st+j:Nat):Int)≤(en:Nat))=false) (hi:j≤en+1-st) (bu:st≤en):j=en+1-st:=by have:=of_decide_eq_false h;omega
theorem ET {st j z en:Nat} (h:j+z<en+1-st):decide ((en:Int)<((st+j:Nat):Int)+z)=false:=decide_eq_false (Int.not_lt.mpr (Int.ofNat_le.mpr (PF h)))
set_option maxHeartbeats 4000000 in
theorem vX (E:Ev) (fz:Hp) (sc t ra:Addr) (runs sz st en hi lo run:Nat) (kn tr:List Int) (rest:List (List K)) (o:List UInt8) (a:Int) (l pad:List Bool) (ht:TabAt fz t runs sz) (hsc:eO fz sc st en hi lo) (hra:fz ra=some (.list (kn.map .int))) (c:zS lo st en kn tr)
  (h2:lo≤20) (h4:4≤runs) (hs:6*runs≤2^sz) (hz:sz≤16) (hz0:0<sz) (hzr:runs=16∨en+1-st≤runs∧en+1-st≤16) (cn:∀ r∈rest,r≠[]) (hc:∀ r∈rest,tP r=true) (h8:rest.length≤8) (hr:aX o a l) (hl:vD sz run (band (KA lo) tr st en::rest) pad l) :
  aO (PE E) 3 304 [.id 0,.int 0,.at ra] (AR sc t run o a) fz fun R=>∀ fz' x a' l' (run':Nat),ak fz fz'->fz' x=some (.list ((setB (fA lo) kn tr st (en+1-st)).map .int))->aX o a' l'->vD sz run' rest pad l'->R (.at x) (AR sc t run' o a') fz':=by
 refine ip hsc fun p sl ac hsc _ _ _=>?_
 have s1:((kn.map AV.int).map fv).length≤1000000:=by rw [bJ,← c.he];exact Nat.le_trans c.hl (by decide)
 cases run with
 | succ r =>
  have d1:=yB (Nat.succ_pos r)
  refine aj (bH E) 2 12 2 [some (.id 0),some (.int 0),some (.at ra),none,none,none,none,none,none,none,none,none] (ay E) (cU _) (cV E 2) rfl (by kernel_rfl) rfl rfl rfl rfl fun Q hQ=>?_
  k_extra "w"
  exact hQ _ _ (Fin.fr 2 (kn.map .int) (AR sc t ((r+1:Nat)-1) o a) rfl rfl rfl rfl rfl fun x fz' le e R hR=>(congrArg (fun z:Int=>R (.at x) (AR sc t z o a) fz') (Int.add_sub_cancel _ 1)).mpr (hR fz' x a l r le (by rw [c.skip (hl.2.1 _ (.head _))];exact e) hr ⟨Nat.le_of_succ_le_succ hl.1,fun q hq=>hl.2.1 q (.tail _ hq),hl.2.2⟩))
 | zero =>
  refine md hl fun _ _ zp2=>?_;subst zp2
  have sm:=pU
  refine aj (bH E) 2 12 2 [some (.id 0),some (.int 0),some (.at ra),none,none,none,none,none,none,none,none,none] (ay E) (cU _) (cV E 2) rfl (by kernel_rfl) rfl rfl rfl rfl fun Q hQ=>?_
  k_extra "w"
  refine dq rfl fun tp fz0 (le0:ak fz fz0) e0=>?_
  k_extra "w"
  refine ec rfl ?_
  refine nt 3 (fun i:Nat×Int×Hp×Option NV×Option NV×Option NV=>aS sc t ra o en ((st+i.1:Nat):Int) i.2.1 (((setB (fA lo) kn tr st i.1).map AV.int).map fv) i.2.2.2.1 i.2.2.2.2.1 i.2.2.2.2.2 i.2.2.1)
   (fun i=>i.1≤en+1-st∧aX o i.2.1 (bb sz (fun r k=>aT sz r k rest) 0 [] 0 [] ((band (KA lo) tr st en).drop i.1)++pad)∧ak fz i.2.2.1) (fun i=>en+1-st-i.1) (0,a,fz0,none,none,none) ⟨Nat.zero_le _,hr,le0⟩ (Up.self (Nat.le_refl 3) (sX rfl (by rw [pL]))) (by decide) fun i hi L hL=>?_
  have hsc:=hi.2.2 _ _ hsc
  have ht:=ht.keeps hi.2.2
  refine ey rfl (fun h=>?_) fun h=>?_
  ·have hj:=Kw h
   have tl:=fV (f:=fA lo) (j:=i.1) c.he (Nat.le_trans (PF (z:=0) hj) (Nat.le_of_lt (c.he▸c.aZ)))
   refine jg ht.inst fun _ ti=>?_
   refine c.next hzr cn hj hi.2.1 (fun z v z15 hjz hzr v0 v1 v2 hr' hset=>?_) (fun h16 hjz hr' hset=>?_) (fun m m1 m2 hr' hset _=>?_) hc
   ·have n1:=mR v0 v1 v2
    have hx:6*z+nb v<6*runs:=Nat.lt_of_lt_of_le (Nat.add_lt_add_left n1.2.1 _) (Nat.mul_le_mul_left 6 hzr)
    k_extra "w"
    refine aq rfl 2 [1] [BR o i.2.1] [.at t,.id 0] (jD E i.2.2.1 t runs sz (6*z+nb v) o i.2.1 _ ht hx (Nat.lt_of_lt_of_le hx hs) hz hz0 hr') (Nat.le_refl 2) (by decide) rfl rfl ?_
    k_extra "w"
    refine dq rfl fun tp fz1 (le1:ak i.2.2.1 fz1) e1=>?_
    have hsc:=le1 _ _ hsc
    have e1:fz1 tp=some (.tup [.int z,.int (nb v)]):=(bF n1.2.1).1▸(bF n1.2.1).2▸e1
    have f1:=K2 n1.1
    have f2:=ET hjz
    have f3:=yB n1.1
    have q1:=(E9 n1.1 (Nat.le_of_lt n1.2.1) (by decide)).1
    have q2:=(E9 n1.1 (Nat.le_of_lt n1.2.1) (by decide)).2
    have q3:(0:Int)≤(nb v:Nat):=Int.natCast_nonneg _
    have q4:=oI (Nat.le_of_lt n1.2.1) (by decide)
    have q5:(0:Int)≤lo:=Int.natCast_nonneg lo
    have q6:((lo:Nat):Int)≤(1000000:Nat):=oI h2 (by decide)
    have q7:=mP h2
    have q8:(0:Int)≤((st+i.1:Nat):Int)+z:=Int.natCast_nonneg (st+i.1+z)
    have q9:=KS hjz c.aZ c.hl
    have q10:(((st+i.1:Nat):Int)+z).toNat<(((setB (fA lo) kn tr st i.1).map AV.int).map fv).length:=by rw [bJ,tl];exact Nat.lt_of_le_of_lt (PF hjz) (c.he▸c.aZ)
    have cb:=ma E fz1 o (i.2.1+sz) (nb v) (bo v) _ hr'.skip (Nat.le_trans (Nat.le_of_lt n1.2.1) (by decide)) n1.1 n1.2.2.1
    have vo:=rz v1 v2
    k_extra "w"
    refine aq rfl 2 [1] [BR o (i.2.1+sz)] [.id 0,.int (nb v)] cb (Nat.le_refl 2) (by decide) rfl rfl ?_
    k_extra "w"
    refine ey rfl (fun h2=>?_) fun h2=>?_
    ·k_extra "w"
     exact hL.nx (i.1+z+1,_,_,_,_,_) _ ⟨hjz,hr'.skip.skip,hi.2.2.trans le1⟩ (Nat.sub_lt_sub_left hj (Nat.lt_succ_of_le (Nat.le_add_right _ _))) (Up.self (Nat.le_refl 3) (sX (congrArg (fun n:Nat=>((n+1:Nat):Int)) (Nat.add_assoc st i.1 z)) ((gP (n:=st+(i.1+z)) (congrArg Nat.cast (Nat.add_assoc st i.1 z))).trans (by rw [vo.1 n1.1 h2,hset]))))
    ·k_extra "w"
     exact hL.nx (i.1+z+1,_,_,_,_,_) _ ⟨hjz,hr'.skip.skip,hi.2.2.trans le1⟩ (Nat.sub_lt_sub_left hj (Nat.lt_succ_of_le (Nat.le_add_right _ _))) (Up.self (Nat.le_refl 3) (sX (congrArg (fun n:Nat=>((n+1:Nat):Int)) (Nat.add_assoc st i.1 z)) ((gP (n:=st+(i.1+z)) (congrArg Nat.cast (Nat.add_assoc st i.1 z))).trans (by rw [vo.2.1 n1.1 h2,hset]))))
   ·have hx:6*15+0<6*runs:=h16▸(by decide)
    k_extra "w"
    refine aq rfl 2 [1] [BR o i.2.1] [.at t,.id 0] (jD E i.2.2.1 t runs sz (6*15+0) o i.2.1 _ ht hx (Nat.lt_of_lt_of_le hx hs) hz hz0 hr') (Nat.le_refl 2) (by decide) rfl rfl ?_
    k_extra "w"
    refine dq rfl fun tp fz1 (le1:ak i.2.2.1 fz1) e1=>?_
    have e1:fz1 tp=some (.tup [.int (15:Nat),.int (0:Nat)]):=(bF (z:=15) (s:=0) (by decide)).1▸(bF (z:=15) (s:=0) (by decide)).2▸e1
    have f2:=ET hjz
    k_extra "w"
    exact hL.nx (i.1+16,_,_,_,_,_) _ ⟨hjz,hr'.skip,hi.2.2.trans le1⟩ (Nat.sub_lt_sub_left hj (Nat.lt_add_of_pos_right (by decide))) (Up.self (Nat.le_refl 3) (sX (congrArg (fun n:Nat=>((n+1:Nat):Int)) (Nat.add_assoc st i.1 15)) (by rw [hset])))
   ·have rf:=dH (run:=1+m) (E6 m) (Nat.add_le_add_left (Nat.le_trans m1 h8) 1)
    have hx:6*(1+m).log2+0<6*runs:=Nat.lt_of_lt_of_le rf.2.2.2.2.2.2 (Nat.mul_le_mul_left 6 h4)
    rw [bj,if_neg (E6 m),List.append_nil,List.append_assoc] at hr'
    k_extra "w"
    refine aq rfl 2 [1] [BR o i.2.1] [.at t,.id 0] (jD E i.2.2.1 t runs sz (6*(1+m).log2+0) o i.2.1 _ ht hx (Nat.lt_of_lt_of_le hx hs) hz hz0 hr') (Nat.le_refl 2) (by decide) rfl rfl ?_
    k_extra "w"
    refine dq rfl fun tp fz1 (le1:ak i.2.2.1 fz1) e1=>?_
    have e1:fz1 tp=some (.tup [.int ((1+m).log2:Nat),.int (0:Nat)]):=(bF (z:=(1+m).log2) (s:=0) (by decide)).1▸(bF (z:=(1+m).log2) (s:=0) (by decide)).2▸e1
    have f1:decide ((((1+m).log2:Nat):Int)<15)=true:=decide_eq_true (Int.ofNat_lt.mpr (Nat.lt_of_le_of_lt rf.2.1 (by decide)))
    have q3:(0:Int)≤((1+m).log2:Nat):=Int.natCast_nonneg _
    have q4:=oI rf.2.1 (by decide)
    k_extra "w"
    refine ey rfl (fun h3=>?_) fun h3=>?_
    ·have cb:=ma E fz1 o (i.2.1+sz) (1+m).log2 (1+m-2^(1+m).log2) _ hr'.skip (Nat.le_trans rf.2.1 (by decide)) (Int.ofNat_lt.mp (of_decide_eq_true h3)) rf.2.2.2.2.2.1
     k_extra "w"
     refine aq rfl 2 [1] [BR o (i.2.1+sz)] [.id 0,.int ((1+m).log2:Nat)] cb (Nat.le_refl 2) (by decide) rfl rfl ?_
     k_extra "w"
     refine hL.rt _ _ (hQ _ _ ?_)
     exact (Fin.fr 2 ((setB (fA lo) kn tr st i.1).map .int) (AR sc t (2^(((1+m).log2:Nat):Int).toNat-1+(1+m-2^(1+m).log2:Nat)) o (i.2.1+sz+(1+m).log2)) rfl rfl rfl rfl rfl fun x fz' le e R hR =>
      (congrArg (fun z:Int=>R (.at x) (AR sc t z o (i.2.1+sz+(1+m).log2)) fz') (yP m)).mpr (hR fz' x _ _ m ((hi.2.2.trans le1).trans le) (by rw [hset];exact e) hr'.skip.skip ⟨m1,m2,rfl⟩))
    ·have h0:m=0:=oq (of_decide_eq_false h3)
     subst h0
     k_extra "w"
     refine hL.rt _ _ (hQ _ _ ?_)
     exact (Fin.fr 2 ((setB (fA lo) kn tr st i.1).map .int) (AR sc t (0:Nat) o (i.2.1+sz)) rfl rfl rfl rfl rfl fun x fz' le e R hR =>
      hR fz' x _ _ 0 ((hi.2.2.trans le1).trans le) (by rw [hset];exact e) hr'.skip ⟨m1,m2,rfl⟩)
  ·have e:=Qp h hi.1 c.bu
   have hr':=hi.2.1
   rw [e,dN c.aZ c.bu (Nat.lt_irrefl _)] at hr'
   k_extra "w"
   exact hQ _ _ (Fin.fr 2 ((setB (fA lo) kn tr st i.1).map .int) (AR sc t (0:Nat) o i.2.1) rfl rfl rfl rfl rfl fun x fz' le e' R hR =>
    hR fz' x _ _ 0 (hi.2.2.trans le) (e▸e') hr' ⟨Nat.zero_le _,nofun,rfl⟩)
noncomputable def RO (sc key tb kp:Addr) (run:Int) (r s:Int) (b:List UInt8):List NO:=[.inst 545 [(5,.at sc),(6,.id 1),(7,.at key),(8,.int run),(13,.at kp)],.inst 755 [(12,.at tb),(25,.id 2)],.inst 139 [(0,.id 3),(1,.int r),(2,.int s)],.aB b]
noncomputable abbrev bL (bs:List Bool):List AV:=(bs.map b2i).map .int
theorem Fy {bs:List Bool} {k:Nat} (h:k<bs.length):fv ((bL bs).getD k .none) = .int (bs[k].toNat:Nat):=by
 simp only [← zY,List.getD,List.getElem?_map,List.getElem?_map,List.getElem?_eq_getElem h];rfl
theorem mr {bs:List Bool}:(bL bs).length=bs.length:=by rw [List.length_map,List.length_map]
theorem b5.one {m:Nat} {b:List UInt8} {ri si:Int} {L bs:List Bool} {k:Nat} (hk:k<bs.length) (h:b5 m b ri si (L++bs.take k++ae 1 bs[k].toNat)):b5 m b ri si (L++bs.take (k+1)):=by
 rwa [FF,List.append_assoc,← List.take_succ_eq_append_getElem hk] at h
theorem fB (E:Ev) (fz:Hp) (sc key tb kp la:Addr) (run:Int) (b:List UInt8) (ri si:Int) (L bs:List Bool) (hla:fz la=some (.list (bL bs))) (ok:b5 8 b ri si L) (hb:(L++bs).length≤800000) :
  aO (PE E) 3 514 [.id 0,.at la] (RO sc key tb kp run ri si b) fz fun R=>∀ b' r' s',b5 8 b' r' s' (L++bs)->R .none (RO sc key tb kp run r' s' b') fz:=by
 rw [List.length_append] at hb
 refine aj (bH E) 2 3 4 [some (.id 0),some (.at la),none] (ay E) (dS _) (d7 E 2) rfl (by kernel_rfl) rfl rfl rfl rfl fun Q hQ=>?_
 k_extra "w"
 refine ec rfl ?_
 refine bG (jz hla (mr▸Nat.le_trans (Nat.le_trans (Nat.le_add_left _ _) hb) (by decide))) (n':=4) (fun k (i:(Int×Int×List UInt8)×Option NV)=>⟨[some (.id 0),some (.at la),i.2],RO sc key tb kp run i.1.1 i.1.2.1 i.1.2.2,fz⟩) (fun k i=>b5 8 i.1.2.2 i.1.1 i.1.2.1 (L++bs.take k)) ((ri,si,b),none) (by simp only [List.take_zero,List.append_nil];exact ok) (Up.self (Nat.le_refl 4) rfl) (Nat.le_refl 4) (fun _ _ _ _ _ _ x=>x) (fun k i hk hi L' hL=>?_) fun i hi=>?_
 ·have hk:=Nat.lt_of_lt_of_le hk (Nat.le_of_eq mr)
  refine Fy hk▸?_
  k_extra "w"
  refine aq rfl 2 [1,2,3] (SK tb i.1.1 i.1.2.1 i.1.2.2) [.id 0,.int (bs[k].toNat:Nat),.int (1:Nat)] (dv E fz tb i.1.2.2 i.1.1 i.1.2.1 _ 1 bs[k].toNat hi (by decide) (toNat_lt _) (by rw [List.length_append];exact Nat.le_trans (Nat.add_le_add_left (List.length_take_le' _ _) _) (Nat.le_trans hb (by decide)))) (Nat.le_refl 2) (by decide) rfl rfl fun b' r' s' ok'=>?_
  k_extra "w"
  exact hL.nx ((_,_,_),_) _ (ok'.one hk) (Up.self (Nat.le_refl 4) rfl)
 ·refine hQ _ _ (Fin.w rfl fun R hR=>hR _ _ _ ?_)
  skip
  rwa [mr,List.take_length] at hi
theorem Fin.zk {n:Nat} {σ:NS} {W:(NV->List NO->Hp->Prop)->Prop} {fl:cY} (j:Nat) (js:List Nat) (xs:List AV) (H:Addr->List NO) (e:rp j 0 fl.val=fl.val) (ho:σ.h[j]?=some (.list (xs.map fv)))
  (h:∀ a fz',ak σ.fz fz'->fz' a=some (.list xs)->rp j a fl.val=fl.val∧(H a).length=n∧pick (gS j a (σ.h.set j .dead) js) (List.range n)=some ((H a).map (lO (List.range n)))∧fl.val=jk (List.range n) fl.val∧(ez n fl.val&&(H a).all (mU n))=true∧∀ R:NV->List NO->Hp->Prop,W R->R fl.val (H a) fz'):Fin n (fun v H fz=>∀ R:NV->List NO->Hp->Prop,W R->R v H fz) fl σ:=by
 refine Up.kO j js (σ:=⟨[],σ.h,σ.fz⟩) ho (aK xs) fun a fz' le ea=>?_
 refine FZ (h a fz' le ea) fun h0 hl pk ev ok hR=>?_
 rw [show [fl.val].map (rp j a)=[fl.val] from congrArg (fun z=>[z]) h0]
 simp only [Bool.and_eq_true] at ok
 exact Up.sel (List.range n) [fl.val] ⟨[],H a,fz'⟩ (by simp) List.nodup_range pk (by rw [List.map_cons,← ev];rfl) rfl rfl (by intro v hv;rw [List.mem_singleton] at hv;subst hv;exact hl.symm▸bp ok.1) nofun (fun o ho=>hl.symm▸(cG (List.all_eq_true.mp ok.2 o ho)).1) ⟨_,rfl,hl,hR⟩
theorem DK {L kept:List Bool} {sz v n w:Nat} (hb:L.length+kept.length≤700000) (hz:sz≤50) (h3:n≤3):(L++ae sz v++ae n w++kept).length≤800000:=by
 simp only [List.length_append,ax];omega
theorem vd {run sz:Nat} {kept:List Bool} (h0:¬ run=0) (hr:run≤9) (h:decide ((0:Int)<(Builtin.Int.intBits run:Nat)-1)=false):bj sz run kept=ae sz (6*run.log2)++kept:=by
 have:=qW (sz:=sz) h0 hr h
 rw [bj,if_neg h0,List.append_nil] at this
 rw [bj,if_neg h0,this]
theorem kX (E:Ev) (fz:Hp) (sc key tb kp:Addr) (runs sz run:Nat) (kept:List Bool) (b:List UInt8) (ri si:Int) (L:List Bool) (ht:gx fz tb 1 runs sz) (hk:fz key=some (.tup [.int 1,.int 0])) (hkp:fz kp=some (.list (bL kept))) (hr:run≤9) (hk0:run=0->kept=[]) (h4:4≤runs) (hs:6*runs≤2^sz) (hz:sz≤50) (ok:b5 8 b ri si L) (hb:(L++kept).length≤700000) :
  aO (PE E) 4 521 [.id 0] (RO sc key tb kp run ri si b) fz fun R=>∀ fz' kp' b' r' s',ak fz fz'->fz' kp'=some (.list (bL []))->b5 8 b' r' s' (L++bj sz run kept)->R .none (RO sc key tb kp' (0:Nat) r' s' b') fz':=by
 rw [List.length_append] at hb
 by_cases h0:run=0
 ·subst h0
  refine aj (bH E) 3 4 4 [some (.id 0),none,none,none] (ay E) (bT _) (bU E 3) rfl (by kernel_rfl) rfl rfl rfl rfl fun Q hQ=>?_
  k_extra "w"
  exact hQ _ _ (Fin.w rfl fun R hR=>hR fz kp _ _ _ (ak.refl _) (hk0 rfl▸hkp) (by rw [show bj sz 0 kept=[] from if_pos rfl,List.append_nil];exact ok))
 ·have h1:decide ((0:Int)<run)=true:=decide_eq_true (Int.ofNat_lt.mpr (Nat.pos_of_ne_zero h0))
  refine aj (bH E) 3 4 4 [some (.id 0),none,none,none] (ay E) (bT _) (bU E 3) rfl (by kernel_rfl) rfl rfl rfl rfl fun Q hQ=>?_
  have f:=dH h0 hr
  have g2:=f.2.2.1
  have g3:=f.2.2.2.1
  have g4:=pU
  k_extra "w"
  refine dq rfl fun tp fz1 (le:ak fz fz1) e=>?_
  k_extra "w"
  refine aq rfl 3 [1,2,3] (SK tb ri si b) [.id 0,.at key,.int (sym (6*run.log2))] (dO E fz1 tb key 1 runs sz (6*run.log2) b ri si L (ht.keeps le) (le _ _ hk) (Nat.lt_of_lt_of_le f.2.2.2.2.2.2 (Nat.mul_le_mul_left 6 h4)) (Nat.lt_of_lt_of_le f.2.2.2.2.2.2 (Nat.le_trans (Nat.mul_le_mul_left 6 h4) hs)) hz ok (Nat.le_trans (Nat.le_trans (Nat.le_add_right _ _) hb) (by decide))) (Nat.le_refl 3) (by decide) rfl (congrArg (fun z:Int=>[NV.id 1,.at key,.int z]) f.1) fun b1 r1 s1 ok1=>?_
  k_extra "w"
  have hkp:=le _ _ hkp
  have l3:run.log2≤3:=f.2.1
  refine ey rfl (fun h=>?_) fun h=>?_
  ·k_extra "w"
   refine aq rfl 2 [1,2,3] (SK tb r1 s1 b1) [.id 0,.int (run-2^run.log2:Nat),.int run.log2] (dv E fz1 tb b1 r1 s1 _ run.log2 (run-2^run.log2) ok1 (Nat.le_trans l3 (by decide)) f.2.2.2.2.2.1 (yT (Nat.le_trans (Nat.le_trans (Nat.le_add_right _ _) hb) (by decide)) hz)) (by decide) (by decide) rfl (congrArg (fun z:Int×Int=>[NV.id 1,.int z.1,.int z.2]) f.2.2.2.2.1) fun b2 r2 s2 ok2=>?_
   k_extra "w"
   refine aq rfl 3 [0,1,2,3] (RO sc key tb kp run r2 s2 b2) [.id 0,.at kp] (fB E fz1 sc key tb kp kp run b2 r2 s2 _ kept hkp ok2 (DK hb hz l3)) (Nat.le_refl 3) (by decide) rfl rfl fun b3 r3 s3 ok3=>?_
   k_extra "w"
   exact hQ _ _ (Fin.zk 4 [0] [] (fun a=>RO sc key tb a (0:Nat) r3 s3 b3) rfl rfl fun a z lez ea=>⟨rfl,rfl,rfl,rfl,rfl,fun R hR=>hR _ _ _ _ _ (le.trans lez) ea (by rw [bj,if_neg h0,← List.append_assoc,← List.append_assoc];exact ok3)⟩)
  ·k_extra "w"
   refine aq rfl 3 [0,1,2,3] (RO sc key tb kp run r1 s1 b1) [.id 0,.at kp] (fB E fz1 sc key tb kp kp run b1 r1 s1 _ kept hkp ok1 (by rw [List.append_assoc,List.length_append,List.length_append,ax];omega)) (Nat.le_refl 3) (by decide) rfl rfl fun b3 r3 s3 ok3=>?_
   k_extra "w"
   exact hQ _ _ (Fin.zk 4 [0] [] (fun a=>RO sc key tb a (0:Nat) r3 s3 b3) rfl rfl fun a z lez ea=>⟨rfl,rfl,rfl,rfl,rfl,fun R hR=>hR _ _ _ _ _ (le.trans lez) ea (by rw [vd h0 hr h,← List.append_assoc];exact ok3)⟩)
theorem uq (E:Ev) (fz:Hp) (sc key tb kp ra:Addr) (st en hi lo:Nat) (run:Int) (row:List Int) (b:List UInt8) (ri si:Int) (hsc:eO fz sc st en hi lo) (hra:fz ra=some (.list (row.map .int))) (bu:st≤en) (aZ:en<row.length) (hl:row.length≤25) :
  aO (PE E) 2 528 [.id 0,.at ra] (RO sc key tb kp run ri si b) fz fun R=>∀ la,zN (band (KB lo) row st en) st (en+1-st) la->R (.int la) (RO sc key tb kp run ri si b) fz:=by
 refine ip hsc fun p d a hsc _ _ _=>?_
 skip
 have he:=Nat.lt_of_lt_of_le aZ hl
 have n1:=eK (Nat.lt_of_le_of_lt bu (Nat.lt_of_lt_of_le he (by decide)))
 have n2:=eK (Nat.lt_of_lt_of_le he (by decide))
 refine aj (bH E) 1 6 4 [some (.id 0),some (.at ra),none,none,none,none] (ay E) (dR _) (d6 E 1) rfl (by kernel_rfl) rfl rfl rfl rfl fun Q hQ=>?_
 k_extra "w"
 refine ec rfl ?_
 refine bG (eI (j:=4) rfl (N:=en+1-st) (j9 st en) n1.1 n2.2) (n':=4) (fun k (i:Int×Option NV)=>⟨[some (.id 0),some (.at ra),some (.int i.1),i.2,none,none],RO sc key tb kp run ri si b++[.range st (en+1) 1],fz⟩)
  (fun k i=>zN (band (KB lo) row st en) st k i.1) ((st:Int)-1,none) zN.start (Up.self (Nat.le_succ 4) rfl) (Nat.le_refl 4) (fun _ _ _ _=>trivial) (fun k i hk hi L hL=>?_) fun i hi=>?_
 ·skip
  skip
  have c2:=(ix hk he).2.2
  have g:=kh (Nat.lt_of_le_of_lt (ix hk he).1 aZ)
  have hs:=hi.step (t:=KB lo (row.getD (st+k) 0)) (by rw [← List.head?_drop,cW aZ hk];rfl)
  rw [Fo] at hs
  k_extra "w"
  refine ey rfl (fun h=>?_) fun h=>?_
  ·have h:decide (aL lo (row.getD (st+k) 0)=1)=true:=h
   rw [if_pos h] at hs
   k_extra "w"
   exact hL.nx (_,_) _ ((congrArg (zN _ _ _) (congrArg ((st:Int) + ·) (Int.mul_one _))).mpr hs) (Up.self (Nat.le_succ 4) rfl)
  ·have h:decide (aL lo (row.getD (st+k) 0)=1)=false:=h
   rw [if_neg (Bool.eq_false_iff.mp h)] at hs
   k_extra "w"
   exact hL.nx (i.1,some (.int ((st:Int)+(k:Int)*1))) _ hs (Up.self (Nat.le_succ 4) rfl)
 ·exact hQ _ _ (Fin.cw (RO sc key tb kp run ri si b) rfl rfl rfl rfl fun R hR=>hR _ hi)
structure Fs where
 z:Nat
 run:Nat
 kept:List Bool
 here:List Bool
 L:List Bool
 kp:Addr
 r:Int
 s:Int
 b:List UInt8
 g:Hp
structure ic (sz:Nat) (vs:List K) (κ:Nat->List Bool->List Bool) (T:List Bool) (fz:Hp) (run0 kl:Nat) (k:Nat) (d:Fs):Prop where
 z:d.z≤k
 run:d.run≤run0
 hl:d.here.length≤k
 kl:d.kept.length≤kl
 ok:b5 8 d.b d.r d.s d.L
 eq:d.L++bb sz κ d.run d.kept d.z d.here (vs.drop k)=T
 le:ak fz d.g
 kp:d.g d.kp=some (.list (bL d.kept))
 k0:d.run=0->d.kept=[]
noncomputable abbrev Rn (sc key tb ra:Addr) (la:Int) (x y:Option NV) (d:Fs) (X:List NV):NS:=⟨[some (.id 0),some (.int 0),some (.at ra),some (.int la),some (.int d.z),some (.id 4),x,y,none,none,none,none,none,none],RO sc key tb d.kp d.run d.r d.s d.b++[.list X],d.g⟩
noncomputable abbrev Rm (sc key tb ra:Addr) (la:Int) (x y:Option NV) (d:Fs):NS:=Rn sc key tb ra la x y d ((bL d.here).map fv)
theorem zZ {bs:List Bool} {x:Int}:(bL bs).map fv++[.int (Builtin.bitAnd x 1)]=(bL (bs++[decide (Builtin.bitAnd x 1=1)])).map fv:=by
 refine (?_:((bs.map b2i).map AV.int).map fv++_=(((bs++[_]).map b2i).map AV.int).map fv)
 simp only [List.map_append,List.map_append,List.map_append]
 exact congrArg (fun z:Int=>((bs.map b2i).map AV.int).map fv++[.int z]) (Ny x)
theorem ue {ι:Type} {P:Tp} {n:Nat} {σ:NS} {Q:cY->NS->WT} {t:NS->(Bool->NS->WT)->WT} {b:Nat->NS->(cY->NS->WT)->WT} (n':Nat) (S:ι->NS) (R E:ι->Prop) (μ:ι->Nat) (i₀:ι) (hR:R i₀) (hσ:Up n' [] σ fun _ σ'=>σ'=S i₀) (h1:n≤n')
  (step:∀ i,R i->∀ (L:cY->NS->WT) (F:NS->WT),Ri P n' S R μ i Q L->(E i->den P (F (S i)))->den P (t (S i) fun c σ2 => .br c (b n' σ2 L) (F σ2))) (fin:∀ i,R i->E i->den P (Q .next (S i))):vF P n t b σ Q :=
 nt n' S R μ i₀ hR hσ h1 fun i hi L hL=>step i hi L (Q .next) hL (fin i hi)
section
variable {sz:Nat} {vs:List K} {κ:Nat->List Bool->List Bool} {T:List Bool} {fz:Hp} {run0 kl k:Nat} {d:Fs} {t:K}
theorem iZ (h:vs[k]?=some t):vs.drop k=t::vs.drop (k+1):=by
 refine jg (List.getElem?_eq_some_iff.mp h) fun hk zp1=>?_;subst zp1
 exact List.drop_eq_getElem_cons hk
theorem ic.zero (h:ic sz vs κ T fz run0 kl k d) (ht:vs[k]?=some .z):ic sz vs κ T fz run0 kl (k+1) { d with z:=d.z+1 } :=
 { h with z:=Nat.succ_le_succ h.z,hl:=Nat.le_succ_of_le h.hl,eq:=by have:=h.eq;rw [iZ ht] at this;exact this }
theorem ic.dg {b:Bool} (h:ic sz vs κ T fz run0 kl k d) (ht:vs[k]?=some (.c b)) (hn:¬ (16≤d.z∧ba (vs.drop k)=true)):ic sz vs κ T fz run0 kl (k+1) { d with here:=d.here++[b] } :=
 have q:d.L++bb sz κ d.run d.kept d.z (d.here++[b]) (vs.drop (k+1))=T:=by
  have:=h.eq
  rw [iZ ht] at this hn
  rwa [vb (show ¬ (16≤d.z∧ba (vs.drop (k+1))=true) from hn)] at this
 { h with z:=Nat.le_succ_of_le h.z,hl:=by rw [List.length_append];exact Nat.succ_le_succ h.hl,eq:=q }
theorem ic.DX {g:Hp} {kp:Addr} {r s:Int} {b:List UInt8} (h:ic sz vs κ T fz run0 kl k d) (ht:vs[k]?=some t) (hz:t ≠ .z) (h16:16≤d.z) (hk:k<32) (hn:ba (vs.drop k)=true) (le:ak d.g g) (hkp:g kp=some (.list (bL []))) (ok:b5 8 b r s (d.L++bj sz d.run d.kept++ae sz 90++d.here)) :
  ic sz vs κ T fz run0 kl k ⟨d.z-16,0,[],[],d.L++bj sz d.run d.kept++ae sz 90++d.here,kp,r,s,b,g⟩ :=
 ⟨Nat.le_trans (Nat.sub_le _ _) h.z,Nat.zero_le _,Nat.zero_le _,Nat.zero_le _,ok,by
  have:=h.eq
  rw [iZ ht] at this hn ⊢
  rw [pJ hz h16 (Nat.lt_of_le_of_lt h.z hk) hn] at this
  simpa only [List.append_assoc] using this,h.le.trans le,hkp,fun _=>rfl⟩
theorem ic.num {g:Hp} {kp:Addr} {r s:Int} {b:List UInt8} {bs:List Bool} {m:Nat} (h:ic sz vs κ T fz run0 kl k d) (ht:vs[k]?=some (.n m bs)) (h16:d.z<16) (le:ak d.g g) (hkp:g kp=some (.list (bL []))) (ok:b5 8 b r s (d.L++bj sz d.run d.kept++ae sz (6*d.z+m)++bs++d.here)) :
  ic sz vs κ T fz run0 kl (k+1) ⟨0,0,[],[],d.L++bj sz d.run d.kept++ae sz (6*d.z+m)++bs++d.here,kp,r,s,b,g⟩ :=
 ⟨Nat.zero_le _,Nat.zero_le _,Nat.zero_le _,Nat.zero_le _,ok,by
  have:=h.eq
  rw [iZ ht,yL h16] at this
  simpa only [List.append_assoc] using this,h.le.trans le,hkp,fun _=>rfl⟩
theorem ic.len (h:ic sz vs κ T fz run0 kl k d) (hk:k≤24) (hkl:kl≤300) (hT:T.length≤600000):(d.L++d.kept).length≤700000∧d.L.length≤600000∧d.here.length≤24∧d.kept.length≤300:=by
 have:=congrArg List.length h.eq
 have:=h.hl
 have:=h.kl
 rw [List.length_append] at *
 omega
theorem tU {L kept here bs:List Bool} {sz v run:Nat} (hz:sz≤50) (hr:run≤9) (h1:L.length≤600000) (h2:here.length≤24) (h3:kept.length≤300) (h4:bs.length≤1):(L++bj sz run kept).length≤700000∧(L++bj sz run kept++ae sz v).length≤700000∧(L++bj sz run kept++ae sz v++bs++here).length≤800000:=by
 have hr2:(bj sz run kept).length≤400:=by
  unfold bj
  split
  ·exact Nat.zero_le _
  ·rename_i h0
   have:=(dH h0 hr).2.1
   simp only [List.length_append,ax]
   omega
 simp only [List.length_append,ax]
 omega
end
theorem e9 {σ:NS} {n:Nat} {τ:NS} (s:List Nat) (pre:s.take n=List.range n) (nd:s.Nodup) (pk:pick σ.h s=some (τ.h.map (lO s))) (el:lm τ.loc σ.loc=τ.loc.map (Option.map (jk s))) (ef:τ.fz=σ.fz) (ok:((τ.loc.all fun o=>match o with | some v=>ez τ.h.length v | none=>true)&&τ.h.all (mU τ.h.length))=true):Up n [] σ fun _ σ'=>σ'=τ:=by
 rw [Bool.and_eq_true] at ok
 exact Up.sel s [] τ pre nd pk rfl el ef nofun (fun v hv=>bp (List.all_eq_true.mp ok.1 (some v) hv)) (fun o ho=>(cG (List.all_eq_true.mp ok.2 o ho)).1) rfl
theorem QA {st en k:Nat} (hk:k<en+1-st) (h1:1≤st) (aZ:en<25):k≤24:=by omega
theorem vP {f:Int->K} {row:List Int} {st en k:Nat} (h:en<row.length) (hk:k<en+1-st):(band f row st en)[k]?=some (f (row.getD (st+k) 0)):=by rw [← List.head?_drop,cW h hk];rfl
theorem JZ {lo:Nat} {v:Int} (h:decide (aL lo v=0)=false):KB lo v ≠ .z:=by
 unfold KB;rw [if_neg (of_decide_eq_false h)];split<;>exact nofun
theorem KJ {vs:List K} {st m k:Nat} {la:Int} (h:zN vs st m la) (hm:vs.length=m) (hk:k<m):decide ((st:Int)+(k:Int)*1≤la)=ba (vs.drop k):=by
 have:=h.2 k (Nat.le_of_lt hk)
 rw [← hm,List.take_length] at this
 rw [Int.mul_one];exact this
theorem Gu {runs m:Nat} (h:runs=16∨m≤runs∧m≤16) (h2:16<m):90<6*runs:=h.elim (fun e=>e▸(by decide)) fun e=>absurd (Nat.lt_of_lt_of_le h2 e.2) (Nat.lt_irrefl 16)
theorem Jg {runs m z:Nat} (h:runs=16∨m≤runs∧m≤16) (hz:z<16) (h2:z<m):6*z+1<6*runs:=Nat.lt_of_lt_of_le (Nat.add_lt_add_left (by decide:1<6) _) (Nat.mul_le_mul_left 6 (h.elim (fun e=>e▸hz) fun e=>Nat.lt_of_lt_of_le h2 e.1))
theorem Eu {z s:Nat} (h:s<6):16*(z:Int)+s=sym (6*z+s):=by simp only [sM h];rfl
theorem KX {st en:Nat} (h1:1≤st) (aZ:en<25):en+1-st≤24:=by omega
theorem vO {a b:List Bool}:(bL a).map fv++(bL b).map fv=(bL (a++b)).map fv:=by
 refine (?_:((a.map b2i).map AV.int).map fv++((b.map b2i).map AV.int).map fv=(((a++b).map b2i).map AV.int).map fv)
 simp only [List.map_append,List.map_append,List.map_append]
theorem wU {run:Nat} {a b:List Bool} (hr:run≤8) (ha:a.length≤300) (hb:b.length≤24):((bL a).map fv).length+((bL b).map fv).length≤1000000∧decide ((run:Int)+1=32767)=false∧((bL a).map fv++(bL b).map fv).length≤1000000∧decide ((937:Int)<(((bL a).map fv++(bL b).map fv).length:Nat))=false:=by
 have e:∀ l:List Bool,((bL l).map fv).length=l.length:=fun l=>(List.length_map ..).trans mr
 simp only [List.length_append,e,e]
 exact⟨by omega,decide_eq_false (by omega),by omega,decide_eq_false (by omega)⟩
theorem ic.last {sz:Nat} {vs:List K} {κ:Nat->List Bool->List Bool} {T:List Bool} {fz:Hp} {run0 kl k:Nat} {d:Fs} (h:ic sz vs κ T fz run0 kl k d) (hm:vs.length=k):d.L++(if d.z=0∧d.here=[] then κ d.run d.kept else κ (d.run+1) (d.kept++d.here))=T:=by
 have:=h.eq
 rwa [List.drop_of_length_le (Nat.le_of_eq hm),PB] at this
set_option maxHeartbeats 8000000 in
theorem Af (E:Ev) (fz:Hp) (sc key tb kp ra:Addr) (runs sz run st en hi lo:Nat) (row:List Int) (rest:List (List K)) (kept:List Bool) (b:List UInt8) (ri si:Int) (L T:List Bool) (ht:gx fz tb 1 runs sz) (hk0:fz key=some (.tup [.int 1,.int 0])) (hsc:eO fz sc st en hi lo) (hra:fz ra=some (.list (row.map .int)))
  (hkp:fz kp=some (.list (bL kept))) (hr:run≤8) (hkr:run=0->kept=[]) (hkl:kept.length≤300) (h4:4≤runs) (hs:6*runs≤2^sz) (hz:sz≤50) (bu:st≤en) (h1:1≤st) (aZ:en<row.length) (hl:row.length≤25) (hzr:runs=16∨en+1-st≤runs∧en+1-st≤16) (ok:b5 8 b ri si L)
  (hT:L++aT sz run kept (band (KB lo) row st en::rest)=T) (hb:T.length≤600000) :
  aO (PE E) 5 535 [.id 0,.int 0,.at ra] (RO sc key tb kp run ri si b) fz fun R=>∀ fz' kp' b' r' s' L' (run':Nat) kept',ak fz fz'->fz' kp'=some (.list (bL kept'))->run'≤run+1->(run'=0->kept'=[])->kept'.length≤kept.length+24->b5 8 b' r' s' L'->L'++aT sz run' kept' rest=T->R .none (RO sc key tb kp' run' r' s' b') fz':=by
 refine ip (id hsc) fun p d a hsc' _ _ _=>?_
 have s1:(0:Int)≤lo:=Int.natCast_nonneg lo
 have he:=Nat.lt_of_lt_of_le aZ hl
 have n1:=eK (Nat.lt_of_le_of_lt bu (Nat.lt_of_lt_of_le he (by decide)))
 have n2:=eK (Nat.lt_of_lt_of_le he (by decide))
 refine aj (bH E) 4 14 4 [some (.id 0),some (.int 0),some (.at ra),none,none,none,none,none,none,none,none,none,none,none] (ay E) (gG _) (g9 E 4) rfl (by kernel_rfl) rfl rfl rfl rfl fun Q hQ=>?_
 k_extra "w"
 refine aq rfl 2 [0,1,2,3] (RO sc key tb kp run ri si b) [.id 0,.at ra] (uq E fz sc key tb kp ra st en hi lo run row b ri si hsc hra bu aZ hl) (by decide) (by decide) rfl rfl fun la hla=>?_
 k_extra "w"
 refine ec rfl ?_
 refine bG (eI (j:=6) rfl (N:=en+1-st) (j9 st en) n1.1 n2.2) (n':=4) (fun k (i:Fs×Option NV×Option NV)=>Rm sc key tb ra la i.2.1 i.2.2 i.1)
  (fun k i=>ic sz (band (KB lo) row st en) (fun r k=>aT sz r k rest) T fz run kept.length k i.1) (⟨0,run,kept,[],L,kp,ri,si,b,fz⟩,none,none) ⟨Nat.le_refl _,Nat.le_refl _,Nat.le_refl _,Nat.le_refl _,ok,hT,ak.refl _,hkp,hkr⟩ (e9 [0,1,2,3,4] rfl (by decide) rfl rfl rfl rfl) (Nat.le_refl 4) (fun _ _ _ _=>trivial) (fun k i hk hi L' hL=>?_) fun i hi=>?_
 ·have x:=ix hk he
  have c1:=x.2.1
  have c2:=x.2.2
  have k24:=QA hk h1 he
  have g:=kh (Nat.lt_of_le_of_lt x.1 aZ)
  have hsc1:=hi.le _ _ hsc'
  have hra1:=hi.le _ _ hra
  have hv:=vP (f:=KB lo) aZ hk
  k_extra "w"
  refine ey rfl (fun h=>?_) fun h=>?_
  ·k_extra "w"
   exact hL.nx ({ i.1 with z:=i.1.z+1 },some (.int ((st:Int)+(k:Int)*1)),some (.int (aL lo (row.getD (st+k) 0)))) _ (hi.zero (hv.trans (congrArg some (PV h)))) (Up.self (Nat.le_succ 4) rfl)
  ·have hnz:KB lo (row.getD (st+k) 0) ≠ .z:=JZ h
   refine ec rfl ?_
   refine ue 4 (fun d:Fs=>Rm sc key tb ra la (some (.int ((st:Int)+(k:Int)*1))) (some (.int (aL lo (row.getD (st+k) 0)))) d) (fun d=>ic sz (band (KB lo) row st en) (fun r k=>aT sz r k rest) T fz run kept.length k d) (fun d=>¬ (16≤d.z∧ba ((band (KB lo) row st en).drop k)=true)) (fun d=>d.z) i.1 hi (Up.self (Nat.le_succ 4) rfl) (Nat.le_refl 4) (fun d hd L2 F hL2 hF=>?_) fun d hd hx=>?_
   ·have hla2:=KJ hla (bO aZ bu) hk
    refine ey rfl (fun h1=>?_) fun h1=>?_
    ·have h16:16≤d.z:=Int.ofNat_lt.mp (of_decide_eq_true h1)
     refine ey rfl (fun h2=>?_) fun h2=>?_
     ·have hN:ba ((band (KB lo) row st en).drop k)=true:=hla2.symm.trans h2
      have ln:=hd.len k24 hkl hb
      have h90:=Gu hzr (Nat.lt_of_le_of_lt (Nat.le_trans h16 hd.z) hk)
      have o1:=tU (v:=90) (bs:=[]) hz (Nat.le_trans hd.run (Nat.le_succ_of_le hr)) ln.2.1 ln.2.2.1 ln.2.2.2 (Nat.zero_le _)
      have hk1:=hd.le _ _ hk0
      k_extra "w"
      refine aq rfl 4 [0,1,2,3] (RO sc key tb d.kp d.run d.r d.s d.b) [.id 0] (kX E d.g sc key tb d.kp runs sz d.run d.kept d.b d.r d.s d.L (ht.keeps hd.le) hk1 hd.kp (Nat.le_trans hd.run (Nat.le_succ_of_le hr)) hd.k0 h4 hs hz hd.ok ln.1) (Nat.le_refl 4) (by decide) rfl rfl fun g1 kp1 b1 r1 s1 le1 ekp1 ok1=>?_
      k_extra "w"
      refine aq rfl 3 [1,2,3] (SK tb r1 s1 b1) [.id 0,.at key,.int (sym 90)] (dO E g1 tb key 1 runs sz 90 b1 r1 s1 _ ((ht.keeps hd.le).keeps le1) (le1 _ _ hk1) h90 (Nat.lt_of_lt_of_le h90 hs) hz ok1 (Nat.le_trans o1.1 (by decide))) (by decide) (by decide) rfl rfl fun b2 r2 s2 ok2=>?_
      k_extra "w"
      refine bC rfl 4 [] rfl (aK _) fun ha g2 le2 e2=>?_
      refine aq rfl 3 [0,1,2,3] (RO sc key tb kp1 (0:Nat) r2 s2 b2) [.id 0,.at ha] (fB E g2 sc key tb kp1 ha (0:Nat) b2 r2 s2 _ d.here e2 ok2 (by have:=o1.2.2;rwa [List.append_nil] at this)) (by decide) (by decide) rfl rfl fun b3 r3 s3 ok3=>?_
      k_extra "w"
      exact hL2.nx ⟨d.z-16,0,[],[],_,kp1,r3,s3,b3,g2⟩ _ (hd.DX hv hnz h16 (Nat.lt_of_le_of_lt k24 (by decide)) hN (le1.trans le2) (le2 _ _ ekp1) ok3) (Nat.sub_lt (Nat.lt_of_lt_of_le (by decide) h16) (by decide))
       (e9 [0,1,2,3,5] rfl (by decide) rfl (congrArg (fun z:Int=>([some (.id 0),some (.int 0),some (.at ra),some (.int la),some (.int z),some (.id 5),some (.int ((st:Int)+(k:Int)*1)),some (.int (aL lo (row.getD (st+k) 0))),none,none,none,none,none,none]:List (Option NV))) (Int.ofNat_sub h16).symm) rfl rfl)
     ·exact hF fun q=>Bool.noConfusion (h2.symm.trans (hla2.trans q.2))
    ·refine mF rfl rfl ?_
     exact hF fun q=>of_decide_eq_false h1 (Int.ofNat_lt.mpr q.1)
   ·have hlen:((bL d.here).map fv).length≤1000000:=by rw [List.length_map,mr];exact Nat.le_trans (hd.len k24 hkl hb).2.2.1 (by decide)
    k_extra "w"
    refine ey rfl (fun h2=>?_) fun h2=>?_
    ·k_extra "w"
     exact hL.nx ({ d with here:=d.here++[decide (Builtin.bitAnd (aL lo (row.getD (st+k) 0)) 1=1)] },some (.int ((st:Int)+(k:Int)*1)),some (.int (aL lo (row.getD (st+k) 0)))) _ (hd.dg (hv.trans (congrArg some (PU h h2))) hx) (Up.self (Nat.le_succ 4) (congrArg (Rn sc key tb ra la (some (.int ((st:Int)+(k:Int)*1))) (some (.int (aL lo (row.getD (st+k) 0)))) d) zZ))
    ·have hN:ba ((band (KB lo) row st en).drop k)=true:=by rw [iZ hv,k9,Fn h h2];rfl
     have hz16:d.z<16:=Nat.lt_of_not_le fun q=>hx ⟨q,hN⟩
     have ln:=hd.len k24 hkl hb
     have o1:=fun c:Bool=>tU (v:=6*d.z+1) (bs:=[c]) hz (Nat.le_trans hd.run (Nat.le_succ_of_le hr)) ln.2.1 ln.2.2.1 ln.2.2.2 (Nat.le_refl 1)
     have hk1:=hd.le _ _ hk0
     have hra2:=hd.le _ _ hra
     have hlt:=Jg hzr hz16 (Nat.lt_of_le_of_lt hd.z hk)
     have sm:=QW
     k_extra "w"
     refine aq rfl 4 [0,1,2,3] (RO sc key tb d.kp d.run d.r d.s d.b) [.id 0] (kX E d.g sc key tb d.kp runs sz d.run d.kept d.b d.r d.s d.L (ht.keeps hd.le) hk1 hd.kp (Nat.le_trans hd.run (Nat.le_succ_of_le hr)) hd.k0 h4 hs hz hd.ok ln.1) (Nat.le_refl 4) (by decide) rfl rfl fun g1 kp1 b1 r1 s1 le1 ekp1 ok1=>?_
     k_extra "w"
     refine aq rfl 3 [1,2,3] (SK tb r1 s1 b1) [.id 0,.at key,.int (sym (6*d.z+1))] (dO E g1 tb key 1 runs sz (6*d.z+1) b1 r1 s1 _ ((ht.keeps hd.le).keeps le1) (le1 _ _ hk1) hlt (Nat.lt_of_lt_of_le hlt hs) hz ok1 (Nat.le_trans (o1 true).1 (by decide))) (by decide) (by decide) rfl (congrArg (fun z:Int=>[NV.id 1,.at key,.int z]) (Eu (s:=1) (by decide))) fun b2 r2 s2 ok2=>?_
     have hra3:=le1 _ _ hra2
     k_extra "w"
     refine ey rfl (fun h3=>?_) fun h3=>?_
     ·k_extra "w"
      refine aq rfl 2 [1,2,3] (SK tb r2 s2 b2) [.id 0,.int (1:Nat),.int (1:Nat)] (dv E g1 tb b2 r2 s2 _ 1 1 ok2 (by decide) (by decide) (Nat.le_trans (o1 true).2.1 (by decide))) (by decide) (by decide) rfl rfl fun b3 r3 s3 ok3=>?_
      k_extra "w"
      refine bC rfl 4 [] rfl (aK _) fun ha g2 le2 e2=>?_
      refine aq rfl 3 [0,1,2,3] (RO sc key tb kp1 (0:Nat) r3 s3 b3) [.id 0,.at ha] (fB E g2 sc key tb kp1 ha (0:Nat) b3 r3 s3 _ d.here e2 ok3 (o1 true).2.2) (by decide) (by decide) rfl rfl fun b4 r4 s4 ok4=>?_
      k_extra "w"
      exact hL.nx (⟨0,0,[],[],_,kp1,r4,s4,b4,g2⟩,some (.int ((st:Int)+(k:Int)*1)),some (.int (aL lo (row.getD (st+k) 0)))) _ (hd.num (m:=1) (hv.trans (congrArg some ((Fn h h2).trans (congrArg (fun c=>K.n 1 [c]) h3)))) hz16 (le1.trans le2) (le2 _ _ ekp1) ok4) (e9 [0,1,2,3,5] rfl (by decide) rfl rfl rfl rfl)
     ·k_extra "w"
      refine aq rfl 2 [1,2,3] (SK tb r2 s2 b2) [.id 0,.int (0:Nat),.int (1:Nat)] (dv E g1 tb b2 r2 s2 _ 1 0 ok2 (by decide) (by decide) (Nat.le_trans (o1 true).2.1 (by decide))) (by decide) (by decide) rfl rfl fun b3 r3 s3 ok3=>?_
      k_extra "w"
      refine bC rfl 4 [] rfl (aK _) fun ha g2 le2 e2=>?_
      refine aq rfl 3 [0,1,2,3] (RO sc key tb kp1 (0:Nat) r3 s3 b3) [.id 0,.at ha] (fB E g2 sc key tb kp1 ha (0:Nat) b3 r3 s3 _ d.here e2 ok3 (o1 false).2.2) (by decide) (by decide) rfl rfl fun b4 r4 s4 ok4=>?_
      k_extra "w"
      exact hL.nx (⟨0,0,[],[],_,kp1,r4,s4,b4,g2⟩,some (.int ((st:Int)+(k:Int)*1)),some (.int (aL lo (row.getD (st+k) 0)))) _ (hd.num (m:=1) (hv.trans (congrArg some ((Fn h h2).trans (congrArg (fun c=>K.n 1 [c]) h3)))) hz16 (le1.trans le2) (le2 _ _ ekp1) ok4) (e9 [0,1,2,3,5] rfl (by decide) rfl rfl rfl rfl)
 ·have m24:=KX h1 he
  have ln:=hi.len m24 hkl hb
  have hkp1:=hi.kp
  have f:=wU (Nat.le_trans hi.run hr) ln.2.2.2 ln.2.2.1
  have f1:=f.1
  have f2:=f.2.1
  have f3:=f.2.2.1
  have f4:=f.2.2.2
  have q2:(i.1.kept++i.1.here).length≤kept.length+24:=by rw [List.length_append];exact Nat.add_le_add hi.kl ln.2.2.1
  have q:=hi.last (bO aZ bu)
  refine ey rfl (fun h=>?_) fun h=>?_
  ·have h0:¬ (i.1.z=0∧i.1.here=[]):=fun e=>Nat.ne_of_gt (Int.ofNat_lt.mp (of_decide_eq_true h)) e.1
   rw [if_neg h0] at q
   k_extra "w"
   exact hQ _ _ (Fin.zk 5 [0] (bL (i.1.kept++i.1.here)) (fun a=>RO sc key tb a (i.1.run+1:Nat) i.1.r i.1.s i.1.b) rfl (congrArg (fun X=>some (NO.list X)) vO) fun a z lez ea=>⟨rfl,rfl,rfl,rfl,rfl,fun R hR=>hR z a _ _ _ _ (i.1.run+1) (i.1.kept++i.1.here) (hi.le.trans lez) ea (Nat.succ_le_succ hi.run) nofun q2 hi.ok q⟩)
  ·have hz0:i.1.z=0:=Nat.eq_zero_of_not_pos fun x=>of_decide_eq_false h (Int.ofNat_lt.mpr x)
   k_extra "w"
   refine ec rfl ⟨i.1.here.map b2i,[],true,by rw [List.map_map];rfl,rfl,rfl,?_⟩
   refine ey rfl (fun h3=>?_) fun h3=>?_
   ·have h0:¬ (i.1.z=0∧i.1.here=[]):=fun e=>by rw [e.2] at h3;cases h3
    rw [if_neg h0] at q
    k_extra "w"
    exact hQ _ _ (Fin.zk 6 [0] (bL (i.1.kept++i.1.here)) (fun a=>RO sc key tb a (i.1.run+1:Nat) i.1.r i.1.s i.1.b) rfl (congrArg (fun X=>some (NO.list X)) vO) fun a z lez ea=>⟨rfl,rfl,rfl,rfl,rfl,fun R hR=>hR z a _ _ _ _ (i.1.run+1) (i.1.kept++i.1.here) (hi.le.trans lez) ea (Nat.succ_le_succ hi.run) nofun q2 hi.ok q⟩)
   ·have h0:i.1.here=[]:=by
     cases e:i.1.here with
     | nil=>rfl
     | cons=>rw [e] at h3;cases h3
    rw [if_pos ⟨hz0,h0⟩] at q
    k_extra "w"
    exact hQ _ _ (Fin.cw (RO sc key tb i.1.kp i.1.run i.1.r i.1.s i.1.b) rfl rfl rfl rfl fun R hR=>hR _ _ _ _ _ _ _ _ hi.le hi.kp (Nat.le_succ_of_le hi.run) hi.k0 (Nat.le_trans hi.kl (Nat.le_add_right _ _)) hi.ok q)
structure EF (lo st en:Nat) (kn tr:List Int):Prop where
 aZ:en<tr.length
 hl:tr.length≤25
 he:tr.length=kn.length
 h1:1≤st
 bu:st≤en
 JT:lo≤2
 kz:∀ i,st≤i->i≤en->kn.getD i 0=fA (lo+1) (tr.getD i 0)
 hv:∀ x∈tr,-25<x∧x<25
theorem oZ {lo:Nat} {v:Int} (h2:lo≤2) (h : -25<v∧v<25) :
  (aL lo v=0->fA (lo+1) v=0∧fA lo v=0)∧(aL lo v=1->fA (lo+1) v=0∧(decide (0<v)=true->fA lo v=2^((lo:Nat):Int).toNat)∧(decide (0<v)=false->fA lo v = -2^((lo:Nat):Int).toNat)) ∧
  (1<aL lo v->fA (lo+1) v≠0∧(Builtin.bitAnd (aL lo v) 1≠1->fA (lo+1) v=fA lo v)∧(Builtin.bitAnd (aL lo v) 1=1->decide (Builtin.bitAnd (aL lo (fA (lo+1) v)) 1=0)=true∧(decide (0<fA (lo+1) v)=true->fA (lo+1) v+2^((lo:Nat):Int).toNat=fA lo v)∧(decide (0<fA (lo+1) v)=false->fA (lo+1) v-2^((lo:Nat):Int).toNat=fA lo v))):=by
 have key:∀ (l:_root_.Fin 3) (r:_root_.Fin 49),(aL l.1 ((r.1:Int)-24)=0->fA (l.1+1) (r.1-24)=0∧fA l.1 (r.1-24)=0)∧(aL l.1 (r.1-24)=1->fA (l.1+1) (r.1-24)=0∧(decide (0<(r.1:Int)-24)=true->fA l.1 (r.1-24)=2^((l.1:Nat):Int).toNat)∧(decide (0<(r.1:Int)-24)=false->fA l.1 (r.1-24) = -2^((l.1:Nat):Int).toNat)) ∧
  (1<aL l.1 (r.1-24)->fA (l.1+1) (r.1-24)≠0∧(Builtin.bitAnd (aL l.1 (r.1-24)) 1≠1->fA (l.1+1) (r.1-24)=fA l.1 (r.1-24))∧(Builtin.bitAnd (aL l.1 (r.1-24)) 1=1->decide (Builtin.bitAnd (aL l.1 (fA (l.1+1) (r.1-24))) 1=0)=true∧(decide (0<fA (l.1+1) (r.1-24))=true->fA (l.1+1) (r.1-24)+2^((l.1:Nat):Int).toNat=fA l.1 (r.1-24))∧(decide (0<fA (l.1+1) (r.1-24))=false->fA (l.1+1) (r.1-24)-2^((l.1:Nat):Int).toNat=fA l.1 (r.1-24)))):=by decide +kernel
 have:=key ⟨lo,(Nat.lt_of_le_of_lt (by assumption) (by decide))⟩ ⟨(v+24).toNat,by omega⟩
 rwa [show (((⟨(v+24).toNat,by omega⟩:_root_.Fin 49).1:Nat):Int)-24=v by simp only;omega] at this
noncomputable def RR (sc t:Addr) (run:Int) (o:List UInt8) (a:Int):List NO:=[.inst 608 [(5,.at sc),(9,.at t),(10,.id 1),(8,.int run)],BR o a]
theorem j4 (n:Nat):∀ xs:List Int,((xs.map AV.int).map fv).all (ez n)=true
 | []=>rfl
 | _::r=>j4 n r
theorem vB {lo:Nat} {v:Int} (h:KB lo v = .z):aL lo v=0:=by
 unfold KB at h
 split at h
 ·assumption
 ·split at h<;>contradiction
theorem EH {lo:Nat} {v:Int} {b:Bool} (h:KB lo v = .c b):1<aL lo v∧b=decide (Builtin.bitAnd (aL lo v) 1=1):=by
 unfold KB at h
 split at h
 ·contradiction
 ·split at h
  ·cases h;exact⟨by assumption,rfl⟩
  ·contradiction
theorem vA {lo s:Nat} {v:Int} {bs:List Bool} (h:KB lo v = .n s bs):aL lo v=1∧s=1∧bs=[decide (0<v)]:=by
 have h0:=(vH lo v).1
 unfold KB at h
 split at h
 ·contradiction
 ·split at h
  ·contradiction
  ·cases h;exact⟨by omega,rfl,rfl⟩
section
variable {lo st en j:Nat} {kn tr:List Int} {r:List K}
structure Fj (lo st en:Nat) (kn tr:List Int) (j:Nat) (t:K) (r:List K) (v:Int):Prop where
 hj:j<en+1-st
 hr:(band (KB lo) tr st en).drop (j+1)=r
 hk:KB lo v=t
 hx : -25<v∧v<25
 get:(((setB (fA lo) kn tr st j).map AV.int).map fv)[((st+j:Nat):Int).toNat]?=some (.int (fA (lo+1) v))
 set:(setB (fA lo) kn tr st j).set (st+j) (fA lo v)=setB (fA lo) kn tr st (j+1)
 same:fA (lo+1) v=fA lo v->setB (fA lo) kn tr st (j+1)=setB (fA lo) kn tr st j
theorem EF.at (c:EF lo st en kn tr) {t:K} (h:(band (KB lo) tr st en).drop j=t::r):Fj lo st en kn tr j t r (tr.getD (st+j) 0):=by
 have hj:j<en+1-st:=Nat.lt_of_not_le fun hge=>by rw [dN c.aZ c.bu (Nat.not_lt.mpr hge)] at h;contradiction
 rw [cW c.aZ hj,List.cons.injEq] at h
 have hk:=(ix hj (Nat.lt_of_lt_of_le c.aZ c.hl)).1
 have hkn:st+j<kn.length:=c.he▸Nat.lt_of_le_of_lt hk c.aZ
 skip
 refine⟨hj,h.2,h.1,c.hv _ (kg (Nat.lt_of_le_of_lt hk c.aZ)),?_,kj c.he hkn,fun e=>ot c.he hkn ((c.kz _ (Nat.le_add_right st j) hk).trans e)⟩
 rw [Int.toNat_natCast,List.getElem?_map,List.getElem?_map,qY c.he (Nat.le_refl _) hkn,← (c.kz _ (Nat.le_add_right st j) hk),List.getD,List.getElem?_eq_getElem hkn];rfl
end
noncomputable abbrev QP (sc t:Addr) (run:Int) (o:List UInt8) (k z a:Int) (X:List NV) (fz:Hp):NS:=⟨[some (.id 0),some (.id 2),some (.int k),some (.int z)],RR sc t run o a++[.list X],fz⟩
theorem pB {sc t:Addr} {run:Int} {o:List UInt8} {k z z' a:Int} {X X':List NV} {fz:Hp} (e:z=z') (e2:X=X'):QP sc t run o k z a X fz=QP sc t run o k z' a X' fz:=e▸e2▸rfl
theorem sg {k:Nat} {kn tr:List Int} {f:Int->Int} {st j:Nat} (he:tr.length=kn.length) (hk:st+j<kn.length):(((st+j:Nat):Int)).toNat<(((setB f kn tr st j).map AV.int).map fv).length:=by
 simp only [bJ,fV he (Nat.le_of_lt hk),Int.toNat_natCast];exact hk
set_option maxHeartbeats 4000000 in
theorem mB (E:Ev) (fz:Hp) (sc t:Addr) (run:Int) (st en hi lo:Nat) (kn tr:List Int) (j:Nat) (pre post:List K) (Z:Nat) (o:List UInt8) (a:Int) (l:List Bool) (hsc:eO fz sc st en hi lo) (c:EF lo st en kn tr) (hj:(band (KB lo) tr st en).drop j=pre++post) (jm:j≤en+1-st)
  (hN:ba pre=false) (hz:zeros pre≤Z) (hp:post=[]∨zeros pre=Z∧∀ b r,post ≠ .c b::r) (hr:aX o a (dg pre++l)) :
  aO (PE E) 3 584 [.id 0,.id 2,.int (st+j:Nat),.int Z] (RR sc t run o a++[.list (((setB (fA lo) kn tr st j).map AV.int).map fv)]) fz fun R=>∀ a',aX o a' l->R (.int (st+(j+pre.length):Nat)) (RR sc t run o a'++[.list (((setB (fA lo) kn tr st (j+pre.length)).map AV.int).map fv)]) fz:=by
 refine ip hsc fun p d ac hsc _ _ _=>?_
 have q5:(0:Int)≤lo:=Int.natCast_nonneg lo
 have q6:((lo:Nat):Int)≤(1000000:Nat):=Int.ofNat_le.mpr (Nat.le_trans c.JT (by decide))
 have sm:=pU
 refine aj (bH E) 2 4 3 [some (.id 0),some (.id 2),some (.int (st+j:Nat)),some (.int Z)] (ay E) (ew _) (eB E 2) rfl (by kernel_rfl) rfl rfl (congrArg (· && true) (j4 3 _)) rfl fun Q hQ=>?_
 k_extra "w"
 refine ec rfl ?_
 refine nt 3 (fun i:(Nat×Nat)×Int×List K=>QP sc t run o (st+i.1.1:Nat) i.1.2 i.2.1 (((setB (fA lo) kn tr st i.1.1).map AV.int).map fv) fz)
  (fun i=>i.1.1≤en+1-st∧(band (KB lo) tr st en).drop i.1.1=i.2.2++post∧ba i.2.2=false∧zeros i.2.2≤i.1.2∧(post=[]∨zeros i.2.2=i.1.2∧∀ b r,post ≠ .c b::r)∧aX o i.2.1 (dg i.2.2++l)∧i.1.1+i.2.2.length=j+pre.length) (fun i=>en+1-st-i.1.1) ((j,Z),a,pre) ⟨jm,hj,hN,hz,hp,hr,rfl⟩ (Up.self (Nat.le_refl 3) rfl) (Nat.le_refl 3) fun i hi L hL=>?_
 obtain⟨⟨j',Z'⟩,a',pre'⟩:=i
 obtain⟨hj1,hd,hn,hzz,hpo,hr',hlen⟩:=hi
 dsimp only at hj1 hd hn hzz hpo hr' hlen
 k_extra "w"
 refine ey rfl (fun h=>?_) fun h=>?_
 ·have q1:(0:Int)≤(st+j':Nat):=Int.natCast_nonneg _
  have q2:((st+j':Nat):Int)<1000000:=Int.lt_of_le_of_lt (of_decide_eq_true h) (Int.ofNat_lt.mpr (Nat.lt_of_lt_of_le c.aZ (Nat.le_trans c.hl (by decide))))
  have hk:=Int.ofNat_le.mp (of_decide_eq_true h)
  have q3:=sg (f:=fA lo) (k:=0) c.he (c.he▸Nat.lt_of_le_of_lt hk c.aZ)
  cases pre' with
  | nil =>
   cases post with
   | nil =>
    have:=congrArg List.length hd
    rw [List.length_drop,bO c.aZ c.bu] at this
    exact absurd this (Nat.ne_of_gt (Nat.sub_pos_of_lt (Nat.lt_sub_of_add_lt (Nat.lt_succ_of_le (Nat.add_comm j' st▸hk)))))
   | cons t0 r0 =>
    have x:=c.at hd
    refine bx (hpo.resolve_left nofun) fun z0 nc=>?_
    have kb:=oZ c.JT x.hx
    have e0:fA (lo+1) (tr.getD (st+j') 0)=0:=by
     cases t0 with
     | z=>exact (kb.1 (vB x.hk)).1
     | n s bs=>exact (kb.2.1 (vA x.hk).1).1
     | c b=>exact absurd rfl (nc b r0)
    have g:=x.get
    rw [e0] at g
    have z0:decide ((Z':Int)=0)=true:=decide_eq_true (congrArg Nat.cast z0.symm)
    k_extra "w"
    refine hL.rt _ _ (hQ _ _ (Fin.w rfl fun R hR=>?_))
    have:=hR a' hr'
    rw [← hlen] at this
    exact this
  | cons t0 r0 =>
   have x:=c.at hd
   have kb:=oZ c.JT x.hx
   have g:=x.get
   have hlen':j'+1+r0.length=j+pre.length:=(Nat.add_assoc ..).trans ((congrArg (j' + ·) (Nat.add_comm ..)).trans hlen)
   have mu:en+1-st-(j'+1)<en+1-st-j':=Nat.sub_succ_lt_self _ _ x.hj
   cases t0 with
   | n s bs=>exact nomatch (hn:true=false)
   | z =>
    cases Z' with
    | zero=>exact absurd hzz (Nat.not_succ_le_zero _)
    | succ Z' =>
     have e0:=kb.1 (vB x.hk)
     rw [e0.1] at g
     have z0:decide (((Z'+1:Nat):Int)=0)=false:=decide_eq_false nofun
     k_extra "w"
     exact hL.nx ((j'+1,Z'),a',r0) _ ⟨x.hj,x.hr,hn,Nat.le_of_succ_le_succ hzz,hpo.imp_right fun e=>⟨Nat.succ.inj e.1,e.2⟩,hr',hlen'⟩ mu (Up.self (Nat.le_refl 3) (pB (Int.add_sub_cancel (Z':Int) 1:((Z'+1:Nat):Int)-1=(Z':Nat)) (by rw [x.same (e0.1.trans e0.2.symm)])))
   | c b =>
    have kc:=kb.2.2 (EH x.hk).1
    have hb:=(EH x.hk).2
    have z1:decide (fA (lo+1) (tr.getD (st+j') 0)≠0)=true:=decide_eq_true kc.1
    k_extra "w"
    refine aq rfl 1 [1] [BR o a'] [.id 0] (qb E fz o a' b _ hr') (Nat.le_refl 1) (by decide) rfl rfl ?_
    have hr2:aX o (a'+1) (dg r0++l):=hr'.at (m:=[b]) (k:=1) (Nat.le_refl 1)
    cases b with
    | false =>
     k_extra "w"
     exact hL.nx ((j'+1,Z'),a'+1,r0) _ ⟨x.hj,x.hr,hn,hzz,hpo,hr2,hlen'⟩ mu (Up.self (Nat.le_refl 3) (pB rfl (by rw [x.same (kc.2.1 (of_decide_eq_false hb.symm))])))
    | true =>
     have ko:=kc.2.2 (of_decide_eq_true hb.symm)
     have z2:decide (Builtin.bitAnd ((((fA (lo+1) (tr.getD (st+j') 0)).natAbs:Nat):Int).fdiv (2^((lo:Nat):Int).toNat)) 1=0)=true:=ko.1
     k_extra "w"
     refine ey rfl (fun h3=>?_) fun h3=>?_
     ·k_extra "w"
      exact hL.nx ((j'+1,Z'),a'+1,r0) _ ⟨x.hj,x.hr,hn,hzz,hpo,hr2,hlen'⟩ mu (Up.self (Nat.le_refl 3) (pB rfl ((gP (n:=st+j') rfl).trans (by rw [ko.2.1 h3,x.set]))))
     ·k_extra "w"
      exact hL.nx ((j'+1,Z'),a'+1,r0) _ ⟨x.hj,x.hr,hn,hzz,hpo,hr2,hlen'⟩ mu (Up.self (Nat.le_refl 3) (pB rfl ((gP (n:=st+j') rfl).trans (by rw [ko.2.2 h3,x.set]))))
 ·have hj':¬ j'<en+1-st:=fun q=>of_decide_eq_false h (Int.ofNat_le.mpr (ix q (Nat.lt_of_lt_of_le c.aZ c.hl)).1)
  rw [dN c.aZ c.bu hj'] at hd
  have zp:=(List.append_eq_nil_iff.mp hd.symm).1
  have hlen:j'=j+pre.length:=(congrArg (fun p:List K=>j'+p.length) zp).symm.trans hlen
  have hr':aX o a' l:=(congrArg (fun p:List K=>aX o a' (dg p++l)) zp).mp hr'
  exact hQ _ _ (Fin.w rfl fun R hR=>hlen▸hR a' hr')
noncomputable def pX (sz run:Nat) (rows:List (List K)) (pad l:List Bool):Prop:=run≤rows.length∧(∀ r∈rows.take run,ba r=false)∧l=(rows.take run).flatMap dg++(aT sz 0 [] (rows.drop run)++pad)
theorem je:∀ {a:List K},zeros a≤a.length
 | []=>Nat.le_refl 0
 | .z::a=>Nat.succ_le_succ (je (a:=a))
 | .c _::a=>Nat.le_succ_of_le (je (a:=a))
 | .n _ _::a=>Nat.le_succ_of_le (je (a:=a))
theorem Jw {sz m:Nat} {kept X:List Bool}:bj sz (1+m) kept++X=ae sz (6*(1+m).log2+0)++(ae (1+m).log2 (1+m-2^(1+m).log2)++(kept++X)):=by
 rw [bj,if_neg (by omega)];simp only [List.append_assoc];rfl
theorem Fg {runs m z j:Nat} (h:runs=16∨m≤runs∧m≤16) (h1:j+z<m) (h2:z≤15):z<runs:=by omega
section
variable {lo st en j sz runs:Nat} {kn tr:List Int} {rest:List (List K)} {o:List UInt8} {a:Int} {pad:List Bool}
theorem EF.next (c:EF lo st en kn tr) (hzr:runs=16∨en+1-st≤runs∧en+1-st≤16) (cn:∀ r∈rest,r≠[]) (hj:j<en+1-st) (hr:aX o a (bb sz (fun r k=>aT sz r k rest) 0 [] 0 [] ((band (KB lo) tr st en).drop j)++pad)) {G:Prop}
  (gN:∀ pre post v,(band (KB lo) tr st en).drop j=pre ++ .n 1 [decide (0<v)]::post->ba pre=false->zeros pre≤15->zeros pre<runs->Fj lo st en kn tr (j+pre.length) (.n 1 [decide (0<v)]) post v->aX o a (ae sz (6*zeros pre+1)++decide (0<v)::(dg pre++(bb sz (fun r k=>aT sz r k rest) 0 [] 0 [] post++pad)))->G)
  (gZ:∀ pre post v,(band (KB lo) tr st en).drop j=pre ++ .z::post->ba pre=false->zeros pre=15->15<runs->Fj lo st en kn tr (j+pre.length) .z post v->aX o a (ae sz (6*15+0)++(dg pre++(bb sz (fun r k=>aT sz r k rest) 0 [] 0 [] post++pad)))->G)
  (gR:∀ m,m≤rest.length->(∀ r∈rest.take m,ba r=false)->ba ((band (KB lo) tr st en).drop j)=false->aX o a (ae sz (6*(1+m).log2+0)++(ae (1+m).log2 (1+m-2^(1+m).log2)++(dg ((band (KB lo) tr st en).drop j)++((rest.take m).flatMap dg++(aT sz 0 [] (rest.drop m)++pad)))))->G):G:=by
 have hlen:((band (KB lo) tr st en).drop j).length=en+1-st-j:=by rw [List.length_drop,bO c.aZ c.bu]
 have m24:=KX c.h1 (Nat.lt_of_lt_of_le c.aZ c.hl)
 cases hN:ba ((band (KB lo) tr st en).drop j) with
 | false =>
  have h0:(band (KB lo) tr st en).drop j≠[]:=fun e=>by rw [e] at hlen;exact absurd hlen (Nat.ne_of_lt (Nat.sub_pos_of_lt hj))
  refine jT (lq (sz:=sz) rest 1 ([]++[]++dg ((band (KB lo) tr st en).drop j)) cn (by decide)) fun m m1 m2 m3=>?_
  rw [fT _ _ 0 [] 0 [] hN (.inr (.inr h0))] at hr
  skip
  rw [m3,List.append_assoc,Jw,List.append_assoc] at hr
  exact gR m m1 m2 hN hr
 | true =>
  refine n9 (jl (sz:=sz) (fun r k=>aT sz r k rest) _ 0 [] hN (by decide) (by refine hlen▸?_;omega)) fun pre t vs' he hp h=>?_
  skip
  have x:=c.at (by rw [← List.drop_drop,he,List.drop_left])
  have hz:j+zeros pre<en+1-st:=Nat.lt_of_le_of_lt (Nat.add_le_add_left je _) x.hj
  rcases h with ⟨s,bs,rfl,h1,h2⟩ | ⟨rfl,h1,h2,h3⟩
  ·refine md (vA x.hk) fun _ zp1 zp2=>?_;subst zp1;subst zp2
   rw [Nat.zero_add] at h1 h2
   rw [h2,List.append_nil] at hr
   refine gN pre vs' _ he hp h1 (Fg hzr hz h1) x ?_
   simpa only [List.append_assoc,List.cons_append,List.nil_append] using hr
  ·rw [Nat.zero_add] at h2
   rw [h3,List.append_nil] at hr
   refine gZ pre vs' _ he hp h2 (Fg hzr (h2▸hz) (by decide)) x ?_
   simpa only [List.append_assoc] using hr
end
theorem cg (s:List Nat):∀ xs:List Int,((xs.map AV.int).map fv).map (jk s)=(xs.map AV.int).map fv
 | []=>rfl
 | _::r=>congrArg (_ :: ·) (cg s r)
theorem pH {σ:NS} {n:Nat} {τ τ0:NS} (e:τ0=τ) (h:Up n [] σ fun _ σ'=>σ'=τ0):Up n [] σ fun _ σ'=>σ'=τ:=e▸h
theorem eO.keeps {fz fz':Hp} {sc:Addr} {st en hi lo:Nat} (h:eO fz sc st en hi lo) (le:ak fz fz'):eO fz' sc st en hi lo:=ip h fun p d a h1 h2 h3 h4=>⟨p,d,a,le _ _ h1,le _ _ h2,le _ _ h3,le _ _ h4⟩
theorem tT {z runs:Nat} (h:z<runs):6*z+1<6*runs:=by omega
theorem E5 {m j p run:Nat} (h:run=0) (h2:j+p<m):m-(j+p+1)+1<m-j+(if run=0 then 1 else 0):=by refine (if_pos h)▸?_;omega
theorem AF {m:Nat} {X:List Bool} (h:m=0):ae (1+m).log2 (1+m-2^(1+m).log2)++X=X:=by subst h;rfl
theorem O3 {z:Nat} (hz:z≤15):decide (sym (6*z+1)=240)=false:=decide_eq_false (by unfold sym;omega)
theorem EL {c:Bool} (h:decide (b2i c=1)=true):c=true:=by cases c<;>first | rfl | contradiction
theorem EK {c:Bool} (h:decide (b2i c=1)=false):c=false:=by cases c<;>first | rfl | contradiction
theorem Jx (m:Nat):(2:Int)^(((1+m).log2:Nat):Int).toNat+(1+m-2^(1+m).log2:Nat)=(m+1:Nat):=by
 have h:=Nat.log2_self_le (n:=1+m) (by omega)
 simp only [Int.toNat_natCast,Int.natCast_sub h]
 push_cast
 omega
structure Ro where
 j:Nat
 run:Nat
 a:Int
 g:Hp
structure Ft (sz:Nat) (vs:List K) (rest:List (List K)) (pad:List Bool) (fz:Hp) (o:List UInt8) (m:Nat) (d:Ro):Prop where
 le:ak fz d.g
 jm:d.j≤m
 st:(d.run=0∧aX o d.a (bb sz (fun r k=>aT sz r k rest) 0 [] 0 [] (vs.drop d.j)++pad)) ∨
  ∃ r,d.run=r+1∧ba (vs.drop d.j)=false∧r≤rest.length∧(∀ q∈rest.take r,ba q=false)∧aX o d.a (dg (vs.drop d.j)++((rest.take r).flatMap dg++(aT sz 0 [] (rest.drop r)++pad)))
noncomputable abbrev PD (sc t ra:Addr) (o:List UInt8) (en:Nat) (x y z:Option NV) (k run a:Int) (X:List NV) (g:Hp):NS:=⟨[some (.id 0),some (.int 0),some (.at ra),some (.id 2),some (.int k),some (.int en),x,y,z,none,none],RR sc t run o a++[.list X],g⟩
theorem lu {sc t ra:Addr} {o:List UInt8} {en:Nat} {x y z:Option NV} {k k' run run' a:Int} {X X':List NV} {g:Hp} (e:k=k') (e2:run=run') (e3:X=X'):PD sc t ra o en x y z k run a X g=PD sc t ra o en x y z k' run' a X' g:=e▸e2▸e3▸rfl
theorem oN {z:Nat}:(sym (6*z+1)).fdiv (2^(4:Int).toNat)=z∧decide (Builtin.bitAnd (sym (6*z+1)) 15=0)=false∧decide (Builtin.bitAnd (sym (6*z+1)) 15≠1)=false:=by
 skip
 rw [(bF (z:=z) (s:=1) (by decide)).2];exact⟨(bF (z:=z) (s:=1) (by decide)).1,rfl,rfl⟩
set_option maxHeartbeats 8000000 in
theorem Ag (E:Ev) (fz:Hp) (sc t ra:Addr) (runs sz st en hi' lo run:Nat) (kn tr:List Int) (rest:List (List K)) (o:List UInt8) (a:Int) (l pad:List Bool) (ht:TabAt fz t runs sz) (hsc:eO fz sc st en hi' lo) (hra:fz ra=some (.list (kn.map .int))) (c:EF lo st en kn tr)
  (h4:4≤runs) (hs:6*runs≤2^sz) (hz:sz≤16) (hz0:0<sz) (hzr:runs=16∨en+1-st≤runs∧en+1-st≤16) (cn:∀ r∈rest,r≠[]) (h8:rest.length≤8) (hr:aX o a l) (hl:pX sz run (band (KB lo) tr st en::rest) pad l) :
  aO (PE E) 4 598 [.id 0,.int 0,.at ra] (RR sc t run o a) fz fun R=>∀ fz' x a' l' (run':Nat),ak fz fz'->fz' x=some (.list ((setB (fA lo) kn tr st (en+1-st)).map .int))->aX o a' l'->pX sz run' rest pad l'->R (.at x) (RR sc t run' o a') fz':=by
 refine ip (id hsc) fun p sl ac hsc' _ _ _=>?_
 have s1:((kn.map AV.int).map fv).length≤1000000:=by rw [bJ,← c.he];exact Nat.le_trans c.hl (by decide)
 have h0:Ft sz (band (KB lo) tr st en) rest pad fz o (en+1-st) ⟨0,run,a,fz⟩:=⟨ak.refl _,Nat.zero_le _,by
  refine md hl fun l1 l2 zp2=>?_;subst zp2
  cases run with
  | zero=>exact .inl ⟨rfl,hr⟩
  | succ r=>exact .inr ⟨r,rfl,l2 _ (.head _),Nat.le_of_succ_le_succ l1,fun q hq=>l2 q (.tail _ hq),by
    rw [List.take_succ_cons,List.flatMap_cons,List.drop_succ_cons,List.append_assoc] at hr;exact hr⟩⟩
 have sm:=pU
 refine aj (bH E) 3 11 2 [some (.id 0),some (.int 0),some (.at ra),none,none,none,none,none,none,none,none] (ay E) (gF _) (g8 E 3) rfl (by kernel_rfl) rfl rfl rfl rfl fun Q hQ=>?_
 k_extra "w"
 refine ec rfl ?_
 refine ue 3 (fun i:Ro×Option NV×Option NV×Option NV=>PD sc t ra o en i.2.1 i.2.2.1 i.2.2.2 (st+i.1.j:Nat) i.1.run i.1.a (((setB (fA lo) kn tr st i.1.j).map AV.int).map fv) i.1.g)
  (fun i=>Ft sz (band (KB lo) tr st en) rest pad fz o (en+1-st) i.1) (fun i=>i.1.run=0->i.1.j=en+1-st) (fun i=>en+1-st-i.1.j+(if i.1.run=0 then 1 else 0)) (⟨0,run,a,fz⟩,none,none,none) h0
  (pH (lu rfl rfl (by rw [pL])) (e9 (τ:=PD sc t ra o en none none none (st:Nat) run a ((kn.map AV.int).map fv) fz) [0,1,2] rfl (by decide) (congrArg (fun X=>some (RR sc t run o a++[NO.list X])) (cg [0,1,2] kn).symm) rfl rfl (congrArg (· && true) (j4 3 kn)))) (by decide) (fun i hi L F hL hF=>?_) fun i hi hx=>?_
 ·have hsc1:=hi.le _ _ hsc'
  have ht1:=ht.keeps hi.le
  refine jg ht1.inst fun _ ti=>?_
  k_extra "w"
  refine ey rfl (fun h=>?_) fun h=>?_
  ·have hr0:i.1.run=0:=Int.ofNat_inj.mp (of_decide_eq_true h)
   have EW:=(hi.st.resolve_right fun zf=>aA zf fun r e _=>by rw [hr0] at e;cases e).2
   k_extra "w"
   refine ey rfl (fun h2=>?_) fun h2=>?_
   ·have hj:i.1.j<en+1-st:=Nat.lt_sub_of_add_lt (Nat.lt_succ_of_le (Nat.add_comm i.1.j st▸Int.ofNat_le.mp (of_decide_eq_true h2)))
    refine c.next hzr cn hj EW (fun pre post v he hN z15 zr x hr'=>?_) (fun pre post v he hN z15 zr x hr'=>?_) (fun m m1 m2 hN hr'=>?_)
    ·have f:=oN (z:=zeros pre)
     have f1:=f.2.1
     have f2:=f.2.2
     have f3:=O3 z15
     have q5:(0:Int)≤lo:=Int.natCast_nonneg lo
     have q6:((lo:Nat):Int)≤(1000000:Nat):=Int.ofNat_le.mpr (Nat.le_trans c.JT (by decide))
     have hx:6*zeros pre+1<6*runs:=tT zr
     have xk:=ix x.hj (Nat.lt_of_lt_of_le c.aZ c.hl)
     have xk2:st+(i.1.j+pre.length)<kn.length:=c.he▸Nat.lt_of_le_of_lt xk.1 c.aZ
     have q8:(0:Int)≤(st+(i.1.j+pre.length):Nat):=Int.natCast_nonneg _
     have q9:((st+(i.1.j+pre.length):Nat):Int)<1000000:=Int.ofNat_lt.mpr (Nat.lt_of_lt_of_le xk2 (c.he▸Nat.le_trans c.hl (by decide)))
     have q10:(((st+(i.1.j+pre.length):Nat):Int)).toNat<((((setB (fA lo) kn tr st (i.1.j+pre.length)).map AV.int).map fv).map (jk [0,1,2])).length:=(cg _ _).symm▸sg (f:=fA lo) (k:=0) c.he xk2
     have q11:decide ((en:Int)<(st+(i.1.j+pre.length):Nat))=false:=decide_eq_false (Int.not_lt.mpr (Int.ofNat_le.mpr xk.1))
     have kb:=(oZ c.JT x.hx).2.1 (vA x.hk).1
     k_extra "w"
     refine aq rfl 2 [1] [BR o i.1.a] [.at t,.id 0] (jD E i.1.g t runs sz (6*zeros pre+1) o i.1.a _ ht1 hx (Nat.lt_of_lt_of_le hx hs) hz hz0 hr') (by decide) (by decide) rfl rfl ?_
     have hr2:=hr'.skip
     k_extra "w"
     refine aq rfl 1 [1] [BR o (i.1.a+sz)] [.id 0] (qb E i.1.g o (i.1.a+sz) _ _ hr2) (by decide) (by decide) rfl rfl ?_
     have hr3:=hr2.at (m:=[decide (0<v)]) (k:=1) (Nat.le_refl 1)
     have cp:=mB E i.1.g sc t i.1.run st en hi' lo kn tr i.1.j pre (.n 1 [decide (0<v)]::post) (zeros pre) o (i.1.a+sz+1) _ (hsc.keeps hi.le) c he hi.jm hN (Nat.le_refl _) (.inr ⟨rfl,nofun⟩) hr3
     have done:∀ (w:Int) (a':Int),w=fA lo v->aX o a' (bb sz (fun r k=>aT sz r k rest) 0 [] 0 [] post++pad)->Ft sz (band (KB lo) tr st en) rest pad fz o (en+1-st) ⟨i.1.j+pre.length+1,0,a',i.1.g⟩∧((((setB (fA lo) kn tr st (i.1.j+pre.length)).map AV.int).map fv).map (jk [0,1,2])).set ((st+(i.1.j+pre.length):Nat):Int).toNat (.int w)=((setB (fA lo) kn tr st (i.1.j+pre.length+1)).map AV.int).map fv:=fun w a' e hr=>⟨⟨hi.le,x.hj,.inl ⟨rfl,x.hr.symm▸hr⟩⟩,(cg _ _).symm▸(gP (n:=st+(i.1.j+pre.length)) rfl).trans (by rw [e,x.set])⟩
     have mu:en+1-st-(i.1.j+pre.length+1)+1<en+1-st-i.1.j+(if i.1.run=0 then 1 else 0):=E5 hr0 x.hj
     k_extra "w"
     refine ey rfl (fun h3=>?_) fun h3=>?_
     ·k_extra "w"
      refine aq rfl 3 [0,1,2] _ [.id 0,.id 2,.int (st+i.1.j:Nat),.int (zeros pre:Nat)] cp (by decide) (by decide) (congrArg (fun X=>some (RR sc t i.1.run o (i.1.a+sz+1)++[NO.list X])) (cg [0,1,2] _).symm) (congrArg (fun z:Int=>[NV.id 0,.id 2,.int (st+i.1.j:Nat),.int z]) f.1) fun a' hr4=>?_
      k_extra "w"
      exact hL.nx (⟨i.1.j+pre.length+1,0,a',i.1.g⟩,_,_,_) _ (done _ a' (kb.2.1 (EL h3)).symm hr4).1 mu (Up.self (Nat.le_refl 3) (lu rfl (congrArg Nat.cast hr0) (done _ a' (kb.2.1 (EL h3)).symm hr4).2))
     ·k_extra "w"
      refine aq rfl 3 [0,1,2] _ [.id 0,.id 2,.int (st+i.1.j:Nat),.int (zeros pre:Nat)] cp (by decide) (by decide) (congrArg (fun X=>some (RR sc t i.1.run o (i.1.a+sz+1)++[NO.list X])) (cg [0,1,2] _).symm) (congrArg (fun z:Int=>[NV.id 0,.id 2,.int (st+i.1.j:Nat),.int z]) f.1) fun a' hr4=>?_
      k_extra "w"
      exact hL.nx (⟨i.1.j+pre.length+1,0,a',i.1.g⟩,_,_,_) _ (done _ a' (kb.2.2 (EK h3)).symm hr4).1 mu (Up.self (Nat.le_refl 3) (lu rfl (congrArg Nat.cast hr0) (done _ a' (kb.2.2 (EK h3)).symm hr4).2))
    ·have f:=bF (z:=15) (s:=0) (by decide)
     have f1:decide (Builtin.bitAnd (sym (6*15+0)) 15=0)=true:=decide_eq_true f.2
     have f2:decide ((sym (6*15+0)).fdiv (2^(4:Int).toNat)<15)=false:=by rw [f.1];rfl
     have f3:decide (sym (6*15+0)=240)=true:=by decide
     have hx:6*15+0<6*runs:=Nat.lt_of_succ_lt (tT zr)
     have xk:=ix x.hj (Nat.lt_of_lt_of_le c.aZ c.hl)
     have xk2:st+(i.1.j+pre.length)<kn.length:=c.he▸Nat.lt_of_le_of_lt xk.1 c.aZ
     have q8:(0:Int)≤(st+(i.1.j+pre.length):Nat):=Int.natCast_nonneg _
     have q9:((st+(i.1.j+pre.length):Nat):Int)<1000000:=Int.ofNat_lt.mpr (Nat.lt_of_lt_of_le xk2 (c.he▸Nat.le_trans c.hl (by decide)))
     have q10:(((st+(i.1.j+pre.length):Nat):Int)).toNat<((((setB (fA lo) kn tr st (i.1.j+pre.length)).map AV.int).map fv).map (jk [0,1,2])).length:=(cg _ _).symm▸sg (f:=fA lo) (k:=0) c.he xk2
     have q11:decide ((en:Int)<(st+(i.1.j+pre.length):Nat))=false:=decide_eq_false (Int.not_lt.mpr (Int.ofNat_le.mpr xk.1))
     have e0:=((oZ c.JT x.hx).1 (vB x.hk)).2
     have cp:=mB E i.1.g sc t i.1.run st en hi' lo kn tr i.1.j pre (.z::post) 15 o (i.1.a+sz) _ (hsc.keeps hi.le) c he hi.jm hN (Nat.le_of_eq z15) (.inr ⟨z15,nofun⟩) hr'.skip
     k_extra "w"
     refine aq rfl 2 [1] [BR o i.1.a] [.at t,.id 0] (jD E i.1.g t runs sz (6*15+0) o i.1.a _ ht1 hx (Nat.lt_of_lt_of_le hx hs) hz hz0 hr') (by decide) (by decide) rfl rfl ?_
     k_extra "w"
     refine aq rfl 3 [0,1,2] _ [.id 0,.id 2,.int (st+i.1.j:Nat),.int (15:Nat)] cp (by decide) (by decide) (congrArg (fun X=>some (RR sc t i.1.run o (i.1.a+sz)++[NO.list X])) (cg [0,1,2] _).symm) (congrArg (fun z:Int=>[NV.id 0,.id 2,.int (st+i.1.j:Nat),.int z]) f.1) fun a' hr4=>?_
     k_extra "w"
     exact hL.nx (⟨i.1.j+pre.length+1,0,a',i.1.g⟩,_,_,_) _ ⟨hi.le,x.hj,.inl ⟨rfl,x.hr.symm▸hr4⟩⟩ (E5 hr0 x.hj) (Up.self (Nat.le_refl 3) (lu rfl (congrArg Nat.cast hr0) ((cg _ _).symm▸(gP (n:=st+(i.1.j+pre.length)) rfl).trans (by rw [← e0,x.set]))))
    ·have rf:=dH (run:=1+m) (Nat.ne_of_gt (Nat.add_comm 1 m▸Nat.succ_pos m)) (Nat.add_comm 1 m▸Nat.succ_le_succ (Nat.le_trans m1 h8))
     have l3:(1+m).log2≤3:=rf.2.1
     have f:=bF (z:=(1+m).log2) (s:=0) (by decide)
     have hx:6*(1+m).log2+0<6*runs:=Nat.lt_of_lt_of_le rf.2.2.2.2.2.2 (Nat.mul_le_mul_left 6 h4)
     have f1:decide (Builtin.bitAnd (sym (6*(1+m).log2+0)) 15=0)=true:=decide_eq_true f.2
     have f2:decide ((sym (6*(1+m).log2+0)).fdiv (2^(4:Int).toNat)<15)=true:=by rw [f.1];exact decide_eq_true (Int.ofNat_lt.mpr (Nat.lt_of_le_of_lt l3 (by decide)))
     have q3:0≤(sym (6*(1+m).log2+0)).fdiv (2^(4:Int).toNat):=f.1▸Int.natCast_nonneg _
     have q4:(sym (6*(1+m).log2+0)).fdiv (2^(4:Int).toNat)≤1000000:=f.1▸Int.ofNat_le.mpr (Nat.le_trans l3 (by decide))
     have nu:en+1-st-i.1.j+0<en+1-st-i.1.j+(if i.1.run=0 then 1 else 0):=by rw [if_pos hr0];exact Nat.lt_succ_self _
     k_extra "w"
     refine aq rfl 2 [1] [BR o i.1.a] [.at t,.id 0] (jD E i.1.g t runs sz (6*(1+m).log2+0) o i.1.a _ ht1 hx (Nat.lt_of_lt_of_le hx hs) hz hz0 hr') (by decide) (by decide) rfl rfl ?_
     k_extra "w"
     refine ey rfl (fun h3=>?_) fun h3=>?_
     ·have cb:=ma E i.1.g o (i.1.a+sz) (1+m).log2 (1+m-2^(1+m).log2) _ hr'.skip (Nat.le_trans l3 (by decide)) (Int.ofNat_lt.mp (f.1▸of_decide_eq_true h3)) rf.2.2.2.2.2.1
      k_extra "w"
      refine aq rfl 2 [1] [BR o (i.1.a+sz)] [.id 0,.int ((1+m).log2:Nat)] cb (by decide) (by decide) rfl (congrArg (fun z:Int=>[NV.id 1,.int z]) f.1) ?_
      k_extra "w"
      exact hL.nx (⟨i.1.j,m+1,i.1.a+sz+(1+m).log2,i.1.g⟩,_,_,_) _ ⟨hi.le,hi.jm,.inr ⟨m,rfl,hN,m1,m2,hr'.skip.skip⟩⟩ nu (Up.self (Nat.le_refl 3) (lu rfl ((congrArg (fun z:Int=>(2:Int)^z.toNat+(1+m-2^(1+m).log2:Nat)) f.1).trans (Jx m)) rfl))
     ·have h0:m=0:=oq (f.1▸of_decide_eq_false h3)
      have hr5:=hr'.skip
      rw [AF h0] at hr5
      k_extra "w"
      exact hL.nx (⟨i.1.j,m+1,i.1.a+sz,i.1.g⟩,_,_,_) _ ⟨hi.le,hi.jm,.inr ⟨m,rfl,hN,m1,m2,hr5⟩⟩ nu (Up.self (Nat.le_refl 3) (lu rfl ((congrArg (fun z:Int=>(2:Int)^z.toNat) f.1).trans (by rw [h0];rfl)) rfl))
   ·exact hF fun _=>Nat.le_antisymm hi.jm (Nat.le_of_not_lt fun q=>of_decide_eq_false h2 (Int.ofNat_le.mpr (ix q (Nat.lt_of_lt_of_le c.aZ c.hl)).1))
  ·refine mF rfl rfl ?_
   exact hF fun e=>absurd (congrArg Nat.cast e) (of_decide_eq_false h)
 ·have hsc1:=hi.le _ _ hsc'
  k_extra "w"
  refine ey rfl (fun h=>?_) fun h=>?_
  ·refine Ru (hi.st.resolve_left fun q=>absurd (Int.ofNat_lt.mp (of_decide_eq_true h)) (q.1▸Nat.lt_irrefl 0)) fun r e hN r1 r2 EW=>?_
   have dl:i.1.j+((band (KB lo) tr st en).drop i.1.j).length=en+1-st:=by rw [List.length_drop,bO c.aZ c.bu];exact Nat.add_sub_cancel' hi.jm
   have cp:=mB E i.1.g sc t i.1.run st en hi' lo kn tr i.1.j _ [] (en+1) o i.1.a _ (hsc.keeps hi.le) c (List.append_nil _).symm hi.jm hN (Nat.le_trans je (Nat.le_trans (Nat.le_add_left _ _) (Nat.le_trans (Nat.le_of_eq dl) (Nat.sub_le _ _)))) (.inl rfl) EW
   k_extra "w"
   refine aq rfl 3 [0,1,2] _ [.id 0,.id 2,.int (st+i.1.j:Nat),.int (en+1:Nat)] cp (by decide) (by decide) (congrArg (fun X=>some (RR sc t i.1.run o i.1.a++[NO.list X])) (cg [0,1,2] _).symm) rfl fun a' hr4=>?_
   k_extra "w"
   exact hQ _ _ (Fin.fr 2 ((setB (fA lo) kn tr st (i.1.j+((band (KB lo) tr st en).drop i.1.j).length)).map .int) (RR sc t ((i.1.run:Int)-1) o a') rfl (congrArg (fun X=>some (NO.list X)) (cg _ _)) rfl rfl rfl fun x fz' le e' R hR =>
    (congrArg (fun z:Int=>R (.at x) (RR sc t z o a') fz') (by rw [e];exact Int.add_sub_cancel (r:Int) 1:(i.1.run:Int)-1=(r:Nat))).mpr (hR fz' x _ _ r (hi.le.trans le) (dl▸e') hr4 ⟨r1,r2,rfl⟩))
  ·have hr0:i.1.run=0:=Nat.eq_zero_of_not_pos fun q=>of_decide_eq_false h (Int.ofNat_lt.mpr q)
   have EW:=(hi.st.resolve_right fun zf=>aA zf fun r e _=>by rw [hr0] at e;cases e).2
   rw [hx hr0,dN c.aZ c.bu (Nat.lt_irrefl _)] at EW
   k_extra "w"
   exact hQ _ _ (Fin.fr 2 ((setB (fA lo) kn tr st i.1.j).map .int) (RR sc t i.1.run o i.1.a) rfl rfl rfl rfl rfl fun x fz' le e' R hR =>
    (congrArg (fun z:Nat=>R (.at x) (RR sc t z o i.1.a) fz') hr0).mpr (hR fz' x _ _ 0 (hi.le.trans le) (hx hr0▸e') EW ⟨Nat.zero_le _,nofun,rfl⟩))
noncomputable def Src (A B:Int):List NO:=[.list [.int A,.int B]]
structure eC (A B:Int):Prop where
 a:0≤A
 b:0≤B
 c:B<2147483647
theorem dU {a b:Int} (h:0<b):0≤a.fmod b∧a.fmod b<b:=⟨Int.fmod_nonneg_of_pos a h,Int.fmod_lt_of_pos a h⟩
theorem oM (E:Ev) (fz:Hp) (A B m:Int) (s:eC A B) (h0:0<m) (h1:m<1073741824) :
  aO (PE E) 1 773 [.id 0,.int m] (Src A B) fz fun R=>∀ r A' B',0≤r->r<m->eC A' B'->(A=0->A'=0)->R (.int r) (Src A' B') fz:=by
 have m0:m≠0:=Int.ne_of_gt h0
 refine aj (bH E) 0 4 1 [some (.id 0),some (.int m),none,none] (ay E) (oV _) (pR E 0) rfl (by kernel_rfl) rfl rfl rfl rfl fun Q hQ=>?_
 k_extra "w"
 refine ey rfl (fun h=>?_) fun h=>?_
 ·k_extra "w"
  exact hQ _ _ (Fin.w rfl fun R hR=>hR _ _ _ (dU h0).1 (dU h0).2 ⟨Int.fdiv_nonneg s.a (Int.le_of_lt h0),s.b,s.c⟩ fun e=>absurd (of_decide_eq_true h) (e▸Int.lt_irrefl _))
 ·have g1:small 48271:=⟨by decide,by decide⟩
  have g2:(2147483647:Int)≠0:=by decide
  have f:=dU (a:=B*48271+11) (by decide:(0:Int)<2147483647)
  have g3:small ((B*48271+11).fmod 2147483647):=⟨Int.lt_of_lt_of_le (by decide) f.1,Int.lt_trans f.2 (by decide)⟩
  have g4:(2147483629:Int)≠0:=by decide
  k_extra "w"
  exact hQ _ _ (Fin.w rfl fun R hR=>hR _ _ _ (dU h0).1 (dU h0).2 ⟨s.a,f.1,f.2⟩ fun e=>e)
theorem v8 (E:Ev) (fz:Hp) (A B:Int) (s:eC A B) :
  aO (PE E) 2 785 [.id 0] (Src A B) fz fun R=>∀ r A' B',-13<r->r<13->eC A' B'->R (.int r) (Src A' B') fz:=by
 refine aj (bH E) 1 4 1 [some (.id 0),none,none,none] (ay E) (mI _) (nk E 1) rfl (by kernel_rfl) rfl rfl rfl rfl fun Q hQ=>?_
 k_extra "w"
 refine aq rfl 1 [0] (Src A B) [.id 0,.int 8] (oM E fz A B 8 s (by decide) (by decide)) (by decide) (by decide) rfl rfl fun k A1 B1 k0 k1 s1 _=>?_
 k_extra "w"
 refine ey rfl (fun h=>?_) fun h=>?_
 ·k_extra "w"
  exact hQ _ _ (Fin.w rfl fun R hR=>hR _ _ _ (by decide) (by decide) s1)
 ·have q1:(0:Int)≤k-4:=Int.sub_nonneg_of_le (Int.not_lt.mp (of_decide_eq_false h))
  have q2:k-4<1000000:=Int.lt_trans (Int.sub_lt_sub_right k1 4) (by decide)
  have key:∀ i:_root_.Fin 4,∃ w:Int,([NV.int 1,.int 1,.int 3,.int 12]:List NV)[i.1]?=some (.int w)∧0<w∧w<13:=fun i=>match i with
   | ⟨0,_⟩=>⟨1,rfl,by decide,by decide⟩ | ⟨1,_⟩=>⟨1,rfl,by decide,by decide⟩ | ⟨2,_⟩=>⟨3,rfl,by decide,by decide⟩ | ⟨3,_⟩=>⟨12,rfl,by decide,by decide⟩
  refine jT (key ⟨(k-4).toNat,by omega⟩) fun w e w0 w1=>?_
  k_extra "w"
  refine aq rfl 1 [0] (Src A1 B1) [.id 0,.int w] (oM E fz A1 B1 w s1 w0 (Int.lt_trans w1 (by decide))) (by decide) (by decide) rfl rfl fun r A2 B2 r0 r1 s2 _=>?_
  k_extra "w"
  refine aq rfl 1 [0] (Src A2 B2) [.id 0,.int 2] (oM E fz A2 B2 2 s2 (by decide) (by decide)) (by decide) (by decide) rfl rfl fun t A3 B3 t0 t1 s3 _=>?_
  have q3:small (1+r):=⟨by omega,by omega⟩
  have sm:=pU
  k_extra "w"
  refine hQ _ _ (Fin.cw (Src A3 B3) rfl rfl rfl rfl fun R hR=>?_)
  have ht:t=0∨t=1:=by omega
  rcases ht with rfl | rfl
  ·exact hR _ _ _ (by omega) (by omega) s3
  ·exact hR _ _ _ (by omega) (by omega) s3
noncomputable def cnt (runs sz k:Nat):Int:=if k+1=sz then (6*runs:Nat) else 0
noncomputable def df (runs sz:Nat):List Int:=(List.range 16).map (cnt runs sz)
theorem wk {runs sz k:Nat} (h:k<16):(df runs sz)[k]?=some (cnt runs sz k):=by unfold df;rw [List.getElem?_map,List.getElem?_range h];rfl
theorem jR {runs sz:Nat}:(df runs sz).length=16:=by unfold df;rw [List.length_map,List.length_range]
theorem wQ {xs:List Int} {k:Int} {n:Nat} {v:Int} (e:k=n) (h:xs[n]?=some v):((xs.map AV.int).map fv)[k.toNat]?=some (.int v):=by
 subst e;simp only [Int.toNat_natCast,List.getElem?_map,List.getElem?_map,h];rfl
structure vE (runs sz k:Nat) (fz:Hp) (a:Addr) (c p:Int):Prop where
 at_:fz a=some (.tup [.int c,.int (cnt runs sz k),.int p])
 z:k+1≤sz->c=0∧p=0
noncomputable def gu (runs sz:Nat) (fz:Hp) (rws:List Addr):Prop:=∀ k a,rws[k]?=some a->∃ c p,vE runs sz k fz a c p
theorem gu.keeps {runs sz:Nat} {fz fz':Hp} {rws:List Addr} (h:gu runs sz fz rws) (le:ak fz fz'):gu runs sz fz' rws:=fun k a e=>ES (h k a e) fun c p r=>⟨c,p,le _ _ r.at_,r.z⟩
theorem gu.snoc {runs sz:Nat} {fz:Hp} {rws:List Addr} {a:Addr} {c p:Int} (h:gu runs sz fz rws) (r:vE runs sz rws.length fz a c p):gu runs sz fz (rws++[a]):=fun k b e=>by
 rcases Nat.lt_trichotomy k rws.length with q | q | q
 ·rw [List.getElem?_append_left q] at e;exact h k b e
 ·subst q;replace e:=List.getElem?_concat_length▸e;have e:=Option.some.inj e;subst e;exact⟨c,p,r⟩
 ·rw [List.getElem?_eq_none (by refine List.length_append▸?_;exact q)] at e;contradiction
noncomputable abbrev d9 (rws:List Addr):List NV:=(rws.map AV.ref).map fv
theorem eD {rws:List Addr} {a:Addr}:d9 rws++[.at a]=d9 (rws++[a]):=by
 refine (?_:(rws.map AV.ref).map fv++_=((rws++[a]).map AV.ref).map fv)
 simp only [List.map_append,List.map_append];rfl
theorem b6 {rws:List Addr}:(d9 rws).length=rws.length:=(List.length_map ..).trans (List.length_map ..)
theorem lI (n:Nat):∀ rws:List Addr,(d9 rws).all (ez n)=true
 | []=>rfl
 | _::r=>lI n r
theorem sY (s:List Nat):∀ rws:List Addr,(d9 rws).map (jk s)=d9 rws
 | []=>rfl
 | _::r=>congrArg (_ :: ·) (sY s r)
theorem tn {runs sz k:Nat} {c p:Int} (h:k<sz->c=0∧p=0):k+1<sz->(c+cnt runs sz k)*2=0∧p+cnt runs sz k=0:=fun h2=>by
 have:=h (Nat.lt_of_succ_lt h2)
 unfold cnt;rw [if_neg (Nat.ne_of_lt h2),this.1,this.2];exact⟨rfl,rfl⟩
theorem Kl {runs sz k:Nat} {c:Int} (hs:6*runs<2^sz) (hc:c=0) (e:k+1=sz):¬ (2:Int)^(1+(k:Int)*1).toNat≤c+cnt runs sz k:=by
 simp only [show (1+(k:Int)*1).toNat=sz by omega,hc,cnt,if_pos e,Int.zero_add]
 have:=Int.ofNat_lt.mpr hs
 skip
 exact Int.not_le.mpr this
theorem rJ (E:Ev) (fz:Hp) (ct:Addr) (runs sz:Nat) (hct:fz ct=some (.tup ((df runs sz).map .int))) (hs:6*runs<2^sz) (h16:sz≤16) (hr:runs≤16) :
  aO (PE E) 1 640 [.at ct] [] fz fun R=>∀ fz' x (rws:List Addr),ak fz fz'->fz' x=some (.list (rws.map .ref))->rws.length=16->gu runs sz fz' rws->R (.at x) [] fz':=by
 have s1:(((df runs sz).map AV.int).map fv).length=16:=bJ.trans jR
 have s2:(((df runs sz).map AV.int).map fv).length≤1000000:=s1▸by decide
 have sm:=pU
 refine aj (bH E) 0 9 0 [some (.at ct),none,none,none,none,none,none,none,none] (ay E) (oU _) (pQ E 0) rfl (by kernel_rfl) rfl rfl rfl rfl fun Q hQ=>?_
 k_extra "w"
 refine dq rfl fun tp fz0 (le0:ak fz fz0) e0=>?_
 have hct0:=le0 _ _ hct
 k_extra "w"
 refine ec rfl ?_
 refine bG (eI (j:=1) (N:=16) (rfl:_=some (NO.range 1 (((((df runs sz).map AV.int).map fv).length:Nat)+1) 1)) (by rw [s1];rfl) ⟨by decide,by decide⟩ (by rw [s1];exact⟨by decide,by decide⟩)) (n':=1)
  (fun k (i:(List Addr×Int×Int)×Hp×Option NV×Option NV)=>⟨[some (.at ct),some (.id 0),some (.int i.1.2.1),some (.int i.1.2.2),i.2.2.1,i.2.2.2,none,none,none],[.list (d9 i.1.1)],i.2.1⟩)
  (fun k i=>i.1.1.length=k∧ak fz i.2.1∧gu runs sz i.2.1 i.1.1∧(k<sz->i.1.2.1=0∧i.1.2.2=0)) (([],0,0),fz0,none,none) ⟨rfl,le0,nofun,fun _=>⟨rfl,rfl⟩⟩ (e9 [0] rfl (by decide) rfl rfl rfl rfl) (Nat.zero_le _) (fun _ _ _ _=>trivial) (fun k i hk hi L hL=>?_) fun i hi=>?_
 ·have hct:=hi.2.1 _ _ hct
  have c1:(0:Int)≤1+(k:Int)*1-1:=by omega
  have c2:1+(k:Int)*1-1<1000000:=by omega
  have g:=wQ (k:=1+(k:Int)*1-1) (n:=k) (by omega) (wk (runs:=runs) (sz:=sz) hk)
  have c3:(d9 i.1.1).length≤1000000:=by rw [b6,hi.1];omega
  have c4:(0:Int)≤1+(k:Int)*1:=by omega
  have c5:1+(k:Int)*1≤1000000:=by omega
  k_extra "w"
  refine dq rfl fun tp fz1 (le1:ak i.2.1 fz1) e1=>?_
  have ro:vE runs sz i.1.1.length fz1 tp i.1.2.1 i.1.2.2:=⟨hi.1▸e1,fun h=>hi.2.2.2 (hi.1▸h)⟩
  k_extra "w"
  refine ey rfl (fun h=>?_) fun h=>?_
  ·have n1:¬ k+1=sz:=fun e=>Kl hs (hi.2.2.2 (e▸Nat.lt_succ_self k)).1 e (of_decide_eq_true h)
   have n2:decide ((0:Int)<cnt runs sz k)=false:=by unfold cnt;rw [if_neg n1];rfl
   k_extra "w"
   exact hL.nx ((i.1.1++[tp],(i.1.2.1+cnt runs sz k)*2,i.1.2.2+cnt runs sz k),fz1,_,_) _ ⟨by rw [List.length_append,hi.1];rfl,hi.2.1.trans le1,(hi.2.2.1.keeps le1).snoc ro,tn hi.2.2.2⟩ (pH (congrArg (fun X=>NS.mk _ [NO.list X] _) eD) (Up.self (Nat.le_refl 1) rfl))
  ·refine mF rfl rfl ?_
   k_extra "w"
   exact hL.nx ((i.1.1++[tp],(i.1.2.1+cnt runs sz k)*2,i.1.2.2+cnt runs sz k),fz1,_,_) _ ⟨by rw [List.length_append,hi.1];rfl,hi.2.1.trans le1,(hi.2.2.1.keeps le1).snoc ro,tn hi.2.2.2⟩ (pH (congrArg (fun X=>NS.mk _ [NO.list X] _) eD) (Up.self (Nat.le_refl 1) rfl))
 ·exact hQ _ _ (Fin.fr 0 (i.1.1.map .ref) [] rfl rfl rfl rfl rfl fun x fz' le e R hR=>hR fz' x i.1.1 (hi.2.1.trans le) e hi.1 (hi.2.2.1.keeps le))
theorem oY {xs:List Int}:(xs.map AV.int).map fv=xs.map NV.int:=by rw [List.map_map];rfl
theorem wh (x:Int):∀ s:Nat,s<16->((List.range 16).map fun k=>if k+1=s+1 then x else 0)=List.replicate s 0++x::List.replicate (15-s) 0
 | 0,_ | 1,_ | 2,_ | 3,_ | 4,_ | 5,_ | 6,_ | 7,_ | 8,_ | 9,_ | 10,_ | 11,_ | 12,_ | 13,_ | 14,_ | 15,_=>rfl
 | n+16,h=>absurd h (Nat.not_lt.mpr (Nat.le_add_left _ _))
theorem wm {runs sz:Nat} (h0:0<sz) (h16:sz≤16):(df runs sz).sum=(6*runs:Nat):=by
 refine jg (Nat.exists_eq_succ_of_ne_zero (Nat.ne_of_gt h0)) fun s zp1=>?_;subst zp1
 exact (congrArg List.sum (wh (6*runs:Nat) s h16)).trans (by simp)
theorem uc {i j:Nat} (h:sym i=sym j):i=j:=by unfold sym at h;omega
theorem nh {runs:Nat}:(bz runs).length=6*runs:=by unfold bz;rw [List.length_map,List.length_range]
theorem Et {runs k:Nat} (hk:k<6*runs):sym k ∉ (bz runs).take k:=fun h=>by
 unfold bz at h
 rw [← List.map_take,List.take_range,List.mem_map] at h
 obtain⟨j,hj,e⟩:=h
 rw [List.mem_range] at hj
 have:=uc e
 omega
theorem zw {runs k:Nat} (h:k<6*runs):(((bz runs).map AV.int).map fv).getD k .none = .int (sym k):=by
 simp only [List.getD,List.getElem?_map,List.getElem?_map,ky h];rfl
theorem qc (E:Ev) (fz:Hp) (runs sz:Nat) (h0:0<sz) (h16:sz≤16) (hr:runs≤16) :
  aO (PE E) 1 647 [.id 0,.id 1] [.list (((df runs sz).map AV.int).map fv),.list (((bz runs).map AV.int).map fv)] fz fun R=>R .none [.list (((df runs sz).map AV.int).map fv),.list (((bz runs).map AV.int).map fv)] fz:=by
 have s1:(((df runs sz).map AV.int).map fv).length=16:=bJ.trans jR
 have s2:(((df runs sz).map AV.int).map fv).length≤1000000:=s1▸by decide
 have s3:(((bz runs).map AV.int).map fv).length=6*runs:=bJ.trans nh
 have s4:(((bz runs).map AV.int).map fv).length≤1000000:=by rw [s3];omega
 have d1:decide (((((df runs sz).map AV.int).map fv).length:Int)≠16)=false:=by rw [s1];rfl
 have d2:decide ((df runs sz).sum≠((((bz runs).map AV.int).map fv).length:Nat))=false:=by rw [s3,wm h0 h16];exact decide_eq_false fun h=>h rfl
 have d3:decide ((256:Int)<((((bz runs).map AV.int).map fv).length:Nat))=false:=by rw [s3];exact decide_eq_false (by omega)
 refine aj (bH E) 0 11 2 [some (.id 0),some (.id 1),none,none,none,none,none,none,none,none,none] (ay E) (nJ _) (nP E 0) rfl (by kernel_rfl) rfl rfl (by refine (?_:(_&&(_&&true))=true);rw [Bool.and_true];exact (congr (congrArg and (j4 2 _)) (j4 2 _))) rfl fun Q hQ=>?_
 k_extra "w"
 refine ec rfl ⟨df runs sz,oY,jR▸by decide,fun m hm _=>?_⟩
 have d4:decide (m<0)=false:=by
  skip
  refine aA (List.mem_map.mp hm) fun k _ zp2=>?_;subst zp2
  exact decide_eq_false (by unfold cnt;split<;>omega)
 k_extra "w"
 refine ec rfl ⟨df runs sz,oY,?_⟩
 k_extra "w"
 refine ec rfl ?_
 refine bG (j3 (j:=1) (n':=3) rfl s4 (by decide) (fun x hx=>by rw [oY] at hx;refine aA (List.mem_map.mp hx) fun i _ zp2=>?_;subst zp2;trivial)) (fun k (i:((Int->Bool)×Nat)×Option NV)=>⟨[some (.id 0),some (.id 1),some (.id 2),i.2,none,none,none,none,none,none,none],[.list (((df runs sz).map AV.int).map fv),.list (((bz runs).map AV.int).map fv),.bg i.1.1 i.1.2],fz⟩)
  (fun k i=>i.1.2≤k∧∀ x,i.1.1 x=true↔x∈(bz runs).take k) ((fun _=>false,0),none) ⟨Nat.le_refl 0,fun x=>⟨nofun,nofun⟩⟩ (Up.self (Nat.le_refl 3) rfl) (by decide) (fun _ _ _ _=>rfl) (fun k i hk hi L hL=>?_) fun i hi=>?_
 ·have hk:k<6*runs:=s3▸hk
  have g:=zw hk
  have c1:i.1.2<4000:=by omega
  have n1:i.1.1 (sym k)=false:=Bool.eq_false_iff.mpr fun e=>Et hk ((hi.2 _).mp e)
  refine g▸?_
  k_extra "w"
  exact hL.nx ((fun x=>i.1.1 x||decide (x=sym k),if i.1.1 (sym k) then i.1.2 else i.1.2+1),_) _ ⟨by rw [n1];exact Nat.succ_le_succ hi.1,fun x=>by
   rw [Bool.or_eq_true,hi.2,decide_eq_true_eq,List.take_add_one,ky hk,Option.toList_some,List.mem_append,List.mem_singleton]⟩ (Up.self (Nat.le_refl 3) rfl)
 ·exact hQ _ _ (Fin.cut [.list (((df runs sz).map AV.int).map fv),.list (((bz runs).map AV.int).map fv)] rfl (congr (congrArg (fun X Y=>some [NO.list X,.list Y]) (cg (List.range 2) _).symm) (cg (List.range 2) _).symm) rfl trivial (fun o ho=>by
   have hx:∀ (xs:List Int),(NO.list ((xs.map AV.int).map fv)).okN 2:=fun xs x hx=>by rw [oY] at hx;refine aA (List.mem_map.mp hx) fun i _ zp2=>?_;subst zp2;trivial
   rcases List.mem_cons.mp ho with rfl | ho
   ·exact hx _
   ·rw [List.mem_singleton] at ho;subst ho;exact hx _) fun R hR=>hR)
theorem lp {n:Nat} {v:NV} (h:ez n v=true):jk (List.range n) v=v:=by
 cases v with
 | id i=>exact congrArg NV.id (by simp only [List.getD,List.getElem?_range (Nat.blt_eq.mp h)];rfl)
 | _=>rfl
theorem eJ {α:Type} {f:α->α}:∀ {l:List α},(∀ x∈l,f x=x)->l.map f=l
 | [],_=>rfl
 | x::r,h=>by simp only [List.map_cons,h x (.head _),eJ fun y hy=>h y (.tail _ hy)]
theorem yG {n:Nat} {o:NO} (h:mU n o=true):lO (List.range n) o=o:=by
 cases o with
 | list xs=>exact congrArg NO.list (eJ fun x hx=>lp (List.all_eq_true.mp h x hx))
 | tup xs=>exact congrArg NO.tup (eJ fun x hx=>lp (List.all_eq_true.mp h x hx))
 | inst C fs=>exact congrArg (NO.inst C) (eJ fun x hx=>Prod.ext rfl (lp (List.all_eq_true.mp h x hx)))
 | az fs=>exact congrArg NO.az (eJ fun x hx=>Prod.ext rfl (lp (List.all_eq_true.mp h x hx)))
 | aC fs=>exact congrArg NO.aC (eJ fun x hx=>Prod.ext rfl (lp (List.all_eq_true.mp h x hx)))
 | _=>rfl
theorem pC {h:List NO}:∀ {s:List Nat} {l:List NO},s.length=l.length->(∀ i o,l[i]?=some o->h[s.getD i 0]?=some o)->pick h s=some l
 | [],[],_,_=>rfl
 | [],_::_,e,_ | _::_,[],e,_=>by cases e
 | i::r,o::l,e,k=>by
  rw [sj,show h[i]?=some o from k 0 o rfl,pC (s:=r) (l:=l) (Nat.succ.inj e) fun j p hj=>k (j+1) p hj]
theorem uZ {h H X:List NO} (e:h=H++X) (ok:H.all (mU H.length)=true):pick h (List.range H.length)=some (H.map (lO (List.range H.length))):=by
 simp only [eJ fun o ho=>yG (List.all_eq_true.mp ok o ho)]
 refine pC List.length_range fun i o hi=>?_
 skip
 simp only [List.getD,List.getElem?_range ((List.getElem?_eq_some_iff.mp hi).1),e]
 exact (List.getElem?_append_left ((List.getElem?_eq_some_iff.mp hi).1)).trans hi
theorem tH {m:Nat}:∀ {l:List (Option NV)},(l.all fun o=>match o with | some v=>ez m v | none=>true)=true->l=l.map (Option.map (jk (List.range m)))
 | [],_=>rfl
 | none::r,h=>congrArg (none :: ·) (tH (l:=r) h)
 | some v::r,h=>by
  rw [List.all_cons,Bool.and_eq_true] at h
  simp only [List.map_cons,Option.map_some,lp h.1,← tH (l:=r) h.2]
theorem fQ {a b:Nat} (h:Nat.ble a b=true):a≤b:=Nat.le_of_ble_eq_true h
theorem pG {σ:NS} {n:Nat} {τ:NS} (X:List NO) (m:Nat) (hm:τ.h.length=m) (hn:n≤m) (hh:σ.h=τ.h++X) (el:lm τ.loc σ.loc=τ.loc) (ef:σ.fz=τ.fz) (okl:(τ.loc.all fun o=>match o with | some v=>ez m v | none=>true)=true) (px:τ.h.all (mU m)=true):Up n [] σ fun _ σ'=>σ'=τ:=by
 subst hm
 exact Up.sel (List.range τ.h.length) [] τ (by rw [List.take_range,Nat.min_eq_left hn]) List.nodup_range (uZ hh px) rfl (el.trans (tH okl)) ef.symm nofun (fun v hv=>bp (List.all_eq_true.mp okl (some v) hv)) (fun o ho=>(cG (List.all_eq_true.mp px o ho)).1) rfl
noncomputable abbrev rW (aF:List (Int×AV)):List (Int×NV):=aF.map fun p=>(p.1,fv p.2)
theorem jH {k:Int}:∀ aF:List (Int×AV),(rW aF).lookup k=(aF.lookup k).map fv
 | []=>rfl
 | (a,v)::r=>by
  refine (?_:List.lookup k ((a,fv v)::rW r)=_)
  rw [List.lookup_cons,List.lookup_cons,jH r]
  cases k==a<;>rfl
theorem i7 {k a:Int} {v:AV}:∀ aF:List (Int×AV),(aF++[(a,v)]).lookup k=(aF.lookup k).or (if k==a then some v else none)
 | []=>by rw [List.nil_append,List.lookup_cons];cases k==a<;>rfl
 | (b,w)::r=>by
  rw [List.cons_append,List.lookup_cons,List.lookup_cons,i7 r]
  cases k==b<;>rfl
structure dJ (fz:Hp) (aF:List (Int×AV)) (m sz:Nat):Prop where
 len:aF.length=m
 get:∀ i,i<m->∃ tp,aF.lookup (sym i)=some (.ref tp)∧fz tp=some (.tup [.int i,.int sz])
 miss:∀ i,m≤i->aF.lookup (sym i)=none
theorem dJ.nil {fz:Hp} {sz:Nat}:dJ fz [] 0 sz:=⟨rfl,nofun,fun _ _=>rfl⟩
theorem dJ.keeps {fz fz':Hp} {aF:List (Int×AV)} {m sz:Nat} (h:dJ fz aF m sz) (le:ak fz fz'):dJ fz' aF m sz:=⟨h.len,fun i hi=>aA (h.get i hi) fun tp e1 e2=>⟨tp,e1,le _ _ e2⟩,h.miss⟩
theorem dJ.step {fz:Hp} {aF:List (Int×AV)} {m sz:Nat} (h:dJ fz aF m sz) {tp:Addr} (e:fz tp=some (.tup [.int m,.int sz])):dJ fz (aF++[(sym m,.ref tp)]) (m+1) sz:=by
 refine⟨by rw [List.length_append,h.len];rfl,fun i hi=>?_,fun i hi=>?_⟩
 ·rw [i7]
  refine Or.elim (Nat.lt_or_eq_of_le (Nat.le_of_lt_succ hi)) (fun q=>?_) (fun q=>?_)
  ·refine aA (h.get i q) fun t e1 e2=>?_
   exact⟨t,by rw [e1];rfl,e2⟩
  ·subst q
   exact⟨tp,by rw [h.miss _ (Nat.le_refl _),beq_self_eq_true];rfl,e⟩
 ·rw [i7,h.miss i (Nat.le_of_succ_le hi),show (sym i==sym m)=false from beq_eq_false_iff_ne.mpr fun q=>Nat.ne_of_gt hi (uc q)];rfl
theorem wW {aF:List (Int×AV)} {k:Int} {tp:Addr}:rW aF++[(k,.at tp)]=rW (aF++[(k,.ref tp)]):=by refine (?_:aF.map _++_=(aF++_).map _);simp only [List.map_append];rfl
theorem wV (n:Nat):∀ aF:List (Int×AV),(rW aF).all (fun p=>ez n p.2)=true
 | []=>rfl
 | (_,v)::r=>by
  refine (?_:(_&&(rW r).all _)=true)
  simp only [wV n r,Bool.and_true];cases v<;>rfl
noncomputable def MB.tl:MB->MB
 | .nil => .nil
 | .cons _ r=>r
theorem Ey (aF:List (Int×AV)):ru (.az (rW aF))=some (.az aF):=by
 have e1:(rW aF).map (·.2)=(aF.map (·.2)).map fv:=by simp only [List.map_map,List.map_map];rfl
 have e2:(rW aF).map (·.1)=aF.map (·.1):=by simp only [List.map_map];rfl
 refine (?_:(cJ ((rW aF).map (·.2))).map _=_)
 simp only [e1,e2,jd,Option.map_some,pT]
theorem JF {fz:Hp} {t ct sy rl cd:Addr} {rws:List Addr} {aF:List (Int×AV)} {runs sz:Nat} (h1:fz t=some (.inst 678 [(21,.ref ct),(22,.ref sy),(23,.ref rl),(24,.ref cd)])) (h2:fz sy=some (.tup ((bz runs).map .int))) (h3:fz rl=some (.list (rws.map .ref))) (hl:rws.length=16) (hro:gu runs sz fz rws) (h8:fz cd=some (.az aF)) (hd:dJ fz aF (6*runs) sz) (h0:0<sz) (h16:sz≤16):TabAt fz t runs sz:=by
 have g:∀ k,k<16->∃ a,rws[k]?=some a∧fv ((rws.map AV.ref).getD k .none) = .at a:=fun k hk=>by
  have hk:k<rws.length:=hl.symm▸hk
  exact⟨_,List.getElem?_eq_getElem hk,by simp only [List.getD,List.getElem?_map,List.getElem?_eq_getElem hk];rfl⟩
 refine aA (g (sz-1) (by omega)) fun r e1 e2=>?_
 refine ES (hro _ _ e1) fun c p ro=>?_
 obtain⟨rfl,rfl⟩:=ro.z (by omega)
 have r1:=ro.at_
 rw [cnt,if_pos (Nat.sub_add_cancel h0)] at r1
 refine⟨⟨ct,sy,rl,cd,rws,aF,r⟩,h1,h2,h3,(List.length_map ..).trans hl,fun k hk=>?_,fun k hk=>by subst hk;exact e2,r1,h8,fun i hi=>?_⟩
 ·refine aA (g k (by omega)) fun a f1 f2=>?_
  refine ES (hro _ _ f1) fun c p ro=>?_
  obtain⟨rfl,rfl⟩:=ro.z (Nat.le_of_lt hk)
  have r2:=ro.at_
  rw [cnt,if_neg (Nat.ne_of_lt hk)] at r2
  exact⟨a,f2,r2⟩
 ·refine aA (hd.get i hi) fun tp f1 f2=>?_
  exact⟨tp,by unfold KP;simp only [jH,f1];rfl,f2⟩
theorem qh {runs sz k:Nat} {x:Int} (h:x=cnt runs sz k):(((List.range k).map (cnt runs sz)).map AV.int).map fv++[.int x]=(((List.range (k+1)).map (cnt runs sz)).map AV.int).map fv:=by
 simp only [h,List.range_succ,List.map_append,List.map_append,List.map_append];rfl
theorem vI {rws:List Addr} {k:Int} {n:Nat} {a:Addr} (e:k=n) (h:rws[n]?=some a):(d9 rws)[k.toNat]?=some (.at a):=by
 subst e;simp only [Int.toNat_natCast,List.getElem?_map,List.getElem?_map,h];rfl
theorem wi {runs sz k:Nat} (hr:runs≤16):near (cnt runs sz k):=by delta cnt near;split<;>omega
theorem Ak {runs sz k k2:Nat} (h:k2<(cnt runs sz k).toNat):k+1=sz∧k2<6*runs:=by
 unfold cnt at h
 split at h
 ·exact⟨by assumption,by assumption⟩
 ·exact (Nat.not_lt_zero _ h).elim
theorem wj {runs sz k:Nat}:(if k+1<sz then 0 else 6*runs)=(if k<sz then 0 else 6*runs)+(cnt runs sz k).toNat:=by
 unfold cnt;split<;>split<;>split<;>omega
noncomputable abbrev RM (runs sz:Nat) (ct sy rl:Addr) (g:Hp) (x1 x2 x3 x4 x5:Option NV) (Y:List NO) (X:List (Int×NV)):NS:=⟨[some (.id 3),some (.id 2),some (.id 0),x1,x2,x3,x4,x5,none,none,none,none,none],[.list ((((bz runs).map AV.int).map fv).map (jk [2,0])),.range 0 16 1,.list ((((df runs sz).map AV.int).map fv).map (jk [2,0])),.inst 678 [(21,.at ct),(22,.at sy),(23,.at rl),(24,.id 4)],.az X,.range 1 (16+1) 1]++Y,g⟩
noncomputable abbrev RL (runs sz:Nat) (ct sy rl:Addr) (aF:List (Int×AV)) (g:Hp) (x1 x2 x3 x4 x5:Option NV) (Y:List NO):NS:=RM runs sz ct sy rl g x1 x2 x3 x4 x5 Y (rW aF)
theorem OY {runs sz:Nat} {ct sy rl:Addr} {aF:List (Int×AV)}:([.list ((((bz runs).map AV.int).map fv).map (jk [2,0])),.range 0 16 1,.list ((((df runs sz).map AV.int).map fv).map (jk [2,0])),.inst 678 [(21,.at ct),(22,.at sy),(23,.at rl),(24,.id 4)],.az (rW aF),.range 1 (16+1) 1]:List NO).all (mU 6)=true:=by
 have a:=(cg [2,0] (bz runs)).symm▸j4 6 (bz runs)
 skip
 skip
 refine (?_:(((((bz runs).map AV.int).map fv).map (jk [2,0])).all (ez 6)&&(((((df runs sz).map AV.int).map fv).map (jk [2,0])).all (ez 6)&&((rW aF).all (fun p=>ez 6 p.2)&&true)))=true)
 simp only [a,((cg [2,0] (df runs sz)).symm▸j4 6 (df runs sz)),(wV 6 aF)];rfl
set_option maxHeartbeats 4000000 in
theorem nY (E:Ev) (fz:Hp) (runs sz:Nat) (x:Option NV) (hr:runs≤16) (hs:6*runs<2^sz) (h0:0<sz) (h16:sz≤16) (Q:cY->NS->WT) (hQ:∀ fl σ,Fin 0 (fun v H z=>∀ R:NV->List NO->Hp->Prop,(∀ fz' t,ak fz fz'->TabAt fz' t runs sz->R (.at t) [] fz')->R v H z) fl σ->den (PE E) (Q fl σ)) :
  den (PE E) (jr (PE E) (lW (PE E) TB 2) 0 jO.tl.tl.tl ⟨[some (.int runs),some (.id 0),x,some (.int sz),none,none],[.list (((bz runs).map AV.int).map fv)],fz⟩ Q):=by
 have s3:(((bz runs).map AV.int).map fv).length=6*runs:=bJ.trans nh
 have s4:(((bz runs).map AV.int).map fv).length≤1000000:=by rw [s3];omega
 k_extra "w"
 refine ec rfl ?_
 refine dw (eI (j:=1) (N:=16) rfl rfl dh ⟨by decide,by decide⟩) (fun k _=>(((List.range k).map (cnt runs sz)).map AV.int).map fv) (fun _ _=>[.list (((bz runs).map AV.int).map fv),.range 0 16 1]) (fun _ _=>fz) (fun _ (_:Unit)=>True) () trivial rfl rfl rfl (by decide) (fun _ _ _ _=>trivial) (fun k i hk hi L hL=>?_) fun i hi=>⟨by rw [bJ,List.length_map,List.length_range];decide,?_⟩
 ·k_extra "w"
  refine ey rfl (fun h=>?_) fun h=>?_
  ·have e:((((bz runs).map AV.int).map fv).length:Int)=cnt runs sz k:=by
    have:=of_decide_eq_true h
    rw [s3,cnt,if_pos (by omega)]
   k_extra "w"
   exact hL _ _ (Up.now (Nat.le_refl 2) ⟨_,_,(),rfl,trivial,qh e,rfl,rfl⟩)
  ·have e:(0:Int)=cnt runs sz k:=by
    have:=of_decide_eq_false h
    rw [cnt,if_neg (by omega)]
   exact hL _ _ (Up.now (Nat.le_refl 2) ⟨_,_,(),rfl,trivial,qh e,rfl,rfl⟩)
 ·k_extra "w"
  refine aq rfl 1 [2,0] [.list (((df runs sz).map AV.int).map fv),.list (((bz runs).map AV.int).map fv)] [.id 0,.id 1] (qc E fz runs sz h0 h16 hr) (by decide) (by decide) (congr (congrArg (fun X Y=>some [NO.list X,.list Y]) (cg [2,0] _).symm) (cg [2,0] _).symm) rfl ?_
  k_extra "w"
  refine ec rfl ⟨by rw [List.length_map,bJ,jR];decide,(df runs sz).map .int,by rw [cg,jd],?_⟩
  refine dq rfl fun ct fz1 (le1:ak fz fz1) e1=>?_
  k_extra "w"
  refine ec rfl ⟨by rw [List.length_map];exact s4,(bz runs).map .int,by rw [cg,jd],?_⟩
  refine dq rfl fun sy fz2 (le2:ak fz1 fz2) e2=>?_
  k_extra "w"
  refine aq rfl 1 [] [] [.at ct] (rJ E fz2 ct runs sz (le2 _ _ e1) hs h16 hr) (by decide) (by decide) rfl rfl fun fz3 rl rws le3 e3 hl3 hro=>?_
  k_extra "w"
  refine ec rfl ?_
  have e2:=le3 _ _ e2
  have rl16:(d9 rws).length=16:=b6.trans hl3
  refine bG (eI (j:=5) (N:=16) (rfl:_=some (NO.range 1 (16+1) 1)) rfl ⟨by decide,by decide⟩ ⟨by decide,by decide⟩) (n':=5)
   (fun k (i:List (Int×AV)×Hp)=>RL runs sz ct sy rl i.1 i.2 none none none none none [])
   (fun k i=>ak fz3 i.2∧dJ i.2 i.1 (if k<sz then 0 else 6*runs) sz) ([],fz3) ⟨ak.refl _,by rw [if_pos h0];exact .nil⟩ (Up.self (fQ rfl) rfl) (fQ rfl) (fun _ _ _ _=>trivial) (fun k i hk hi L hL=>?_) fun i hi=>?_
  ·have c1:(0:Int)≤1+(k:Int)*1-1:=by omega
   have c2:1+(k:Int)*1-1<1000000:=by omega
   have hk2:k<rws.length:=hl3.symm▸hk
   refine ES (hro k _ (List.getElem?_eq_getElem hk2)) fun c p ro=>?_
   have g:=vI (k:=1+(k:Int)*1-1) (n:=k) (by omega) (List.getElem?_eq_getElem hk2)
   have e3:=hi.1 _ _ e3
   have ra:=hi.1 _ _ ro.at_
   k_extra "w"
   refine ec rfl ?_
   refine bG (eI (j:=6) (N:=(cnt runs sz k).toNat) (rfl:_=some (NO.range 0 (cnt runs sz k) 1)) (by rw [Int.sub_zero]) dh (wi hr)) (n':=5)
    (fun k2 (j:List (Int×AV)×Hp×Option Int)=>RL runs sz ct sy rl j.1 j.2.1 (some (.int (1+(k:Int)*1))) (some (.int c)) (some (.int (cnt runs sz k))) (some (.int p)) (j.2.2.map NV.int) [.range 0 (cnt runs sz k) 1])
    (fun k2 j=>ak fz3 j.2.1∧dJ j.2.1 j.1 ((if k<sz then 0 else 6*runs)+k2) sz) (i.1,i.2,none) ⟨hi.1,hi.2⟩ (Up.self (fQ rfl) rfl) (Nat.le_refl 5) (fun _ _ _ _=>trivial) (fun k2 j hk2 hj L2 hL2=>?_) fun j hj=>?_
   ·have q:=Ak hk2
    refine bx (ro.z (Nat.le_of_eq q.1)) fun zp0 zp1=>?_;subst zp0;subst zp1
    have e2:=hj.1 _ _ e2
    have dk:=hj.2
    rw [if_pos (q.1▸Nat.lt_succ_self k),Nat.zero_add] at dk
    have d1:(0:Int)≤0+(0+(k2:Int)*1):=by omega
    have d2:0+(0+(k2:Int)*1)<1000000:=by have:=q.2;omega
    have g2:=wQ (k:=0+(0+(k2:Int)*1)) (n:=k2) (by omega) (ky q.2)
    have m1:(rW j.1).lookup (sym k2)=none:=by rw [jH,dk.miss _ (Nat.le_refl _)];rfl
    have m2:(rW j.1).length≤1000000:=by rw [List.length_map,dk.len];have:=q.2;omega
    k_extra "w"
    refine dq rfl fun tp g3 (le4:ak j.2.1 g3) e4=>?_
    have e4:g3 tp=some (.tup [.int k2,.int sz]):=(by omega:(0:Int)+(0+(k2:Int)*1)=k2)▸(by have:=q.1;omega:(1:Int)+(k:Int)*1=sz)▸e4
    have e2:=le4 _ _ e2
    k_extra "w"
    exact hL2.nx (j.1++[(sym k2,.ref tp)],g3,some (0+(k2:Int)*1)) _ ⟨hj.1.trans le4,by rw [if_pos (q.1▸Nat.lt_succ_self k),Nat.zero_add];exact (dk.keeps le4).step e4⟩ (pH (congrArg (RM runs sz ct sy rl g3 _ _ _ _ _ _) wW) (Up.self (fQ rfl) rfl))
   ·refine hL.nx (j.1,j.2.1) _ ⟨hj.1,?_⟩ (pG [.range 0 (cnt runs sz k) 1] 6 rfl (by decide) rfl rfl rfl rfl OY)
    rw [wj];exact hj.2
  ·refine hQ _ _ ?_
   have dk:=hi.2
   rw [if_neg (Nat.not_lt.mpr h16)] at dk
   refine Up.kO 4 [3] (σ:=⟨[],_,_⟩) rfl (Ey i.1) fun cd z1 l1 f1=>?_
   refine Up.kO 3 [] (σ:=⟨[],_,_⟩) (o := .inst 678 [(21,.at ct),(22,.at sy),(23,.at rl),(24,.at cd)]) rfl rfl fun t z2 l2 f2=>?_
   refine Up.sel [] [.at t] ⟨[],[],z2⟩ rfl (by decide) rfl rfl rfl rfl (fun v hv=>by rw [List.mem_singleton] at hv;subst hv;trivial) nofun nofun ⟨.at t,rfl,rfl,fun R hR=>hR z2 t (le1.trans (le2.trans (le3.trans (hi.1.trans (l1.trans l2))))) (JF f2 ((hi.1.trans (l1.trans l2)) _ _ e2) ((hi.1.trans (l1.trans l2)) _ _ e3) hl3 (hro.keeps (hi.1.trans (l1.trans l2))) (l2 _ _ f1) (dk.keeps (ak.trans l1 l2)) h0 h16)⟩
theorem NQ {z s:Nat} (h:s<6):16*(z:Int)+(0+(s:Int)*1)=sym (6*z+s):=by unfold sym;omega
theorem zv {z:Nat}:bz z++(List.range 6).map (fun s=>sym (6*z+s))=bz (z+1):=by
 unfold bz
 simp only [show 6*(z+1)=6*z+6 by rfl,List.range_add,List.map_append,List.map_map];rfl
theorem zu {z:Nat}:((bz z).map AV.int).map fv++(((List.range 6).map fun s=>sym (6*z+s)).map AV.int).map fv=((bz (z+1)).map AV.int).map fv:=by
 rw [← List.map_append,← List.map_append,zv]
theorem Es {z s:Nat} {x:Int} (h:x=sym (6*z+s)):(((List.range s).map fun s=>sym (6*z+s)).map AV.int).map fv++[.int x]=(((List.range (s+1)).map fun s=>sym (6*z+s)).map AV.int).map fv:=by
 simp only [h,List.range_succ,List.map_append,List.map_append,List.map_append];rfl
set_option maxHeartbeats 4000000 in
theorem oO (E:Ev) (fz:Hp) (runs sz:Nat) (h:(runs=4∧sz=5)∨(runs=16∧sz=7)) :
  aO (PE E) 3 778 [.int runs] [] fz fun R=>∀ fz' t,ak fz fz'->TabAt fz' t runs sz->R (.at t) [] fz':=by
 have hr:runs≤16:=by omega
 have hs:6*runs<2^sz:=by rcases h with ⟨rfl,rfl⟩ | ⟨rfl,rfl⟩<;>decide
 refine aj (bH E) 2 6 0 [some (.int runs),none,none,none,none,none] (ay E) (nK _) (nQ E 2) rfl (by kernel_rfl) rfl rfl rfl rfl fun Q hQ=>?_
 k_extra "w"
 refine ec rfl ?_
 refine bG (eI (j:=1) (N:=runs) rfl (pD runs) dh (di (Nat.le_trans hr (by decide)))) (n':=0) (fun k (i:Option Int)=>⟨[some (.int runs),some (.id 0),i.map NV.int,none,none,none],[.list (((bz k).map AV.int).map fv)],fz⟩) (fun _ _=>True) none trivial (pG [.range 0 runs 1] 1 rfl (by decide) rfl rfl rfl rfl rfl) (Nat.le_refl 0) (fun _ _ _ _=>trivial) (fun k i hk hi L hL=>?_) fun i hi=>?_
 ·skip
  k_extra "w"
  refine ec rfl ?_
  refine dw (eI (j:=1) (N:=6) rfl rfl dh ⟨by decide,by decide⟩) (fun s _=>(((List.range s).map fun s=>sym (6*k+s)).map AV.int).map fv) (fun _ _=>[.list (((bz k).map AV.int).map fv),.range 0 6 1]) (fun _ _=>fz) (fun _ (_:Unit)=>True) () trivial rfl rfl rfl (by decide) (fun _ _ _ _=>trivial) (fun s i hs _ L hL=>?_) fun i _=>⟨by rw [bJ,List.length_map,List.length_range];decide,?_⟩
  ·k_extra "w"
   exact hL _ _ (Up.now (Nat.le_refl 2) ⟨_,_,(),rfl,trivial,Es (by have:=NQ (z:=k) hs;simp only [← this];omega),rfl,rfl⟩)
  ·have s5:(((bz k).map AV.int).map fv).length+((((List.range 6).map fun s=>sym (6*k+s)).map AV.int).map fv).length≤1000000:=by rw [(bJ.trans nh),bJ,List.length_map,List.length_range];omega
   k_extra "w"
   exact hL.nx (some (0+(k:Int)*1)) _ trivial (e9 (τ:=⟨[some (.int runs),some (.id 0),some (.int (0+(k:Int)*1)),none,none,none],[.list (((bz (k+1)).map AV.int).map fv)],fz⟩) [3] rfl (by decide) (congrArg (fun X=>some [NO.list X]) (zu.trans (cg [3] _).symm)) rfl rfl (congrArg (· && true) (j4 1 _)))
 ·rcases h with ⟨rfl,rfl⟩ | ⟨rfl,rfl⟩
  ·k_extra "w"
   exact nY E fz 4 5 _ (by decide) (by decide) (by decide) (by decide) Q hQ
  ·k_extra "w"
   exact nY E fz 16 7 _ (by decide) (by decide) (by decide) (by decide) Q hQ
structure Gd (fz:Hp) (y:Addr) (as:List Addr) (n:Nat) (f:Nat->List Int):Prop where
 at_:fz y=some (.list (as.map .ref))
 len:as.length=n
 row:∀ j a,as[j]?=some a->fz a=some (.list ((f j).map .int))
theorem Gd.keeps {fz fz':Hp} {y:Addr} {as:List Addr} {n:Nat} {f:Nat->List Int} (h:Gd fz y as n f) (le:ak fz fz'):Gd fz' y as n f:=⟨le _ _ h.at_,h.len,fun j a e=>le _ _ (h.row j a e)⟩
theorem Gd.item {fz:Hp} {y:Addr} {as:List Addr} {n k:Nat} {f:Nat->List Int} (h:Gd fz y as n f) (hk:k<n):∃ a,(∀ i:Int,i=k->(d9 as)[i.toNat]?=some (.at a))∧fv ((as.map AV.ref).getD k .none) = .at a∧fz a=some (.list ((f k).map .int)):=by
 have hk:k<as.length:=h.len.symm▸hk
 have e:=List.getElem?_eq_getElem hk
 exact⟨as[k],fun i hi=>vI hi e,by simp only [List.getD,List.getElem?_map,e];rfl,h.row _ _ e⟩
theorem Ku {fz:Hp} {n:Nat}:∀ {as:List Addr} {f:Nat->List Int},as.length=n->(∀ j a,as[j]?=some a->fz a=some (.list ((f j).map .int)))->GR fz as ((List.range n).map f):=by
 induction n with
 | zero=>intro as f e h;rw [List.length_eq_zero_iff.mp e];exact .nil
 | succ n ih =>
  intro as f e h
  cases as with
  | nil=>contradiction
  | cons a r =>
   rw [List.range_succ_eq_map,List.map_cons,List.map_map]
   exact .cons (h 0 a rfl) (ih (f:=f∘Nat.succ) (Nat.succ.inj e) fun j b hb=>h (j+1) b hb)
theorem Gd.nM {fz:Hp} {y:Addr} {as:List Addr} {n:Nat} {f:Nat->List Int} (h:Gd fz y as n f):pW fz y ((List.range n).map f):=⟨as,h.at_,Ku h.len h.row⟩
noncomputable def kY (st en lo:Nat) (kn tr:List Int):List Int:=if st=0 then (setB (fA lo) kn tr st (en+1-st)).set 0 ((tr.getD 0 0).fdiv (2^((lo:Nat):Int).toNat)*2^((lo:Nat):Int).toNat) else setB (fA lo) kn tr st (en+1-st)
theorem tZ (r:Nat) (a:Addr):∀ as:List Addr,(d9 as++[NV.id r]).map (rp r a)=d9 (as++[a])
 | []=>congrArg (fun v:NV=>[v]) (if_pos rfl:(if r=r then NV.at a else NV.id r)=NV.at a)
 | b::as=>congrArg (NV.at b :: ·) (tZ r a as)
theorem pow_lo {lo:Nat} (h:lo≤2):(0:Int)<2^((lo:Nat):Int).toNat∧(2:Int)^((lo:Nat):Int).toNat<1073741824:=by
 have key:∀ l:_root_.Fin 3,(0:Int)<2^((l.1:Nat):Int).toNat∧(2:Int)^((l.1:Nat):Int).toNat<1073741824:=by decide
 exact key ⟨lo,Nat.lt_succ_of_le h⟩
theorem F7 {lo:Nat} {v:Int} (h:decide (0<v)=true):aL lo v*2^((lo:Nat):Int).toNat=fA lo v:=by delta fA sL;rw [if_pos (of_decide_eq_true h)]
theorem F6 {lo:Nat} {v:Int} (h:decide (0<v)=false) : -(aL lo v*2^((lo:Nat):Int).toNat)=fA lo v:=by delta fA sL;rw [if_neg (of_decide_eq_false h),Int.neg_mul]
noncomputable abbrev wy (rw kn:Addr) (st en lo:Nat) (k:Int) (x y:Option NV) (as:List Addr) (X:List NV) (g:Hp):NS:=⟨[some (.at rw),some (.at kn),some (.int st),some (.int en),some (.int lo),some (.id 0),some (.int k),some (.id 1),x,y,none,none,none,none],[.list (d9 as),.list X,.range st (en+1) 1],g⟩
theorem dP {fz:Hp} {as:List Addr} {k:Nat} {f:Nat->List Int} {a:Addr} (hl:as.length=k) (h:∀ j b,as[j]?=some b->fz b=some (.list ((f j).map .int))) (e:fz a=some (.list ((f k).map .int))):∀ j b,(as++[a])[j]?=some b->fz b=some (.list ((f j).map .int)):=fun j b hb=>by
 rcases Nat.lt_trichotomy j as.length with q | q | q
 ·rw [List.getElem?_append_left q] at hb;exact h j b hb
 ·subst q;replace hb:=List.getElem?_concat_length▸hb;have hb:=Option.some.inj hb;subst hb;exact hl▸e
 ·rw [List.getElem?_eq_none (by refine List.length_append▸?_;exact q)] at hb;contradiction
set_option maxHeartbeats 4000000 in
theorem v5 (E:Ev) (fz:Hp) (rw kn:Addr) (ra ka:List Addr) (n m st en lo:Nat) (tr kf:Nat->List Int) (hr:Gd fz rw ra n tr) (hk:Gd fz kn ka n kf) (hn:n≤100) (hl:∀ k,k<n->(tr k).length=m∧(kf k).length=m) (bu:st≤en) (aZ:en<m) (hm:m≤25) (h2:lo≤2) :
  aO (PE E) 1 797 [.at rw,.at kn,.int st,.int en,.int lo] [] fz fun R=>∀ fz' y as,ak fz fz'->Gd fz' y as n (fun k=>kY st en lo (kf k) (tr k))->R (.at y) [] fz':=by
 have s1:(d9 ra).length≤1000000:=by rw [b6,hr.len];exact Nat.le_trans hn (by decide)
 have s1':((ra.map AV.ref).map fv).length=n:=b6.trans hr.len
 have he:=Nat.lt_of_lt_of_le aZ hm
 have n1:=eK (Nat.lt_of_le_of_lt bu (Nat.lt_of_lt_of_le he (by decide)))
 have n2:=eK (Nat.lt_of_lt_of_le he (by decide))
 have p:=pow_lo h2
 have p1:=p.1
 have p2:=p.2
 have p3:=mP (Nat.le_trans h2 (by decide))
 have p4:(0:Int)≤lo:=Int.natCast_nonneg lo
 have p5:((lo:Nat):Int)≤1000000:=Int.ofNat_le.mpr (Nat.le_trans h2 (by decide))
 have sm:=pU
 have hra:=hr.at_
 refine aj (bH E) 0 14 0 [some (.at rw),some (.at kn),some (.int st),some (.int en),some (.int lo),none,none,none,none,none,none,none,none,none] (ay E) (qr _) (rq E 0) rfl (by kernel_rfl) rfl rfl rfl rfl fun Q hQ=>?_
 k_extra "w"
 refine ec rfl ?_
 refine bG (eI (j:=1) (N:=n) (rfl:_=some (NO.range 0 (((ra.map AV.ref).map fv).length:Nat) 1)) (by rw [s1'];exact pD n) dh (by rw [s1'];exact di (Nat.le_trans hn (by decide)))) (n':=1) (fun k (i:List Addr×Hp)=>⟨[some (.at rw),some (.at kn),some (.int st),some (.int en),some (.int lo),some (.id 0),none,none,none,none,none,none,none,none],[.list (d9 i.1)],i.2⟩)
  (fun k i=>i.1.length=k∧ak fz i.2∧∀ j a,i.1[j]?=some a->i.2 a=some (.list ((kY st en lo (kf j) (tr j)).map .int))) ([],fz) ⟨rfl,ak.refl _,nofun⟩ (pG [.range 0 (((ra.map AV.ref).map fv).length:Nat) 1] 1 rfl (by decide) rfl rfl rfl rfl rfl) (Nat.zero_le _) (fun _ _ _ _=>trivial) (fun k i hkn hi L hL=>?_) fun i hi=>?_
 ·refine jT ((hr.keeps hi.2.1).item hkn) fun r r1 r2 r3=>?_
  refine jT ((hk.keeps hi.2.1).item hkn) fun q q1 q2 q3=>?_
  have e0:(0:Int)+(k:Int)*1=k:=by omega
  have r1:=r1 _ e0
  have q1:=q1 _ e0
  have hra:=hi.2.1 _ _ hra
  have hka:=hi.2.1 _ _ hk.at_
  have c1:(0:Int)≤0+(k:Int)*1:=by rw [e0];exact Int.natCast_nonneg k
  have c2:(0:Int)+(k:Int)*1<1000000:=by rw [e0];exact Int.ofNat_lt.mpr (Nat.lt_of_lt_of_le hkn (Nat.le_trans hn (by decide)))
  have hl:=hl k hkn
  have s2:(((kf k).map AV.int).map fv).length≤1000000:=by rw [bJ,hl.2];exact Nat.le_trans hm (by decide)
  k_extra "w"
  refine ec rfl ?_
  refine bG (eI (j:=2) rfl (N:=en+1-st) (j9 st en) n1.1 n2.2) (n':=2) (fun j (i2:Option Int×Option Int)=>wy rw kn st en lo (0+(k:Int)*1) (i2.1.map NV.int) (i2.2.map NV.int) i.1 (((setB (fA lo) (kf k) (tr k) st j).map AV.int).map fv) i.2) (fun _ _=>True) (none,none) trivial (Up.self (fQ rfl) (congrArg (fun X:List Int=>wy rw kn st en lo (0+(k:Int)*1) none none i.1 ((X.map AV.int).map fv) i.2) pL.symm)) (fQ rfl) (fun _ _ _ _=>trivial) (fun j i2 hj _ L2 hL2=>?_) fun i2 _=>?_
  ·have x:=ix hj he
   have d1:=x.2.1
   have d2:=x.2.2
   have g:=kh (row:=tr k) (Nat.lt_of_le_of_lt x.1 (hl.1.symm▸aZ))
   have lk:st+j<(kf k).length:=Nat.lt_of_le_of_lt x.1 (hl.2.symm▸aZ)
   have d3:((st:Int)+(j:Int)*1).toNat<(((setB (fA lo) (kf k) (tr k) st j).map AV.int).map fv).length:=by rw [bJ,fV (hl.1.trans hl.2.symm) (Nat.le_of_lt lk),Int.mul_one];exact lk
   have se:=kj (f:=fA lo) (hl.1.trans hl.2.symm) lk
   k_extra "w"
   refine ey rfl (fun h=>?_) fun h=>?_
   ·k_extra "w"
    exact hL2.nx (some ((st:Int)+(j:Int)*1),some (aL lo ((tr k).getD (st+j) 0)*2^((lo:Nat):Int).toNat)) _ trivial (Up.self (fQ rfl) (congrArg (fun X=>wy rw kn st en lo _ _ _ i.1 X i.2) ((gP (n:=st+j) (v:=aL lo ((tr k).getD (st+j) 0)*2^((lo:Nat):Int).toNat) (congrArg ((st:Int) + ·) (Int.mul_one _))).trans (by rw [F7 h,se]))))
   ·k_extra "w"
    exact hL2.nx (some ((st:Int)+(j:Int)*1),some (aL lo ((tr k).getD (st+j) 0)*2^((lo:Nat):Int).toNat)) _ trivial (Up.self (fQ rfl) (congrArg (fun X=>wy rw kn st en lo _ _ _ i.1 X i.2) ((gP (n:=st+j) (v := -(aL lo ((tr k).getD (st+j) 0)*2^((lo:Nat):Int).toNat)) (congrArg ((st:Int) + ·) (Int.mul_one _))).trans (by rw [F6 h,se]))))
  ·have lk:(setB (fA lo) (kf k) (tr k) st (en+1-st)).length=(kf k).length:=fV (hl.1.trans hl.2.symm) (by rw [Nat.add_sub_cancel' (Nat.le_succ_of_le bu),hl.2];exact aZ)
   have s6:(d9 i.1).length≤1000000:=by rw [b6,hi.1];exact Nat.le_of_lt (Nat.lt_of_lt_of_le hkn (Nat.le_trans hn (by decide)))
   have fin:∀ (D:List Int),D=kY st en lo (kf k) (tr k)->∀ σ3:NS,σ3.loc=(wy rw kn st en lo (0+(k:Int)*1) (i2.1.map NV.int) (i2.2.map NV.int) i.1 ((D.map AV.int).map fv) i.2).loc->σ3.h=[.list (d9 i.1++[.id 1]),.list ((D.map AV.int).map fv),.range st (en+1) 1]->σ3.fz=i.2->den (PE E) (L .next σ3):=fun D hD σ3 e1 e2 e3=>by
    obtain⟨_,_,_⟩:=σ3
    cases e1;cases e2;cases e3
    refine hL.up _ (Up.kO 1 [0] rfl (aK (D.map .int)) fun a z le e=>?_)
    refine Up.mono ?_ (Q:=fun _ σ'=>σ'=⟨[some (.at rw),some (.at kn),some (.int st),some (.int en),some (.int lo),some (.id 0),none,none,none,none,none,none,none,none],[.list (d9 (i.1++[a]))],z⟩) (fun _ s es=>⟨(i.1++[a],z),⟨by rw [List.length_append,hi.1];rfl,hi.2.1.trans le,dP hi.1 (fun j b hb=>le _ _ (hi.2.2 j b hb)) (hD▸e)⟩,es⟩)
    exact e9 (τ:=⟨[some (.at rw),some (.at kn),some (.int st),some (.int en),some (.int lo),some (.id 0),none,none,none,none,none,none,none,none],[.list (d9 (i.1++[a]))],z⟩) [0] rfl (by decide) (congrArg (fun X=>some [NO.list X]) ((tZ 1 a i.1).trans (sY [0] _).symm)) rfl rfl (congrArg (· && true) (lI 1 _))
   k_extra "w"
   refine ey rfl (fun h=>?_) fun h=>?_
   ·have hst0:st=0:=Int.ofNat_inj.mp (of_decide_eq_true h)
    have g0:=tY (row:=tr k) (hl.1.symm▸Nat.lt_of_le_of_lt (Nat.zero_le _) aZ)
    have d4:(0:Int).toNat<(((setB (fA lo) (kf k) (tr k) st (en+1-st)).map AV.int).map fv).length:=by rw [bJ,lk,hl.2];exact Nat.lt_of_le_of_lt (Nat.zero_le _) aZ
    k_extra "w"
    exact fin _ (if_pos hst0).symm _ rfl (congrArg (fun X=>[NO.list (d9 i.1++[.id 1]),NO.list X,NO.range st (en+1) 1]) (gP (k:=0) (n:=0) rfl)) rfl
   ·have hst0:¬ st=0:=fun e=>of_decide_eq_false h (congrArg Nat.cast e)
    k_extra "w"
    exact fin _ (if_neg hst0).symm _ rfl rfl rfl
 ·exact hQ _ _ (Fin.fr 0 (i.1.map .ref) [] rfl rfl rfl rfl rfl fun x fz' le e R hR=>hR fz' x i.1 (hi.2.1.trans le) ⟨e,hi.1,fun j a ea=>le _ _ (hi.2.2 j a ea)⟩)
theorem b5.ends {b:List UInt8} {r s:Int} {L:List Bool} (h:b5 8 b r s L) {q:Nat} (e:L.length=8*q):aU b=L:=by
 skip
 refine uz h fun r s zp2 zp3 h1 h2 zp6=>?_;subst zp2;subst zp3;subst zp6
 skip
 have:s=0:=(Nat.mod_eq_of_lt h2).symm.trans ((Nat.mul_add_mod 8 b.length s).symm.trans ((congrArg (· % 8) (h.len.trans e)).trans (Nat.mul_mod_right 8 q)))
 subst this
 exact (List.append_nil _).symm
theorem b5.QN {b:List UInt8} {r s:Int} {L:List Bool} (h:b5 8 b r s L) (d:decide (0<s)=false):aU b=L:=by
 refine uz h fun r s zp2 zp3 h1 h2 zp6=>?_;subst zp2;subst zp3;subst zp6
 have:s=0:=Nat.eq_zero_of_not_pos fun x=>of_decide_eq_false d (Int.ofNat_lt.mpr x)
 subst this
 exact (List.append_nil _).symm
theorem b5.QO {b:List UInt8} {r s:Int} {L:List Bool} (h:b5 8 b r s L) (d:decide (0<s)=true):∃ n v:Nat,8-s=n∧(1:Int)*2^(8-s).toNat-1=v∧v<2^n∧n≤8∧∃ q,(L++ae n v).length=8*q:=by
 have hl:=h.len
 refine uz h fun r s zp2 zp3 h1 h2 h3=>?_;subst zp2;subst zp3
 simp only [Int.toNat_natCast] at hl
 skip
 refine⟨8-s,2^(8-s)-1,(Int.ofNat_sub (Nat.le_of_lt h2)).symm,?_,Nat.sub_lt (Nat.two_pow_pos _) Nat.one_pos,Nat.sub_le _ _,b.length+1,by simp only [List.length_append,ax,← hl,Nat.add_assoc,Nat.add_sub_cancel' (Nat.le_of_lt h2)];rfl⟩
 simp only [show ((8:Int)-(s:Nat)).toNat=8-s from Int.toNat_sub 8 s,Int.one_mul,Int.ofNat_sub (Nat.two_pow_pos _),Int.natCast_pow];rfl
theorem th (E:Ev) (fz:Hp) (b:List UInt8) (ri si:Int) (L:List Bool) (ok:b5 8 b ri si L) (hb:L.length≤700000) :
  aO (PE E) 2 129 [.id 0] [BW ri si,.aB b] fz fun R=>∀ b' r' s' p,aU b'=L++p->b'.length≤100000->R .none [BW r' s',.aB b'] fz:=by
 refine aj (bH E) 1 1 2 [some (.id 0)] (ay E) (k4 _) (lC E 1) rfl (by kernel_rfl) rfl rfl rfl rfl fun Q hQ=>?_
 k_extra "w"
 refine ey rfl (fun h=>?_) fun h=>?_
 ·refine uz (ok.QO h) fun n v e1 e2 e3 e4 zp6=>?_;refine jg zp6 fun q e5=>?_
  have n1:(0:Int)≤8-si:=e1▸Int.natCast_nonneg n
  have n2:8-si≤(1000000:Int):=e1▸Int.ofNat_le.mpr (Nat.le_trans e4 (by decide))
  have n3:=ou
  have n4:small (1*2^(8-si).toNat):=by
   rw [Int.sub_eq_iff_eq_add.mp e2]
   exact⟨Int.lt_of_lt_of_le (by decide) (Int.natCast_nonneg (v+1)),Int.lt_of_le_of_lt (Int.ofNat_le.mpr (Nat.le_trans e3 (Nat.pow_le_pow_right (by decide) e4)):((v+1:Nat):Int)≤(2^8:Nat)) (by decide)⟩
  k_extra "w"
  refine aq rfl 1 [0,1] [BW ri si,.aB b] [.id 0,.int v,.int n] (v9 E fz b ri si L n v ok (Nat.le_trans e4 (by decide)) e3 (Nat.le_trans hb (by decide))) (by decide) (by decide) rfl (by rw [← e1,← e2];rfl) fun b' r' s' ok'=>?_
  k_extra "w"
  exact hQ _ _ (Fin.w rfl fun R hR=>hR _ _ _ _ (ok'.ends e5) (Nat.le_of_mul_le_mul_left (c:=8) (Nat.le_trans (Nat.le_trans (Nat.le_add_right _ _) (Nat.le_of_eq ok'.len)) (by rw [List.length_append,ax];exact Nat.le_trans (Nat.add_le_add hb e4) (by decide))) (by decide)))
 ·k_extra "w"
  exact hQ _ _ (Fin.w rfl fun R hR=>hR _ _ _ [] ((ok.QN h).trans (List.append_nil _).symm) (Nat.le_of_mul_le_mul_left (c:=8) (Nat.le_trans (Nat.le_trans (Nat.le_add_right _ _) (Nat.le_of_eq ok.len)) (Nat.le_trans hb (by decide))) (by decide)))
noncomputable def dT (lo:Nat) (tr:Nat->List Int) (k:Nat):List Bool:=(List.range k).flatMap fun j=>ae 1 (dB lo ((tr j).getD 0 0))
theorem wL (lo:Nat):decide (((lo+1:Nat):Int)=0)=false:=decide_eq_false (by omega)
theorem oQ {lo k:Nat} {tr:Nat->List Int}:dT lo tr (k+1)=dT lo tr k++ae 1 (dB lo ((tr k).getD 0 0)):=by
 unfold dT;simp only [List.range_succ,List.flatMap_append,List.flatMap_singleton]
theorem jf {lo:Nat} {tr:Nat->List Int}:∀ k,(dT lo tr k).length=k
 | 0=>rfl
 | k+1=>by rw [oQ,List.length_append,jf k,ax]
theorem wt {lo k:Nat} {tr:Nat->List Int} (h:k≤8):(dT lo tr k).length≤700000:=Nat.le_trans (Nat.le_of_eq (jf k)) (Nat.le_trans h (by decide))
theorem FW {lo:Nat} {v:Int}:ae 1 (dB lo v)=[decide (dB lo v=1)]:=by
 skip
 refine Or.elim (Nat.lt_or_ge (dB lo v) 1) (fun e=>?_) (fun e=>?_)
 ·rw [Nat.lt_one_iff.mp e];rfl
 ·rw [Nat.le_antisymm (Nat.le_of_lt_succ (EO lo v)) e];rfl
theorem wq {lo:Nat} {tr:Nat->List Int} {k:Nat}:∀ {n:Nat},k<n->(dT lo tr n)[k]?=some (decide (dB lo ((tr k).getD 0 0)=1))
 | n+1,h=>by
  rw [oQ]
  refine Or.elim (Nat.lt_or_ge k n) (fun e=>?_) (fun e=>?_)
  ·rw [List.getElem?_append_left (by rw [jf];exact e)];exact wq e
  ·have e:=Nat.le_antisymm (Nat.le_of_lt_succ h) e
   subst e
   rw [List.getElem?_append_right (Nat.le_of_eq (jf k)),jf,Nat.sub_self,FW];rfl
theorem Kn {lo:Nat} {tr:Nat->List Int} {n k:Nat} {o:List UInt8} {pad:List Bool} (eb:aU o=dT lo tr n++pad) (hb:o.length≤100000) (hk:k<n):∃ l,aX o ((0:Int)+k) (decide (dB lo ((tr k).getD 0 0)=1)::l):=by
 have h:aX o 0 (dT lo tr n++pad):=⟨hb,0,rfl,eb⟩
 have lt:k<(dT lo tr n).length:=(jf n).symm▸hk
 have g:=wq (lo:=lo) (tr:=tr) hk
 rw [List.getElem?_eq_getElem lt] at g
 exact⟨_,Option.some.inj g▸h.one lt⟩
noncomputable abbrev Si (c:Nat) (sc tb rw kn:Addr) (w:Nat) (x:Option NV) (r s:Int) (b:List UInt8) (g:Hp):NS:=⟨[some (.at sc),some (.int w),some (.at rw),some (.at kn),some (.at tb),some (.id 3),x,none,none,none,none,none],[.inst 755 [(12,.at tb),(25,.id 1)],.inst 139 [(0,.id 2),(1,.int r),(2,.int s)],.aB b,.inst c [(5,.at sc),(6,.id 0)]],g⟩
set_option maxHeartbeats 4000000 in
theorem Kc (E:Ev) (fz:Hp) (sc tb rw kn:Addr) (ra ka:List Addr) (w n m lo:Nat) (tr kf F:Nat->List Int) (hsc:eO fz sc 0 0 (lo+1) lo) (hr:Gd fz rw ra n tr) (hk:Gd fz kn ka n kf) (hn:n≤8) (hl:∀ k,k<n->(tr k).length=m∧(kf k).length=m) (hm:m≤25) (hm0:0<m) (h2:lo≤2) (hw:2≤w) (hw2:w≤5) (hF:∀ k,k<n->Kp lo (kf k) (decide (dB lo ((tr k).getD 0 0)=1))=F k) :
  aO (PE E) 7 790 [.at sc,.int w,.at rw,.at kn,.at tb] [] fz fun R=>∀ fz' y as,ak fz fz'->Gd fz' y as n F->R (.at y) [] fz':=by
 have hsc':=hsc
 refine ip hsc fun p d ac hsc hp _ _=>?_
 have sm:=pU
 have hra:=hr.at_
 have hn':(ra.map AV.ref).length≤8:=by rw [List.length_map,hr.len];exact hn
 have l3:=wL lo
 have ck:=Ai hw2 (Nat.le_refl 0) (Nat.mul_pos (Nat.lt_of_lt_of_le Nat.two_pos hw) (Nat.lt_of_lt_of_le Nat.two_pos hw)) (fun _=>rfl) h2 (.inr rfl)
 refine aj (bH E) 6 12 0 [some (.at sc),some (.int w),some (.at rw),some (.at kn),some (.at tb),none,none,none,none,none,none,none] (ay E) (cF _) (cI E 6) rfl (by kernel_rfl) rfl rfl rfl rfl fun Q hQ=>?_
 k_extra "w"
 refine aq rfl 1 [] [] [.at sc,.int w] (eG E fz sc w 0 0 (lo+1) lo hsc' ck) (by decide) (by decide) rfl rfl ?_
 k_extra "w"
 refine ec rfl ?_
 refine bG (jz hra (by rw [List.length_map,hr.len];exact Nat.le_trans hn (by decide))) (n':=4) (fun k (i:(Int×Int×List UInt8)×Option NV)=>Si 398 sc tb rw kn w i.2 i.1.1 i.1.2.1 i.1.2.2 fz)
  (fun k i=>b5 8 i.1.2.2 i.1.1 i.1.2.1 (dT lo tr k)) ((0,0,[]),none) ⟨0,0,rfl,rfl,by decide,by decide,rfl⟩ (Up.self (Nat.le_refl 4) rfl) (Nat.zero_le _) (fun _ _ _ _=>ak.refl _) (fun k i hkn hi L hL=>?_) fun i hi=>?_
 ·have hkn:k<n:=by rw [List.length_map,hr.len] at hkn;exact hkn
  refine jT (hr.item hkn) fun r _ r2 r3=>?_
  refine r2▸?_
  k_extra "w"
  refine aq rfl 3 [3,0,1,2] (DW sc tb i.1.1 i.1.2.1 i.1.2.2) [.id 0,.int 0,.at r] (v7 E fz sc tb r 0 0 (lo+1) lo (tr k) i.1.2.2 i.1.1 i.1.2.1 _ hsc' r3 ((hl k hkn).1.symm▸hm0) hi (Nat.le_trans (wt (Nat.le_trans (Nat.le_of_lt hkn) hn)) (by decide))) (by decide) (by decide) rfl rfl fun b' r' s' ok'=>?_
  k_extra "w"
  exact hL.nx ((r',s',b'),some (.at r)) _ (oQ.symm▸ok') (Up.self (Nat.le_refl 4) rfl)
 ·refine aq rfl 1 [] [] [.at sc,.int w] (eG E fz sc w 0 0 (lo+1) lo hsc' ck) (by decide) (by decide) rfl rfl ?_
  k_extra "w"
  refine aq rfl 2 [1,2] [BW i.1.1 i.1.2.1,.aB i.1.2.2] [.id 0] (th E fz i.1.2.2 i.1.1 i.1.2.1 _ hi (wt hn')) (by decide) (by decide) rfl rfl fun b' r' s' pad eb hb'=>?_
  have hka:=hk.at_
  have eb:aU b'=dT lo tr n++pad:=by rw [eb,List.length_map,hr.len]
  k_extra "w"
  refine dw (jz hka (by rw [List.length_map,hk.len];exact Nat.le_trans hn (by decide))) (fun _ (i:List Addr×Hp)=>d9 i.1) (fun k _=>[.inst 755 [(12,.at tb),(25,.id 5)],.inst 139 [(0,.id 2),(1,.int r'),(2,.int s')],.aB b',.inst 398 [(5,.at sc),(6,.id 0)],.inst 482 [(5,.at sc),(10,.id 7)],.inst 139 [(0,.id 6),(1,.int 0),(2,.int 0)],.aB [],BR b' (0+(k:Int))]) (fun _ i=>i.2)
   (fun k i=>i.1.length=k∧ak fz i.2∧∀ j a,i.1[j]?=some a->i.2 a=some (.list ((F j).map .int))) ([],fz) ⟨rfl,ak.refl _,nofun⟩ rfl rfl rfl (by rw [List.length_map,hk.len];exact Nat.le_trans hn (by decide)) (fun k i _ hi=>hi.2.1) (fun k i hkn hi L hL=>?_) fun i hi=>⟨by rw [b6,hi.1,List.length_map,hk.len];exact Nat.le_trans hn (by decide),?_⟩
  ·have hkn:k<n:=by rw [List.length_map,hk.len] at hkn;exact hkn
   refine jT (hk.item hkn) fun q _ q2 q3=>?_
   obtain⟨l,rd⟩:=Kn eb hb' hkn
   refine q2▸?_
   k_extra "w"
   refine aq rfl 2 [4,7] (DR sc b' (0+(k:Int))) [.id 0,.int 0,.at q] (v3 E i.2 sc q 0 0 (lo+1) lo (kf k) b' (0+(k:Int)) _ l (hsc'.keeps hi.2.1) (hi.2.1 _ _ q3) ((hl k hkn).2.symm▸hm0) ((hl k hkn).2.symm▸hm) (tY ((hl k hkn).2.symm▸hm0)) (Nat.le_trans h2 (by decide)) rd) (by decide) (by decide) rfl rfl fun fz' x le ex=>?_
   k_extra "w"
   exact hL _ _ (Up.now (Nat.le_refl 8) ⟨.at x,_,(i.1++[x],fz'),rfl,⟨by rw [List.length_append,hi.1];rfl,hi.2.1.trans le,dP hi.1 (fun j b hb=>le _ _ (hi.2.2 j b hb)) (hF k hkn▸ex)⟩,eD,congrArg (fun a=>[NO.inst 755 [(12,.at tb),(25,.id 5)],.inst 139 [(0,.id 2),(1,.int r'),(2,.int s')],.aB b',.inst 398 [(5,.at sc),(6,.id 0)],.inst 482 [(5,.at sc),(10,.id 7)],.inst 139 [(0,.id 6),(1,.int 0),(2,.int 0)],.aB [],BR b' a]) (Int.add_assoc 0 (k:Int) 1),rfl⟩)
  ·k_extra "w"
   exact hQ _ _ (Fin.fr 8 (i.1.map .ref) [] rfl rfl rfl rfl rfl fun x fz' le e R hR=>hR fz' x i.1 (hi.2.1.trans le) ⟨e,by rw [hi.1,List.length_map,hk.len],fun j a ea=>le _ _ (hi.2.2 j a ea)⟩)
noncomputable def bq (lo:Nat) (tr:Nat->List Int):Nat->Int
 | 0=>0
 | k+1=>dL lo ((tr k).getD 0 0)
noncomputable abbrev dD (lo:Nat) (tr:Nat->List Int) (k:Nat):Int:=dL lo ((tr k).getD 0 0)-bq lo tr k
noncomputable def eT (sz lo:Nat) (tr:Nat->List Int) (k:Nat):List Bool:=(List.range k).flatMap fun j=>dE sz (dD lo tr j)
theorem mc {sz lo k:Nat} {tr:Nat->List Int}:eT sz lo tr (k+1)=eT sz lo tr k++dE sz (dD lo tr k):=by
 unfold eT;simp only [List.range_succ,List.flatMap_append,List.flatMap_singleton]
theorem qk {sz lo k:Nat} {tr:Nat->List Int}:∀ {n:Nat},k<n->∃ rest,eT sz lo tr n=eT sz lo tr k++(dE sz (dD lo tr k)++rest)
 | n+1,h=>by
  rw [mc]
  refine Or.elim (Nat.lt_or_ge k n) (fun e=>?_) (fun e=>?_)
  ·refine jg (qk (sz:=sz) (lo:=lo) (tr:=tr) e) fun rest e=>?_
   exact⟨rest++dE sz (dD lo tr n),by rw [e];simp only [List.append_assoc]⟩
  ·have e:=Nat.le_antisymm (Nat.le_of_lt_succ h) e
   subst e
   exact⟨[],by simp only [List.append_nil]⟩
theorem EP {lo:Nat} {v:Int} (h : -13<v∧v<13) (h2:lo≤2) : -13<dL lo v∧dL lo v<13:=by
 have key:∀ (l:_root_.Fin 3) (r:_root_.Fin 25),-13<dL l.1 ((r.1:Int)-12)∧dL l.1 ((r.1:Int)-12)<13:=by decide +kernel
 have:=key ⟨lo,Nat.lt_succ_of_le h2⟩ ⟨(v+12).toNat,by omega⟩
 rwa [show (((⟨(v+12).toNat,by omega⟩:_root_.Fin 25).1:Nat):Int)-12=v by simp only;omega] at this
theorem J8 {n lo:Nat} {tr:Nat->List Int} (h2:lo≤2) (hv:∀ k,k<n → -13<(tr k).getD 0 0∧(tr k).getD 0 0<13):∀ k,k<n → -13<bq lo tr k∧bq lo tr k<13
 | 0,_=>⟨show (-13:Int)<0 by decide,show (0:Int)<13 by decide⟩
 | k+1,h=>EP (hv k (Nat.lt_of_succ_lt h)) h2
theorem wo {n lo:Nat} {tr:Nat->List Int} (h2:lo≤2) (hv:∀ k,k<n → -13<(tr k).getD 0 0∧(tr k).getD 0 0<13) (k:Nat) (h:k<n) : -25<dD lo tr k∧dD lo tr k<25:=by
 have a:=J8 h2 hv k h
 have b:=EP (hv k h) h2
 unfold dD;omega
theorem rN {n sz lo:Nat} {tr:Nat->List Int} (h2:lo≤2) (hz:sz≤50) (hv:∀ k,k<n → -13<(tr k).getD 0 0∧(tr k).getD 0 0<13):∀ k,k≤n->(eT sz lo tr k).length≤56*k
 | 0,_=>Nat.le_refl 0
 | k+1,h=>by
  have d:=wo h2 hv k h
  have:=(r6 d.1 d.2).1
  have:=rN (sz:=sz) h2 hz hv k (Nat.le_of_succ_le h)
  simp only [mc,List.length_append,dE,List.length_append,ax,ax]
  omega
theorem Kq {sz lo:Nat} {tr:Nat->List Int} {n k:Nat} {o:List UInt8} {a:Int} {l pad:List Bool} (h:aX o a l) (e:eT sz lo tr k++l=eT sz lo tr n++pad) (hk:k<n):∃ l',aX o a (dE sz (dD lo tr k)++l')∧eT sz lo tr (k+1)++l'=eT sz lo tr n++pad∧aX o (a+sz+nb (dD lo tr k)) l':=by
 refine jg (qk (sz:=sz) (lo:=lo) (tr:=tr) hk) fun rest er=>?_
 have el:l=dE sz (dD lo tr k)++(rest++pad):=List.append_cancel_left (as:=eT sz lo tr k) (by simp only [e,er];simp only [List.append_assoc])
 refine⟨rest++pad,el▸h,by simp only [mc,er];simp only [List.append_assoc],?_⟩
 simp only [el,dE,List.append_assoc] at h
 exact h.skip.skip
noncomputable abbrev QQ (sc tb rw kn:Addr) (w:Nat) (x:Option NV) (bf r s:Int) (b:List UInt8) (g:Hp):NS:=⟨[some (.at sc),some (.int w),some (.at rw),some (.at kn),some (.at tb),some (.id 3),x,none,none,none,none,none],[.inst 755 [(12,.at tb),(25,.id 1)],.inst 139 [(0,.id 2),(1,.int r),(2,.int s)],.aB b,.inst 356 [(5,.at sc),(6,.id 0),(11,.id 4)],.list [.int bf]],g⟩
noncomputable abbrev RG (sc tb:Addr) (r s:Int) (b:List UInt8) (be bf a:Int):List NO:=[.inst 755 [(12,.at tb),(25,.id 7)],.inst 139 [(0,.id 2),(1,.int r),(2,.int s)],.aB b,.inst 356 [(5,.at sc),(6,.id 0),(11,.id 4)],.list [.int be],.inst 440 [(5,.at sc),(12,.at tb),(11,.id 10),(10,.id 11)],.list [],.inst 139 [(0,.id 8),(1,.int 0),(2,.int 0)],.aB [],.list [.int 0],.list [.int bf],BR b a]
theorem te {lo k:Nat} {tr:Nat->List Int}:bq lo tr k+dD lo tr k=dL lo ((tr k).getD 0 0):=by unfold dD;omega
set_option maxHeartbeats 4000000 in
theorem Kb (E:Ev) (fz:Hp) (sc tb rw kn:Addr) (ra ka:List Addr) (w n m lo runs sz:Nat) (tr kf F:Nat->List Int) (ht:gx fz tb 0 runs sz) (hsc:eO fz sc 0 0 0 lo) (hr:Gd fz rw ra n tr) (hk:Gd fz kn ka n kf) (hn:n≤8) (hl:∀ k,k<n->(tr k).length=m∧(kf k).length=m) (hm:m≤25) (hm0:0<m) (h2:lo≤2) (hw:2≤w) (hw2:w≤5)
  (hv:∀ k,k<n → -13<(tr k).getD 0 0∧(tr k).getD 0 0<13) (h4:4≤runs) (hs:6*runs≤2^sz) (hz:sz≤16) (hz0:0<sz) (hF:∀ k,k<n->(dL lo ((tr k).getD 0 0)*2^((lo:Nat):Int).toNat)::(kf k).drop 1=F k) :
  aO (PE E) 7 790 [.at sc,.int w,.at rw,.at kn,.at tb] [] fz fun R=>∀ fz' y as,ak fz fz'->Gd fz' y as n F->R (.at y) [] fz':=by
 have hsc':=hsc
 refine ip hsc fun p d ac hsc hp _ _=>?_
 have sm:=pU
 have hra:=hr.at_
 have hrn:(ra.map AV.ref).length=n:=by rw [List.length_map,hr.len]
 have hkn':(ka.map AV.ref).length=n:=by rw [List.length_map,hk.len]
 have hz50:=Nat.le_trans hz (by decide:16≤50)
 have hn1:=Nat.le_trans hn (by decide:8≤1000000)
 have ck:=Ai hw2 (Nat.le_refl 0) (Nat.mul_pos (Nat.lt_of_lt_of_le Nat.two_pos hw) (Nat.lt_of_lt_of_le Nat.two_pos hw)) (fun _=>rfl) h2 (.inl rfl)
 refine aj (bH E) 6 12 0 [some (.at sc),some (.int w),some (.at rw),some (.at kn),some (.at tb),none,none,none,none,none,none,none] (ay E) (cF _) (cI E 6) rfl (by kernel_rfl) rfl rfl rfl rfl fun Q hQ=>?_
 k_extra "w"
 refine aq rfl 1 [] [] [.at sc,.int w] (eG E fz sc w 0 0 0 lo hsc' ck) (by decide) (by decide) rfl rfl ?_
 k_extra "w"
 refine ec rfl ?_
 refine bG (jz hra (hrn.symm▸hn1)) (n':=4) (fun k (i:((Int×Int×List UInt8)×Option NV)×Hp)=>QQ sc tb rw kn w i.1.2 (bq lo tr k) i.1.1.1 i.1.1.2.1 i.1.1.2.2 i.2)
  (fun k i=>b5 8 i.1.1.2.2 i.1.1.1 i.1.1.2.1 (eT sz lo tr k)∧ak fz i.2) (((0,0,[]),none),fz) ⟨⟨0,0,rfl,rfl,by decide,by decide,rfl⟩,ak.refl _⟩ (e9 [0,1,2,3,6] rfl (by decide) rfl rfl rfl rfl) (Nat.zero_le _) (fun _ _ _ hi=>hi.2) (fun k i hkn hi L hL=>?_) fun i hi=>?_
 ·have hkn:k<n:=hrn▸hkn
  refine jT (hr.item hkn) fun r _ r2 r3=>?_
  have dd:=wo h2 hv k hkn
  refine r2▸?_
  k_extra "w"
  refine aq rfl 4 [3,0,1,2,4] (DF sc tb (bq lo tr k) i.1.1.1 i.1.1.2.1 i.1.1.2.2) [.id 0,.int 0,.at r] (vY E i.2 sc tb r runs sz 0 0 0 lo (bq lo tr k) (tr k) i.1.1.2.2 i.1.1.1 i.1.1.2.1 _ (ht.keeps hi.2) (hsc'.keeps hi.2) (hi.2 _ _ r3) ((hl k hkn).1.symm▸hm0) h4 hs hz50 dd.1 dd.2 hi.1 (Nat.le_trans (rN h2 hz50 hv k (Nat.le_of_lt hkn)) (by omega))) (by decide) (by decide) rfl rfl fun fz' b' r' s' le ok'=>?_
  k_extra "w"
  exact hL.nx (((r',s',b'),some (.at r)),fz') _ ⟨mc.symm▸ok',hi.2.trans le⟩ (Up.self (fQ rfl) rfl)
 ·have hsc1:=hi.2 _ _ hsc
  have aV:=hi.2 _ _ hp
  have hka:=hi.2 _ _ hk.at_
  refine aq rfl 1 [] [] [.at sc,.int w] (eG E i.2 sc w 0 0 0 lo (hsc'.keeps hi.2) ck) (by decide) (by decide) rfl rfl ?_
  k_extra "w"
  refine aq rfl 2 [1,2] [BW i.1.1.1 i.1.1.2.1,.aB i.1.1.2.2] [.id 0] (th E i.2 i.1.1.2.2 i.1.1.1 i.1.1.2.1 _ hi.1 (Nat.le_trans (rN h2 hz50 hv _ (Nat.le_of_eq hrn)) (by omega))) (by decide) (by decide) rfl rfl fun b' r' s' pad eb hb'=>?_
  have eb:aU b'=eT sz lo tr n++pad:=hrn▸eb
  k_extra "w"
  refine dw (jz hka (hkn'.symm▸hn1)) (fun _ (i:(Int×List Bool)×List Addr×Hp)=>d9 i.2.1) (fun k i=>RG sc tb r' s' b' (bq lo tr (ra.map AV.ref).length) (bq lo tr k) i.1.1) (fun _ i=>i.2.2)
   (fun k u=>(u.2.1.length=k∧ak i.2 u.2.2∧∀ j a,u.2.1[j]?=some a->u.2.2 a=some (.list ((F j).map .int)))∧aX b' u.1.1 u.1.2∧eT sz lo tr k++u.1.2=eT sz lo tr n++pad) ((0,eT sz lo tr n++pad),[],i.2) ⟨⟨rfl,ak.refl _,nofun⟩,⟨hb',0,rfl,eb⟩,rfl⟩ rfl rfl rfl (hkn'.symm▸hn1) (fun _ _ _ hj=>hj.1.2.1) (fun k j hkn hj L hL=>?_) fun j hj=>⟨by rw [b6,hj.1.1,hkn'];exact hn1,?_⟩
  ·have hkn:k<n:=hkn'▸hkn
   refine jT (hk.item hkn) fun q _ q2 q3=>?_
   refine jT (Kq hj.2.1 hj.2.2 hkn) fun l rd e1 rd2=>?_
   have le0:=hi.2.trans hj.1.2.1
   have dd:=wo h2 hv k hkn
   refine q2▸?_
   k_extra "w"
   refine aq rfl 3 [5,10,11] (DG sc tb (bq lo tr k) b' j.1.1) [.id 0,.int 0,.at q] (vZ E j.2.2 sc tb q runs sz 0 0 0 lo (bq lo tr k) (dD lo tr k) (kf k) b' j.1.1 l (ht.keeps le0) (hsc'.keeps le0) (le0 _ _ q3) ((hl k hkn).2.symm▸hm) (Nat.le_trans h2 (by decide)) h4 hs hz hz0 dd.1 dd.2 rd) (by decide) (by decide) rfl rfl fun fz' x le ex=>?_
   k_extra "w"
   exact hL _ _ (Up.now (Nat.le_refl 12) ⟨.at x,_,((j.1.1+sz+nb (dD lo tr k),l),j.2.1++[x],fz'),rfl,⟨⟨by rw [List.length_append,hj.1.1];rfl,hj.1.2.1.trans le,dP hj.1.1 (fun u b hb=>le _ _ (hj.1.2.2 u b hb)) (hF k hkn▸te▸ex)⟩,rd2,e1⟩,eD,congrArg (fun q=>RG sc tb r' s' b' (bq lo tr (ra.map AV.ref).length) q (j.1.1+sz+nb (dD lo tr k))) te,rfl⟩)
  ·k_extra "w"
   exact hQ _ _ (Fin.fr 12 (j.2.1.map .ref) [] rfl rfl rfl rfl rfl fun x fz' le e R hR=>hR fz' x j.2.1 ((hi.2.trans hj.1.2.1).trans le) ⟨e,by rw [hj.1.1,hkn'],fun u a ea=>le _ _ (hj.1.2.2 u a ea)⟩)
theorem m5 {sz run:Nat} {kept:List Bool}:(bj sz run kept).length≤sz+run+kept.length:=by
 unfold bj
 by_cases h:run=0
 ·rw [if_pos h];exact Nat.zero_le _
 ·rw [if_neg h,List.length_append,List.length_append,ax,ax]
  have:=Nat.log2_le_self run
  omega
noncomputable def kc (sz:Nat):K->Nat
 | .n _ bs=>4*sz+bs.length+1
 | _=>3*sz+2
theorem wC {sz B:Nat} {κ:Nat->List Bool->Nat->List Bool->List Bool} (hk:∀ r k z h,(κ r k z h).length≤r+k.length+h.length+B) (run:Nat) (kept:List Bool) (z:Nat) (here:List Bool):(fl sz κ run kept z here).length≤run+kept.length+here.length+B+2*sz:=by
 unfold fl
 by_cases h:16≤z
 ·rw [if_pos h]
  have a:=m5 (sz:=sz) (run:=run) (kept:=kept)
  have b:=hk 0 [] (z-16) []
  simp only [List.length_append,ax,List.length_nil] at *
  omega
 ·rw [if_neg h];exact Nat.le_trans (hk _ _ _ _) (Nat.le_add_right _ _)
theorem ja {sz B:Nat} {κ:Nat->List Bool->List Bool} (hk:∀ r k,(κ r k).length≤r+k.length+B):∀ (vs:List K) (run:Nat) (kept:List Bool) (z:Nat) (here:List Bool),(bb sz κ run kept z here vs).length≤run+kept.length+here.length+(B+1+(vs.map (kc sz)).sum)
 | [],run,kept,z,here=>by
  rw [PB]
  by_cases h:z=0∧here=[]
  ·rw [if_pos h];exact Nat.le_trans (hk _ _) (by omega)
  ·rw [if_neg h];refine Nat.le_trans (hk _ _) ?_;rw [List.length_append];omega
 | .z::vs,run,kept,z,here=>by
  rw [QS,List.map_cons,List.sum_cons];exact Nat.le_trans (ja hk vs run kept (z+1) here) (by omega)
 | .c b::vs,run,kept,z,here=>by
  rw [zP,List.map_cons,List.sum_cons,show kc sz (.c b)=3*sz+2 from rfl]
  by_cases h:ba vs=true
  ·rw [if_pos h]
   refine Nat.le_trans (wC (B:=1+(B+1+(vs.map (kc sz)).sum)) (fun r k z h=>Nat.le_trans (ja hk vs r k z (h++[b])) (by simp only [List.length_append,List.length_singleton];omega)) run kept z here) (by omega)
  ·rw [if_neg h]
   refine Nat.le_trans (ja hk vs run kept z (here++[b])) (by simp only [List.length_append,List.length_singleton];omega)
 | .n s bs::vs,run,kept,z,here=>by
  simp only [zQ,List.map_cons,List.sum_cons,show kc sz (.n s bs)=4*sz+bs.length+1 from rfl]
  refine Nat.le_trans (wC (B:=2*sz+bs.length+(B+1+(vs.map (kc sz)).sum)) (fun r k z h=>?_) run kept z here) ?_
  ·have a:=m5 (sz:=sz) (run:=r) (kept:=k)
   have b:=ja (sz:=sz) hk vs 0 [] 0 []
   simp only [List.length_append,ax,List.length_nil] at *
   omega
  ·omega
theorem om {sz C:Nat}:∀ (rows:List (List K)) (run:Nat) (kept:List Bool),(∀ r∈rows,(r.map (kc sz)).sum≤C)->(aT sz run kept rows).length≤run+kept.length+(sz+rows.length*(C+1))
 | [],run,kept,_=>by rw [NA];exact Nat.le_trans m5 (by omega)
 | vs::rest,run,kept,h=>by
  rw [PC,List.length_cons]
  have c:=h vs List.mem_cons_self
  have:=ja (sz:=sz) (B:=sz+rest.length*(C+1)) (κ:=fun r k=>aT sz r k rest) (fun r k=>om rest r k fun x hx=>h x (List.mem_cons_of_mem _ hx)) vs run kept 0 []
  simp only [List.length_nil] at this
  simp only [Nat.succ_mul]
  omega
theorem wR {sz c:Nat}:∀ {vs:List K},(∀ k∈vs,kc sz k≤c)->(vs.map (kc sz)).sum≤vs.length*c
 | [],_=>Nat.zero_le _
 | v::vs,h=>by
  have a:=h v List.mem_cons_self
  have b:=wR (vs:=vs) fun k hk=>h k (List.mem_cons_of_mem _ hk)
  simp only [List.map_cons,List.sum_cons,List.length_cons,Nat.succ_mul];omega
theorem ku {st:Nat} (h1:1≤st):decide (((st:Nat):Int)=0)=false:=decide_eq_false fun e=>Nat.ne_of_gt h1 (Int.ofNat_inj.mp e)
noncomputable def kW (f:Int->K) (tr:Nat->List Int) (st en n k:Nat):List (List K):=((List.range n).drop k).map fun j=>band f (tr j) st en
theorem jP {f:Int->K} {tr:Nat->List Int} {st en n k:Nat} (h:k<n):kW f tr st en n k=band f (tr k) st en::kW f tr st en n (k+1):=by
 unfold kW
 rw [List.drop_eq_getElem_cons (by rw [List.length_range];exact h),List.getElem_range,List.map_cons]
theorem l9 {f:Int->K} {tr:Nat->List Int} {st en n:Nat}:kW f tr st en n n=[]:=by
 unfold kW;rw [List.drop_of_length_le (by rw [List.length_range];exact Nat.le_refl n)];rfl
theorem oK {f:Int->K} {tr:Nat->List Int} {st en n k:Nat}:(kW f tr st en n k).length=n-k:=by
 unfold kW;rw [List.length_map,List.length_drop,List.length_range]
theorem KH {sz lo:Nat} {v:Int} (h2:lo≤2) (h : -25<v∧v<25):kc sz (KA lo v)≤4*sz+6:=by
 have key:∀ (l:_root_.Fin 3) (r:_root_.Fin 49),nb (sL l.1 ((r.1:Int)-24))≤5:=by decide +kernel
 refine jg (EU h.1 h.2) fun r zp1=>?_;subst zp1
 have:=key ⟨lo,Nat.lt_succ_of_le h2⟩ r
 unfold KA
 by_cases e:aL lo ((r.1:Int)-24)=0
 ·rw [if_pos e];exact Nat.add_le_add (Nat.mul_le_mul_right sz (by decide)) (by decide)
 ·rw [if_neg e];refine (?_:4*sz+(ae _ _).length+1≤_);rw [ax];exact Nat.add_le_add_right (Nat.add_le_add_left this _) 1
theorem nW {f:Int->K} {tr:Nat->List Int} {st en n sz c:Nat} (hc:c≤100) (hsz:sz≤100) (hn:n≤8) (h:∀ k,k<n->(tr k).length≤25∧∀ x∈tr k,kc sz (f x)≤c):(aT sz 0 [] (kW f tr st en n 0)).length≤600000:=by
 refine Nat.le_trans (om (C:=2500) _ 0 [] fun r hr=>?_) ?_
 ·skip
  refine aA (List.mem_map.mp hr) fun j hj zp2=>?_;subst zp2
  have hj:=h j (List.mem_range.mp (List.mem_of_mem_drop hj))
  refine Nat.le_trans (wR (c:=c) fun k hk=>?_) ?_
  ·refine aA (List.mem_map.mp hk) fun x hx zp2=>?_;subst zp2
   exact hj.2 x (List.mem_of_mem_drop (List.mem_of_mem_take hx))
  ·unfold band
   simp only [List.length_map,List.length_take,List.length_drop]
   exact Nat.le_trans (Nat.mul_le_mul (Nat.le_trans (Nat.min_le_right _ _) (Nat.le_trans (Nat.sub_le _ _) hj.1)) hc) (by decide)
 ·simp only [oK,List.length_nil]
  have:(n-0)*(2500+1)≤8*2501:=Nat.mul_le_mul (Nat.le_trans (Nat.sub_le _ _) hn) (Nat.le_refl _)
  simp only [Nat.add_zero,Nat.zero_add];exact Nat.le_trans (Nat.add_le_add hsz this) (by decide)
noncomputable abbrev RF (sc tb rw kn key:Addr) (w:Nat) (x:Option NV) (run r s:Int) (b:List UInt8) (g:Hp):NS:=⟨[some (.at sc),some (.int w),some (.at rw),some (.at kn),some (.at tb),some (.id 3),x,none,none,none,none,none],[.inst 755 [(12,.at tb),(25,.id 1)],.inst 139 [(0,.id 2),(1,.int r),(2,.int s)],.aB b,.inst 272 [(5,.at sc),(6,.id 0),(7,.at key),(8,.int run)]],g⟩
theorem td {f:Int->K} {tr:Nat->List Int} {st en n k:Nat} {r:List K} (h:r∈kW f tr st en n k):∃ j,j<n∧r=band f (tr j) st en:=by
 skip
 refine aA (List.mem_map.mp h) fun j hj zp2=>?_;subst zp2
 exact⟨j,List.mem_range.mp (List.mem_of_mem_drop hj),rfl⟩
theorem vU {f:Int->K} {tr:Nat->List Int} {st en n k:Nat} (bu:st≤en) (h:∀ j,j<n->en<(tr j).length):∀ r∈kW f tr st en n k,r≠[]:=fun r hr e=>by
 refine aA (td hr) fun j hj zp2=>?_;subst zp2
 have:=congrArg List.length e
 simp only [bO (h j hj) bu,List.length_nil] at this
 exact absurd this (Nat.ne_of_gt (Nat.sub_pos_of_lt (Nat.lt_succ_of_le bu)))
theorem Ac {tr:Nat->List Int} {st en n k lo:Nat}:∀ r∈kW (KA lo) tr st en n k,tP r=true:=fun r hr=>by
 refine aA (td hr) fun j hj zp2=>?_;subst zp2
 exact mS
noncomputable abbrev Sh (sc tb key t:Addr) (r s:Int) (b:List UInt8) (run a:Int):List NO:=[.inst 755 [(12,.at tb),(25,.id 5)],.inst 139 [(0,.id 2),(1,.int r),(2,.int s)],.aB b,.inst 272 [(5,.at sc),(6,.id 0),(7,.at key),(8,.int 0)],.inst 314 [(5,.at sc),(9,.at t),(10,.id 7),(8,.int run)],.inst 139 [(0,.id 6),(1,.int 0),(2,.int 0)],.aB [],BR b a]
theorem vD.done {sz run:Nat} {pad l:List Bool} (h:vD sz run [] pad l):decide ((0:Int)<((run:Nat):Int))=false:=by
 rw [Nat.le_zero.mp h.1];rfl
set_option maxHeartbeats 4000000 in
theorem Dn (E:Ev) (fz zz:Hp) (sc tb rw kn key:Addr) (ka:List Addr) (w n st en lo runs sz run:Nat) (x:Option NV) (L:List Bool) (r s:Int) (b:List UInt8) (tr kf:Nat->List Int) (ht:gx zz tb 1 runs sz) (hsc:eO zz sc st en 0 lo) (hk:Gd zz kn ka n kf) (hn:n≤8) (hc:∀ k,k<n->zS lo st en (kf k) (tr k)) (h1:1≤st) (bu:st≤en) (h2:lo≤2) (ck:zT w st en 0 lo)
  (h4:4≤runs) (hs:6*runs≤2^sz) (hz:sz≤16) (hz0:0<sz) (hzr:runs=16∨en+1-st≤runs∧en+1-st≤16) (bd:(aT sz 0 [] (kW (KA lo) tr st en n 0)).length≤600000) (ek:zz key=some (.tup [.int 1,.int 0])) (hr:run≤8) (ok:b5 8 b r s L) (hT:L++bj sz run []=aT sz 0 [] (kW (KA lo) tr st en n 0)) (le:ak fz zz) (Q:cY->NS->WT)
  (hQ:∀ fl σ,Fin 0 (fun v H z=>∀ R:NV->List NO->Hp->Prop,(∀ fz' y as,ak fz fz'->Gd fz' y as n (fun k=>setB (fA lo) (kf k) (tr k) st (en+1-st))->R (.at y) [] fz')->R v H z) fl σ->den (PE E) (Q fl σ)) :
  den (PE E) (jr (PE E) (lW (PE E) TB 6) 0 (eS.drop 3) (RF sc tb rw kn key w x run r s b zz) Q):=by
 have hsc':=hsc
 refine ip hsc fun p d ac hsc hp hd hac=>?_
 refine nH (id ht) fun kv t e1 e2 htt=>?_
 have sm:=pU
 have hkn':(ka.map AV.ref).length=n:=by rw [List.length_map,hk.len]
 have hn1:=Nat.le_trans hn (by decide:8≤1000000)
 have hz50:=Nat.le_trans hz (by decide:16≤50)
 have b4:=ku h1
 refine aq rfl 1 [] [] [.at sc,.int w] (eG E zz sc w st en 0 lo hsc' ck) (by decide) (by decide) rfl rfl ?_
 k_extra "w"
 refine dq rfl fun key2 fz2 (le2:ak zz fz2) ek2=>?_
 have e1:=le2 _ _ e1
 k_extra "w"
 refine ec rfl ⟨[1,0],.at t,rfl,e2,?_⟩
 k_extra "w"
 refine aq rfl 4 [3,0,1,2] (AW sc key tb run r s b) [.id 0] (qd E fz2 sc key tb runs sz run b r s L (ht.keeps le2) (le2 _ _ ek) (Nat.le_succ_of_le hr) h4 hs hz50 ok (Nat.le_trans (tG hT bd) (by decide))) (by decide) (by decide) rfl rfl fun z2 b2 r2 s2 le3 ok2=>?_
 k_extra "w"
 refine aq rfl 2 [1,2] [BW r2 s2,.aB b2] [.id 0] (th E z2 b2 r2 s2 _ ok2 (hT.symm▸Nat.le_trans bd (by decide))) (by decide) (by decide) rfl rfl fun b' r' s' pad eb hb'=>?_
 have eb:=eb.trans (congrArg (· ++ pad) hT)
 have le4:=le2.trans le3
 have hka:=le4 _ _ hk.at_
 k_extra "w"
 refine dw (jz hka (hkn'.symm▸hn1)) (fun _ (i:(Nat×Int×List Bool)×List Addr×Hp)=>d9 i.2.1) (fun k i=>Sh sc tb key t r' s' b' i.1.1 i.1.2.1) (fun _ i=>i.2.2)
  (fun k u=>(u.2.1.length=k∧ak z2 u.2.2∧∀ j a,u.2.1[j]?=some a->u.2.2 a=some (.list ((setB (fA lo) (kf j) (tr j) st (en+1-st)).map .int)))∧aX b' u.1.2.1 u.1.2.2∧vD sz u.1.1 (kW (KA lo) tr st en n k) pad u.1.2.2) ((0,0,aT sz 0 [] (kW (KA lo) tr st en n 0)++pad),[],z2) ⟨⟨rfl,ak.refl _,nofun⟩,⟨hb',0,rfl,eb⟩,Nat.zero_le _,nofun,rfl⟩ rfl rfl rfl (hkn'.symm▸hn1) (fun _ _ _ hj=>hj.1.2.1) (fun k j hkn hj L hL=>?_) fun j hj=>⟨by rw [b6,hj.1.1,hkn'];exact hn1,?_⟩
 ·have hkn:k<n:=hkn'▸hkn
  refine jT (hk.item hkn) fun q _ q2 q3=>?_
  have le0:=le4.trans hj.1.2.1
  refine q2▸?_
  k_extra "w"
  refine aq rfl 3 [4,7] (AR sc t j.1.1 b' j.1.2.1) [.id 0,.int 0,.at q] (vX E j.2.2 sc t q runs sz st en 0 lo j.1.1 (kf k) (tr k) (kW (KA lo) tr st en n (k+1)) b' j.1.2.1 j.1.2.2 pad (htt.keeps le0) (hsc'.keeps le0) (le0 _ _ q3) (hc k hkn) (Nat.le_trans h2 (by decide)) h4 hs hz hz0 hzr (vU bu fun j h=>(hc j h).aZ) Ac (by rw [oK];exact Nat.le_trans (Nat.sub_le _ _) hn) hj.2.1 (jP hkn▸hj.2.2)) (by decide) (by decide) rfl rfl fun fz' x a' l' run' le ex rd at'=>?_
  k_extra "w"
  exact hL _ _ (Up.now (Nat.le_refl 8) ⟨.at x,_,((run',a',l'),j.2.1++[x],fz'),rfl,⟨⟨by rw [List.length_append,hj.1.1];rfl,hj.1.2.1.trans le,dP hj.1.1 (fun u b hb=>le _ _ (hj.1.2.2 u b hb)) ex⟩,rd,at'⟩,eD,rfl,rfl⟩)
 ·have hj2:=hj.2.2
  rw [hkn',l9] at hj2
  have z:=hj2.done
  k_extra "w"
  exact hQ _ _ (Fin.fr 8 (j.2.1.map .ref) [] rfl rfl rfl rfl rfl fun x fz' le5 e R hR=>hR fz' x j.2.1 (((le.trans le4).trans hj.1.2.1).trans le5) ⟨e,by rw [hj.1.1,hkn'],fun u a ea=>le5 _ _ (hj.1.2.2 u a ea)⟩)
set_option maxHeartbeats 4000000 in
theorem J9 (E:Ev) (fz:Hp) (sc tb rw kn:Addr) (ra ka:List Addr) (w n st en lo runs sz:Nat) (tr kf:Nat->List Int) (ht:gx fz tb 1 runs sz) (hsc:eO fz sc st en 0 lo) (hr:Gd fz rw ra n tr) (hk:Gd fz kn ka n kf) (hn:n≤8) (hc:∀ k,k<n->zS lo st en (kf k) (tr k)) (h1:1≤st) (bu:st≤en) (aZ:en<w*w) (h2:lo≤2) (hw:2≤w) (hw2:w≤5)
  (h4:4≤runs) (hs:6*runs≤2^sz) (hz:sz≤16) (hz0:0<sz) (hzr:runs=16∨en+1-st≤runs∧en+1-st≤16) :
  aO (PE E) 7 790 [.at sc,.int w,.at rw,.at kn,.at tb] [] fz fun R=>∀ fz' y as,ak fz fz'->Gd fz' y as n (fun k=>setB (fA lo) (kf k) (tr k) st (en+1-st))->R (.at y) [] fz':=by
 have hsc':=hsc
 refine ip hsc fun p d ac hsc hp hd hac=>?_
 have sm:=pU
 have hra:=hr.at_
 have hrn:(ra.map AV.ref).length=n:=by rw [List.length_map,hr.len]
 have hkn':(ka.map AV.ref).length=n:=by rw [List.length_map,hk.len]
 have hn1:=Nat.le_trans hn (by decide:8≤1000000)
 have hz50:=Nat.le_trans hz (by decide:16≤50)
 have bd:=nW (f:=KA lo) (st:=st) (en:=en) (sz:=sz) (c:=4*sz+6) (Nat.le_trans (Nat.add_le_add_right (Nat.mul_le_mul_left 4 hz) 6) (by decide)) (Nat.le_trans hz (by decide)) hn fun k h=>⟨(hc k h).hl,fun x hx=>KH h2 ((hc k h).hv x hx)⟩
 have b4:=ku h1
 have ck:=Ai (lo:=lo) (hi:=0) hw2 bu aZ (fun e=>absurd (e▸h1) (by decide)) h2 (.inl rfl)
 refine aj (bH E) 6 12 0 [some (.at sc),some (.int w),some (.at rw),some (.at kn),some (.at tb),none,none,none,none,none,none,none] (ay E) (cF _) (cI E 6) rfl (by kernel_rfl) rfl rfl rfl rfl fun Q hQ=>?_
 k_extra "w"
 refine aq rfl 1 [] [] [.at sc,.int w] (eG E fz sc w st en 0 lo hsc' ck) (by decide) (by decide) rfl rfl ?_
 k_extra "w"
 refine dq rfl fun key fz1 (le1:ak fz fz1) (ek:fz1 key=some (.tup [.int 1,.int 0]))=>?_
 have hra1:=le1 _ _ hra
 k_extra "w"
 refine ec rfl ?_
 refine bG (jz hra1 (hrn.symm▸hn1)) (n':=4) (fun k (i:((Nat×List Bool)×(Int×Int×List UInt8)×Option NV)×Hp)=>RF sc tb rw kn key w i.1.2.2 i.1.1.1 i.1.2.1.1 i.1.2.1.2.1 i.1.2.1.2.2 i.2)
  (fun k i=>i.1.1.1≤k∧b5 8 i.1.2.1.2.2 i.1.2.1.1 i.1.2.1.2.1 i.1.1.2∧i.1.1.2++aT sz i.1.1.1 [] (kW (KA lo) tr st en n k)=aT sz 0 [] (kW (KA lo) tr st en n 0)∧ak fz1 i.2) (((0,[]),(0,0,[]),none),fz1) ⟨Nat.le_refl 0,⟨0,0,rfl,rfl,by decide,by decide,rfl⟩,rfl,ak.refl _⟩ (Up.self (Nat.le_refl 4) rfl) (Nat.zero_le _) (fun _ _ _ hi=>hi.2.2.2) (fun k i hkn hi L hL=>?_) fun i hi=>?_
 ·have hkn:k<n:=hrn▸hkn
  refine jT (hr.item hkn) fun r _ r2 r3=>?_
  have c:=hc k hkn
  have le:=le1.trans hi.2.2.2
  refine r2▸?_
  k_extra "w"
  refine aq rfl 6 [3,0,1,2] (AW sc key tb i.1.1.1 i.1.2.1.1 i.1.2.1.2.1 i.1.2.1.2.2) [.id 0,.int 0,.at r] (Ae E i.2 sc key tb r .none runs sz i.1.1.1 st en 0 lo (tr k) (kW (KA lo) tr st en n (k+1)) i.1.2.1.2.2 i.1.2.1.1 i.1.2.1.2.1 i.1.1.2 _ (ht.keeps le) (hi.2.2.2 _ _ ek) (hsc'.keeps le) (le _ _ r3) (Nat.le_trans hi.1 (Nat.le_trans (Nat.le_of_lt hkn) hn)) h4 hs hz50 bu c.aZ c.hl c.hv hzr hi.2.1 (jP hkn▸hi.2.2.1) (Nat.le_trans bd (by decide))) (by decide) (by decide) rfl rfl fun fz' b' r' s' L' run' le' hr' ok' hT'=>?_
  k_extra "w"
  exact hL.nx (((run',L'),(r',s',b'),some (.at r)),fz') _ ⟨Nat.le_trans hr' (Nat.succ_le_succ hi.1),ok',hT',hi.2.2.2.trans le'⟩ (Up.self (Nat.le_refl 4) rfl)
 ·have le:=le1.trans hi.2.2.2
  have hT:=hi.2.2.1
  rw [hrn,l9,NA] at hT
  exact Dn E fz i.2 sc tb rw kn key ka w n st en lo runs sz i.1.1.1 i.1.2.2 i.1.1.2 i.1.2.1.1 i.1.2.1.2.1 i.1.2.1.2.2 tr kf (ht.keeps le) (hsc'.keeps le) (hk.keeps le) hn hc h1 bu h2 ck h4 hs hz hz0 hzr bd (hi.2.2.2 _ _ ek) (Nat.le_trans hi.1 (hrn.symm▸hn)) hi.2.1 hT le Q hQ
theorem KI {sz lo:Nat} {v:Int}:kc sz (KB lo v)≤4*sz+6:=by
 have h3:3*sz+2≤4*sz+6:=Nat.add_le_add (Nat.mul_le_mul_right sz (by decide)) (by decide)
 unfold KB
 split
 ·exact h3
 ·split
  ·exact h3
  ·exact Nat.add_le_add_left (by decide:2≤6) (4*sz)
noncomputable abbrev QR (sc tb rw kn key kp:Addr) (w:Nat) (x:Option NV) (run r s:Int) (b:List UInt8) (g:Hp):NS:=⟨[some (.at sc),some (.int w),some (.at rw),some (.at kn),some (.at tb),some (.id 3),x,none,none,none,none,none],[.inst 755 [(12,.at tb),(25,.id 1)],.inst 139 [(0,.id 2),(1,.int r),(2,.int s)],.aB b,.inst 545 [(5,.at sc),(6,.id 0),(7,.at key),(8,.int run),(13,.at kp)]],g⟩
noncomputable abbrev Sk (sc tb key kp t:Addr) (r s:Int) (b:List UInt8) (run a:Int):List NO:=[.inst 755 [(12,.at tb),(25,.id 5)],.inst 139 [(0,.id 2),(1,.int r),(2,.int s)],.aB b,.inst 545 [(5,.at sc),(6,.id 0),(7,.at key),(8,.int 0),(13,.at kp)],.inst 608 [(5,.at sc),(9,.at t),(10,.id 7),(8,.int run)],.inst 139 [(0,.id 6),(1,.int 0),(2,.int 0)],.aB [],BR b a]
theorem pX.done {sz run:Nat} {pad l:List Bool} (h:pX sz run [] pad l):decide ((0:Int)<((run:Nat):Int))=false:=by
 rw [Nat.le_zero.mp h.1];rfl
set_option maxHeartbeats 4000000 in
theorem Dp (E:Ev) (fz zz:Hp) (sc tb rw kn key kp:Addr) (ka:List Addr) (w n st en lo runs sz run:Nat) (x:Option NV) (L kept:List Bool) (r s:Int) (b:List UInt8) (tr kf:Nat->List Int) (ht:gx zz tb 1 runs sz) (hsc:eO zz sc st en (lo+1) lo) (hk:Gd zz kn ka n kf) (hn:n≤8) (hc:∀ k,k<n->EF lo st en (kf k) (tr k)) (h1:1≤st) (bu:st≤en) (ck:zT w st en (lo+1) lo)
  (h4:4≤runs) (hs:6*runs≤2^sz) (hz:sz≤16) (hz0:0<sz) (hzr:runs=16∨en+1-st≤runs∧en+1-st≤16) (bd:(aT sz 0 [] (kW (KB lo) tr st en n 0)).length≤600000) (ek:zz key=some (.tup [.int 1,.int 0])) (JR:zz kp=some (.list (bL kept))) (hr:run≤8) (hr0:run=0->kept=[]) (hkl:kept.length≤300) (ok:b5 8 b r s L) (hT:L++bj sz run kept=aT sz 0 [] (kW (KB lo) tr st en n 0)) (le:ak fz zz) (Q:cY->NS->WT)
  (hQ:∀ fl σ,Fin 0 (fun v H z=>∀ R:NV->List NO->Hp->Prop,(∀ fz' y as,ak fz fz'->Gd fz' y as n (fun k=>setB (fA lo) (kf k) (tr k) st (en+1-st))->R (.at y) [] fz')->R v H z) fl σ->den (PE E) (Q fl σ)) :
  den (PE E) (jr (PE E) (lW (PE E) TB 6) 0 (eS.drop 3) (QR sc tb rw kn key kp w x run r s b zz) Q):=by
 have hsc':=hsc
 refine ip hsc fun p d ac hsc hp hd hac=>?_
 refine nH (id ht) fun kv t e1 e2 htt=>?_
 have sm:=pU
 have hkn':(ka.map AV.ref).length=n:=by rw [List.length_map,hk.len]
 have hn1:=Nat.le_trans hn (by decide:8≤1000000)
 have hz50:=Nat.le_trans hz (by decide:16≤50)
 have b4:=ku h1
 have l3:=wL lo
 refine aq rfl 1 [] [] [.at sc,.int w] (eG E zz sc w st en (lo+1) lo hsc' ck) (by decide) (by decide) rfl rfl ?_
 k_extra "w"
 refine dq rfl fun key2 fz2 (le2:ak zz fz2) ek2=>?_
 have e1:=le2 _ _ e1
 k_extra "w"
 refine ec rfl ⟨[1,0],.at t,rfl,e2,?_⟩
 k_extra "w"
 refine aq rfl 4 [3,0,1,2] (RO sc key tb kp run r s b) [.id 0] (kX E fz2 sc key tb kp runs sz run kept b r s L (ht.keeps le2) (le2 _ _ ek) (le2 _ _ JR) (Nat.le_succ_of_le hr) hr0 h4 hs hz50 ok (by rw [List.length_append];exact Nat.le_trans (Nat.add_le_add (tG hT bd) hkl) (by decide))) (by decide) (by decide) rfl rfl fun z2 kp2 b2 r2 s2 le3 ekp2 ok2=>?_
 k_extra "w"
 refine aq rfl 2 [1,2] [BW r2 s2,.aB b2] [.id 0] (th E z2 b2 r2 s2 _ ok2 (hT.symm▸Nat.le_trans bd (by decide))) (by decide) (by decide) rfl rfl fun b' r' s' pad eb hb'=>?_
 have eb:=eb.trans (congrArg (· ++ pad) hT)
 have le4:=le2.trans le3
 have hka:=le4 _ _ hk.at_
 k_extra "w"
 refine dw (jz hka (hkn'.symm▸hn1)) (fun _ (i:(Nat×Int×List Bool)×List Addr×Hp)=>d9 i.2.1) (fun k i=>Sk sc tb key kp2 t r' s' b' i.1.1 i.1.2.1) (fun _ i=>i.2.2)
  (fun k u=>(u.2.1.length=k∧ak z2 u.2.2∧∀ j a,u.2.1[j]?=some a->u.2.2 a=some (.list ((setB (fA lo) (kf j) (tr j) st (en+1-st)).map .int)))∧aX b' u.1.2.1 u.1.2.2∧pX sz u.1.1 (kW (KB lo) tr st en n k) pad u.1.2.2) ((0,0,aT sz 0 [] (kW (KB lo) tr st en n 0)++pad),[],z2) ⟨⟨rfl,ak.refl _,nofun⟩,⟨hb',0,rfl,eb⟩,Nat.zero_le _,nofun,rfl⟩ rfl rfl rfl (hkn'.symm▸hn1) (fun _ _ _ hj=>hj.1.2.1) (fun k j hkn hj L hL=>?_) fun j hj=>⟨by rw [b6,hj.1.1,hkn'];exact hn1,?_⟩
 ·have hkn:k<n:=hkn'▸hkn
  refine jT (hk.item hkn) fun q _ q2 q3=>?_
  have le0:=le4.trans hj.1.2.1
  refine q2▸?_
  k_extra "w"
  refine aq rfl 4 [4,7] (RR sc t j.1.1 b' j.1.2.1) [.id 0,.int 0,.at q] (Ag E j.2.2 sc t q runs sz st en (lo+1) lo j.1.1 (kf k) (tr k) (kW (KB lo) tr st en n (k+1)) b' j.1.2.1 j.1.2.2 pad (htt.keeps le0) (hsc'.keeps le0) (le0 _ _ q3) (hc k hkn) h4 hs hz hz0 hzr (vU bu fun j h=>(hc j h).aZ) (by rw [oK];exact Nat.le_trans (Nat.sub_le _ _) hn) hj.2.1 (jP hkn▸hj.2.2)) (by decide) (by decide) rfl rfl fun fz' x a' l' run' le ex rd at'=>?_
  k_extra "w"
  exact hL _ _ (Up.now (Nat.le_refl 8) ⟨.at x,_,((run',a',l'),j.2.1++[x],fz'),rfl,⟨⟨by rw [List.length_append,hj.1.1];rfl,hj.1.2.1.trans le,dP hj.1.1 (fun u b hb=>le _ _ (hj.1.2.2 u b hb)) ex⟩,rd,at'⟩,eD,rfl,rfl⟩)
 ·have hj2:=hj.2.2
  rw [hkn',l9] at hj2
  have z:=hj2.done
  k_extra "w"
  exact hQ _ _ (Fin.fr 8 (j.2.1.map .ref) [] rfl rfl rfl rfl rfl fun x fz' le5 e R hR=>hR fz' x j.2.1 (((le.trans le4).trans hj.1.2.1).trans le5) ⟨e,by rw [hj.1.1,hkn'],fun u a ea=>le5 _ _ (hj.1.2.2 u a ea)⟩)
structure Rk where
 run:Nat
 kept:List Bool
 L:List Bool
 r:Int
 s:Int
 b:List UInt8
 x:Option NV
 kp:Addr
 z:Hp
structure PX (sz:Nat) (fz:Hp) (T:List Bool) (rows:List (List K)) (k:Nat) (i:Rk):Prop where
 hr:i.run≤k
 h0:i.run=0->i.kept=[]
 hk:i.kept.length≤24*k
 ok:b5 8 i.b i.r i.s i.L
 hT:i.L++aT sz i.run i.kept rows=T
 le:ak fz i.z
 JR:i.z i.kp=some (.list (bL i.kept))
set_option maxHeartbeats 4000000 in
theorem Ka (E:Ev) (fz:Hp) (sc tb rw kn:Addr) (ra ka:List Addr) (w n st en lo runs sz:Nat) (tr kf:Nat->List Int) (ht:gx fz tb 1 runs sz) (hsc:eO fz sc st en (lo+1) lo) (hr:Gd fz rw ra n tr) (hk:Gd fz kn ka n kf) (hn:n≤8) (hc:∀ k,k<n->EF lo st en (kf k) (tr k)) (h1:1≤st) (bu:st≤en) (aZ:en<w*w) (h2:lo≤2) (hw2:w≤5)
  (h4:4≤runs) (hs:6*runs≤2^sz) (hz:sz≤16) (hz0:0<sz) (hzr:runs=16∨en+1-st≤runs∧en+1-st≤16) :
  aO (PE E) 7 790 [.at sc,.int w,.at rw,.at kn,.at tb] [] fz fun R=>∀ fz' y as,ak fz fz'->Gd fz' y as n (fun k=>setB (fA lo) (kf k) (tr k) st (en+1-st))->R (.at y) [] fz':=by
 have hsc':=hsc
 refine ip hsc fun p d ac hsc hp hd hac=>?_
 have sm:=pU
 have hra:=hr.at_
 have hrn:(ra.map AV.ref).length=n:=by rw [List.length_map,hr.len]
 have hn1:=Nat.le_trans hn (by decide:8≤1000000)
 have hz50:=Nat.le_trans hz (by decide:16≤50)
 have bd:=nW (f:=KB lo) (tr:=tr) (st:=st) (en:=en) (sz:=sz) (c:=4*sz+6) (Nat.le_trans (Nat.add_le_add_right (Nat.mul_le_mul_left 4 hz) 6) (by decide)) (Nat.le_trans hz (by decide)) hn fun k h=>⟨(hc k h).hl,fun x hx=>KI⟩
 have b4:=ku h1
 have l3:=wL lo
 have ck:=Ai (lo:=lo) (hi:=lo+1) hw2 bu aZ (fun e=>absurd (e▸h1) (by decide)) h2 (.inr rfl)
 refine aj (bH E) 6 12 0 [some (.at sc),some (.int w),some (.at rw),some (.at kn),some (.at tb),none,none,none,none,none,none,none] (ay E) (cF _) (cI E 6) rfl (by kernel_rfl) rfl rfl rfl rfl fun Q hQ=>?_
 k_extra "w"
 refine aq rfl 1 [] [] [.at sc,.int w] (eG E fz sc w st en (lo+1) lo hsc' ck) (by decide) (by decide) rfl rfl ?_
 k_extra "w"
 refine dq rfl fun key fz1 (le1:ak fz fz1) (ek:fz1 key=some (.tup [.int 1,.int 0]))=>?_
 have hra1:=le1 _ _ hra
 k_extra "w"
 refine ec rfl ?_
 refine me (jz hra1 (hrn.symm▸hn1)) (n':=4) (fun k (i:Rk)=>QR sc tb rw kn key i.kp w i.x i.run i.r i.s i.b i.z) (fun k i=>PX sz fz1 (aT sz 0 [] (kW (KB lo) tr st en n 0)) (kW (KB lo) tr st en n k) k i) (Up.kO 5 [3] rfl (aK []) fun kp z le JR=>Up.mono (e9 (τ:=QR sc tb rw kn key kp w none 0 0 0 [] z) [0,1,2,3] rfl (by decide) rfl rfl rfl rfl) fun _ s es=>⟨⟨0,[],[],0,0,[],none,kp,z⟩,⟨Nat.le_refl 0,fun _=>rfl,Nat.le_refl 0,⟨0,0,rfl,rfl,by decide,by decide,rfl⟩,rfl,le,JR⟩,es⟩) (Nat.zero_le _) (fun _ _ _ hi=>hi.le) (fun k i hkn hi L hL=>?_) fun i hi=>?_
 ·have hkn:k<n:=hrn▸hkn
  refine jT (hr.item hkn) fun r _ r2 r3=>?_
  have c:=hc k hkn
  have le:=le1.trans hi.le
  have k8:k≤8:=Nat.le_trans (Nat.le_of_lt hkn) hn
  refine r2▸?_
  k_extra "w"
  refine aq rfl 5 [3,0,1,2] (RO sc key tb i.kp i.run i.r i.s i.b) [.id 0,.int 0,.at r] (Af E i.z sc key tb i.kp r runs sz i.run st en (lo+1) lo (tr k) (kW (KB lo) tr st en n (k+1)) i.kept i.b i.r i.s i.L _ (ht.keeps le) (hi.le _ _ ek) (hsc'.keeps le) (le _ _ r3) hi.JR (Nat.le_trans hi.hr k8) hi.h0 (Nat.le_trans hi.hk (Nat.le_trans (Nat.mul_le_mul_left 24 k8) (by decide))) h4 hs hz50 bu h1 c.aZ c.hl hzr hi.ok (jP hkn▸hi.hT) bd) (by decide) (by decide) rfl rfl fun fz' kp' b' r' s' L' run' kept' le' ekp' hr' h0' hk' ok' hT'=>?_
  k_extra "w"
  exact hL.nx ⟨run',kept',L',r',s',b',some (.at r),kp',fz'⟩ _ ⟨Nat.le_trans hr' (Nat.succ_le_succ hi.hr),h0',Nat.le_trans hk' (Nat.add_le_add_right hi.hk 24),ok',hT',hi.le.trans le',ekp'⟩ (Up.self (Nat.le_refl 4) rfl)
 ·have le:=le1.trans hi.le
  have hT:=hi.hT
  rw [hrn,l9,NA] at hT
  have k8:(ra.map AV.ref).length≤8:=hrn.symm▸hn
  exact Dp E fz i.z sc tb rw kn key i.kp ka w n st en lo runs sz i.run i.x i.L i.kept i.r i.s i.b tr kf (ht.keeps le) (hsc'.keeps le) (hk.keeps le) hn hc h1 bu ck h4 hs hz hz0 hzr bd (hi.le _ _ ek) hi.JR (Nat.le_trans hi.hr k8) hi.h0 (Nat.le_trans hi.hk (Nat.le_trans (Nat.mul_le_mul_left 24 k8) (by decide))) hi.ok hT le Q hQ
noncomputable def jw (st:Nat) (tr:List Int):List Int:=tr.take st++List.replicate (tr.length-st) 0
noncomputable def KW (st en:Nat):Option Nat->List Int->List Int
 | none,tr=>jw st tr
 | some lo,tr=>kY st en lo (jw st tr) tr
theorem kN {st:Nat} {tr:List Int} (h:st≤tr.length):(jw st tr).length=tr.length:=by
 unfold jw;simp only [List.length_append,List.length_take,List.length_replicate,Nat.min_eq_left h,Nat.add_sub_cancel' h]
theorem zM {st i:Nat} {tr:List Int} (h:st≤tr.length) (hi:st≤i):(jw st tr).getD i 0=0:=by
 have hl:(tr.take st).length=st:=by rw [List.length_take,Nat.min_eq_left h]
 unfold jw
 simp only [List.getD,List.getElem?_append_right (hl.symm▸hi),List.getElem?_replicate]
 split<;>rfl
theorem rA {tr:List Int}:jw tr.length tr=tr:=by unfold jw;rw [List.take_length,Nat.sub_self];exact List.append_nil _
theorem m6 {f:Int->Int} {row tr:List Int} {st j:Nat} (he:tr.length=row.length) (h:st+j≤row.length):(row.take st).length=st∧(((tr.drop st).take j).map f).length=j:=by
 exact⟨JU h,JV he h⟩
theorem vf {f g:Int->Int} {row tr:List Int} {st j:Nat} (he:tr.length=row.length) (h:st+j≤row.length):setB f (setB g row tr st j) tr st j=setB f row tr st j:=by
 have p:=m6 (f:=g) he h
 unfold setB
 rw [List.take_left' p.1,← List.drop_drop,List.drop_left' p.1,List.drop_left' p.2]
theorem ve {f:Int->Int} {row tr:List Int} {st j i:Nat} (he:tr.length=row.length) (h:st+j≤row.length) (h1:st≤i) (h2:i<st+j):(setB f row tr st j).getD i 0=f (tr.getD i 0):=by
 have p:=m6 (f:=f) he h
 skip
 skip
 unfold setB
 rw [List.getD,List.getElem?_append_right (p.1.symm▸h1),p.1,List.getElem?_append_left (by simp only [p.2];exact Nat.sub_lt_left_of_lt_add h1 h2),List.getElem?_map,List.getElem?_take,if_pos (Nat.sub_lt_left_of_lt_add h1 h2),List.getElem?_drop,(Nat.add_sub_cancel' h1),List.getD,List.getElem?_eq_getElem (Nat.lt_of_lt_of_le h2 (he▸h))];rfl
theorem mD {lo:Nat} {kn tr:List Int} (h:0<tr.length):kY 0 0 lo kn tr=(dL lo (tr.getD 0 0)*2^((lo:Nat):Int).toNat)::kn.drop 1:=by
 cases tr with
 | nil=>exact (Nat.not_lt_zero _ h).elim
 | cons v r=>rfl
theorem mE {st en lo:Nat} {kn tr:List Int} (h:st≠0):kY st en lo kn tr=setB (fA lo) kn tr st (en+1-st):=if_neg h
theorem Ao {st en lo lo':Nat} {z tr:List Int} (hz:tr.length=z.length) (bu:st≤en) (aZ:en<tr.length) (h0:st=0->en=0):kY st en lo (kY st en lo' z tr) tr=kY st en lo z tr:=by
 by_cases h:st=0
 ·have e:=h0 h
  subst h;subst e
  simp only [mD aZ,mD aZ,mD aZ];rfl
 ·simp only [mE h,mE h,mE h]
  exact vf hz (by refine (Nat.add_sub_cancel' (Nat.le_succ_of_le bu))▸?_;exact hz▸aZ)
theorem oA {st en lo:Nat} {lv:Option Nat} {tr:List Int} (bu:st≤en) (aZ:en<tr.length) (h0:st=0->en=0):kY st en lo (KW st en lv tr) tr=KW st en (some lo) tr:=by
 cases lv with
 | none=>rfl
 | some lo'=>exact Ao (kN (Nat.le_trans bu (Nat.le_of_lt aZ))).symm bu aZ h0
theorem rB {st en:Nat} {lv:Option Nat} {tr:List Int} (bu:st≤en) (aZ:en<tr.length) (h0:st=0->en=0):(KW st en lv tr).length=tr.length:=by
 have zl:=kN (Nat.le_trans bu (Nat.le_of_lt aZ))
 cases lv with
 | none=>exact zl
 | some lo =>
  by_cases h:st=0
  ·have e:=h0 h
   subst h;subst e
   simp only [KW,mD aZ,List.length_cons,List.length_drop,zl];exact Nat.sub_add_cancel (Nat.succ_le_of_lt aZ)
  ·rw [KW,mE h,fV zl.symm (by simp only [zl,Nat.add_sub_cancel' (Nat.le_succ_of_le bu)];exact aZ),zl]
theorem Qu (v:Int):fA 0 v=v:=by
 have e:aL 0 v=v.natAbs:=(Int.fdiv_one _)
 delta fA sL
 rw [e]
 refine (?_:(if 0<v then _ else _)*1=v)
 rw [Int.mul_one]
 split
 ·rename_i h;exact Int.natAbs_of_nonneg (Int.le_of_lt h)
 ·rename_i h;rw [Int.ofNat_natAbs_of_nonpos (Int.not_lt.mp h),Int.neg_neg]
theorem vC {st en:Nat} {tr:List Int} (bu:st≤en) (aZ:en<tr.length) (h0:st=0->en=0):KW st en (some 0) tr=jw (en+1) tr:=by
 by_cases h:st=0
 ·have e:=h0 h
  subst h;subst e
  skip
  cases tr with
  | nil=>exact (Nat.not_lt_zero _ aZ).elim
  | cons v r =>
   refine (?_:(v.fdiv 1*1)::_=v::_)
   rw [Int.mul_one,Int.fdiv_one];rfl
 ·rw [KW,mE h]
  have hl:(tr.take st).length=st:=List.length_take_of_le (Nat.le_trans bu (Nat.le_of_lt aZ))
  have e:st+(en+1-st)=en+1:=Nat.add_sub_cancel' (Nat.le_succ_of_le bu)
  delta setB jw
  rw [List.take_left' hl,e,show List.map (fA 0)=id from funext fun l=>(List.map_congr_left fun x _=>Qu x).trans (List.map_id l),id,← List.append_assoc,← List.take_add,e,← e,← List.drop_drop,List.drop_left' hl,List.drop_replicate,e,Nat.sub_sub,e]
theorem Ko {lo:Nat} {v:Int} (h:lo≤1) (hv : -13<v∧v<13):(if decide (dB lo v=1)=true then Builtin.bitOr (dL (lo+1) v*2^((lo+1:Nat):Int).toNat) (2^((lo:Nat):Int).toNat) else dL (lo+1) v*2^((lo+1:Nat):Int).toNat)=dL lo v*2^((lo:Nat):Int).toNat:=by
 have key:∀ (l:_root_.Fin 2) (r:_root_.Fin 25),(if decide (dB l.1 ((r.1:Int)-12)=1)=true then Builtin.bitOr (dL (l.1+1) ((r.1:Int)-12)*2^((l.1+1:Nat):Int).toNat) (2^((l.1:Nat):Int).toNat) else dL (l.1+1) ((r.1:Int)-12)*2^((l.1+1:Nat):Int).toNat)=dL l.1 ((r.1:Int)-12)*2^((l.1:Nat):Int).toNat:=by decide +kernel
 refine jg (Ks hv.1 hv.2) fun r zp1=>?_;subst zp1
 exact key ⟨lo,Nat.lt_succ_of_le h⟩ r
theorem FX {lo:Nat} {kn tr:List Int} (h:lo≤1) (hl:0<tr.length) (hv : -13<tr.getD 0 0∧tr.getD 0 0<13):Kp lo (kY 0 0 (lo+1) kn tr) (decide (dB lo (tr.getD 0 0)=1))=kY 0 0 lo kn tr:=by
 rw [mD hl,mD hl,← Ko h hv]
 unfold Kp
 split<;>rfl
theorem Up.Au {n:Nat} {vs:List NV} {σ:NS} {Q:List NV->NS->Prop} (i:Nat) (js:List Nat) {o:NO} {ao:AO} (ho:σ.h[i]?=some o) (ha:ru o=some ao)
  (h:∀ a fz',ak σ.fz fz'->fz' a=some ao->Up n (vs.map (rp i a)) ⟨σ.loc.map (Option.map (rp i a)),gS i a (σ.h.set i .dead) js,fz'⟩ Q):Up n vs σ Q :=
 fun ρ l hp as r hv=>by
 refine vv (r.m.kO ho ha) fun m1 le JI hi=>?_
 refine md (m1.gS (i:=i) js) fun m2 l2 v2=>?_
 rw [List.length_set] at l2
 have ll:kP ρ σ.h.length (σ.loc.map (Option.map (rp i (ρ i)))) l:=⟨(List.length_map (as:=σ.loc) (Option.map (rp i (ρ i)))).symm▸r.l.1,fun j v e=>by
  replace e:=List.getElem?_map▸e
  refine aA (Option.map_eq_some_iff.mp e) fun o h1 h2=>?_
  refine aA (Option.map_eq_some_iff.mp h2) fun v0 zp1 zp2=>?_;subst zp1;subst zp2
  refine aA (r.l.2 j v0 h1) fun a e1 e2=>?_
  exact⟨a,e1,sF e2⟩⟩
 refine uA (h (ρ i) _ le (Hp.aG _ _ _) ρ l hp as ⟨m2,(congrArg (kP ρ · _ l) l2).mpr ll⟩ ((congrArg (aM ρ · _ as) l2).mpr (ki hv))) fun ρ' vs' σ' ag ln tr rl vr q=>?_
 exact⟨ρ',vs',σ',ag,ln,JI.trans (Tr.trans (fun a x e k=>⟨e,fun zf=>aA zf fun j hj z=>k ⟨j,v2 j hj,z⟩,rfl⟩) tr),rl,vr,q⟩
theorem Gd.congr {fz:Hp} {y:Addr} {as:List Addr} {n:Nat} {f g:Nat->List Int} (h:Gd fz y as n f) (e:∀ k,k<n->f k=g k):Gd fz y as n g :=
 ⟨h.at_,h.len,fun j a ea=>e j (h.len▸(List.getElem?_eq_some_iff.mp ea).1)▸h.row j a ea⟩
theorem aO.to {P:Tp} {k:Nat} {f:Addr} {vs:List NV} {H:List NO} {fz:Hp} {W W':(NV->List NO->Hp->Prop)->Prop} (c:aO P k f vs H fz W) (h:∀ R,W' R->W R):aO P k f vs H fz W':=c.mono fun v H' z q R hR=>q R (h R hR)
theorem oi {P:Tp} {k:Nat} {f:Addr} {vs:List NV} {fz:Hp} {n:Nat} {F G:Nat->List Int} (c:aO P k f vs [] fz fun R=>∀ fz' y as,ak fz fz'->Gd fz' y as n F->R (.at y) [] fz') (e:∀ k,k<n->F k=G k):aO P k f vs [] fz fun R=>∀ fz' y as,ak fz fz'->Gd fz' y as n G->R (.at y) [] fz' :=
 c.to fun R hR fz' y as le g=>hR fz' y as le (g.congr e)
theorem yO {runs sz:Nat} (h:runs=4∧sz=5∨runs=16∧sz=7):4≤runs∧6*runs≤2^sz∧sz≤16∧0<sz:=by
 rcases h with ⟨rfl,rfl⟩ | ⟨rfl,rfl⟩<;>decide
structure jL (w n:Nat) (tr:Nat->List Int):Prop where
 n8:n≤8
 w2:2≤w
 w5:w≤5
 len:∀ k,k<n->(tr k).length=w*w
 val:∀ k,k<n->∀ x∈tr k,-13<x∧x<13
theorem jL.KV {w n:Nat} {tr:Nat->List Int} (h:jL w n tr):w*w≤25:=Nat.mul_le_mul h.w5 h.w5
theorem jL.m0 {w n:Nat} {tr:Nat->List Int} (h:jL w n tr):0<w*w:=Nat.mul_pos (Nat.lt_of_lt_of_le Nat.two_pos h.w2) (Nat.lt_of_lt_of_le Nat.two_pos h.w2)
theorem jL.v0 {w n:Nat} {tr:Nat->List Int} (h:jL w n tr) (k:Nat) (hk:k<n) : -13<(tr k).getD 0 0∧(tr k).getD 0 0<13:=h.val k hk _ (kg (h.len k hk▸h.m0))
theorem jL.RN {w n:Nat} {tr:Nat->List Int} (h:jL w n tr) (k:Nat) (hk:k<n):∀ x∈tr k,-25<x∧x<25:=fun x hx=>⟨Int.lt_trans (by decide) (h.val k hk x hx).1,Int.lt_trans (h.val k hk x hx).2 (by decide)⟩
structure Fm (w st en lo hi:Nat) (lv:Option Nat):Prop where
 bu:st≤en
 aZ:en<w*w
 h0:st=0->en=0
 JS:lo≤2
 Kx:hi=0∧lv=none∨hi=lo+1∧lo≤1∧lv=some (lo+1)
theorem mC (E:Ev) (fz:Hp) (sc tb rw kn:Addr) (ra ka:List Addr) (w n st en hi lo runs sz:Nat) (lv:Option Nat) (tr:Nat->List Int) (t0:st=0->gx fz tb 0 runs sz) (t1:st≠0->gx fz tb 1 runs sz) (hsc:eO fz sc st en hi lo) (hr:Gd fz rw ra n tr) (hk:Gd fz kn ka n fun k=>KW st en lv (tr k)) (ok:jL w n tr) (bd:Fm w st en lo hi lv)
  (hrs:runs=4∧sz=5∨runs=16∧sz=7) (hzr:runs=16∨en+1-st≤runs∧en+1-st≤16) :
  aO (PE E) 7 790 [.at sc,.int w,.at rw,.at kn,.at tb] [] fz fun R=>∀ fz' y as,ak fz fz'->Gd fz' y as n (fun k=>KW st en (some lo) (tr k))->R (.at y) [] fz':=by
 refine vv (yO hrs) fun h4 hs hz hz0=>?_
 have kl:∀ k,k<n->(tr k).length=w*w∧(KW st en lv (tr k)).length=w*w:=fun k h=>⟨ok.len k h,(rB bd.bu (ok.len k h▸bd.aZ) bd.h0).trans (ok.len k h)⟩
 have due:∀ k,k<n->kY st en lo (KW st en lv (tr k)) (tr k)=KW st en (some lo) (tr k):=fun k h=>oA bd.bu (ok.len k h▸bd.aZ) bd.h0
 by_cases bu:st=0
 ·have aZ:=bd.h0 bu
  subst bu;subst aZ
  rcases bd.Kx with ⟨rfl,-⟩ | ⟨rfl,lo1,rfl⟩
  ·exact Kb E fz sc tb rw kn ra ka w n (w*w) lo runs sz tr _ _ (t0 rfl) hsc hr hk ok.n8 kl ok.KV ok.m0 bd.JS ok.w2 ok.w5 ok.v0 h4 hs hz hz0 fun k h=>(mD (ok.len k h▸ok.m0)).symm.trans (due k h)
  ·exact Kc E fz sc tb rw kn ra ka w n (w*w) lo tr _ _ hsc hr hk ok.n8 kl ok.KV ok.m0 bd.JS ok.w2 ok.w5 fun k h=>FX lo1 (ok.len k h▸ok.m0) (ok.v0 k h)
 ·have h1:=Nat.pos_of_ne_zero bu
  have e:∀ k,k<n->setB (fA lo) (KW st en lv (tr k)) (tr k) st (en+1-st)=KW st en (some lo) (tr k):=fun k h=>(mE bu).symm.trans (due k h)
  have en':∀ k,k<n->en<(tr k).length:=fun k h=>ok.len k h▸bd.aZ
  rcases bd.Kx with ⟨rfl,rfl⟩ | ⟨rfl,lo1,rfl⟩
  ·exact oi (J9 E fz sc tb rw kn ra ka w n st en lo runs sz tr _ (t1 bu) hsc hr hk ok.n8 (fun k h=>⟨en' k h,ok.len k h▸ok.KV,(kl k h).1.trans (kl k h).2.symm,h1,bd.bu,fun i a _=>zM (Nat.le_trans bd.bu (Nat.le_of_lt (en' k h))) a,ok.RN k h⟩) h1 bd.bu bd.aZ bd.JS ok.w2 ok.w5 h4 hs hz hz0 hzr) e
  ·exact oi (Ka E fz sc tb rw kn ra ka w n st en lo runs sz tr _ (t1 bu) hsc hr hk ok.n8 (fun k h=>⟨en' k h,ok.len k h▸ok.KV,(kl k h).1.trans (kl k h).2.symm,h1,bd.bu,bd.JS,fun i a b=>by rw [KW,mE bu];exact ve (kN (Nat.le_trans bd.bu (Nat.le_of_lt (en' k h)))).symm (by simp only [kN (Nat.le_trans bd.bu (Nat.le_of_lt (en' k h)))];rw [Nat.add_sub_cancel' (Nat.le_succ_of_le bd.bu)];exact en' k h) a (by simp only [Nat.add_sub_cancel' (Nat.le_succ_of_le bd.bu)];exact Nat.lt_succ_of_le b),ok.RN k h⟩) h1 bd.bu bd.aZ bd.JS ok.w5 h4 hs hz hz0 hzr) e
theorem Gl {xs:List Int} {k:Nat} (h:k<xs.length):((xs.map AV.int).map fv).getD k .none = .int (xs.getD k 0):=by
 simp only [List.getD,List.getD,List.getElem?_map,List.getElem?_map,List.getElem?_eq_getElem h];rfl
theorem tD {xs:List Int} {k:Nat}:((xs.map AV.int).map fv).take k=((xs.take k).map AV.int).map fv:=by simp only [List.map_take,List.map_take]
theorem tC {xs:List Int}:((xs.map AV.int).map fv).length=xs.length:=by rw [List.length_map,List.length_map]
theorem Qe (c:Bool):small (if c=true then (1:Int) else 0)∧(0:Int)≤(if c=true then (1:Int) else 0)∧(if c=true then (1:Int) else 0)≤1:=by
 cases c
 ·exact⟨⟨by decide,by decide⟩,by decide,by decide⟩
 ·exact⟨⟨by decide,by decide⟩,by decide,by decide⟩
theorem QC {x b:Int} (h:0≤b∧b≤1):0≤x.fmod 2147483629+17*b∧x.fmod 2147483629+17*b<2147483647:=by
 have:=dU (a:=x) (b:=2147483629) (by decide);omega
set_option maxHeartbeats 4000000 in
theorem zj (E:Ev) (k:Nat) (fz:Hp) (sa:Addr) (script:List Int) (hs:fz sa=some (.list (script.map .int))) (hl:script.length≤63) (Q:cY->NS->WT)
  (hQ:∀ A B loc X,eC A B->den (PE E) (Q (.ret (.id 1)) ⟨loc,[X,.list [.int A,.int B]],fz⟩)) :
  den (PE E) (jr (PE E) (lW (PE E) TB k) 0 bX ⟨[some (.at sa),none,none,none,none,none,none,none],[],fz⟩ Q):=by
 have l1:((script.map AV.int).map fv).length≤1000000:=by rw [tC];omega
 have l2:(((script.map AV.int).map fv).take 20).length≤1000000:=by rw [List.length_take];omega
 have rest:∀ c:Int,den (PE E) (jr (PE E) (lW (PE E) TB k) 0 (bX.drop 1) ⟨[some (.at sa),some (.int c),none,none,none,none,none,none],[],fz⟩ Q):=fun c=>by
  have g1:(2147483629:Int)≠0:=by decide
  have g2:small 17:=⟨by decide,by decide⟩
  have g3:small 48271:=⟨by decide,by decide⟩
  have g4:(2147483647:Int)≠0:=by decide
  have g5:small 10:=⟨by decide,by decide⟩
  k_extra "w"
  refine ec rfl ?_
  refine bG (j3 (j:=0) (xs:=((script.map AV.int).map fv).take 20) rfl l2 (by decide) (fun x hx=>bp (List.all_eq_true.mp (j4 1 script) x (List.mem_of_mem_take hx)))) (n':=1) (fun k (i:Int×Option NV)=>⟨[some (.at sa),some (.int c),some (.int (c.natAbs:Nat)),some (.int i.1),i.2,none,none,none],[.list (((script.map AV.int).map fv).take 20)],fz⟩) (fun _ i=>0≤i.1∧i.1<2147483647) (((c.natAbs:Nat):Int).fmod 2147483629+17*(if decide (c<0)=true then 1 else 0),none) (QC (Qe _).2) (Up.self (Nat.le_refl 1) rfl) (Nat.zero_le _) (fun _ _ _ _=>rfl) (fun k i hk hi L hL=>?_) fun i hi=>?_
  ·rw [tD,tC] at hk
   have e:=Gl hk
   rw [← tD] at e
   refine e▸?_
   k_extra "w"
   have f:=dU (a:=i.1*48271+(((script.take 20).getD k 0).natAbs:Nat)+11) (b:=2147483647) (by decide)
   exact hL.nx (_,some (.int ((script.take 20).getD k 0))) _ f (Up.self (Nat.le_refl 1) rfl)
  ·have g6:=(Qe (decide ((10:Int)^(18:Int).toNat≤((c.natAbs:Nat):Int)))).1
   k_extra "w"
   exact hQ _ _ _ _ ⟨Int.mul_nonneg (Int.natCast_nonneg _) (Qe _).2.1,hi.1,hi.2⟩
 have n0:(0:Int)≤0:=Int.le_refl 0
 have n1:(0:Int)<1000000:=by decide
 k_extra "w"
 refine ey rfl (fun h=>?_) fun h=>?_
 ·cases script with
  | nil=>cases h
  | cons x r =>
   iterate 3 first | (refine w6 rfl ?_ ?_;focus k_extra "side") | refine mT rfl (by k_extra "dec") ?_ | refine mF rfl (by k_extra "dec") ?_ | refine tJ rfl (by k_extra "dec") ?_ | refine w4 rfl (by k_extra "dec") ?_
   exact rest x
 ·exact rest 0
theorem ne_self {α:Type} [DecidableEq α] (x:α):(if true=true then !decide (x=x) else decide (x=x))=false:=by rw [if_pos rfl,decide_eq_true rfl];rfl
theorem ql {α:Type} [DecidableEq α] (x:α):(if false=true then !decide (x=x) else decide (x=x))=true:=by rw [if_neg Bool.false_ne_true,decide_eq_true rfl]
noncomputable def Fz (hi:Int):MB := .cons (.asg 12 (.cls 713 (.cons (.list (.cons (.int 0) .nil)) (.cons (.list (.cons (.int 0) .nil)) (.cons (.list (.cons (.int 0) .nil)) (.cons (.loc 8) (.cons (.loc 9) (.cons (.int hi) (.cons (.loc 11) .nil))))))))) (.cons (.asg 13 (.fn 797 (.cons (.loc 4) (.cons (.loc 5) (.cons (.loc 8) (.cons (.loc 9) (.cons (.loc 11) .nil))))))) (.cons (.asg 5 (.fn 790 (.cons (.loc 12) (.cons (.loc 2) (.cons (.loc 4) (.cons (.loc 5) (.cons (.aC [([0,0],3),([1,0],3)]) .nil))))))) (.cons (.ite (.cmp .NotEq (.loc 5) (.loc 13)) (.cons (.ret (.bool false)) .nil) .nil) .nil)))
set_option maxHeartbeats 4000000 in
theorem qA (E:Ev) (z:Hp) (rw kn t:Addr) (ra ka:List Addr) (w n st en hi lo runs sz:Nat) (lv:Option Nat) (tr:Nat->List Int) (a0 a1 a6 a7 a10 x y:Option NV) (o0 o1 o2 o3 o4 o5 o6 o7:NO) (tab:TabAt z t runs sz) (hr:Gd z rw ra n tr) (hk:Gd z kn ka n fun k=>KW st en lv (tr k)) (ok:jL w n tr) (bd:Fm w st en lo hi lv) (hrs:runs=4∧sz=5∨runs=16∧sz=7) (hzr:runs=16∨en+1-st≤runs∧en+1-st≤16) (L:cY->NS->WT)
  (hL:∀ z' kn' ka' du,ak z z'->Gd z' kn' ka' n (fun k=>KW st en (some lo) (tr k))->den (PE E) (L .next ⟨[a0,a1,some (.int w),some (.at t),some (.at rw),some (.at kn'),a6,a7,some (.int st),some (.int en),a10,some (.int lo),some (.id 11),some (.at du),none,none,none,none,none,none,none,none,none],[o0,o1,o2,o3,o4,o5,o6,o7,.dead,.dead,.dead,.dead],z'⟩)) :
  den (PE E) (jr (PE E) (lW (PE E) TB 8) 8 (Fz hi) ⟨[a0,a1,some (.int w),some (.at t),some (.at rw),some (.at kn),a6,a7,some (.int st),some (.int en),a10,some (.int lo),x,y,none,none,none,none,none,none,none,none,none],[o0,o1,o2,o3,o4,o5,o6,o7],z⟩ L):=by
 have kl:∀ k,k<n->(tr k).length=w*w∧(KW st en lv (tr k)).length=w*w:=fun k h=>⟨ok.len k h,(rB bd.bu (ok.len k h▸bd.aZ) bd.h0).trans (ok.len k h)⟩
 k_extra "w"
 refine aq rfl 1 [] [] [.at rw,.at kn,.int st,.int en,.int lo] (v5 E z rw kn ra ka n (w*w) st en lo tr _ hr hk (Nat.le_trans ok.n8 (by decide)) kl bd.bu bd.aZ ok.KV bd.JS) (by decide) (by decide) rfl rfl fun z1 du da le1 gd=>?_
 have gd:=gd.congr fun k h=>oA bd.bu (ok.len k h▸bd.aZ) bd.h0
 k_extra "w"
 refine dq rfl fun tb z2 (le2:ak z1 z2) (e2:z2 tb=some (.aC [([0,0],.ref t),([1,0],.ref t)]))=>?_
 refine bC rfl 8 [11] rfl (aK [.int 0]) fun p z3 (le3:ak z2 z3) e3=>?_
 refine bC rfl 9 [11] rfl (aK [.int 0]) fun d z4 (le4:ak z3 z4) e4=>?_
 refine bC rfl 10 [11] rfl (aK [.int 0]) fun a z5 (le5:ak z4 z5) e5=>?_
 refine bC rfl 11 [] rfl rfl fun sc z6 (le6:ak z5 z6) (e6:z6 sc=some (.inst 713 [(14,.ref p),(15,.ref d),(16,.ref a),(17,.int st),(18,.int en),(19,.int hi),(20,.int lo)]))=>?_
 have l5:=le5.trans le6
 have l4:=le4.trans l5
 have l3:=le3.trans l4
 have l1:=le1.trans (le2.trans l3)
 have tb':∀ c:Int,(c=0∨c=1)->gx z6 tb c runs sz:=fun c hc=>⟨_,t,l3 _ _ e2,by rcases hc with rfl | rfl<;>rfl,tab.keeps l1⟩
 refine aq rfl 7 [] [] [.at sc,.int w,.at rw,.at kn,.at tb] (mC E z6 sc tb rw kn ra ka w n st en hi lo runs sz lv tr (fun _=>tb' 0 (.inl rfl)) (fun _=>tb' 1 (.inr rfl)) ⟨p,d,a,e6,l4 _ _ e3,l5 _ _ e4,le6 _ _ e5⟩ (hr.keeps l1) (hk.keeps l1) ok bd hrs hzr) (by decide) (by decide) rfl rfl fun z7 kn' ka' le7 g7=>?_
 have l7:=le2.trans (l3.trans le7)
 refine ec rfl ⟨_,_,true,g7.nM,(gd.keeps l7).nM,rfl,?_⟩
 refine mF rfl (ne_self _) ?_
 exact hL z7 kn' ka' du (le1.trans l7) g7
noncomputable def Dm (n:Nat):NO->Bool
 | .dead=>true
 | o=>mU n o
theorem tS {n:Nat}:∀ {o:NO},Dm n o=true->o.okN n
 | .dead,_=>trivial
 | .list xs,h=>(cG (o := .list xs) h).1
 | .tup xs,h=>(cG (o := .tup xs) h).1
 | .inst C fs,h=>(cG (o := .inst C fs) h).1
 | .az aF,h=>(cG (o := .az aF) h).1
 | .aC aF,h=>(cG (o := .aC aF) h).1
 | .aB _,_ | .bg _ _,_ | .range _ _ _,_=>trivial
theorem DB {n:Nat} {o:NO} (h:Dm n o=true):lO (List.range n) o=o:=by
 cases o with
 | dead=>rfl
 | _=>exact yG h
theorem ke {σ:NS} {n:Nat} {τ:NS} (X:List NO) (m:Nat) (hm:τ.h.length=m) (hn:n≤m) (hh:σ.h=τ.h++X) (el:lm τ.loc σ.loc=τ.loc) (ef:σ.fz=τ.fz) (okl:(τ.loc.all fun o=>match o with | some v=>ez m v | none=>true)=true) (px:τ.h.all (Dm m)=true):Up n [] σ fun _ σ'=>σ'=τ:=by
 subst hm
 refine Up.sel (List.range τ.h.length) [] τ (by rw [List.take_range,Nat.min_eq_left hn]) List.nodup_range ?_ rfl (el.trans (tH okl)) ef.symm nofun (fun v hv=>bp (List.all_eq_true.mp okl (some v) hv)) (fun o ho=>tS (List.all_eq_true.mp px o ho)) rfl
 simp only [eJ fun o ho=>DB (List.all_eq_true.mp px o ho)]
 refine pC List.length_range fun i o hi=>?_
 skip
 simp only [List.getD,List.getElem?_range ((List.getElem?_eq_some_iff.mp hi).1),hh]
 exact (List.getElem?_append_left ((List.getElem?_eq_some_iff.mp hi).1)).trans hi
theorem jQ (E:Ev) (fz:Hp) (A B:Int) (m:Nat) (s:eC A B) (h0:0<m) (h1:m<1000) :
  aO (PE E) 1 773 [.id 0,.int m] (Src A B) fz fun R=>∀ (r:Nat) A' B',r<m->eC A' B'->R (.int r) (Src A' B') fz :=
 (oM E fz A B m s (Int.ofNat_lt.mpr h0) (Int.ofNat_lt.mpr (Nat.lt_trans h1 (by decide)))).to fun R hR r A' B' r0 r1 s' _=>by
  have:=hR r.toNat A' B' ((Int.toNat_lt r0).mpr r1) s'
  rwa [Int.toNat_of_nonneg r0] at this
structure PI (w N runs:Nat) (st en:Nat->Nat):Prop where
 s0:st 0=0
 sN:st N=w*w
 nx:∀ k,k<N->st (k+1)=en k+1
 le:∀ k,k<N->st k≤en k
 lt:∀ k,k<N->en k<w*w
 h0:∀ k,k<N->st k=0->en k=0
 zr:∀ k,k<N->runs=16∨en k+1-st k≤runs∧en k+1-st k≤16
noncomputable def KQ (top:Nat):Nat->Option Nat
 | 0=>none
 | k+1=>some (top-k)
theorem yJ (top:Nat):gQ (top:Int) (-1) (-1)=top+1:=by
 skip;skip;rfl
structure PW where
 rw:Addr
 kn:Addr
 ra:List Addr
 ka:List Addr
 A:Int
 B:Int
 z:Hp
structure Fp (z0:Hp) (n:Nat) (tr:Nat->List Int) (s:Nat) (i:PW):Prop where
 hr:Gd i.z i.rw i.ra n tr
 hk:Gd i.z i.kn i.ka n fun j=>jw s (tr j)
 so:eC i.A i.B
 le:ak z0 i.z
noncomputable abbrev Pe (sa:Addr) (w:Nat) (t:Addr) (ed:Int) (rw kn:Addr) (x8 x9 x10:Option NV):List (Option NV):=[some (.at sa),some (.id 1),some (.int w),some (.at t),some (.at rw),some (.at kn),some (.int ed),some (.id 6),x8,x9,x10,none,none,none,none,none,none,none,none,none,none,none,none]
noncomputable abbrev Pd (A B:Int) (rg:Int) (tps:List Addr):List NO:=[.dead,.list [.int A,.int B],.dead,.range 0 rg 1,.dead,.dead,.list (d9 tps)]
theorem Gq {top k:Nat} (h:k<top+1):(top:Int)+(k:Int) * -1=((top-k:Nat):Int):=by
 rw [Int.mul_neg,Int.mul_one,← Int.sub_eq_add_neg];exact (Int.ofNat_sub (Nat.le_of_lt_succ h)).symm
theorem Sm {top k:Nat} (h:top≤2):top-(k+1)≤1:=Nat.le_trans (Nat.sub_le_sub_right h _) (Nat.sub_le_sub_left (Nat.le_add_left 1 k) 2)
theorem xb {top:Nat} (h:top≤2):near (top:Int):=di (Nat.le_trans h (by decide))
set_option maxHeartbeats 4000000 in
theorem qy (E:Ev) (z0:Hp) (sa t:Addr) (ra ka tps:List Addr) (script:List Int) (w n N runs sz:Nat) (A B ed rg:Int) (st en:Nat->Nat) (tr:Nat->List Int) (tab:TabAt z0 t runs sz) (hra:ra.length=n∧∀ j a,ra[j]?=some a->z0 a=some (.list ((tr j).map .int))) (hka:ka.length=n∧∀ j a,ka[j]?=some a->z0 a=some (.list ((jw 0 (tr j)).map .int))) (so:eC A B) (hsa:z0 sa=some (.list (script.map .int)))
  (ht:tps.length=N∧∀ k,k<N->∃ tp,(d9 tps).getD k .none = .at tp∧z0 tp=some (.tup [.int (st k),.int (en k)])) (hN:N≤3) (ok:jL w n tr) (hb:PI w N runs st en) (hrs:runs=4∧sz=5∨runs=16∧sz=7) (Q:cY->NS->WT)
  (hQ:∀ i,Fp z0 n tr (w*w) i->den (PE E) (jr (PE E) (lW (PE E) TB 8) 0 (iU.drop 8) ⟨Pe sa w t ed i.rw i.kn none none none,Pd i.A i.B rg tps,i.z⟩ Q)) :
  den (PE E) (jr (PE E) (lW (PE E) TB 8) 0 (iU.drop 7) ⟨[some (.at sa),some (.id 1),some (.int w),some (.at t),some (.id 4),some (.id 5),some (.int ed),some (.id 6),none,none,none,none,none,none,none,none,none,none,none,none,none,none,none],[.dead,.list [.int A,.int B],.dead,.range 0 rg 1,.list (d9 ra),.list (d9 ka),.list (d9 tps)],z0⟩ Q):=by
 have tl:(d9 tps).length≤1000000:=by rw [b6,ht.1];exact Nat.le_trans hN (by decide)
 have tN:(d9 tps).length=N:=b6.trans ht.1
 refine ec rfl ?_
 refine me (j3 (j:=6) (xs:=d9 tps) rfl tl (by decide) (fun x hx=>bp (List.all_eq_true.mp (lI 7 tps) x hx))) (n':=7) (fun k (i:PW)=>⟨Pe sa w t ed i.rw i.kn none none none,Pd i.A i.B rg tps,i.z⟩) (fun k i=>Fp z0 n tr (st k) i)
  (Up.Au 4 [] rfl (aK (ra.map .ref)) fun rw z1 le1 e1=>Up.Au 5 [] rfl (aK (ka.map .ref)) fun kn z2 le2 e2=>Up.now (fQ rfl) ⟨⟨rw,kn,ra,ka,A,B,z2⟩,⟨⟨le2 _ _ e1,hra.1,fun j a e=>le2 _ _ (le1 _ _ (hra.2 j a e))⟩,⟨e2,hka.1,fun j a e=>hb.s0.symm▸le2 _ _ (le1 _ _ (hka.2 j a e))⟩,so,ak.trans le1 le2⟩,rfl⟩) (Nat.zero_le _) (fun _ _ _ _=>rfl) (fun k i hk hi L hL=>?_) fun i hi=>hQ i (hb.sN▸tN▸hi)
 have hk:=tN▸hk
 refine aA (ht.2 k hk) fun tp t1 t2=>?_
 have t2:=hi.le _ _ t2
 refine t1▸?_
 k_extra "w"
 refine aq rfl 1 [1] (Src i.A i.B) [.id 0,.int (3:Nat)] (jQ E i.z i.A i.B 3 hi.so (by decide) (by decide)) (by decide) (by decide) rfl rfl fun top A' B' r1 so'=>?_
 have top2:top≤2:=Nat.le_of_lt_succ r1
 k_extra "w"
 refine ec rfl ?_
 refine bG (qx (j:=7) rfl (yJ top) (xb top2) ⟨by decide,by decide⟩ (.inr rfl)) (n':=8) (fun k2 (u:Addr×List Addr×Hp)=>⟨Pe sa w t ed i.rw u.1 (some (.int (st k))) (some (.int (en k))) (some (.int top)),Pd A' B' rg tps++[.range top (-1) (-1)],u.2.2⟩) (fun k2 u=>Gd u.2.2 u.1 u.2.1 n (fun j=>KW (st k) (en k) (KQ top k2) (tr j))∧ak i.z u.2.2) (i.kn,i.ka,i.z) ⟨hi.hk,ak.refl _⟩ (Up.self (Nat.le_refl 8) rfl) (by decide) (fun _ _ _ _=>trivial) (fun k2 u hk2 hu L2 hL2=>?_) fun u hu=>?_
 ·have bd:∀ hi lv,(hi=0∧lv=none∨hi=top-k2+1∧top-k2≤1∧lv=some (top-k2+1))->Fm w (st k) (en k) (top-k2) hi lv:=fun hi lv h=>⟨hb.le k hk,hb.lt k hk,hb.h0 k hk,Nat.le_trans (Nat.sub_le _ _) top2,h⟩
  have le:=hi.le.trans hu.2
  have end_:∀ z' kn' ka' du,ak u.2.2 z'->Gd z' kn' ka' n (fun j=>KW (st k) (en k) (some (top-k2)) (tr j))->den (PE E) (L2 .next ⟨[some (.at sa),some (.id 1),some (.int w),some (.at t),some (.at i.rw),some (.at kn'),some (.int ed),some (.id 6),some (.int (st k)),some (.int (en k)),some (.int top),some (.int (top-k2:Nat)),some (.id 11),some (.at du),none,none,none,none,none,none,none,none,none],[.dead,.list [.int A',.int B'],.dead,.range 0 rg 1,.dead,.dead,.list (d9 tps),.range top (-1) (-1),.dead,.dead,.dead,.dead],z'⟩):=fun z' kn' ka' du le' g=>hL2.nx (kn',ka',z') _ ⟨g,hu.2.trans le'⟩ (ke [.dead,.dead,.dead,.dead] 8 rfl (Nat.le_refl 8) rfl rfl rfl rfl (congrArg (· && true) (lI 8 tps)))
  refine Gq hk2▸?_
  cases k2 with
  | zero =>
   refine mT rfl (decide_eq_true (congrArg Nat.cast (Nat.sub_zero top))) ?_
   exact qA E u.2.2 i.rw u.1 t i.ra u.2.1 w n (st k) (en k) 0 (top-0) runs sz none tr _ _ _ _ _ none none _ _ _ _ _ _ _ _ (tab.keeps le) (hi.hr.keeps hu.2) hu.1 ok (bd 0 none (.inl ⟨rfl,rfl⟩)) hrs (hb.zr k hk) L2 end_
  | succ k3 =>
   have lt:=Nat.lt_of_succ_lt_succ hk2
   have e:top-k3=top-(k3+1)+1:=(Nat.sub_add_cancel (Nat.sub_pos_of_lt lt)).symm
   refine mF rfl (decide_eq_false fun e=>Nat.ne_of_lt (Nat.sub_lt (Nat.lt_of_le_of_lt (Nat.zero_le k3) lt) (Nat.succ_pos k3)) (Int.ofNat_inj.mp e)) ?_
   k_extra "w"
   exact qA E u.2.2 i.rw u.1 t i.ra u.2.1 w n (st k) (en k) (top-(k3+1)+1) (top-(k3+1)) runs sz (some (top-(k3+1)+1)) tr _ _ _ _ _ none none _ _ _ _ _ _ _ _ (tab.keeps le) (hi.hr.keeps hu.2) (e▸hu.1) ok (bd _ _ (.inr ⟨rfl,Sm top2,rfl⟩)) hrs (hb.zr k hk) L2 end_
 ·have g:=hu.1.congr (g:=fun j=>jw (st (k+1)) (tr j)) fun j hj=>by
   rw [show KQ top (top+1)=some 0 from congrArg some (Nat.sub_self top),hb.nx k hk]
   exact vC (hb.le k hk) (ok.len j hj▸hb.lt k hk) (hb.h0 k hk)
  exact hL.nx ⟨i.rw,u.1,i.ra,u.2.1,A',B',u.2.2⟩ _ ⟨hi.hr.keeps hu.2,g,so',hi.le.trans hu.2⟩ (ke [.range top (-1) (-1)] 7 rfl (Nat.le_refl 7) rfl rfl rfl rfl (congrArg (· && true) (lI 7 tps)))
noncomputable abbrev yx:(NV->List NO->Hp->Prop)->Prop:=fun R=>∀ z',R (.bool true) [] z'
theorem tE (E:Ev) (z0:Hp) (sa t:Addr) (tps:List Addr) (script:List Int) (w n:Nat) (ed rg:Int) (tr:Nat->List Int) (hsa:z0 sa=some (.list (script.map .int))) (hl:script.length≤63) (ok:jL w n tr) (six:∀ z,aO (PE E) 8 804 [] [] z yx) (i:PW) (hi:Fp z0 n tr (w*w) i) (Q:cY->NS->WT)
  (hQ:∀ fl σ,Fin 0 (fun v H z=>∀ R:NV->List NO->Hp->Prop,yx R->R v H z) fl σ->den (PE E) (Q fl σ)) :
  den (PE E) (jr (PE E) (lW (PE E) TB 8) 0 (iU.drop 8) ⟨Pe sa w t ed i.rw i.kn none none none,Pd i.A i.B rg tps,i.z⟩ Q):=by
 have hsa:=hi.le _ _ hsa
 have l1:((script.map AV.int).map fv).length≤1000000:=by rw [bJ];exact Nat.le_trans hl (by decide)
 have gk:=hi.hk.congr (g:=tr) fun k h=>by rw [← ok.len k h];exact rA
 refine ec rfl ⟨_,_,false,gk.nM,hi.hr.nM,rfl,?_⟩
 refine mT rfl (ql _) ?_
 k_extra "w"
 refine ey rfl (fun h=>?_) fun h=>?_
 ·exact hQ _ _ (Fin.cw [] rfl rfl rfl rfl fun R hR=>hR _)
 ·refine aq rfl 8 [] [] [] (six i.z) (by decide) (by decide) rfl rfl fun z'=>?_
  exact hQ _ _ (Fin.cw [] rfl rfl rfl rfl fun R hR=>hR _)
noncomputable def dC (m:Nat):Nat->Nat
 | 0=>0
 | 1=>1
 | _=>m
noncomputable def Qr (m:Nat):Nat->Nat
 | 0=>0
 | _=>m-1
noncomputable def fi (m e:Nat):Nat->Nat
 | 0=>0
 | 1=>1
 | 2=>e+1
 | _=>m
noncomputable def Qs (m e:Nat):Nat->Nat
 | 0=>0
 | 1=>e
 | _=>m-1
noncomputable abbrev WR (w runs sz:Nat):Prop:=w=2∧runs=4∧sz=5∨w=4∧runs=16∧sz=7
theorem Fh {w runs sz st en:Nat} (h:WR w runs sz) (l:en<w*w):runs=16∨en+1-st≤runs∧en+1-st≤16:=by
 rcases h with ⟨rfl,rfl,-⟩ | ⟨-,rfl,-⟩
 ·exact .inr ⟨Nat.le_trans (Nat.sub_le _ _) l,Nat.le_trans (Nat.le_trans (Nat.sub_le _ _) l) (by decide)⟩
 ·exact .inl rfl
theorem Qf {w runs sz:Nat} (h:WR w runs sz):PI w 2 runs (dC (w*w)) (Qr (w*w)):=by
 have m:1<w*w:=by rcases h with ⟨rfl,-⟩ | ⟨rfl,-⟩<;>decide
 have lt:∀ k,k<2->Qr (w*w) k<w*w:=fun k hk=>match k with
  | 0=>Nat.lt_of_succ_lt m
  | 1=>Nat.sub_lt (Nat.lt_of_succ_lt m) Nat.one_pos
 exact⟨rfl,rfl,fun k hk=>match k with | 0=>rfl | 1=>(Nat.sub_add_cancel (Nat.le_of_lt m)).symm,fun k hk=>match k with | 0=>Nat.le_refl 0 | 1=>Nat.le_sub_of_add_le m,lt,fun k hk=>match k with | 0=>fun _=>rfl | 1=>nofun,fun k hk=>Fh h (lt k hk)⟩
theorem Qg {w runs sz e:Nat} (h:WR w runs sz) (h1:1≤e) (h2:e+1<w*w):PI w 3 runs (fi (w*w) e) (Qs (w*w) e):=by
 have m:1<w*w:=Nat.lt_of_le_of_lt (Nat.le_add_left 1 e) h2
 have lt:∀ k,k<3->Qs (w*w) e k<w*w:=fun k hk=>match k with
  | 0=>Nat.lt_of_succ_lt m
  | 1=>Nat.lt_of_succ_lt h2
  | 2=>Nat.sub_lt (Nat.lt_of_succ_lt m) Nat.one_pos
 exact⟨rfl,rfl,fun k hk=>match k with | 0=>rfl | 1=>rfl | 2=>(Nat.sub_add_cancel (Nat.le_of_lt m)).symm,fun k hk=>match k with | 0=>Nat.le_refl 0 | 1=>h1 | 2=>Nat.le_sub_of_add_le h2,lt,fun k hk=>match k with | 0=>fun _=>rfl | 1=>nofun | 2=>nofun,fun k hk=>Fh h (lt k hk)⟩
theorem PH {w runs sz:Nat} (h:WR w runs sz):(w:Int)*w-1=((w*w-1:Nat):Int):=by rcases h with ⟨rfl,-⟩ | ⟨rfl,-⟩<;>rfl
theorem ED {w runs sz:Nat} (h:WR w runs sz):small w∧0<w*w-1∧w*w-1<1000∧w*w≤1000∧(runs=4∧sz=5∨runs=16∧sz=7)∧2≤w∧w≤5:=by
 rcases h with ⟨rfl,h⟩ | ⟨rfl,h⟩
 ·exact⟨⟨by decide,by decide⟩,by decide,by decide,by decide,.inl h,by decide,by decide⟩
 ·exact⟨⟨by decide,by decide⟩,by decide,by decide,by decide,.inr h,by decide,by decide⟩
theorem Az {xs:List Int} {x:Int}:(xs.map AV.int).map fv++[.int x]=((xs++[x]).map AV.int).map fv:=by simp only [List.map_append,List.map_append];rfl
theorem EJ (i:Nat) (a:Addr):∀ as:List Addr,(d9 as).map (rp i a)=d9 as
 | []=>rfl
 | b::r=>congrArg (NV.at b :: ·) (EJ i a r)
theorem Jp {w:Nat}:List.replicate ((w:Int)*w).toNat (NV.int 0)=((List.replicate (w*w) (0:Int)).map AV.int).map fv:=by
 simp only [List.map_replicate,List.map_replicate];rfl
theorem zH {m i:Nat} {as:List Addr} {σ:NS} {H:List NO} {xs:List AV} {Q:List NV->NS->Prop} (hl:σ.loc=[]) (ho:σ.h[i]?=some (.list (xs.map fv))) (hH:H.length=m) (pk:pick (σ.h.set i .dead) (List.range m)=some (H.map (lO (List.range m)))) (ok:H.all (Dm m)=true)
  (h:∀ a z,ak σ.fz z->z a=some (.list xs)->Q (.at a::d9 as) ⟨[],H,z⟩):Up m (.id i::d9 as) σ Q :=
 Up.kO i [] ho (aK xs) fun a z le e=>by
  simp only [List.map_cons,EJ,show rp i a (.id i) = .at a from if_pos rfl]
  exact Up.sel (List.range m) (.at a::d9 as) ⟨[],H,z⟩ (by rw [List.take_range,Nat.min_self]) List.nodup_range pk (by simp only [List.map_cons,sY];rfl) (by skip;rfl) rfl (fun v hv=>bp (List.all_eq_true.mp (lI H.length (a::as):(NV.at a::d9 as).all (ez H.length)=true) v hv)) nofun (fun o ho=>hH.symm▸tS (List.all_eq_true.mp ok o ho)) (h a z le e)
structure PY where
 as:List Addr
 tr:Nat->List Int
 A:Int
 B:Int
 z:Hp
structure zV (z0:Hp) (m k:Nat) (i:PY):Prop where
 hl:i.as.length=k
 row:∀ j a,i.as[j]?=some a->i.z a=some (.list ((i.tr j).map .int))
 len:∀ j,j<k->(i.tr j).length=m
 val:∀ j,j<k->∀ x∈i.tr j,-13<x∧x<13
 so:eC i.A i.B
 le:ak z0 i.z
noncomputable def zE (tr:Nat->List Int) (k:Nat) (x:List Int) (j:Nat):List Int:=if j=k then x else tr j
theorem zV.add {z0:Hp} {m k:Nat} {i:PY} (h:zV z0 m k i) {x:List Int} {A B:Int} {a:Addr} {z:Hp} (hx:x.length=m) (hv:∀ y∈x,-13<y∧y<13) (so:eC A B) (le:ak i.z z) (e:z a=some (.list (x.map .int))):zV z0 m (k+1) ⟨i.as++[a],zE i.tr k x,A,B,z⟩ :=
 ⟨by rw [List.length_append,h.hl];rfl,dP (f:=zE i.tr k x) h.hl (fun j b hb=>by
   skip
   refine (?_:z b=some (.list ((if j=k then x else i.tr j).map .int)))
   rw [if_neg (Nat.ne_of_lt (h.hl▸(List.getElem?_eq_some_iff.mp hb).1))];exact le _ _ (h.row j b hb)) (by refine (?_:z a=some (.list ((if k=k then x else i.tr k).map .int)));rw [if_pos rfl];exact e),fun j hj=>by
   refine (?_:(if j=k then x else i.tr j).length=m)
   split
   ·exact hx
   ·rename_i q;exact h.len j (Nat.lt_of_le_of_ne (Nat.le_of_lt_succ hj) q),fun j hj=>by
   refine (?_:∀ y∈(if j=k then x else i.tr j),_)
   split
   ·exact hv
   ·rename_i q;exact h.val j (Nat.lt_of_le_of_ne (Nat.le_of_lt_succ hj) q),so,h.le.trans le⟩
set_option maxHeartbeats 4000000 in
theorem qz (E:Ev) (z:Hp) (sa t:Addr) (script:List Int) (w runs sz r:Nat) (A B:Int) (hw:WR w runs sz) (hr:r≤3) (tab:TabAt z t runs sz) (hsa:z sa=some (.list (script.map .int))) (hl:script.length≤63) (so:eC A B) (six:∀ z,aO (PE E) 8 804 [] [] z yx) (Q:cY->NS->WT)
  (hQ:∀ fl σ,Fin 0 (fun v H z=>∀ R:NV->List NO->Hp->Prop,yx R->R v H z) fl σ->den (PE E) (Q fl σ)) :
  den (PE E) (jr (PE E) (lW (PE E) TB 8) 0 (.cons (.asg 4 (.comp [none,none,none,some 2,some 1] 1 (.blt .range (.cons (.bin .Add (.int 1) (.int r)) .nil)) (.comp [none,none,none,some 4] 1 (.blt .range (.cons (.bin .Mult (.loc 3) (.loc 3)) .nil)) (.fn 785 (.cons (.loc 3) .nil))))) (iU.drop 4))
   ⟨[some (.at sa),some (.id 1),some (.int w),some (.at t),none,none,none,none,none,none,none,none,none,none,none,none,none,none,none,none,none,none,none],[.dead,.list [.int A,.int B],.dead],z⟩ Q):=by
 refine R7 (ED hw) fun f1 f2 f3 f4 f5 f6 f7=>?_
 have f1':small (w:Int)∨small (w:Int) := .inl f1
 have r4:=Nat.add_le_add_left hr 1
 have nr:((1:Int)+(r:Int)-0).toNat=1+r:=by rw [Int.sub_zero];rfl
 have nw:((w:Int)*w-0).toNat=w*w:=by rw [Int.sub_zero];rfl
 have n1:near ((1:Int)+(r:Int)):=di (n:=1+r) (Nat.le_trans r4 (by decide))
 have n2:near ((w:Int)*w):=di (Nat.le_trans f4 (by decide))
 k_extra "w"
 refine ec rfl ?_
 refine dw (eI (j:=3) (N:=1+r) rfl nr dh n1) (fun _ (i:PY)=>d9 i.as) (fun _ i=>[.dead,.list [.int i.A,.int i.B],.dead,.range 0 (1+(r:Int)) 1]) (fun _ i=>i.z) (fun k i=>zV z (w*w) k i) ⟨[],fun _=>[],A,B,z⟩ ⟨rfl,(fun j a e=>nomatch (show (none:Option Addr)=some a from e)),fun j h=>absurd h (Nat.not_lt_zero j),fun j h=>absurd h (Nat.not_lt_zero j),so,ak.refl _⟩ rfl rfl rfl (Nat.le_trans r4 (by decide)) (fun _ _ _ _=>trivial) (fun k i hk hi L hL=>?_) fun i hi=>⟨by rw [b6,hi.hl];exact Nat.le_trans r4 (by decide),?_⟩
 ·k_extra "w"
  refine ec rfl ?_
  refine dw (eI (j:=4) (N:=w*w) rfl nw dh n2) (fun _ (u:List Int×Int×Int)=>(u.1.map AV.int).map fv) (fun _ u=>[.dead,.list [.int u.2.1,.int u.2.2],.dead,.range 0 (1+(r:Int)) 1,.range 0 ((w:Int)*w) 1]) (fun _ _=>i.z) (fun k u=>u.1.length=k∧(∀ x∈u.1,-13<x∧x<13)∧eC u.2.1 u.2.2) ([],i.A,i.B) ⟨rfl,nofun,hi.so⟩ rfl rfl rfl (Nat.le_trans f4 (by decide)) (fun _ _ _ _=>trivial) (fun k2 u hk2 hu L2 hL2=>?_) fun u hu=>⟨by rw [bJ,hu.1];exact Nat.le_trans f4 (by decide),?_⟩
  ·refine aq rfl 2 [1] (Src u.2.1 u.2.2) [.id 0] (v8 E i.z u.2.1 u.2.2 hu.2.2) (by decide) (by decide) rfl rfl fun x A' B' x1 x2 so'=>?_
   exact hL2 _ _ (Up.now (Nat.le_refl 5) ⟨.int x,_,(u.1++[x],A',B'),rfl,⟨by rw [List.length_append,hu.1];rfl,fun y hy=>(List.mem_append.mp hy).elim (hu.2.1 y) fun e=>List.mem_singleton.mp e▸⟨x1,x2⟩,so'⟩,Az,rfl,rfl⟩)
  ·exact hL _ _ (zH (m:=4) (i:=5) (xs:=u.1.map .int) (H:=[.dead,.list [.int u.2.1,.int u.2.2],.dead,.range 0 (1+(r:Int)) 1]) rfl rfl rfl rfl rfl fun a z1 le e=>⟨.at a,_,⟨i.as++[a],zE i.tr k u.1,u.2.1,u.2.2,z1⟩,rfl,hi.add hu.1 hu.2.1 hu.2.2 le e,eD,rfl,rfl⟩)
 ·have al:(d9 i.as).length≤1000000:=by rw [b6,hi.hl];exact Nat.le_trans r4 (by decide)
  have f8:(w:Int)*w≤1000000:=Int.ofNat_le.mpr (Nat.le_trans f4 (by decide))
  have f9 : -1000000≤(w:Int)*w:=Int.le_trans (by decide) (Int.natCast_nonneg (w*w))
  k_extra "w"
  refine ec rfl ?_
  refine dw (j3 (j:=4) (xs:=d9 i.as) rfl al (fQ (a:=5) rfl) (fun x hx=>bp (List.all_eq_true.mp (lI 5 i.as) x hx))) (fun _ (u:List Addr×Hp)=>d9 u.1) (fun _ _=>[.dead,.list [.int i.A,.int i.B],.dead,.range 0 (1+(r:Int)) 1,.list (d9 i.as)]) (fun _ u=>u.2) (fun k u=>u.1.length=k∧ak i.z u.2∧∀ (j:Nat) (a:Addr),u.1[j]?=some a->u.2 a=some (.list ((List.replicate (w*w) (0:Int)).map .int))) ([],i.z) ⟨rfl,ak.refl _,nofun⟩ rfl rfl rfl al (fun _ _ _ _=>rfl) (fun k u hk hu L hL=>?_) fun u hu=>⟨by rw [b6,hu.1];exact al,?_⟩
  ·k_extra "w"
   exact hL _ _ (zH (m:=5) (i:=6) (xs:=(List.replicate (w*w) (0:Int)).map .int) (H:=[.dead,.list [.int i.A,.int i.B],.dead,.range 0 (1+(r:Int)) 1,.list (d9 i.as)]) rfl (congrArg (fun X=>some (NO.list X)) Jp) rfl (congrArg (fun X=>some [NO.dead,.list [.int i.A,.int i.B],.dead,.range 0 (1+(r:Int)) 1,.list X]) (sY (List.range 5) i.as).symm) (congrArg (· && true) (lI 5 i.as)) fun a z1 le e=>⟨.at a,_,(u.1++[a],z1),rfl,⟨by rw [List.length_append,hu.1];rfl,hu.2.1.trans le,dP (f:=fun _=>List.replicate (w*w) (0:Int)) hu.1 (fun j b hb=>le _ _ (hu.2.2 j b hb)) e⟩,eD,rfl,rfl⟩)
  ·have hsa:=hu.2.1 _ _ (hi.le _ _ hsa)
   have ok:jL w (1+r) i.tr:=⟨Nat.le_trans r4 (by decide),f6,f7,hi.len,hi.val⟩
   have ex:=congrArg (fun x=>[NV.id 1,NV.int x]) (PH hw)
   have ul:u.1.length=1+r:=hu.1.trans (b6.trans hi.hl)
   have rw0:∀ j a,u.1[j]?=some a->u.2 a=some (.list ((jw 0 (i.tr j)).map .int)):=fun j a e=>by
    rw [hu.2.2 j a e,show jw 0 (i.tr j)=List.replicate (i.tr j).length 0 from rfl,hi.len j (ul▸(List.getElem?_eq_some_iff.mp e).1)]
   k_extra "w"
   refine aq rfl 1 [1] (Src i.A i.B) [.id 0,.int (w*w-1:Nat)] (jQ E u.2 i.A i.B (w*w-1) hi.so f2 f3) (by decide) (by decide) rfl ex fun e A' B' e1 so'=>?_
   k_extra "w"
   refine ey rfl (fun h=>?_) fun h=>?_
   ·k_extra "w"
    refine dq rfl fun t1 z1 (le1:ak u.2 z1) (g1:z1 t1=some (.tup [.int 0,.int 0]))=>?_
    k_extra "w"
    refine dq rfl fun t2 z2 (le2:ak z1 z2) (g2:z2 t2=some (.tup [.int 1,.int ((w:Int)*w-1)]))=>?_
    have le:=le1.trans le2
    have le':=(hi.le.trans hu.2.1).trans le
    exact qy E z2 sa t i.as u.1 [t1,t2] script w (1+r) 2 runs sz A' B' (1+(e:Int)) (1+(r:Int)) (dC (w*w)) (Qr (w*w)) i.tr (tab.keeps le') ⟨hi.hl,fun j a ea=>le _ _ (hu.2.1 _ _ (hi.row j a ea))⟩ ⟨ul,fun j a ea=>le _ _ (rw0 j a ea)⟩ so' (le _ _ hsa) ⟨rfl,fun k hk=>match k with | 0=>⟨t1,rfl,le2 _ _ g1⟩ | 1=>⟨t2,rfl,PH hw▸g2⟩⟩ (by decide) ok (Qf hw) f5 Q fun j hj=>tE E z2 sa t [t1,t2] script w (1+r) (1+(e:Int)) (1+(r:Int)) i.tr (le _ _ hsa) hl ok six j hj Q hQ
   ·have e2:1+e+1<w*w:=by have:=of_decide_eq_false h;rw [PH hw] at this;exact Nat.add_lt_of_lt_sub (Nat.lt_of_le_of_ne (Nat.add_comm 1 e▸e1) fun q=>this (congrArg Nat.cast q))
    k_extra "w"
    refine dq rfl fun t1 z1 (le1:ak u.2 z1) (g1:z1 t1=some (.tup [.int 0,.int 0]))=>?_
    k_extra "w"
    refine dq rfl fun t2 z2 (le2:ak z1 z2) (g2:z2 t2=some (.tup [.int 1,.int (1+(e:Int))]))=>?_
    k_extra "w"
    refine dq rfl fun t3 z3 (le3:ak z2 z3) (g3:z3 t3=some (.tup [.int (1+(e:Int)+1),.int ((w:Int)*w-1)]))=>?_
    have l2:=le2.trans le3
    have le:=le1.trans l2
    have le':=(hi.le.trans hu.2.1).trans le
    exact qy E z3 sa t i.as u.1 [t1,t2,t3] script w (1+r) 3 runs sz A' B' (1+(e:Int)) (1+(r:Int)) (fi (w*w) (1+e)) (Qs (w*w) (1+e)) i.tr (tab.keeps le') ⟨hi.hl,fun j a ea=>le _ _ (hu.2.1 _ _ (hi.row j a ea))⟩ ⟨ul,fun j a ea=>le _ _ (rw0 j a ea)⟩ so' (le _ _ hsa) ⟨rfl,fun k hk=>match k with | 0=>⟨t1,rfl,l2 _ _ g1⟩ | 1=>⟨t2,rfl,le3 _ _ g2⟩ | 2=>⟨t3,rfl,PH hw▸g3⟩⟩ (by decide) ok (Qg hw (Nat.le_add_right 1 e) e2) f5 Q fun j hj=>tE E z3 sa t [t1,t2,t3] script w (1+r) (1+(e:Int)) (1+(r:Int)) i.tr (le _ _ hsa) hl ok six j hj Q hQ
theorem tF (E:Ev) (z:Hp) (sa:Addr) (script:List Int) (w runs sz:Nat) (A B:Int) (X:NO) (Y:List NO) (hw:WR w runs sz) (hY:Y.length≤1) (hsa:z sa=some (.list (script.map .int))) (hl:script.length≤63) (so:eC A B) (six:∀ z,aO (PE E) 8 804 [] [] z yx) (Q:cY->NS->WT)
  (hQ:∀ fl σ,Fin 0 (fun v H z=>∀ R:NV->List NO->Hp->Prop,yx R->R v H z) fl σ->den (PE E) (Q fl σ)) :
  den (PE E) (jr (PE E) (lW (PE E) TB 8) 0 (iU.drop 2) ⟨[some (.at sa),some (.id 1),some (.int w),none,none,none,none,none,none,none,none,none,none,none,none,none,none,none,none,none,none,none,none],X :: .list [.int A,.int B]::Y,z⟩ Q):=by
 have hb:Nat.ble (X::NO.list [.int A,.int B]::Y).length 3=true:=Nat.ble_eq.mpr (Nat.succ_le_succ (Nat.succ_le_succ hY))
 rcases hw with ⟨rfl,rfl,rfl⟩ | ⟨rfl,rfl,rfl⟩
 ·k_extra "w"
  refine pd rfl [.dead,.list [.int A,.int B],.dead] hb ⟨.inl rfl,.inr rfl,.inl rfl,trivial⟩ ?_
  refine aq rfl 3 [] [] [.int (4:Nat)] (oO E z 4 5 (.inl ⟨rfl,rfl⟩)) (by decide) (by decide) rfl rfl fun z1 t le tab=>?_
  k_extra "w"
  refine aq rfl 1 [1] (Src A B) [.id 0,.int (4:Nat)] (jQ E z1 A B 4 so (by decide) (by decide)) (by decide) (by decide) rfl rfl fun r A' B' r1 so'=>?_
  exact qz E z1 sa t script 2 4 5 r A' B' (.inl ⟨rfl,rfl,rfl⟩) (Nat.le_of_lt_succ r1) tab (le _ _ hsa) hl so' six Q hQ
 ·k_extra "w"
  refine pd rfl [.dead,.list [.int A,.int B],.dead] hb ⟨.inl rfl,.inr rfl,.inl rfl,trivial⟩ ?_
  refine aq rfl 3 [] [] [.int (16:Nat)] (oO E z 16 7 (.inr ⟨rfl,rfl⟩)) (by decide) (by decide) rfl rfl fun z1 t le tab=>?_
  k_extra "w"
  refine aq rfl 1 [1] (Src A B) [.id 0,.int (2:Nat)] (jQ E z1 A B 2 so (by decide) (by decide)) (by decide) (by decide) rfl rfl fun r A' B' r1 so'=>?_
  exact qz E z1 sa t script 4 16 7 r A' B' (.inr ⟨rfl,rfl,rfl⟩) (Nat.le_of_lt (Nat.lt_of_lt_of_le r1 (by decide))) tab (le _ _ hsa) hl so' six Q hQ
theorem vp {P:Tp} {cl:Addr->List NV->NS->(NV->NS->WT)->WT} {n i:Nat} {f:Addr} {r:MB} {v:NV} {lc:List (Option NV)} {h:List NO} {z:Hp} {Q:cY->NS->WT}:jr P cl n (.cons (.asg i (.fn f (.cons (.loc 0) .nil))) r) ⟨some v::lc,h,z⟩ Q=cl f [v] ⟨some v::lc,h,z⟩ fun v σ2=>NS.casesOn σ2 fun lc h z=>l6 lc i (some v) fun lc=>jr P cl n r ⟨lc,h,z⟩ Q:=rfl
theorem Ki {P:Tp} {T:FT} {k np nl:Nat} {f:Addr} {b:MB} {vs:List NV} {lc0:List (Option NV)} {h:List NO} {z:Hp} {Q:NV->NS->WT} (e:T f=some (np,nl,b)) (hn:Nat.beq vs.length np=true):lW P T (k+1) f vs ⟨lc0,h,z⟩ Q=rY nl vs fun lc=>jr P (lW P T k) h.length b ⟨lc,h,z⟩ fun fl σ'=>NS.casesOn σ' fun _ h z=>Q fl.val ⟨lc0,h,z⟩:=by
 rw [wd,e]
 refine (?_:cond (Nat.beq vs.length np) _ _=_)
 rw [hn];rfl
theorem Fu:TB 766=some (1,8,bX):=by skip;rfl
theorem KL:iU = .cons (.asg 1 (.fn 766 (.cons (.loc 0) .nil))) (iU.drop 1):=rfl
set_option maxHeartbeats 4000000 in
theorem AA (E:Ev) (fz:Hp) (sa:Addr) (script:List Int) (hsa:fz sa=some (.list (script.map .int))) (hl:script.length≤63) (six:∀ z,aO (PE E) 8 804 [] [] z yx) (Q:cY->NS->WT)
  (hQ:∀ fl σ,Fin 0 (fun v H z=>∀ R:NV->List NO->Hp->Prop,yx R->R v H z) fl σ->den (PE E) (Q fl σ)) :
  den (PE E) (jr (PE E) (lW (PE E) TB 8) 0 iU ⟨[some (.at sa),none,none,none,none,none,none,none,none,none,none,none,none,none,none,none,none,none,none,none,none,none,none],[],fz⟩ Q):=by
 rw [KL,vp,Ki Fu rfl]
 refine zj E 7 fz sa script hsa hl _ fun A B loc X so=>?_
 refine (?_:den (PE E) (jr (PE E) (lW (PE E) TB 8) 0 (iU.drop 1) ⟨[some (.at sa),some (.id 1),none,none,none,none,none,none,none,none,none,none,none,none,none,none,none,none,none,none,none,none,none],[X,.list [.int A,.int B]],fz⟩ Q))
 k_extra "w"
 refine ey rfl (fun h=>?_) fun h=>?_
 ·k_extra "w"
  refine aq rfl 1 [1] (Src A B) [.id 0,.int (3:Nat)] (jQ E fz A B 3 so (by decide) (by decide)) (by decide) (by decide) rfl rfl fun r A' B' r1 so'=>?_
  have key:∀ i:_root_.Fin 3,∃ w runs sz:Nat,WR w runs sz∧([NV.int 2,.int 2,.int 4]:List NV)[i.1]?=some (.int w):=fun i=>match i with
   | ⟨0,_⟩=>⟨2,4,5,.inl ⟨rfl,rfl,rfl⟩,rfl⟩ | ⟨1,_⟩=>⟨2,4,5,.inl ⟨rfl,rfl,rfl⟩,rfl⟩ | ⟨2,_⟩=>⟨4,16,7,.inr ⟨rfl,rfl,rfl⟩,rfl⟩
  refine Pa (key ⟨r,r1⟩) fun w runs sz hw e=>?_
  skip
  refine w6 rfl (⟨Int.natCast_nonneg r,by omega⟩) ?_
  refine w4 rfl e ?_
  exact tF E fz sa script w runs sz A' B' X [.list [.int 2,.int 2,.int 4]] hw (Nat.le_refl 1) hsa hl so' six Q hQ
 ·exact tF E fz sa script 2 4 5 A B X [] (.inl ⟨rfl,rfl,rfl⟩) (Nat.zero_le 1) hsa hl so six Q hQ
noncomputable def DC:List Int:=[0,0,0,0,0,0,0,0,0,0,0,0,0,0,0,0,0,0,2,0,0,0,-1,0,0]
noncomputable def Fi:List Int:=[0,0,0,0,0,0,0,0,0,0,0,0,0,0,0,0,0,0,0,0,0,0,0,0,0]
noncomputable def zD:Nat->List Int
 | 0=>DC
 | _=>Fi
theorem Dl:jL 5 2 zD:=⟨by decide,by decide,by decide,fun k hk=>match k with | 0=>rfl | 1=>rfl,fun k hk=>match k with | 0=>(by decide:∀ x∈DC,-13<x∧x<13) | 1=>(by decide:∀ x∈Fi,-13<x∧x<13)⟩
theorem kl (lv:Option Nat) (k:Nat) (h:k<2):(zD k).length=25∧(KW 1 24 lv (zD k)).length=25:=⟨Dl.len k h,(rB (st:=1) (en:=24) (by decide) ((Dl.len k h).symm▸(by decide:24<5*5)) nofun).trans (Dl.len k h)⟩
structure Rq where
 rw:Addr
 kn:Addr
 ra:List Addr
 ka:List Addr
 z:Hp
structure PZ (z0:Hp) (k:Nat) (i:Rq):Prop where
 hr:Gd i.z i.rw i.ra 2 zD
 hk:Gd i.z i.kn i.ka 2 fun j=>KW 1 24 (KQ 1 k) (zD j)
 le:ak z0 i.z
noncomputable def QU (a hi lo:Nat):List NO:=[.list [.int 0],.list [.int 0],.list [.int 0],.inst 713 [(14,.id a),(15,.id (a+1)),(16,.id (a+2)),(17,.int 1),(18,.int 24),(19,.int hi),(20,.int lo)]]
noncomputable def Qo:List NO:=[.dead,.dead,.dead,.dead]
noncomputable def RK (t:Addr):Nat->List NO
 | 0=>[.dead,.dead,.dead,.dead,.dead,.dead,.dead,.dead,.dead,.dead,.dead,.dead,.dead,.dead,.dead,.dead,.dead,.dead,.dead,.dead,.tup [.id 19,.at t]]++(QU 21 0 1++(QU 25 1 0++[.list [.id 24,.id 28]]))
 | 1=>[.dead,.dead,.dead,.dead,.dead,.dead,.dead,.dead,.dead,.dead,.dead,.dead,.dead,.dead,.dead,.dead,.dead,.dead,.dead,.dead,.tup [.id 19,.at t]]++(Qo++(QU 25 1 0++[.list [.id 24,.id 28]]))
 | _=>[.dead,.dead,.dead,.dead,.dead,.dead,.dead,.dead,.dead,.dead,.dead,.dead,.dead,.dead,.dead,.dead,.dead,.dead,.dead,.dead,.tup [.id 19,.at t]]++(Qo++(Qo++[.list [.id 24,.id 28]]))
theorem JE (t:Addr):∀ k,(RK t k)[29]?=some (.list [.id 24,.id 28])
 | 0=>rfl
 | 1=>rfl
 | _+2=>rfl
theorem Ry {z:Hp} {y a b:Addr} {f:Nat->List Int} (e:z y=some (.list [.ref a,.ref b])) (e0:z a=some (.list ((f 0).map .int))) (e1:z b=some (.list ((f 1).map .int))):Gd z y [a,b] 2 f:=⟨e,rfl,fun j x h=>match j with
 | 0=>Option.some.inj h▸e0
 | 1=>Option.some.inj h▸e1⟩
set_option maxHeartbeats 4000000 in
theorem Kd (E:Ev) (fz:Hp):aO (PE E) 8 804 [] [] fz yx:=by
 refine aj (bH E) 7 9 0 [none,none,none,none,none,none,none,none,none] (ay E) (iD _) (iO E 7) rfl (by kernel_rfl) rfl rfl rfl rfl fun Q hQ=>?_
 k_extra "w"
 refine pd rfl [.dead,.dead,.dead,.dead,.dead,.dead,.dead,.dead,.dead,.dead,.dead,.list ((DC.map AV.int).map fv),.dead,.list ((Fi.map AV.int).map fv),.list [.id 11,.id 13],.dead,.list ((Fi.map AV.int).map fv),.dead,.list ((Fi.map AV.int).map fv),.list [.id 16,.id 18]] rfl ⟨.inl rfl,.inl rfl,.inl rfl,.inl rfl,.inl rfl,.inl rfl,.inl rfl,.inl rfl,.inl rfl,.inl rfl,.inl rfl,.inr rfl,.inl rfl,.inr rfl,.inr rfl,.inl rfl,.inr rfl,.inl rfl,.inr rfl,.inr rfl,trivial⟩ ?_
 refine aq rfl 3 [] [] [.int (16:Nat)] (oO E fz 16 7 (.inr ⟨rfl,rfl⟩)) (by decide) (by decide) rfl rfl fun z0 t le0 tab=>?_
 k_extra "w"
 refine ec rfl ?_
 refine me (j3 (j:=29) (xs:=[.id 24,.id 28]) rfl (by decide) (fQ (a:=30) rfl) (fun x hx=>bp (List.all_eq_true.mp (rfl:([NV.id 24,.id 28].all (ez 30))=true) x hx))) (n':=30) (fun k (i:Rq)=>⟨[some (.at i.rw),some (.at i.kn),some (.at t),none,none,none,none,none,none],RK t k,i.z⟩) (fun k i=>PZ z0 k i)
  (Up.kO 11 [14] rfl (aK (DC.map .int)) fun a z1 (le1:ak z0 z1) e1=>Up.kO 13 [14] rfl (aK (Fi.map .int)) fun b z2 (le2:ak z1 z2) e2=>Up.Au 14 [] rfl (aK [.ref a,.ref b]) fun rw z3 (le3:ak z2 z3) e3=>Up.kO 16 [19] rfl (aK (Fi.map .int)) fun c z4 (le4:ak z3 z4) e4=>Up.kO 18 [19] rfl (aK (Fi.map .int)) fun d z5 (le5:ak z4 z5) e5=>Up.Au 19 [] rfl (aK [.ref c,.ref d]) fun kn z6 (le6:ak z5 z6) e6 =>
   Up.now (fQ rfl) ⟨⟨rw,kn,[a,b],[c,d],z6⟩,⟨Ry (le6 _ _ (le5 _ _ (le4 _ _ e3))) (le6 _ _ (le5 _ _ (le4 _ _ (le3 _ _ (le2 _ _ e1))))) (le6 _ _ (le5 _ _ (le4 _ _ (le3 _ _ e2)))),Ry e6 (le6 _ _ (le5 _ _ e4)) (le6 _ _ e5),le1.trans (le2.trans (le3.trans (le4.trans (le5.trans le6))))⟩,rfl⟩) (Nat.zero_le _) (fun k _ _ _=>JE t k) (fun k i hk hi L hL=>?_) fun i hi=>?_
 ·rcases k with _ | _ | k
  ·have gk:=hi.hk
   refine aq rfl 1 [] [] [.at i.rw,.at i.kn,.int (1:Nat),.int (24:Nat),.int (1:Nat)] (v5 E i.z i.rw i.kn i.ra i.ka 2 25 1 24 1 zD _ hi.hr gk (by decide) (kl _) (by decide) (by decide) (by decide) (by decide)) (by decide) (by decide) rfl rfl fun z1 du da le1 gd=>?_
   have gd:=gd.congr fun k h=>oA (st:=1) (en:=24) (by decide) ((Dl.len k h).symm▸(by decide:24<5*5)) nofun
   k_extra "w"
   refine dq rfl fun tb z2 (le2:ak z1 z2) (e2:z2 tb=some (.aC [([1,0],.ref t)]))=>?_
   refine bC rfl 21 [24] rfl (aK [.int 0]) fun p z3 (le3:ak z2 z3) e3=>?_
   refine bC rfl 22 [24] rfl (aK [.int 0]) fun d z4 (le4:ak z3 z4) e4=>?_
   refine bC rfl 23 [24] rfl (aK [.int 0]) fun a z5 (le5:ak z4 z5) e5=>?_
   refine bC rfl 24 [] rfl rfl fun sc z6 (le6:ak z5 z6) (e6:z6 sc=some (.inst 713 [(14,.ref p),(15,.ref d),(16,.ref a),(17,.int (1:Nat)),(18,.int (24:Nat)),(19,.int (0:Nat)),(20,.int (1:Nat))]))=>?_
   have l5:=le5.trans le6
   have l4:=le4.trans l5
   have l3:=le3.trans l4
   have l1:=le1.trans (le2.trans l3)
   refine aq rfl 7 [] [] [.at sc,.int (5:Nat),.at i.rw,.at i.kn,.at tb] (mC E z6 sc tb i.rw i.kn i.ra i.ka 5 2 1 24 0 1 16 7 (KQ 1 0) zD (fun h=>nomatch h) (fun _=>⟨_,t,l3 _ _ e2,rfl,tab.keeps (hi.le.trans l1)⟩) ⟨p,d,a,e6,l4 _ _ e3,l5 _ _ e4,le6 _ _ e5⟩ (hi.hr.keeps l1) (gk.keeps l1) Dl ⟨by decide,by decide,nofun,by decide,.inl ⟨rfl,rfl⟩⟩ (.inr ⟨rfl,rfl⟩) (.inl rfl)) (by decide) (by decide) rfl rfl fun z7 kn' ka' le7 g7=>?_
   have l7:=le2.trans (l3.trans le7)
   refine ec rfl ⟨_,_,true,g7.nM,(gd.keeps l7).nM,rfl,?_⟩
   refine mF rfl (ne_self _) ?_
   have l8:=le1.trans l7
   exact hL.nx ⟨i.rw,kn',i.ra,ka',z7⟩ _ ⟨hi.hr.keeps l8,g7,hi.le.trans l8⟩ (ke [] 30 rfl (Nat.le_refl 30) rfl rfl rfl rfl rfl)
  ·have gk:=hi.hk
   refine aq rfl 1 [] [] [.at i.rw,.at i.kn,.int (1:Nat),.int (24:Nat),.int (0:Nat)] (v5 E i.z i.rw i.kn i.ra i.ka 2 25 1 24 0 zD _ hi.hr gk (by decide) (kl _) (by decide) (by decide) (by decide) (by decide)) (by decide) (by decide) rfl rfl fun z1 du da le1 gd=>?_
   have gd:=gd.congr fun k h=>oA (st:=1) (en:=24) (by decide) ((Dl.len k h).symm▸(by decide:24<5*5)) nofun
   k_extra "w"
   refine dq rfl fun tb z2 (le2:ak z1 z2) (e2:z2 tb=some (.aC [([1,0],.ref t)]))=>?_
   refine bC rfl 25 [28] rfl (aK [.int 0]) fun p z3 (le3:ak z2 z3) e3=>?_
   refine bC rfl 26 [28] rfl (aK [.int 0]) fun d z4 (le4:ak z3 z4) e4=>?_
   refine bC rfl 27 [28] rfl (aK [.int 0]) fun a z5 (le5:ak z4 z5) e5=>?_
   refine bC rfl 28 [] rfl rfl fun sc z6 (le6:ak z5 z6) (e6:z6 sc=some (.inst 713 [(14,.ref p),(15,.ref d),(16,.ref a),(17,.int (1:Nat)),(18,.int (24:Nat)),(19,.int (1:Nat)),(20,.int (0:Nat))]))=>?_
   have l5:=le5.trans le6
   have l4:=le4.trans l5
   have l3:=le3.trans l4
   have l1:=le1.trans (le2.trans l3)
   refine aq rfl 7 [] [] [.at sc,.int (5:Nat),.at i.rw,.at i.kn,.at tb] (mC E z6 sc tb i.rw i.kn i.ra i.ka 5 2 1 24 1 0 16 7 (KQ 1 1) zD (fun h=>nomatch h) (fun _=>⟨_,t,l3 _ _ e2,rfl,tab.keeps (hi.le.trans l1)⟩) ⟨p,d,a,e6,l4 _ _ e3,l5 _ _ e4,le6 _ _ e5⟩ (hi.hr.keeps l1) (gk.keeps l1) Dl ⟨by decide,by decide,nofun,by decide,.inr ⟨rfl,by decide,rfl⟩⟩ (.inr ⟨rfl,rfl⟩) (.inl rfl)) (by decide) (by decide) rfl rfl fun z7 kn' ka' le7 g7=>?_
   have l7:=le2.trans (l3.trans le7)
   refine ec rfl ⟨_,_,true,g7.nM,(gd.keeps l7).nM,rfl,?_⟩
   refine mF rfl (ne_self _) ?_
   have l8:=le1.trans l7
   exact hL.nx ⟨i.rw,kn',i.ra,ka',z7⟩ _ ⟨hi.hr.keeps l8,g7,hi.le.trans l8⟩ (ke [] 30 rfl (Nat.le_refl 30) rfl rfl rfl rfl rfl)
  ·exact absurd (show k+2<2 from hk) (by omega)
 ·have gk:=hi.hk.congr (g:=zD) fun k h=>(vC (st:=1) (en:=24) (by decide) ((Dl.len k h).symm▸(by decide:24<5*5)) nofun).trans ((congrArg (jw · (zD k)) (Dl.len k h).symm).trans rA)
  refine ec rfl ⟨_,_,false,gk.nM,hi.hr.nM,rfl,?_⟩
  rw [ql]
  exact hQ _ _ (Fin.cw [] rfl rfl rfl rfl fun R hR=>hR _)
open PySem.Sem (wp)
open Hd
theorem uu:Cl ⟨.builtin "claim.caller" {},none,none,[],none⟩:=⟨show dA.contains "claim.caller" = false by decide +kernel,fun x hx=>by contradiction⟩
theorem RW.halts {prog:Program} {w:World} {t:Sem PySem.Fin} {s:Shared} {R:Result->Shared->Prop} (hreg:s.asleep)
  (h:RW (model prog w) callerA t (fun fin s'=>∃ f,fin = .done f∧(R (.ok f) s'∧leftWithCleanup s'.gens=false)) s) :
  ∃ n r s' s'',runN (denote table) prog w n s ⟨t,.builtin "claim.caller" {},default,[]⟩ = .halted (outcomeOf r) s' ∧
   schedN (denote table) prog w n (.single s ⟨t,.builtin "claim.caller" {},default,[]⟩) = .halted (outcomeOf r) s'∧s'.forget=s''.forget∧R r s'':=by
 refine FY (wp_halts_full (M:=model prog w) (R:=R) (c := .builtin "claim.caller" {}) (t:=t) (p:=default) hreg
  (Sem.wp_mono _ _ t (fun fin p' s' h'=>by refine aA h' fun f zp1 hf=>?_;subst zp1;exact hf) (fun _ _ _ h'=>h'.elim) default s (h _ default caller_in uu))) fun n r s₁ s₂ hs hn hfo hR=>?_
 exact⟨n,r,s₂,s₁,hn,hs,hfo,hR⟩
theorem KG (P:Params):((aH P).map (·.1)).map (H1 P).get?=(aH P).map (fun p=>some p.2):=by kernel_rfl
theorem Qz (P:Params):(aH P).In (H1 P):=Frag.in_of (as:=(aH P).map (·.1)) rfl (KG P)
noncomputable abbrev RI (vals:List Value):Led:=[(SA,listOf vals.toArray 0)]
noncomputable def aV (xs:List Int):Hp:=fun a=>if a=SA then some (.list (xs.map .int)) else none
theorem EW {T:sW} {prog:Program} {w:World} {vals:List Value} {xs:List Int} (e:T.pin=vals) (hv:cK vals (xs.map .int)):HR T prog w (RI vals) (fun a=>a) (aV xs):=by
 have one:∀ a o,aV xs a=some o->a=SA∧o = .list (xs.map .int):=fun a o h=>by
  unfold aV at h
  split at h
  ·rename_i q;exact⟨q,(Option.some.inj h).symm⟩
  ·contradiction
 refine⟨fun a o h=>?_,fun a o h i=>?_,fun a b o o' h i=>?_,?_⟩
 ·obtain⟨rfl,rfl⟩:=one a o h
  exact .list (.head _) hv
 ·obtain⟨rfl,rfl⟩:=one a o h;contradiction
 ·obtain⟨rfl,rfl⟩:=one a o h;contradiction
 ·refine e▸?_;exact .head _
theorem Sf (xs:List Int):Mt (fun _=>0) [] (aV xs) (aV xs):=⟨fun _ _ e=>e,fun i x e=>by simp at e,fun i j h=>by refine aA h fun x e _=>?_;simp at e,fun i h=>by refine aA h fun x e _=>?_;simp at e,by skip;skip;exact nofun⟩
theorem zB {E:Ev} {vals:List Value} {xs:List Int} {s:Shared} (hp:E.pin=vals) (hv:cK vals (xs.map .int)) (hl:xs.length≤63) (hs:s.heap.get? SA=some (listOf vals.toArray 0)) (X:(aH E.w.params).In (hideAll s.heap [SA])) (top:Top E.p E.loose E.uE E.mg E.mb (hideAll s.heap [SA])) (hg:s.gens=E.gens∧s.drawn=E.drawn∧s.os=E.os)
  (law:∀ Q:cY->NS->WT,(∀ fl σ,Fin 0 (fun v H z=>∀ R:NV->List NO->Hp->Prop,yx R->R v H z) fl σ->den (PE E) (Q fl σ))->den (PE E) (jr (PE E) (lW (PE E) TB 8) 0 iU ⟨[NV.at SA].map some++List.replicate (23-1) none,[],aV xs⟩ Q)) :
  RC (model pw E.w) callerA (.call (.ref 809) ⟨[.ref SA],[]⟩) (fun r s'=>match r with | .ok (.ret v)=>v = .bool true∧(∀ b o,s.heap.get? b=some o->s'.heap.get? b=some o)∧s'.gens=s.gens∧s'.os=s.os | _=>False) s:=by
 refine nZ (n:=8) (C₀:={ toTp:=PE E,A₀:=callerA,base:=hideAll s.heap [SA],hz:=hideAll s.heap [SA],outer:=[],A:=callerA,L:=0,rP:=default,fn:=true,env:=default,fm:=fun _=>none }) (Z:=[]) (ne:=RI vals) (args:=[.ref SA]) (hp:=aV xs) (δ:=fun a=>a) (Q:=fun fl σ=>fl.val = .bool true)
  (wB _) rfl (.cons (.ref SA) .nil) (below_caller _) rfl rfl (Se _ _) X top (by decide:callerA.depth+20*(8+1)<recursionLimit) (by decide:callerA.units+100+2*(20*(8+1))<cLine) (fun p h=>by refine (List.mem_singleton.mp h)▸?_;exact hs) rfl (by simp [keys]) (EW hp hv) hg (fun C Z s' eP hf en okc st=>?_) fun env L' f' s' hl'=>?_
 ·exact oy (P:=PE E) (ρ:=fun _=>0) (n₀:=0) (vs:=[.at SA]) (R:=fun a _=>a = .bool true) (wB _) (lA (JN E 8)) (we (bH E) 8) rfl (by kernel_rfl) (Sf xs) (.cons (.at SA) .nil) (Nat.le_refl 0)
   (law (fun fl σ' => .ok (Fin 0 (fun v H z=>∀ R:NV->List NO->Hp->Prop,yx R->R v H z) fl σ')) fun fl σ x=>x)
   (fun x a ρ' σ' hp' _ _ _ m' hx q=>by
    refine uA (q ρ' [] hp' [a] ⟨m',Nat.le_refl _,fun i v e=>by trivial⟩ (.cons hx .nil)) fun ρ2 vs' σ2 _ _ _ rl vr zp8=>?_;obtain⟨v,rfl,_,sp⟩:=zp8
    have:=sp (fun v _ _=>v = .bool true) fun _=>rfl
    subst this
    cases vr with
    | cons w _=>cases w;rfl) C Z s' eP hf en okc st
 ·obtain⟨fl,σ',hfl,⟨⟨mf,m,ce,ne,δ,F,hm,N,nd,H,Lr⟩,hgens,hdr,hos⟩,hq⟩:=hl'
  have hval:=hfl.val
  replace hval:=hq▸hval
  refine⟨by cases f'<;>cases hval;rfl,fun b o e=>?_,hgens.trans hg.1.symm,hos.trans hg.2.2.symm⟩
  by_cases q:b=SA
  ·subst q
   replace e:=hs▸e;have e:=Option.some.inj e;subst e
   have:=(N _ (List.mem_append_right _ (List.mem_append_right _ H.pn))).1
   replace this:=(show (PE E).T.pin=vals from hp)▸this
   exact this
  ·exact F.keep b o (hideAll_get _ e fun h=>q (List.mem_singleton.mp h))
noncomputable abbrev rL:RowW:=PySem.Challenge.rw_nt0574_01.row.toRowW
theorem tA:∀ {xs:List WData},WShape.hasItems [] xs .int=true->∃ is:List Int,xs=is.map .int
 | [],_=>⟨[],rfl⟩
 | x::r,h=>by
  rw [WShape.hasItems,Bool.and_eq_true] at h
  obtain⟨is,rfl⟩:=tA h.2
  have h1:=h.1
  cases x with
  | int i=>exact⟨i::is,rfl⟩
  | _=>contradiction
theorem Gh {R:WRecords} {e:WCtx} {t:WTm} (h:WTm.value R t e=some (.bool false)):WTm.holds R t e=false:=by unfold WTm.holds;rw [h]
theorem zX {args:List WData} (h:rL.claim.pre args=true):∃ is:List Int,args=[.list (is.map .int)]∧is.length≤63:=by
 refine bx (pre_splitW h) fun h1 h2=>?_
 cases args with
 | nil=>contradiction
 | cons x r =>
  cases r with
  | cons y r =>
   have h1:(WShape.has [] x (.list .int)&&false)=true:=h1
   rw [Bool.and_false] at h1;contradiction
  | nil =>
   have h1:(WShape.has [] x (.list .int)&&true)=true:=h1
   rw [Bool.and_true] at h1
   cases x with
   | list xs =>
    have h1:(WShape.hasItems [] xs .int||false)=true:=h1
    rw [Bool.or_false] at h1
    refine jg (tA h1) fun is zp1=>?_;subst zp1
    refine⟨is,rfl,Nat.le_of_not_lt fun q=>?_⟩
    change WTm.holds [] (.and (.not (.lt (.lit (.int 63)) (.len (.arg 0)))) (.lit (.bool true))) { args:=[.list (is.map .int)] }=true at h2
    have hq:(63:Int)<((is.map WData.int).length:Nat):=(List.length_map WData.int (as:=is)).symm▸Int.ofNat_lt.mpr q
    have hv:WTm.value [] (.not (.lt (.lit (.int 63)) (.len (.arg 0)))) { args:=[.list (is.map .int)] }=some (.bool (!decide ((63:Int)<((is.map WData.int).length:Nat)))):=w_not (w_lt w_lit rfl)
    exact absurd ((Gh (hv.trans (congrArg (fun b:Bool=>some (WData.bool (!b))) (decide_eq_true hq)))).symm.trans (holds_andW h2).1) Bool.false_ne_true
   | _=>contradiction
theorem lay_ints (R:WRecords) (cl:Str->Option Addr) (P:Params) (ord:List DictEntry->List DictEntry):∀ (xs:List Int) (s:Shared),∃ vals tk,layAllW R cl P ord (xs.map .int) s=some (vals,{ s with toks:=tk })∧cK vals (xs.map .int)
 | [],s=>⟨[],s.toks,rfl,.nil⟩
 | x::r,s=>by
  refine dy (lay_ints R cl P ord r { s with toks:=s.toks+1 }) fun vals tk e hv=>?_
  refine⟨.int x s.toks::vals,tk,?_,.cons (.int x _) hv⟩
  skip
  refine (?_:(match layAllW R cl P ord (r.map .int) { s with toks:=s.toks+1 } with | some r=>some (_::r.1,r.2) | none=>none)=_)
  rw [e]
theorem NR (P:Params):(H1 P).objs.size=810:=by kernel_rfl
noncomputable abbrev tree (vs:List Value):Sem PySem.Fin:=do
 match←nsGet mainNs PySem.Challenge.rw_nt0574_01.row.toRowW.name with
  | some f=>do ret (← PySem.call f vs)
  | none=>unsupported "claim.caller:no-such-global"
theorem j5:rL.promised:=⟨[.list []],by kernel_rfl,by kernel_rfl⟩
theorem wY:pw.bare:=by refine⟨?_,?_,?_,?_,?_,?_⟩<;>kernel_rfl
theorem Dq (args:List WData):rL.claim.post args (.bool true) args=true:=by kernel_rfl
set_option maxHeartbeats 1000000 in
theorem wZ {w:World} {s:Shared} {free:Addr->Prop} {gens:Prop} {kept:Heap->Prop} (hz:s.asleep) (hgens:s.gens = #[]) (G:Ground qv lo [] (fun _ _=>True) w s (s.heap.nsMap mainGlobals) (s.heap.nsMap builtinsNs) s.heap) (y:Yf s=Ya w) (hk:∀ h,kept h) :
  rL.claim.CallFrom (fun vs=>⟨tree vs,.builtin "claim.caller" {},default,[]⟩) w free gens kept s:=by
 intro args hpre hlay ord hord
 refine aA (zX hpre) fun is zp1 hl=>?_;subst zp1
 refine dy (lay_ints rL.records (classAt s.heap) w.params ord is s) fun vals tk hi hv=>?_
 have hH:s.heap=H1 w.params:=congrArg Prod.fst y
 have hsz:s.heap.objs.size=SA:=by rw [hH,NR];rfl
 obtain⟨s₁,e1⟩:∃ s₁:Shared,s₁={ s with heap:=s.heap.push (listOf vals.toArray 0),toks:=tk }:=⟨_,rfl⟩
 have hlaid:layAllW rL.records (classAt s.heap) w.params ord [.list (is.map .int)] s=some ([.ref SA],s₁):=by
  rw [layAllW,layW,hi,e1,← hsz];rfl
 have hs:s₁.heap.get? SA=some (listOf vals.toArray 0):=by simp only [e1,← hsz];exact Heap.get?_push_size _ rfl
 have keeps:=layAllW_keeps _ _ _ hlaid
 have hal:=layAllW_rest _ _ _ hlaid
 refine jT (reads_layAllW hord _ _ _ hlaid hlay s₁.heap (fun _ _ e=>e)) fun as hrd hin hold=>?_
 have L:Laid rL.records w s s₁ [.list (is.map .int)] [.ref SA] as:=⟨⟨ord,hord,hlaid⟩,hrd,hin,hold,keeps,hal.1.trans hgens,hal.2.2.1⟩
 have keepg:∀ b o,s.heap.get? b=some o->(hideAll s₁.heap [SA]).get? b=some o:=fun b o e=>hideAll_get _ (keeps b o e) fun h=>by
  have:=Heap.lt_size e
  simp only [List.mem_singleton.mp h,hsz] at this
  exact Nat.lt_irrefl _ this
 skip
 have mg:s.heap.nsMap mainGlobals PySem.Challenge.rw_nt0574_01.row.toRowW.name=some (.ref 809):=by refine hH▸?_;exact Gs w.params
 have hi':=ident_freeW (r:=rL) rfl rfl rfl
 have rwt:RW (model pw w) callerA (tree [.ref SA]) (fun fin s'=>∃ f,fin = .done f∧((rL.claim.Ends s [.list (is.map .int)] [.ref SA] s₁ (.ok f) s'∧s'.os=s.os)∧leftWithCleanup s'.gens=false)) s₁:=by
  refine .bind (.of (wpAny_nsGet (G.T.g.keeps keeps) ?_))
  refine mg▸?_
  refine .bind (.call ((zB (E:=⟨vals,w,qv,looseW qv lo,ExcName.means s.heap,s.heap.nsMap mainGlobals,s.heap.nsMap builtinsNs,s₁.gens,s₁.drawn,s₁.os⟩) (vals:=vals) (xs:=is) (s:=s₁) rfl hv hl hs ((hH▸Qz w.params:(aH w.params).In s.heap).keeps keepg) (G.T.keeps keepg) ⟨rfl,rfl,rfl⟩ (fun Q hQ=>AA _ (aV is) SA is (if_pos rfl) hl (Kd _) Q hQ)).mono fun r s' hr=>?_))
  cases r with
  | error e=>exact hr.elim
  | ok f =>
   cases f with
   | ret v =>
    refine vv hr fun zp0 h2 h3 h4=>?_;subst zp0
    have z:=GoodWG.laid (c:=rL.claim) (s':=s') (r := .ok (.ret (.bool true))) rfl rfl hi' L ⟨.inl ⟨.bool true,.bool true,[],rfl,fun _=>rfl,.bool true,Dq _,fun _=>⟨.nil,nofun⟩⟩,.of_keep h2,h4,.of_eq (h3.trans L.gens)⟩
    exact RW.pure ⟨_,rfl,⟨z.1,z.2.1⟩,leftWithCleanup_false_of_bare z.2.2⟩
   | _=>exact hr.elim
 refine R5 (RW.halts (prog:=pw) (w:=w) (t:=tree [.ref SA]) (s:=s₁) (R:=fun r s'=>rL.claim.Ends s [.list (is.map .int)] [.ref SA] s₁ r s'∧s'.os=s.os) (Shared.asleep_of_life hal.2.2.2 hz) rwt) fun k r s2 s3 hrun hsched hfo hcase hos=>?_
 skip;have eh:=(Shared.forget_eq hfo).1;have eo:=(Shared.forget_eq hfo).2.2.2.1
 have hcase:=hcase.congr eh
 rw [← eo] at hos
 have hlife:s2.heap.life=s.heap.life:=(runN_life _ _ _ hrun).trans hal.2.2.2
 refine⟨[.ref SA],s₁,hlaid,k,_,s2,hsched,?_,(fun _ i x hx=>by rw [hgens] at hx;trivial),hk _,by rw [hlife],Shared.rest_eq hos⟩
 refine Or.elim hcase (fun q=>?_) fun q=>?_
 ·exact .inl (Qq q fun v zr d1 d2 d3 d4 d5=>⟨v,congrArg outcomeOf zr,d1,d2,d3,fun b o y _=>d4 b o y,d5⟩)
 ·exact .inr (uA q fun e ob cls zr d1 d2 d3 d4 d5=>⟨e,ob,cls,congrArg outcomeOf zr,d1,d2,d3,d4,fun b o y _=>d5 b o y⟩)
theorem law_row (said:PySem.Challenge.rw_nt0574_01.row.wellSaid=true):PySem.Challenge.rw_nt0574_01.row.Holds:=by
 refine bx (Bool.and_eq_true_iff.mp Ke) fun ok _=>?_
 obtain⟨hch,o1⟩:=Bool.and_eq_true_iff.mp ok
 refine⟨said,j5,⟨wY,o1,rfl⟩,j5.witness,fun w=>⟨(left.behind (XP:=fun _ _=>True) (fun _ _=>trivial) hch w).1,fun s' hs'=>?_⟩⟩
 refine jT ((left.behind (XP:=fun _ _=>True) (fun _ _=>trivial) hch w).2 s' hs') fun s₀ hf hg0 zp3=>?_;refine Qq zp3 fun s hT hz hgens hg G y=>?_
 refine⟨s₀,hf,hg0,s,hT,fun n hn=>?_,nofun,nofun,wZ hz (Array.eq_empty_of_size_eq_zero (beq_iff_eq.mp hgens)) G y fun h q=>nomatch q⟩
 obtain rfl:n=Str.ofString "law" := List.mem_singleton.mp hn
 exact pinned_of_view hg G Al Ew Gp
end Mine
end
theorem PySem.Challenge.cw_nt0574_01_holds : PySem.Challenge.rw_nt0574_01.Holds :=
  PySem.W.holds_law Mine.law_said Mine.law_row
