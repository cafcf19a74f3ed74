import PyProof.Rows.All
import Wide.All
import OpenK.AllK
import Wide.FinOn
import Open.Tops
import Lean
import PySem.Challenge.RW_rh0145_01
set_option Elab.async false
set_option maxRecDepth 100000
set_option maxHeartbeats 0
set_option linter.all false
set_option genSizeOf false
set_option genInjectivity false
set_option bootstrap.genMatcherCode false
noncomputable section
namespace Mine
open PySem PySem.W PySem.Calls
structure VS where
 old:List (Addr×Obj)
 T:BT
 m:Nat
 gens:Array GenState
 drawn:Drawn
 toks:Nat
 os:OsState
noncomputable def cZ:List (Addr×Obj)->Nat->Option Obj
 |[],_=>none
 |p::r,a=>cond (Nat.beq p.1 a) (some p.2) (cZ r a)
noncomputable def xX:List (Addr×Obj)->Nat->(Obj->Obj)->List (Addr×Obj)
 |[],_,_=>[]
 |p::r,a,f=>cond (Nat.beq p.1 a) ((p.1,f p.2)::r) (p::xX r a f)
theorem a4g (a b:Nat):Nat.beq a b=decide (a=b):=BT.beq_eq a b
theorem a4r (f:Obj->Obj) (l:List (Addr×Obj)) (a b:Nat):cZ (xX l a f) b=if b=a then(cZ l a).map f else cZ l b:=by
 induction l with
 |nil=>
  by_cases h:b=a
  ·rw [if_pos h];rfl
  ·rw [if_neg h];rfl
 |cons p r ih=>
  show cZ (cond (Nat.beq p.1 a) ((p.1,f p.2)::r) (p::xX r a f)) b=if b=a then(cond (Nat.beq p.1 a) (some p.2) (cZ r a)).map f else cond (Nat.beq p.1 b) (some p.2) (cZ r b)
  by_cases h:p.1=a
  ·rw [a4g,decide_eq_true h];show cond (Nat.beq p.1 b) (some (f p.2)) (cZ r b)=if b=a then some (f p.2)else _
   by_cases q:b=a
   ·rw [if_pos q,a4g,decide_eq_true (h.trans q.symm)];rfl
   ·rw [if_neg q,a4g,decide_eq_false λe=>q (e.symm.trans h)];rfl
  ·rw [a4g,decide_eq_false h];show cond (Nat.beq p.1 b) (some p.2) (cZ (xX r a f) b)=if b=a then(cZ r a).map f else _
   rw [ih]
   by_cases q:b=a
   ·rw [if_pos q,if_pos q,a4g,decide_eq_false λe=>h (e.trans q)];rfl
   ·rw [if_neg q,if_neg q]
def a3y (n₁:Nat) (v:VS) (a:Nat):Option Obj:=cond (Nat.blt a n₁) (cZ v.old a) (v.T.get (a - n₁))
def toV (v:VS) (x:Step):Option (VS×Thread):=match x with
 | .go s' t'=>some ({v with gens:=s'.gens,drawn:=s'.drawn,toks:=s'.toks,os:=s'.os},t')
 | .halt _ _=>none
noncomputable def rR (c:Sem PySem.Fin):Bool:=match c with
 | .load ..=>true
 | .loadIfAlive ..=>true
 | .update ..=>true
 | .alloc ..=>true
 |_=>false
def d0c (n₁:Nat) (v:VS) (c:Sem PySem.Fin) (code:Code) (pos:Pos) (stack:List Frame):Option (VS×Thread):=match c with
 | .load a _ k=>(a3y n₁ v a).bind λo=>some (v,⟨k o,code,pos,stack⟩)
 | .loadIfAlive a k=>(a3y n₁ v a).bind λo=>some (v,⟨k (some o),code,pos,stack⟩)
 | .update a _ f k=>(a3y n₁ v a).bind λo=>(alive (f o)).bind λ_=>
  cond (Nat.blt a n₁) (some ({v with old:=xX v.old a f},⟨k (),code,pos,stack⟩)) (some ({v with T:=v.T.set (a - n₁) f},⟨k (),code,pos,stack⟩))
 | .alloc o k=>(alive o).bind λ_=>
  cond ((v.T.ins v.m o).get v.m).isSome (some ({v with T:=v.T.ins v.m o,m:=v.m+1},⟨k (n₁+v.m),code,pos,stack⟩)) none
 |_=>none
def yV (n₁:Nat) (stp:Shared->Thread->Step) (v:VS) (t:Thread):Option (VS×Thread):=
 cond (rR t.cur) (d0c n₁ v t.cur t.code t.pos t.stack) (toV v (stp ⟨{},v.gens,v.drawn,v.toks,v.os⟩ t))
structure Rep (n₁:Nat) (v:VS) (s:Shared):Prop where
 size:s.heap.objs.size=n₁+v.m
 old:∀a o,cZ v.old a=some o->a<n₁/\s.heap.get? a=some o
 new:∀i o,v.T.get i=some o->i<v.m/\s.heap.get? (n₁+i)=some o
 gens:s.gens=v.gens
 drawn:s.drawn=v.drawn
 toks:s.toks=v.toks
 os:s.os=v.os
def qV (n₁:Nat) (v v':VS) (s s':Shared):Prop:=
 (∀b,b<n₁->cZ v.old b=none->s'.heap.get? b=s.heap.get? b)/\(∀b,cZ v.old b=none↔cZ v'.old b=none)/\s'.heap.life=s.heap.life
theorem qV.refl {n₁:Nat} {v:VS} {s:Shared}:qV n₁ v v s s:=⟨λ_ _ _=>rfl,λ_=>Iff.rfl,rfl⟩
theorem qV.trans {n₁:Nat} {v v' v'':VS} {s s' s'':Shared} (a:qV n₁ v v' s s') (b:qV n₁ v' v'' s' s''):qV n₁ v v'' s s'':=
 ⟨λx h q=>(b.1 x h ((a.2.1 x).mp q)).trans (a.1 x h q),λx=>(a.2.1 x).trans (b.2.1 x),b.2.2.trans a.2.2⟩
theorem qT {o o':Obj} (h:alive o=some o'):o.isFreed=false:=by
 obtain⟨c,d,dt,sl⟩:=o;cases dt<;>first|rfl|cases h
section
variable {n₁:Nat} {v v':VS} {s:Shared} {a:Nat} {o:Obj} {den:Code->Sem PySem.Fin} {p:Program} {w:World} {code:Code} {pos:Pos} {stack:List Frame} {q:Option Value} {t:Thread} {r r':VS×Thread}
theorem d3i (h:a<n₁):Nat.blt a n₁=true:=Nat.ble_eq_true_of_le h
theorem d3r (h:n₁<=a):Nat.blt a n₁=false:=Bool.eq_false_iff.mpr λe=>Nat.not_lt.mpr h (Nat.le_of_ble_eq_true e)
theorem cnd {α:Type} {b c:Bool} {x y:α} (h:b=c):cond b x y=cond c x y:=congrArg (cond · x y) h
theorem b3v (h:a<n₁):a3y n₁ v a=cZ v.old a:=cnd (d3i h)
theorem b5h (h:n₁<=a):a3y n₁ v a=v.T.get (a - n₁):=cnd (d3r h)
theorem a4u (R:Rep n₁ v s) (h:a3y n₁ v a=some o):s.heap.get? a=some o:=
 (Nat.lt_or_ge a n₁).elim (λl=>(R.old a o ((b3v l).symm.trans h)).2) λg=>
  (congrArg s.heap.get? (Nat.add_sub_cancel' g)).symm.trans (R.new _ o ((b5h g).symm.trans h)).2
def pF (n₁:Nat) (den:Code->Sem PySem.Fin) (p:Program) (w:World) (s:Shared) (t:Thread) (v:VS) (r:VS×Thread):Prop:=
 ∃s',step den p w s t=.go s' r.2/\Rep n₁ r.1 s'/\qV n₁ v r.1 s s'
theorem pF.to (h:some r=some r') (g:pF n₁ den p w s t v r):pF n₁ den p w s t v r':=Option.some.inj h▸g
theorem bd {α β:Type} {x:Option α} {f:α->Option β} {y:β} {M:Prop} (h:x.bind f=some y) (k:∀o,x=some o->f o=some y->M):M:=by
 cases x with
 |none=>exact nomatch h
 |some o=>exact k o rfl h
theorem d0v {c:Sem PySem.Fin} (hc:rR c=false) (R:Rep n₁ v s) (h:toV v (step den p w ⟨{},v.gens,v.drawn,v.toks,v.os⟩ ⟨c,code,pos,stack⟩)=some r):
  pF n₁ den p w s ⟨c,code,pos,stack⟩ v r:=by
 generalize e:step den p w ⟨{},v.gens,v.drawn,v.toks,v.os⟩ ⟨c,code,pos,stack⟩=x at h;cases x with
 |halt=>exact nomatch h
 |go s₁ t₁=>
  rw [<-R.gens,<-R.drawn,<-R.toks,<-R.os]at e;exact .to h ⟨_,PySem.W.step_heap (H:=s.heap) (λ_ _ _ z=>Bool.noConfusion ((congrArg rR z).symm.trans hc)) (λ_ _ _ _ z=>Bool.noConfusion ((congrArg rR z).symm.trans hc))
   (λ_ _ z=>Bool.noConfusion ((congrArg rR z).symm.trans hc)) (λ_ _ z=>Bool.noConfusion ((congrArg rR z).symm.trans hc)) e,⟨R.size,R.old,R.new,rfl,rfl,rfl,rfl⟩,⟨λ_ _ _=>rfl,λ_=>Iff.rfl,rfl⟩⟩
theorem d7l {k:Obj->Sem PySem.Fin} (z:s.heap.get? a=some o):step den p w s ⟨.load a q k,code,pos,stack⟩=.go s ⟨k o,code,pos,stack⟩:=
 have h:∀{x:Option Obj},x=some o->(match x with
  |some o=>Step.go s ⟨k o,code,pos,stack⟩
  |none=>.halt (.stuck (if a<s.heap.objs.size then "load: the object has been freed" else "load: no object at this address")) s)=.go s ⟨k o,code,pos,stack⟩:=λe=>e▸rfl
 h z
theorem c0k {f:Obj->Obj} {k:Unit->Sem PySem.Fin} (z:s.heap.get? a=some o):
  step den p w s ⟨.update a q f k,code,pos,stack⟩=.go {s with heap:=s.heap.update a f} ⟨k (),code,pos,stack⟩:=
 if_pos (congrArg Option.isSome z)
theorem c3p {l:List (Addr×Obj)} {f:Obj->Obj} {b:Nat}:cZ l b=none↔cZ (xX l a f) b=none:=by
 rw [a4r]
 by_cases h:b=a
 ·rw [if_pos h,h,Option.map_eq_none_iff]
 ·rw [if_neg h]
theorem e6x {f:Obj->Obj} {k:Unit->Sem PySem.Fin} (R:Rep n₁ v s) (l:a<n₁) (e:cZ v.old a=some o) (hf:(f o).isFreed=false):
  pF n₁ den p w s ⟨.update a q f k,code,pos,stack⟩ v ({v with old:=xX v.old a f},⟨k (),code,pos,stack⟩):=
 have z:=(R.old a o e).2;have hs:Heap.SameBut a s.heap (s.heap.update a f):=Heap.SameBut.update ..
 ⟨_,c0k z,⟨hs.1.trans R.size,λb x hb=>by
   rw [a4r]at hb
   by_cases h:b=a
   ·rw [if_pos h,e]at hb;exact⟨h▸l,h▸(Heap.get?_update_self f z hf).trans hb⟩
   ·rw [if_neg h]at hb;exact⟨(R.old b x hb).1,(hs.2 b h).trans (R.old b x hb).2⟩,
  λi x hi=>⟨(R.new i x hi).1,(hs.2 _ (Nat.ne_of_gt (Nat.lt_of_lt_of_le l (Nat.le_add_right _ _)))).trans (R.new i x hi).2⟩,R.gens,R.drawn,R.toks,R.os⟩,
  ⟨λb _ hn=>hs.2 b λh=>Option.some_ne_none _ ((h▸e:cZ v.old b=some o).symm.trans hn),λ_=>c3p,rfl⟩⟩
theorem e7u {f:Obj->Obj} {k:Unit->Sem PySem.Fin} (R:Rep n₁ v s) (g:n₁<=a) (e:v.T.get (a - n₁)=some o) (hf:(f o).isFreed=false):
  pF n₁ den p w s ⟨.update a q f k,code,pos,stack⟩ v ({v with T:=v.T.set (a - n₁) f},⟨k (),code,pos,stack⟩):=
 have z:s.heap.get? a=some o:=(congrArg s.heap.get? (Nat.add_sub_cancel' g)).symm.trans (R.new _ o e).2;have hs:Heap.SameBut a s.heap (s.heap.update a f):=Heap.SameBut.update ..
 ⟨_,c0k z,⟨hs.1.trans R.size,λb x hb=>⟨(R.old b x hb).1,(hs.2 b (Nat.ne_of_lt (Nat.lt_of_lt_of_le (R.old b x hb).1 g))).trans (R.old b x hb).2⟩,
  λi x hi=>by
   rw [BT.get_set]at hi
   by_cases h:i=a - n₁
   ·rw [if_pos h,e]at hi;exact⟨h▸(R.new _ o e).1,(congrArg (s.heap.update a f).get? ((congrArg (n₁+ ·) h).trans (Nat.add_sub_cancel' g))).trans ((Heap.get?_update_self f z hf).trans hi)⟩
   ·rw [if_neg h]at hi;exact⟨(R.new i x hi).1,(hs.2 _ λy=>h (y▸(Nat.add_sub_cancel_left n₁ i).symm)).trans (R.new i x hi).2⟩,R.gens,R.drawn,R.toks,R.os⟩,
  ⟨λb hb _=>hs.2 b (Nat.ne_of_lt (Nat.lt_of_lt_of_le hb g)),λ_=>Iff.rfl,rfl⟩⟩
theorem d8v {h:Heap} (l:a<h.objs.size):(h.push o).get? a=h.get? a:=Heap.get?_push_ne _ _ _ (Nat.ne_of_lt l)
theorem d0p {k:Addr->Sem PySem.Fin} (R:Rep n₁ v s) (hf:o.isFreed=false) (hg:((v.T.ins v.m o).get v.m).isSome=true):
  pF n₁ den p w s ⟨.alloc o k,code,pos,stack⟩ v ({v with T:=v.T.ins v.m o,m:=v.m+1},⟨k (n₁+v.m),code,pos,stack⟩):=
 ⟨{s with heap:=s.heap.push o},congrArg (λa=>Step.go {s with heap:=s.heap.push o} ⟨k a,code,pos,stack⟩) R.size,
  ⟨(Heap.size_push ..).trans (congrArg Nat.succ R.size),λb x hb=>⟨(R.old b x hb).1,Heap.get?_push_of_some _ (R.old b x hb).2⟩,
  λi x hi=>by
   rw [BT.get_ins o v.T v.m hg]at hi
   by_cases h:i=v.m
   ·rw [if_pos h]at hi;exact⟨h▸Nat.lt_succ_self _,(congrArg (s.heap.push o).get? ((congrArg (n₁+ ·) h).trans R.size.symm)).trans ((Heap.get?_push_size _ hf).trans hi)⟩
   ·rw [if_neg h]at hi;exact⟨Nat.lt_succ_of_lt (R.new i x hi).1,Heap.get?_push_of_some _ (R.new i x hi).2⟩,R.gens,R.drawn,R.toks,R.os⟩,
  ⟨λb hb _=>d8v (R.size▸Nat.lt_of_lt_of_le hb (Nat.le_add_right _ _)),λ_=>Iff.rfl,rfl⟩⟩
theorem f2h {cur:Sem PySem.Fin} (R:Rep n₁ v s):d0c n₁ v cur code pos stack=some r->pF n₁ den p w s ⟨cur,code,pos,stack⟩ v r:=by
 have no:∀{P:Prop},none=some r->P:=λh=>nomatch h
 refine Sem.casesOn (motive:=λcur=>d0c n₁ v cur code pos stack=some r->pF n₁ den p w s ⟨cur,code,pos,stack⟩ v r) cur
  (λ_=>no) (λ_=>no) (λ_=>no) (λ_=>no) (λ_ _=>no) (λ_ _=>no)
  (λa _ k h=>bd h λo e h=>.to h ⟨s,d7l (a4u R e),R,.refl⟩)
  (λa _ f k h=>bd h λo e h=>bd h λ_ al h=>(Nat.lt_or_ge a n₁).elim
   (λl=>.to ((cnd (d3i l)).symm.trans h) (e6x R l ((b3v l).symm.trans e) (qT al)))
   (λg=>.to ((cnd (d3r g)).symm.trans h) (e7u R g ((b5h g).symm.trans e) (qT al))))
  (λo k h=>bd h λ_ al h=> ?_)
  (λa k h=>bd h λo e h=>.to h ⟨s,congrArg (λx=>Step.go s ⟨k x,code,pos,stack⟩) (a4u R e),R,.refl⟩)
  (λ_ _=>no) (λ_ _=>no) (λ_=>no) (λ_=>no) (λ_ _ _=>no) (λ_ _ _=>no) (λ_ _ _ _ _=>no) (λ_ _=>no) (λ_ _=>no)
  (λ_ _=>no) (λ_ _ _ _=>no) (λ_ _ _ _=>no) (λ_=>no) (λ_ _=>no) (λ_=>no) (λ_ _ _ _ _=>no)
 cases hg:((v.T.ins v.m o).get v.m).isSome with
 |true=>exact .to ((cnd hg).symm.trans h) (d0p R (qT al) hg)
 |false=>exact nomatch (cnd hg).symm.trans h
theorem zS (R:Rep n₁ v s) {t:Thread} (h:yV n₁ (step den p w) v t=some r):pF n₁ den p w s t v r:=by
 cases c:rR t.cur with
 |true=>exact f2h R ((cnd c).symm.trans h)
 |false=>exact d0v c R ((cnd c).symm.trans h)
end
noncomputable def b6k (n₁:Nat) (stp:Shared->Thread->Step) (ok:Thread->Bool) (b:Nat):Nat->VS->Thread->Option (Flow×VS×Code×Pos)
 |0,_,_=>none
 |n+1,v,t=>(endAt b t).elim (cond (ok t) ((yV n₁ stp v t).bind λr=>Prod.casesOn r λv' t'=>b6k n₁ stp ok b n v' t') none) λf=>some (f,v,t.code,t.pos)
section
variable {tb:String->Option Builtin} {n₁ n₀ n:Nat} {ann:Option Value} {p:Program} {w:World} {b:Nat} {s s':Shared} {t t':Thread} {x:Flow}
noncomputable def g9k {α:Type} (x:Option Flow) (k:Bool) (y:Step) (F:Flow->Option α) (G:Shared->Thread->Option α):Option α:=
 x.elim (cond k (match y with| .go s' t'=>G s' t'| .halt _ _=>none) none) F
theorem d3w:segRun tb p w n₀ ann b (n+1) s t=g9k (endAt b t) (stepOk n₀ ann t) (step (denote tb) p w s t) (λf=>some (f,s,t.code,t.pos)) (λs' t'=>segRun tb p w n₀ ann b n s' t'):=by
 show(match endAt b t with
  |some f=>some (f,s,t.code,t.pos)
  |none=>match stepOk n₀ ann t with
   |false=>none
   |true=>match step (denote tb) p w s t with
    | .go s' t'=>segRun tb p w n₀ ann b n s' t'
    | .halt _ _=>none)=_
 cases endAt b t with
 |some f=>rfl
 |none=>cases stepOk n₀ ann t<;>rfl
theorem d6z (e:endAt b t=some x):segRun tb p w n₀ ann b (n+1) s t=some (x,s,t.code,t.pos):=by rw [d3w,e];rfl
theorem e4d (e:endAt b t=none) (k:stepOk n₀ ann t=true) (h:step (denote tb) p w s t=.go s' t'):segRun tb p w n₀ ann b (n+1) s t=segRun tb p w n₀ ann b n s' t':=by
 rw [d3w,e,k,h];rfl
def g1c (p:Program) (w:World) (n₀:Nat) (ann:Option Value) (b n n₁:Nat) (s:Shared) (t:Thread) (v:VS) (y:Flow×VS×Code×Pos):Prop:=
 ∃s',segRun treeTable p w n₀ ann b n s t=some (y.1,s',y.2.2)/\Rep n₁ y.2.1 s'/\qV n₁ v y.2.1 s s'
theorem c0o {y:Flow×VS×Code×Pos} {n:Nat}:∀{v:VS} {t:Thread} {s:Shared},Rep n₁ v s->b6k n₁ (step (denote treeTable) p w) (stepOk n₀ ann) b n v t=some y->g1c p w n₀ ann b n n₁ s t v y:=by
 induction n with
 |zero=>exact λ_ h=>nomatch h
 |succ n ih=>
  intro v t s R h;have h:(endAt b t).elim (cond (stepOk n₀ ann t) ((yV n₁ (step (denote treeTable) p w) v t).bind λr=>Prod.casesOn r λv' t'=>b6k n₁ (step (denote treeTable) p w) (stepOk n₀ ann) b n v' t') none) (λf=>some (f,v,t.code,t.pos))=some y:=h
  generalize he:endAt b t=e at h;cases e with
  |some x=>exact(Option.some.inj h:_=y)▸⟨s,d6z he,R,.refl⟩
  |none=>
   generalize hk:stepOk n₀ ann t=k at h;cases k with
   |false=>exact nomatch h
   |true=>exact bd h λr hs h=>(zS R hs).elim λ_ g=>(ih g.2.1 h).elim λs' z=>⟨s',(e4d he hk g.1).trans z.1,z.2.1,g.2.2.trans z.2.2⟩
end
end Mine
namespace Mine
open PySem PySem.W PySem.Calls PySem.Challenge
noncomputable abbrev S (l:List Nat):Str:=⟨⟨l⟩⟩
noncomputable abbrev ar {α:Type} (l:List α):Array α:=⟨l⟩
noncomputable abbrev en (P:Params) (s:Str) (t:Nat) (v:Value):DictEntry:=⟨PyData.keyHash P s,.str s t,v⟩
noncomputable def bt (l:List Obj):BT:=(l.foldl (λ(x:BT×Nat) o=>(x.1.ins x.2 o,x.2+1)) (BT.nil,0)).1
noncomputable def u7 (i:Nat):Stmt:=pw_rh0145_01.main.body.getD i (.Pass default)
noncomputable def d4y:Stmt->List Stmt
 | .ClassDef _ _ _ b ..=>b
 |_=>[]
def g7l (i j:Nat):Stmt:=(d4y (u7 i)).getD j (.Pass default)
noncomputable def d3f:Stmt->Arguments
 | .FunctionDef _ a ..=>a
 |_=>default
noncomputable def d3k:Stmt->List Stmt
 | .FunctionDef _ _ b ..=>b
 |_=>[]
noncomputable def c2c:Stmt->Scope
 | .FunctionDef _ _ _ _ _ _ s ..=>s
 |_=>default
abbrev fnD (nm qual:Str) (st:Stmt) (g:Addr) (dv kv doc pm code ct:Value) (bi:Addr):FuncData:=
 {name:=nm,qualname:=qual,params:=d3f st,body:=.stmts (d3k st),scope:=c2c st,globals:=g,closure:=[],defaults:=dv,kwdefaults:=kv,doc:=doc,pyModule:=pm,annotations:=none,code:=code,closureTuple:=ct,builtins:=bi}
noncomputable def u0:Env:={scope:=pw_rh0145_01.main.scope,locals:=mainNs,globals:=mainNs,cells:=[],code:=.ref 13,frame:=some 14}
def cT:Code:=.body pw_rh0145_01.main.body u0
noncomputable def b8h (w:World):Shared->Thread->Step:=Fast.tw8437177126325714943 (Fast.tw11892475500146522536 Fast.tw14364793385576792824) pw_rh0145_01 w
noncomputable def okQ:Thread->Bool:=Fast.tw6613529449190102663 11 (some (.ref 6))
theorem b3p (w:World):b8h w=step (denote treeTable) pw_rh0145_01 w:=by
 unfold b8h;rw [<-Fast.te8437177126325714943,<-Fast.te11892475500146522536,<-Fast.te14364793385576792824]
theorem c0x:okQ=stepOk 11 (some (.ref 6)):=by
 unfold okQ;rw [<-Fast.te6613529449190102663]
noncomputable def d1d (n₁:Nat) (w:World) (n:Nat) (v:VS) (t:Thread):Option (Flow×VS×Code×Pos):=b6k n₁ (b8h w) okQ 1 n v t
noncomputable def b9n (l:List Stmt) (p:Pos):Thread:=⟨(Fast.tw12563942051412417395 l u0).wrap doneF deadEnd id id,cT,p,[topFrame ⟨0,0,0,0⟩]⟩
noncomputable abbrev eI (l:List Value):Obj:=⟨.type "tuple",none,.seq ⟨l⟩ 0,⟨[]⟩⟩
noncomputable abbrev b8k (l:List Value):Obj:=⟨.none,none,.fields ⟨l⟩,⟨[]⟩⟩
noncomputable abbrev r4 (c:String) (l:List Value):Obj:=⟨.type c,none,.fields ⟨l⟩,⟨[]⟩⟩
noncomputable abbrev b9s (l:List DictEntry) (e:Nat):Obj:=⟨.type "dict",none,.dict ⟨l⟩ e,⟨[]⟩⟩
noncomputable def d1s:Nat->List Str->List Value
 |_,[]=>[]
 |t,x::r=>.str x t::d1s (t+1) r
abbrev cut:Str:=S [47,99,108,97,105,109,47,99,117,116,46,112,121]
noncomputable abbrev cE (i:Nat):Value:=.int (.ofNat i) 0
structure M where
 nm:Str
 line:Nat
 argc:Nat
 vars:Option (List Str)
 dv:List (Nat->Value)
noncomputable def d3m:Nat->List (Nat->Value)->List Value
 |_,[]=>[]
 |t,x::r=>x t::d3m (t+1) r
def M.pre (m:M):Nat:=match m.dv with|[]=>0|_=>1
def M.nv (m:M):Nat:=match m.vars with|none=>0|some l=>l.length
def M.size (m:M):Nat:=m.pre+(match m.vars with|none=>5|some _=>7)
def M.toks (m:M):Nat:=m.dv.length+m.nv+6
def M.fn (m:M) (n:Nat):Nat:=n+m.size - 1
def M.code (m:M) (n:Nat):Nat:=n+m.size - 2
def M.keyTok (m:M) (t:Nat):Nat:=t+m.dv.length+m.nv+5
def M.objs (m:M) (st:Stmt) (qual:Str) (n t:Nat) (pm:Value):List Obj:=
 let n0:=n+m.pre
 let t0:=t+m.dv.length
 let v:=m.nv
 (match m.dv with|[]=>[] |l=>[eI (d3m t l)])++
 (match m.vars with
  |some l=>[eI [],b8k [],eI (d1s (t0+3) l),eI [],
    ⟨.none,none,.func (fnD m.nm qual st 0 .none .none .none .none .none .none 0),⟨[]⟩⟩,
    r4 "code" [.str m.nm t0,.str qual (t0+1),.str cut (t0+2),cE m.line,cE m.argc,cE 0,cE 0,cE 3,.ref n0,.bool true,cE 181,.ref (n0+1),.none,.ref (n0+2),.ref (n0+3),.ref (n0+4),cE (t0+3+v),cE m.line,.str cut (t0+4+v)],
    ⟨.type "function",none,.func (fnD m.nm qual st 3 (match m.dv with|[]=>.none|_=>.ref n) .none .none pm (.ref (n0+5)) .none 0),⟨[]⟩⟩]
  |none=>[eI [],b8k [],
    ⟨.none,none,.func (fnD m.nm qual st 0 .none .none .none .none .none .none 0),⟨[]⟩⟩,
    r4 "code" [.str m.nm t0,.str qual (t0+1),.str cut (t0+2),cE m.line,cE m.argc,cE 0,cE 0,cE 3,.ref n0,.bool true,cE 181,.ref (n0+1),.none,.none,.none,.ref (n0+2),cE (t0+3),cE m.line,.str cut (t0+4)],
    ⟨.type "function",none,.func (fnD m.nm qual st 3 (match m.dv with|[]=>.none|_=>.ref n) .none .none pm (.ref (n0+3)) .none 0),⟨[]⟩⟩])
structure C where
 i:Nat
 nm:Str
 line:Nat
 bases:List Value
 anc:List Value
 ms:List M
 att:List Str
 newId:String
 n:Nat
 t:Nat
 pm:Value
def C.qual (c:C) (m:M):Str:=⟨⟨c.nm.cps.toList++46::m.nm.cps.toList⟩⟩
noncomputable def C.walk {α:Type} (c:C) (f:Nat->M->Nat->Nat->List α):Nat->Nat->Nat->List M->List α
 |_,_,_,[]=>[]
 |j,n,t,m::r=>f j m n t++c.walk f (j+1) (n+m.size) (t+m.toks) r
noncomputable def szs:List M->Nat
 |[]=>0
 |m::r=>m.size+szs r
noncomputable def tks:List M->Nat
 |[]=>0
 |m::r=>m.toks+tks r
def C.n1 (c:C):Nat:=c.n+7+szs c.ms
def C.t1 (c:C):Nat:=c.t+12+tks c.ms
def C.t2 (c:C):Nat:=c.t1+c.att.length
def C.hasD (c:C):Bool:=c.bases.isEmpty
def C.hasW (c:C):Bool:=match c.bases with|[]=>true|[.type _]=>true|_=>false
def C.cls (c:C):Nat:=c.n1+2
def C.ns (c:C):Nat:=c.n1+1
def C.ents (P:Params) (c:C):List DictEntry:=c.walk (λ_ m n t=>[en P m.nm (m.keyTok t) (.ref (m.fn n))]) 0 (c.n+7) (c.t+12) c.ms++[en P (S [95,95,115,116,97,116,105,99,95,97,116,116,114,105,98,117,116,101,115,95,95]) c.t2 (.ref c.n1)]
def C.kD (c:C):Nat:=match c.hasD with|true=>2|false=>0
def C.kW (c:C):Nat:=match c.hasW with|true=>2|false=>0
def C.entsD (P:Params) (c:C):List DictEntry:=match c.hasD with
 |true=>[en P (S [95,95,100,105,99,116,95,95]) (c.t2+2) (.ref (c.cls+1))]
 |false=>[]
def C.entsW (P:Params) (c:C):List DictEntry:=match c.hasW with
 |true=>[en P (S [95,95,119,101,97,107,114,101,102,95,95]) (c.t2+c.kD+2) (.ref (c.cls+1+c.kD/2))]
 |false=>[]
def C.clsO (c:C) (subs:List Value):Obj:=⟨.type "type",none,.cls {name:=c.nm,bases:=(match c.bases with|[]=>[.type "object"] |l=>l),mro:=.ref c.cls::c.anc,ns:=c.ns,qualname:=c.nm,hasDict:=true,slotNames:=[],subclasses:=subs,abstract:=false,collection:=none,hasDel:=false},
 ⟨[(match c.bases with|[]=>none|_=>some (.ref c.n)),none,some (.str c.nm c.t),some (.str c.nm (c.t+8)),some (.builtin c.newId),some (.bool true)]⟩⟩
def C.nsO (P:Params) (c:C):Obj:=b9s ([en P (S [95,95,109,111,100,117,108,101,95,95]) (c.t+7) c.pm,en P (S [95,95,102,105,114,115,116,108,105,110,101,110,111,95,95]) (c.t+11) (.int (.ofNat c.line) (c.t+10))]++c.ents P++c.entsD P++c.entsW P++[en P (S [95,95,100,111,99,95,95]) (c.t2+c.kD+c.kW+1) .none]) (2+c.kD/2+c.kW/2)
def C.objs (P:Params) (c:C):List Obj:=
 [eI c.bases,r4 "builtin_function_or_method" [.builtin "type.__prepare__",.type "type"],
  b9s ([en P (S [95,95,109,111,100,117,108,101,95,95]) (c.t+7) c.pm,en P (S [95,95,113,117,97,108,110,97,109,101,95,95]) (c.t+9) (.str c.nm (c.t+8)),en P (S [95,95,102,105,114,115,116,108,105,110,101,110,111,95,95]) (c.t+11) (.int (.ofNat c.line) (c.t+10))]++c.ents P) (4+c.ms.length),
  eI [],b8k (c.walk (λ_ m n _=>[cE m.line,cE 4,.ref (m.code n)]) 0 (c.n+7) 0 c.ms),
  r4 "code" [.str c.nm (c.t+2),.str c.nm (c.t+3),.str cut (c.t+4),cE c.line,cE 0,cE 0,cE 0,cE 0,.ref (c.n+3),.bool false,cE 181,.ref (c.n+4),.none,.none,.none,.none,cE (c.t+5),cE c.line,.str cut (c.t+6)],
  ⟨.type "frame",none,.plain,⟨[some (.ref (c.n+5)),some (.ref 3),some (.ref (c.n+2)),none,some c.pm,none,some (.ref 0)]⟩⟩]++
 c.walk (λj m n t=>m.objs (g7l c.i j) (c.qual m) n t c.pm) 0 (c.n+7) (c.t+12) c.ms++
 [eI (d1s c.t1 c.att),c.nsO P,c.clsO []]++
 (match c.hasD with|true=>[r4 "getset_descriptor" [.str (S [95,95,100,105,99,116,95,95]) (c.t2+1),.ref c.cls,.builtin "function.__dict__",.builtin "function.__dict__#set"]] |false=>[])++
 (match c.hasW with|true=>[r4 "getset_descriptor" [.str (S [95,95,119,101,97,107,114,101,102,95,95]) (c.t2+c.kD+1),.ref c.cls,.builtin "ExceptionGroup.__weakref__",.none]] |false=>[])++
 [r4 "super" [.ref c.cls,.ref c.cls,.ref c.cls],r4 "builtin_function_or_method" [.builtin "object.__init_subclass__",.ref c.cls]]
end Mine
namespace Mine
open PySem PySem.W PySem.Calls PySem.Challenge
local macro_rules | `(tactic| trivial) => `(tactic| exact ⟨λ_ _ => by kernel_rfl,λ_ => by kernel_rfl⟩)
noncomputable section
abbrev z0:=S [95,95,100,111,99,95,95]
abbrev z1:=S [95,95,112,97,99,107,97,103,101,95,95]
abbrev z2:=S [95,95,108,111,97,100,101,114,95,95]
abbrev z3:=S [95,95,115,112,101,99,95,95]
abbrev z4:=S [95,95,97,110,110,111,116,97,116,105,111,110,115,95,95]
abbrev z5:=S [95,95,98,117,105,108,116,105,110,115,95,95]
abbrev z6:=S [95,95,102,105,108,101,95,95]
abbrev z7:=S [47,99,108,97,105,109,47,99,117,116,46,112,121]
abbrev z8:=S [95,95,99,97,99,104,101,100,95,95]
abbrev z9:=S [95,119,97,108,108]
abbrev z10:=S [75,95,78,65,77,69]
abbrev z11:=S [75,95,85,78,65,82,89]
abbrev z12:=S [75,95,66,73,78,65,82,89]
abbrev z13:=S [75,95,76,79,71,73,67]
abbrev z14:=S [75,95,65,83,83,73,71,78]
abbrev z15:=S [75,95,80,73,67,75]
abbrev z16:=S [75,95,70,85,78,67]
abbrev z17:=S [75,95,65,83]
abbrev z18:=S [75,95,65,83,67,79,78,83,84]
abbrev z19:=S [75,95,83,65,84,73,83,70,73,69,83]
abbrev z20:=S [75,95,78,79,78,78,85,76,76]
abbrev z21:=S [75,95,80,65,82,69,78]
abbrev z22:=S [75,95,79,66,74,80,65,84]
abbrev z23:=S [75,95,65,82,82,80,65,84]
abbrev z24:=S [75,95,66,73,78,68]
abbrev z25:=S [75,95,70,73,76,69]
abbrev z26:=S [75,95,86,65,82]
abbrev z27:=S [75,95,68,69,67,76]
abbrev z28:=S [75,95,69,88,80,82,83,84]
abbrev z29:=S [75,95,73,70]
abbrev z30:=S [75,95,87,72,73,76,69]
abbrev z31:=S [75,95,68,79]
abbrev z32:=S [75,95,70,79,82]
abbrev z33:=S [75,95,70,79,82,79,70]
abbrev z34:=S [75,95,70,79,82,73,78]
abbrev z35:=S [75,95,83,87,73,84,67,72]
abbrev z36:=S [75,95,67,65,83,69]
abbrev z37:=S [75,95,82,69,84,85,82,78]
abbrev z38:=S [75,95,66,82,69,65,75]
abbrev z39:=S [75,95,67,79,78,84,73,78,85,69]
abbrev z40:=S [75,95,76,65,66,69,76]
abbrev z41:=S [75,95,84,72,82,79,87]
abbrev z42:=S [75,95,84,82,89]
abbrev z43:=S [75,95,67,65,84,67,72]
abbrev z44:=S [75,95,66,76,79,67,75]
abbrev z45:=S [75,95,69,77,80,84,89]
abbrev z46:=S [75,95,67,76,65,83,83]
abbrev z47:=S [75,95,73,78,84,69,82,70,65,67,69]
abbrev z48:=S [75,95,65,76,73,65,83]
abbrev z49:=S [75,95,69,78,85,77]
abbrev z50:=S [70,95,65,82,82,79,87]
abbrev z51:=S [70,95,69,88,80,82,66,79,68,89]
abbrev z52:=S [70,95,80,82,73,86,65,84,69]
abbrev z53:=S [70,95,80,82,79,84,69,67,84,69,68]
abbrev z54:=S [70,95,80,85,66,76,73,67]
abbrev z55:=S [70,95,82,69,65,68,79,78,76,89]
abbrev z56:=S [70,95,83,84,65,84,73,67]
abbrev z57:=S [70,95,65,66,83,84,82,65,67,84]
abbrev z58:=S [70,95,79,86,69,82,82,73,68,69]
abbrev z59:=S [70,95,66,65,78,71]
abbrev z60:=S [70,95,65,77,66,73,69,78,84]
abbrev z61:=S [78,111,100,101]
abbrev z62:=S [108,101,97,102]
abbrev z63:=S [116,119,105,103]
abbrev z64:=S [102,108,97,103,103,101,100]
abbrev z65:=S [110,97,109,101,115,95,105,110,95,112,97,116,116,101,114,110]
abbrev z66:=S [75,101,101,112,69,114,114,111,114]
abbrev z67:=S [84,111,111,68,101,101,112]
abbrev z68:=S [80,97,114,115,101,83,116,111,112]
abbrev z69:=S [72,111,115,116,70,97,117,108,116]
abbrev z70:=S [68,105,97,103]
abbrev z71:=S [68,105,97,103,115]
abbrev z72:=S [68,73,71,73,84,95,76,69,84,84,69,82,83]
abbrev z73:=S [48,49,50,51,52,53,54,55,56,57]
abbrev z74:=S [78,65,77,69,95,76,69,84,84,69,82,83]
abbrev z75:=S [97,98,99,100,101,102,103,104,105,106,107,108,109,110,111,112,113,114,115,116,117,118,119,120,121,122,65,66,67,68,69,70,71,72,73,74,75,76,77,78,79,80,81,82,83,84,85,86,87,88,89,90,95,36]
abbrev z76:=S [77,79,83,84,95,87,73,84,72,73,78]
abbrev z77:=S [65,83,95,75,73,78,68,83]
abbrev z78:=S [77,79,68,73,70,73,69,82,83]
abbrev z79:=S [105,115,95,119,111,114,100,95,108,101,116,116,101,114]
abbrev z80:=S [109,111,100,105,102,105,101,114,115,95,111,102]
abbrev z81:=S [111,112,101,110,115,95,98,97,100,108,121]
abbrev z82:=S [111,112,101,110,95,105,102]
abbrev z83:=S [101,120,112,111,115,101,100,95,105,110]
abbrev z84:=S [83,104,97,112,101]
abbrev z85:=S [65,110,103,108,101,115]
abbrev z86:=S [80,114,105,110,116,101,114]
abbrev z87:=S [114,111,119,95,115,116,97,114,116]
abbrev z88:=S [98,114,97,99,101,100]
abbrev z89:=S [114,111,119,115,95,116,101,120,116]
abbrev z90:=S [116,97,105,108,95,111,102]
abbrev z91:=S [115,117,98,95,116,101,120,116]
abbrev z92:=S [97,102,116,101,114,95,115,117,98]
abbrev z93:=S [105,110,95,103,117,97,114,100,101,100]
abbrev z94:=S [100,101,99,108,95,116,101,120,116]
abbrev z95:=S [118,97,114,95,116,101,120,116]
abbrev z96:=S [70,105,108,101,83,104,97,112,101]
abbrev z97:=S [66,108,111,99,107,83,104,97,112,101]
abbrev z98:=S [69,109,112,116,121,83,104,97,112,101]
abbrev z99:=S [86,97,114,83,104,97,112,101]
abbrev e9j:=S [69,120,112,114,83,116,83,104,97,112,101]
abbrev e8x:=S [73,102,83,104,97,112,101]
abbrev e9g:=S [87,104,105,108,101,83,104,97,112,101]
abbrev e2i:=S [68,111,83,104,97,112,101]
abbrev f2u:=S [70,111,114,83,104,97,112,101]
abbrev f3m:=S [102,105,114,115,116,95,116,101,120,116]
abbrev f1d:=S [70,111,114,69,97,99,104,83,104,97,112,101]
abbrev e2r:=S [83,119,105,116,99,104,83,104,97,112,101]
abbrev f1p:=S [67,97,115,101,83,104,97,112,101]
abbrev f0o:=S [82,101,116,117,114,110,83,104,97,112,101]
abbrev e4z:=S [74,117,109,112,83,104,97,112,101]
abbrev e7v:=S [76,97,98,101,108,83,104,97,112,101]
abbrev e1b:=S [84,104,114,111,119,83,104,97,112,101]
abbrev e3z:=S [84,114,121,83,104,97,112,101]
abbrev e5q:=S [67,97,116,99,104,83,104,97,112,101]
abbrev f2g:=S [84,95,69,78,68]
abbrev e5g:=S [84,95,78,65,77,69]
abbrev f0j:=S [84,95,87,79,82,68]
abbrev e8l:=S [84,95,83,73,71,78]
abbrev d9z:=S [84,111,107,101,110]
abbrev e3r:=S [77,65,88,95,68,69,69,80]
abbrev e1u:=S [77,65,88,95,72,69,73,71,72,84]
abbrev e9u:=S [80,65,82,84,95,84,89,80,69]
abbrev e3d:=S [80,65,82,84,95,69,88,80,82]
abbrev e1c:=S [80,65,82,84,95,83,84,77,84]
abbrev e6v:=S [80,65,82,84,95,66,76,79,67,75]
abbrev g5y:=S [80,65,82,84,95,70,85,78,67]
abbrev g5g:=S [80,65,82,84,95,67,76,65,83,83]
abbrev e2y:=S [80,65,82,84,95,80,65,84,84,69,82,78]
abbrev e4s:=S [79,87,78,95,80,65,82,84,83]
abbrev e6w:=S [80,97,114,116]
abbrev e0b:=S [80,97,114,115,101,114]
abbrev f0v:=S [114,101,97,100,95,97,112,97,114,116]
abbrev e6f:=S [105,115,95,116,111,107,101,110]
abbrev e4u:=S [99,104,101,99,107,95,104,101,105,103,104,116]
abbrev e1h:=S [101,97,116,95,116,111,107,101,110]
abbrev e5v:=S [76,79,79,80,95,87,79,82,68,83]
abbrev e5l:=S [82,101,97,100,101,114]
abbrev e1w:=S [83,116,109,116,80,97,114,116]
abbrev e8i:=S [66,108,111,99,107,80,97,114,116]
abbrev d9k:=S [114,101,97,100,95,115,116,97,116,101,109,101,110,116]
abbrev e8k:=S [114,101,97,100,95,114,111,119,115]
abbrev e1n:=S [114,101,97,100,95,99,111,110,100,105,116,105,111,110]
abbrev f3v:=S [105,115,95,100,101,99,108,97,114,97,116,105,111,110]
abbrev e9h:=S [114,101,97,100,95,115,117,98]
abbrev e5e:=S [114,101,97,100,95,108,111,111,112,95,98,111,100,121]
abbrev d9m:=S [108,101,116,95,111,112,101,110,115]
abbrev e6k:=S [114,101,97,100,95,100,101,99,108]
abbrev f0m:=S [114,101,97,100,95,118,97,114]
abbrev e3h:=S [99,104,101,99,107,95,118,97,114]
abbrev e8j:=S [99,104,101,99,107,95,97,109,98,105,101,110,116]
abbrev e6r:=S [99,104,101,99,107,95,98,97,110,103]
abbrev f1w:=S [114,101,97,100,95,118,97,114,95,114,111,119]
abbrev e5j:=S [86,97,114,82,101,97,100,101,114]
abbrev e6j:=S [76,101,116,82,101,97,100,101,114]
abbrev e2w:=S [73,102,82,101,97,100,101,114]
abbrev e2s:=S [87,104,105,108,101,82,101,97,100,101,114]
abbrev e8o:=S [68,111,82,101,97,100,101,114]
abbrev e0w:=S [70,111,114,82,101,97,100,101,114]
abbrev e9d:=S [114,101,97,100,95,102,111,114,95,102,105,114,115,116]
abbrev e1m:=S [114,101,97,100,95,111,112,116,105,111,110,97,108]
abbrev f4a:=S [114,101,97,100,95,102,111,114,95,101,97,99,104]
abbrev e3a:=S [83,119,105,116,99,104,82,101,97,100,101,114]
abbrev e6o:=S [114,101,97,100,95,99,97,115,101]
abbrev e8p:=S [101,110,100,115,95,99,97,115,101]
abbrev e8y:=S [82,101,116,117,114,110,82,101,97,100,101,114]
abbrev f4c:=S [74,117,109,112,82,101,97,100,101,114]
abbrev e4j:=S [108,97,98,101,108,95,114,111,119]
abbrev e2m:=S [99,104,101,99,107,95,98,114,101,97,107]
abbrev f1l:=S [99,104,101,99,107,95,99,111,110,116,105,110,117,101]
abbrev e3s:=S [76,97,98,101,108,82,101,97,100,101,114]
abbrev f2y:=S [108,97,98,101,108,115,95,108,111,111,112]
abbrev e0d:=S [84,104,114,111,119,82,101,97,100,101,114]
abbrev e9e:=S [84,114,121,82,101,97,100,101,114]
abbrev e7e:=S [114,101,97,100,95,99,97,116,99,104]
abbrev f1u:=S [115,116,109,116,95,119,111,114,100,115]
abbrev f2e:=S [105,110,115,116,97,108,108,95,115,116,109,116,95,112,108,97,105,110]
abbrev f1o:=S [105,110,115,116,97,108,108,95,115,116,109,116,95,108,111,111,112,115]
abbrev f3i:=S [105,110,115,116,97,108,108,95,115,116,109,116,95,106,117,109,112,115]
abbrev e7x:=S [78,97,109,101,80,97,114,116]
abbrev e8b:=S [78,97,109,101,83,104,97,112,101]
abbrev e0q:=S [95,108,97,119,95,108,101,116,116,101,114,115]
abbrev g8i:=S [97,98,99,100,101,102,103,104,105,106,107,108,109,110,111,112,113,114,115,116,117,118,119,120,121,122]
abbrev e3c:=S [95,108,97,119,95,119,111,114,100,115]
abbrev e3w:=S [95,108,97,119,95,110,97,109,101,115]
abbrev e0a:=S [95,108,97,119,95,116,97,107,101]
abbrev e0z:=S [95,108,97,119,95,110,97,109,101]
abbrev d9s:=S [95,108,97,119,95,98,111,117,110,100]
abbrev e1i:=S [95,108,97,119,95,109,97,121,98,101]
abbrev e7m:=S [95,108,97,119,95,118,97,114]
abbrev e9n:=S [95,108,97,119,95,114,111,119,115]
abbrev e9p:=S [95,108,97,119,95,98,108,111,99,107]
abbrev e1o:=S [95,108,97,119,95,106,117,109,112]
abbrev f3y:=S [95,108,97,119,95,108,111,111,112]
abbrev e9b:=S [95,108,97,119,95,115,119,105,116,99,104]
abbrev e2v:=S [95,108,97,119,95,116,114,121]
abbrev e4i:=S [95,108,97,119,95,108,97,98,101,108]
abbrev e1l:=S [95,108,97,119,95,115,116,109,116]
abbrev f0w:=S [95,108,97,119,95,111,112,101,110]
abbrev e2z:=S [95,108,97,119,95,108,105,115,116,101,100]
abbrev e5k:=S [95,108,97,119,95,98,114,97,99,101,100]
abbrev f0e:=S [95,108,97,119,95,115,117,98]
abbrev f0i:=S [95,108,97,119,95,98,101,104,105,110,100]
abbrev e0v:=S [95,108,97,119,95,100,101,99,108,115]
abbrev e8e:=S [95,108,97,119,95,112,97,114,116]
abbrev e7q:=S [95,108,97,119,95,116,101,120,116]
abbrev e6c:=S [95,108,97,119,95,116,111,107,101,110,115]
abbrev f3e:=S [95,108,97,119,95,114,101,97,100]
abbrev e6i:=S [95,108,97,119,95,102,105,116,115]
abbrev f3x:=S [95,108,97,119,95,98,97,114,101]
abbrev f0r:=S [95,108,97,119,95,112,114,105,110,116,101,114]
abbrev f4b:=S [108,97,119]
abbrev g0f:=S [95,95,110,97,109,101,95,95]
abbrev h3a:=S [98,117,105,108,116,105,110,115]
abbrev g1e:=S [95,95,98,117,105,108,100,95,99,108,97,115,115,95,95]
abbrev g9r:=S [95,95,105,109,112,111,114,116,95,95]
abbrev g9d:=S [97,98,115]
abbrev h1j:=S [97,108,108]
abbrev g5w:=S [97,110,121]
abbrev h0x:=S [97,115,99,105,105]
abbrev h2s:=S [98,105,110]
abbrev g7n:=S [98,114,101,97,107,112,111,105,110,116]
abbrev g4v:=S [99,97,108,108,97,98,108,101]
abbrev g4x:=S [99,104,114]
abbrev g4k:=S [99,111,109,112,105,108,101]
abbrev g0x:=S [100,101,108,97,116,116,114]
abbrev g6o:=S [100,105,114]
abbrev g4y:=S [100,105,118,109,111,100]
abbrev h1o:=S [101,118,97,108]
abbrev g4h:=S [101,120,101,99]
abbrev g3t:=S [102,111,114,109,97,116]
abbrev h2m:=S [103,101,116,97,116,116,114]
abbrev g7j:=S [103,108,111,98,97,108,115]
abbrev g7q:=S [104,97,115,97,116,116,114]
abbrev g2d:=S [104,97,115,104]
abbrev h1q:=S [104,101,120]
abbrev g4b:=S [105,100]
abbrev g3w:=S [105,110,112,117,116]
abbrev g0s:=S [105,115,105,110,115,116,97,110,99,101]
abbrev g2e:=S [105,115,115,117,98,99,108,97,115,115]
abbrev g9a:=S [105,116,101,114]
abbrev g3l:=S [97,105,116,101,114]
abbrev g8w:=S [108,101,110]
abbrev g3h:=S [108,111,99,97,108,115]
abbrev h2d:=S [109,97,120]
abbrev g3b:=S [109,105,110]
abbrev h1i:=S [110,101,120,116]
abbrev g3x:=S [97,110,101,120,116]
abbrev g4i:=S [111,99,116]
abbrev g2b:=S [111,114,100]
abbrev f9u:=S [112,111,119]
abbrev g1s:=S [112,114,105,110,116]
abbrev g0l:=S [114,101,112,114]
abbrev g9q:=S [114,111,117,110,100]
abbrev g8p:=S [115,101,116,97,116,116,114]
abbrev h1a:=S [115,111,114,116,101,100]
abbrev g8q:=S [115,117,109]
abbrev g9g:=S [118,97,114,115]
abbrev g1f:=S [78,111,110,101]
abbrev g4g:=S [69,108,108,105,112,115,105,115]
abbrev g3d:=S [78,111,116,73,109,112,108,101,109,101,110,116,101,100]
abbrev g0t:=S [70,97,108,115,101]
abbrev h2r:=S [84,114,117,101]
abbrev g8j:=S [98,111,111,108]
abbrev g0u:=S [109,101,109,111,114,121,118,105,101,119]
abbrev h0u:=S [98,121,116,101,97,114,114,97,121]
abbrev g4o:=S [98,121,116,101,115]
abbrev g1h:=S [99,108,97,115,115,109,101,116,104,111,100]
abbrev g8k:=S [99,111,109,112,108,101,120]
abbrev g5z:=S [100,105,99,116]
abbrev h2t:=S [101,110,117,109,101,114,97,116,101]
abbrev h0z:=S [102,105,108,116,101,114]
abbrev g9z:=S [102,108,111,97,116]
abbrev g2p:=S [102,114,111,122,101,110,115,101,116]
abbrev g2i:=S [112,114,111,112,101,114,116,121]
abbrev g0j:=S [105,110,116]
abbrev g9j:=S [108,105,115,116]
abbrev h0l:=S [109,97,112]
abbrev g3y:=S [111,98,106,101,99,116]
abbrev g6x:=S [114,97,110,103,101]
abbrev h1h:=S [114,101,118,101,114,115,101,100]
abbrev h2l:=S [115,101,116]
abbrev g0b:=S [115,108,105,99,101]
abbrev h1x:=S [115,116,97,116,105,99,109,101,116,104,111,100]
abbrev h1c:=S [115,116,114]
abbrev h2v:=S [115,117,112,101,114]
abbrev g5s:=S [116,117,112,108,101]
abbrev e1e:=S [116,121,112,101]
abbrev g0v:=S [122,105,112]
abbrev g7f:=S [95,95,100,101,98,117,103,95,95]
abbrev g2l:=S [66,97,115,101,69,120,99,101,112,116,105,111,110]
abbrev g1z:=S [66,97,115,101,69,120,99,101,112,116,105,111,110,71,114,111,117,112]
abbrev g0m:=S [69,120,99,101,112,116,105,111,110]
abbrev g1b:=S [71,101,110,101,114,97,116,111,114,69,120,105,116]
abbrev g2u:=S [75,101,121,98,111,97,114,100,73,110,116,101,114,114,117,112,116]
abbrev g1p:=S [83,121,115,116,101,109,69,120,105,116]
abbrev h2n:=S [65,114,105,116,104,109,101,116,105,99,69,114,114,111,114]
abbrev g0i:=S [65,115,115,101,114,116,105,111,110,69,114,114,111,114]
abbrev g9x:=S [65,116,116,114,105,98,117,116,101,69,114,114,111,114]
abbrev g5d:=S [66,117,102,102,101,114,69,114,114,111,114]
abbrev h2y:=S [69,79,70,69,114,114,111,114]
abbrev g9o:=S [73,109,112,111,114,116,69,114,114,111,114]
abbrev h1m:=S [76,111,111,107,117,112,69,114,114,111,114]
abbrev g3a:=S [77,101,109,111,114,121,69,114,114,111,114]
abbrev g1l:=S [78,97,109,101,69,114,114,111,114]
abbrev g1o:=S [79,83,69,114,114,111,114]
abbrev g1a:=S [82,101,102,101,114,101,110,99,101,69,114,114,111,114]
abbrev g3s:=S [82,117,110,116,105,109,101,69,114,114,111,114]
abbrev g9t:=S [83,116,111,112,65,115,121,110,99,73,116,101,114,97,116,105,111,110]
abbrev g3q:=S [83,116,111,112,73,116,101,114,97,116,105,111,110]
abbrev g8m:=S [83,121,110,116,97,120,69,114,114,111,114]
abbrev g8g:=S [83,121,115,116,101,109,69,114,114,111,114]
abbrev g0z:=S [84,121,112,101,69,114,114,111,114]
abbrev g2s:=S [86,97,108,117,101,69,114,114,111,114]
abbrev g5a:=S [87,97,114,110,105,110,103]
abbrev g4s:=S [70,108,111,97,116,105,110,103,80,111,105,110,116,69,114,114,111,114]
abbrev h2b:=S [79,118,101,114,102,108,111,119,69,114,114,111,114]
abbrev g8r:=S [90,101,114,111,68,105,118,105,115,105,111,110,69,114,114,111,114]
abbrev g3o:=S [66,121,116,101,115,87,97,114,110,105,110,103]
abbrev h0k:=S [68,101,112,114,101,99,97,116,105,111,110,87,97,114,110,105,110,103]
abbrev g7k:=S [69,110,99,111,100,105,110,103,87,97,114,110,105,110,103]
abbrev g5k:=S [70,117,116,117,114,101,87,97,114,110,105,110,103]
abbrev g5t:=S [73,109,112,111,114,116,87,97,114,110,105,110,103]
abbrev g7b:=S [80,101,110,100,105,110,103,68,101,112,114,101,99,97,116,105,111,110,87,97,114,110,105,110,103]
abbrev g2h:=S [82,101,115,111,117,114,99,101,87,97,114,110,105,110,103]
abbrev g2k:=S [82,117,110,116,105,109,101,87,97,114,110,105,110,103]
abbrev h0t:=S [83,121,110,116,97,120,87,97,114,110,105,110,103]
abbrev h1n:=S [85,110,105,99,111,100,101,87,97,114,110,105,110,103]
abbrev g4e:=S [85,115,101,114,87,97,114,110,105,110,103]
abbrev g7d:=S [66,108,111,99,107,105,110,103,73,79,69,114,114,111,114]
abbrev g5q:=S [67,104,105,108,100,80,114,111,99,101,115,115,69,114,114,111,114]
abbrev g9u:=S [67,111,110,110,101,99,116,105,111,110,69,114,114,111,114]
abbrev g2a:=S [70,105,108,101,69,120,105,115,116,115,69,114,114,111,114]
abbrev g9w:=S [70,105,108,101,78,111,116,70,111,117,110,100,69,114,114,111,114]
abbrev h2o:=S [73,110,116,101,114,114,117,112,116,101,100,69,114,114,111,114]
abbrev h1e:=S [73,115,65,68,105,114,101,99,116,111,114,121,69,114,114,111,114]
abbrev g6c:=S [78,111,116,65,68,105,114,101,99,116,111,114,121,69,114,114,111,114]
abbrev g6u:=S [80,101,114,109,105,115,115,105,111,110,69,114,114,111,114]
abbrev g5o:=S [80,114,111,99,101,115,115,76,111,111,107,117,112,69,114,114,111,114]
abbrev g7s:=S [84,105,109,101,111,117,116,69,114,114,111,114]
abbrev g0n:=S [73,110,100,101,110,116,97,116,105,111,110,69,114,114,111,114]
abbrev h3h:=S [95,73,110,99,111,109,112,108,101,116,101,73,110,112,117,116,69,114,114,111,114]
abbrev g1v:=S [73,110,100,101,120,69,114,114,111,114]
abbrev g1t:=S [75,101,121,69,114,114,111,114]
abbrev g5n:=S [77,111,100,117,108,101,78,111,116,70,111,117,110,100,69,114,114,111,114]
abbrev h1k:=S [78,111,116,73,109,112,108,101,109,101,110,116,101,100,69,114,114,111,114]
abbrev g9n:=S [80,121,116,104,111,110,70,105,110,97,108,105,122,97,116,105,111,110,69,114,114,111,114]
abbrev g1k:=S [82,101,99,117,114,115,105,111,110,69,114,114,111,114]
abbrev h0j:=S [85,110,98,111,117,110,100,76,111,99,97,108,69,114,114,111,114]
abbrev g6s:=S [85,110,105,99,111,100,101,69,114,114,111,114]
abbrev g1g:=S [66,114,111,107,101,110,80,105,112,101,69,114,114,111,114]
abbrev h0i:=S [67,111,110,110,101,99,116,105,111,110,65,98,111,114,116,101,100,69,114,114,111,114]
abbrev g4c:=S [67,111,110,110,101,99,116,105,111,110,82,101,102,117,115,101,100,69,114,114,111,114]
abbrev g2t:=S [67,111,110,110,101,99,116,105,111,110,82,101,115,101,116,69,114,114,111,114]
abbrev h2j:=S [84,97,98,69,114,114,111,114]
abbrev g7r:=S [85,110,105,99,111,100,101,68,101,99,111,100,101,69,114,114,111,114]
abbrev h3e:=S [85,110,105,99,111,100,101,69,110,99,111,100,101,69,114,114,111,114]
abbrev g0k:=S [85,110,105,99,111,100,101,84,114,97,110,115,108,97,116,101,69,114,114,111,114]
abbrev g8b:=S [69,120,99,101,112,116,105,111,110,71,114,111,117,112]
abbrev g2n:=S [69,110,118,105,114,111,110,109,101,110,116,69,114,114,111,114]
abbrev g0c:=S [73,79,69,114,114,111,114]
abbrev g7v:=S [111,112,101,110]
abbrev h1b:=S [113,117,105,116]
abbrev h0g:=S [101,120,105,116]
abbrev g9p:=S [99,111,112,121,114,105,103,104,116]
abbrev g2g:=S [99,114,101,100,105,116,115]
abbrev g7z:=S [108,105,99,101,110,115,101]
abbrev g3k:=S [104,101,108,112]
abbrev a9j:=S [95,95,109,97,105,110,95,95]
abbrev g1u:=S [107]
abbrev g5b:=S [107,105,110,100,107,101,101,112,46,110,111,100,101,115]
abbrev aG:=S [115,101,108,102]
abbrev dJ:=S [107,105,110,100]
abbrev pC:=S [97]
abbrev oX:=S [107,105,100,115]
abbrev lO:=S [102,108,97,103,115]
abbrev bF:=S [97,116]
abbrev nL:=S [95,95,105,110,105,116,95,95]
abbrev e0f:=S [110,105,100]
abbrev f0l:=S [112,97,116,116,101,114,110]
abbrev jE:=S [111,117,116]
abbrev b9k:=S [115,116,97,99,107]
abbrev aK:=S [110,111,100,101]
abbrev h0d:=S [107,105,110,100,107,101,101,112,46,100,105,97,103,115]
abbrev aT:=S [116,101,120,116]
abbrev b0t:=S []
abbrev lL:=S [110,117,109,98,101,114]
abbrev b1c:=S [97,114,103,115]
abbrev a2w:=S [102,105,108,101]
abbrev a9v:=S [114,111,119]
abbrev g9l:=S [112,117,116]
abbrev g8a:=S [110,117,109,98,101,114,115]
abbrev iA:=S [114,111,119,115]
abbrev h0q:=S [107,105,110,100,107,101,101,112,46,112,114,105,110,116,95,98,97,115,101]
abbrev h0r:=S [100,101,99,108,97,114,101,32]
abbrev h2a:=S [112,117,98,108,105,99,32]
abbrev g4p:=S [112,114,111,116,101,99,116,101,100,32]
abbrev h0w:=S [112,114,105,118,97,116,101,32]
abbrev g8f:=S [115,116,97,116,105,99,32]
abbrev g5e:=S [97,98,115,116,114,97,99,116,32]
abbrev g9c:=S [111,118,101,114,114,105,100,101,32]
abbrev g0y:=S [114,101,97,100,111,110,108,121,32]
abbrev g8n:=S [108,101,116,116,101,114]
abbrev e3f:=S [102,108,97,103]
abbrev fG:=S [119,111,114,100]
abbrev e6m:=S [97,102,116,101,114]
abbrev b6:=S [112,114]
abbrev g5f:=S [107,110,111,119,115]
abbrev a8o:=S [110,111,100,101,115]
abbrev g3i:=S [115,101,116,116,108,101]
abbrev h2p:=S [119,114,97,112,115]
abbrev f0c:=S [98,114,101,97,107,115]
abbrev jV:=S [98,111,100,121]
abbrev a9u:=S [99,111,118,101,114,115]
abbrev e8t:=S [115,104,97,112,101]
abbrev e0x:=S [98,108,111,99,107]
abbrev e3b:=S [97,110,103,108,101,115]
abbrev i7:=S [100,101,101,112]
abbrev b6r:=S [100,101,112,116,104]
abbrev e4l:=S [115,104,97,112,101,115]
abbrev b7q:=S [116,97,105,108]
abbrev b5z:=S [98,101,102,111,114,101]
abbrev g7w:=S [107,105,110,100,107,101,101,112,46,112,114,105,110,116,101,114]
abbrev b6q:=S [99,108,111,115,101,100]
abbrev b5v:=S [105,110,95,104,101,97,100]
abbrev b7d:=S [105,110,105,116]
abbrev rW:=S [100,101,99,108]
abbrev a3j:=S [107,105,100]
abbrev tF:=S [104,101,97,100]
abbrev sK:=S [116,104,101,110]
abbrev tO:=S [108,97,115,116]
abbrev oW:=S [102,105,114,115,116]
abbrev j7:=S [116,101,115,116]
abbrev uN:=S [115,116,101,112]
abbrev g6y:=S [107,105,110,100,107,101,101,112,46,115,99,97,110,110,101,114]
abbrev b7u:=S [110,117,109]
abbrev b8z:=S [101,110,100]
abbrev b9a:=S [108,105,110,101,95,98,101,102,111,114,101]
abbrev g6g:=S [107,105,110,100,107,101,101,112,46,112,99,111,114,101]
abbrev aM:=S [112]
abbrev a8n:=S [112,97,114,115,101]
abbrev rN:=S [116,111,107,101,110,115]
abbrev b6c:=S [100,105,97,103,115]
abbrev e7i:=S [110,111,119]
abbrev xA:=S [110]
abbrev e9k:=S [112,108,97,99,101]
abbrev f0d:=S [97,104,101,97,100]
abbrev jF:=S [116,111,107,101,110]
abbrev e9f:=S [105,115,95,115,105,103,110]
abbrev e5a:=S [105,115,95,119,111,114,100]
abbrev e3p:=S [105,115,95,110,97,109,101]
abbrev f2b:=S [101,97,116,95,115,105,103,110]
abbrev e7z:=S [101,97,116,95,119,111,114,100]
abbrev g5m:=S [101,97,116,95,110,97,109,101]
abbrev e0r:=S [110,101,101,100,95,115,105,103,110]
abbrev e4x:=S [110,101,101,100,95,119,111,114,100]
abbrev d9o:=S [110,101,101,100,95,110,97,109,101]
abbrev g2z:=S [112,114,111,112,95,110,97,109,101]
abbrev g6t:=S [109,101,109,98,101,114,95,110,97,109,101]
abbrev g5l:=S [102,97,117,108,116]
abbrev f9t:=S [102,97,117,108,116,95,97,116]
abbrev e2q:=S [99,97,110,95,101,110,100]
abbrev f0s:=S [101,110,100,95,115,116,97,116,101,109,101,110,116]
abbrev e0j:=S [100,111,119,110]
abbrev e2b:=S [117,112]
abbrev b9l:=S [112,97,114,116]
abbrev g9m:=S [109,97,114,107]
abbrev h2k:=S [98,97,99,107]
abbrev g1m:=S [107,101,101,112]
abbrev c0e:=S [97,108,108,111,119,95,105,110]
abbrev f1i:=S [99,111,109,109,97,115]
abbrev e0m:=S [102,105,114,115,116,115]
abbrev f2w:=S [105,110,95,102,117,110,99]
abbrev b8y:=S [105,110,95,108,105,116,101,114,97,108]
abbrev e0l:=S [105,110,95,108,111,111,112]
abbrev d9u:=S [105,110,95,115,119,105,116,99,104]
abbrev rF:=S [108,97,98,101,108,115]
abbrev b7k:=S [110,111,95,99,111,110,100]
abbrev e7d:=S [110,111,116,95,97,114,114,111,119]
abbrev e3o:=S [112,97,114,116,115]
abbrev f2n:=S [112,101,110,100,105,110,103]
abbrev b6g:=S [114,101,116,95,98,97,114]
abbrev b7w:=S [115,97,118,101,100]
abbrev f2a:=S [115,112,108,105,116,115]
abbrev e7r:=S [116,97,105,108,115]
abbrev e0i:=S [116,121,112,101,115]
abbrev e8r:=S [114,111,111,116]
abbrev e8w:=S [108,101,118,101,108]
abbrev g3j:=S [107,105,110,100,107,101,101,112,46,112,98,111,100,121]
abbrev e7c:=S [119,104,105,108,101]
abbrev e8g:=S [100,111]
abbrev e5z:=S [102,111,114]
abbrev c8o:=S [111,112,101,110,115]
abbrev jC:=S [114,101,97,100]
abbrev lT:=S [119,111,114,100,115]
abbrev e6a:=S [98,101,104,105,110,100]
abbrev e1d:=S [116,97,114,103,101,116]
abbrev e2g:=S [108,101,97,102,95,111,102]
abbrev b7p:=S [100,101,99,108,115]
abbrev c0c:=S [108,97,116,101]
abbrev f3z:=S [99,108,111,115,105,110,103]
abbrev b8c:=S [111,118,101,114]
abbrev b8f:=S [115,101,101,110]
abbrev c6m:=S [99,97,115,101]
abbrev a2h:=S [118,97,108,117,101]
abbrev a2f:=S [108,97,98,101,108]
abbrev mN:=S [110,97,109,101]
abbrev e2c:=S [99,97,117,103,104,116]
abbrev b6t:=S [115,116,97,114,116]
abbrev g9e:=S [107,105,110,100,107,101,101,112,46,112,102,117,110,99,115]
abbrev g5j:=S [107,105,110,100,107,101,101,112,46,112,114,105,110,116,95,101,120,112,114,115]
abbrev x5:=S [108,97,119,95,114,104,48,49,52,53,95,48,49]
abbrev g5v:=S [105,102]
abbrev h0c:=S [101,108,115,101]
abbrev h2x:=S [105,110]
abbrev g6j:=S [115,119,105,116,99,104]
abbrev g2o:=S [100,101,102,97,117,108,116]
abbrev g5r:=S [114,101,116,117,114,110]
abbrev h3c:=S [98,114,101,97,107]
abbrev g5u:=S [99,111,110,116,105,110,117,101]
abbrev h2q:=S [116,104,114,111,119]
abbrev g4d:=S [116,114,121]
abbrev h1d:=S [99,97,116,99,104]
abbrev h3d:=S [102,105,110,97,108,108,121]
abbrev g6q:=S [118,97,114]
abbrev g4t:=S [99,111,110,115,116]
abbrev g3v:=S [102]
abbrev g6z:=S [111,102]
abbrev g3p:=S [108,101,116]
abbrev h0h:=S [103,101,116]
abbrev g9v:=S [97,115,121,110,99]
abbrev g3c:=S [122]
abbrev dP:=S [100,105,103,105,116,115]
abbrev e8d:=S [109,111,115,116]
abbrev a3e:=S [105]
abbrev jI:=S [114,111,117,110,100,95,105,116]
abbrev a2i:=S [112,105,99,107]
abbrev xD:=S [108,111,111,112,115]
abbrev x4:=S [115,119,105,116,99,104,101,115]
abbrev e6e:=S [105,110,115,105,100,101]
abbrev a4d:=S [116,101,115,116,95,110,97,109,101]
abbrev b8s:=S [119,97,121]
abbrev e4o:=S [99,97,116,99,104,105,110,103]
abbrev f3l:=S [115,112,111,116]
abbrev f0u:=S [97,108,111,110,101]
abbrev e5s:=S [114,101,115,116]
abbrev rK:=S [112,97,100]
abbrev e7g:=S [102,114,101,115,104]
abbrev f1j:=S [100]
abbrev f2d:=S [114]
abbrev c5m:=S [111,119,110]
abbrev d9t:=S [101,97,99,104]
abbrev e4b:=S [106,117,109,112,95,115,104,97,112,101]
abbrev j1:Value:=.str h0d 377
abbrev f4:Value:=.str h0q 583
abbrev f0k:Value:=.str a9j 164
abbrev lM:Value:=.str g6g 1393
abbrev cI:Value:=.str x5 2446
abbrev b8i:Value:=.str g9e 2392
abbrev gN:Value:=.str g5b 194
abbrev b6s:Value:=.str g6y 1344
abbrev b8:Value:=.str g3j 1726
abbrev c0b:Value:=.str g5j 2419
abbrev bO:Value:=.str g7w 814
def mb0 (P:Params):List DictEntry:=[en P z0 166 .none,en P z1 167 .none,en P z2 168 (.builtin "__main__.__loader__#opaque"),en P z3 169 .none,en P z4 170 (.ref 6),en P z5 171 (.ref 4),en P z6 173 (.str z7 172),en P z8 174 .none,en P z9 193 (.ref 21),en P z10 197 (.int (8) 196),en P z11 199 (.int (21) 198),en P z12 201 (.int (23) 200),en P z13 203 (.int (24) 202),en P z14 205 (.int (25) 204),en P z15 207 (.int (26) 206),en P z16 209 (.int (27) 208),en P z17 211 (.int (29) 210),en P z18 213 (.int (30) 212),en P z19 215 (.int (31) 214),en P z20 217 (.int (32) 216)]
def mb1 (P:Params):List DictEntry:=[en P z21 219 (.int (33) 218),en P z22 221 (.int (34) 220),en P z23 223 (.int (35) 222),en P z24 225 (.int (36) 224),en P z25 227 (.int (40) 226),en P z26 229 (.int (41) 228),en P z27 231 (.int (42) 230),en P z28 233 (.int (43) 232),en P z29 235 (.int (44) 234),en P z30 237 (.int (45) 236),en P z31 239 (.int (46) 238),en P z32 241 (.int (47) 240),en P z33 243 (.int (48) 242),en P z34 245 (.int (49) 244),en P z35 247 (.int (50) 246),en P z36 249 (.int (51) 248),en P z37 251 (.int (52) 250),en P z38 253 (.int (53) 252),en P z39 255 (.int (54) 254),en P z40 257 (.int (55) 256)]
def mb2 (P:Params):List DictEntry:=[en P z41 259 (.int (56) 258),en P z42 261 (.int (57) 260),en P z43 263 (.int (58) 262),en P z44 265 (.int (59) 264),en P z45 267 (.int (60) 266),en P z46 269 (.int (61) 268),en P z47 271 (.int (64) 270),en P z48 273 (.int (65) 272),en P z49 275 (.int (66) 274),en P z50 277 (.int (4) 276),en P z51 279 (.int (8) 278),en P z52 281 (.int (16384) 280),en P z53 283 (.int (32768) 282),en P z54 285 (.int (65536) 284),en P z55 287 (.int (131072) 286),en P z56 289 (.int (262144) 288),en P z57 291 (.int (524288) 290),en P z58 293 (.int (1048576) 292),en P z59 295 (.int (2097152) 294),en P z60 297 (.int (4194304) 296)]
def mb3 (P:Params):List DictEntry:=[en P z61 335 (.ref 38),en P z62 344 (.ref 49),en P z63 354 (.ref 56),en P z64 365 (.ref 63),en P z65 376 (.ref 70),en P z66 409 (.ref 88),en P z67 438 (.ref 109),en P z68 465 (.ref 129),en P z69 492 (.ref 149),en P z70 534 (.ref 175),en P z71 582 (.ref 211),en P z72 586 (.str z73 585),en P z74 588 (.str z75 587),en P z76 590 (.int (200) 589),en P z77 591 (.ref 216),en P z78 600 (.ref 225),en P z79 607 (.ref 232),en P z80 617 (.ref 239),en P z81 626 (.ref 246),en P z82 633 (.ref 253)]
def mb4 (P:Params):List DictEntry:=[en P z83 640 (.ref 260),en P z84 669 (.ref 277),en P z85 728 (.ref 326),en P z86 777 (.ref 361),en P z87 784 (.ref 372),en P z88 793 (.ref 379),en P z89 804 (.ref 386),en P z90 813 (.ref 393),en P z91 824 (.ref 400),en P z92 833 (.ref 407),en P z93 842 (.ref 414),en P z94 853 (.ref 421),en P z95 864 (.ref 428),en P z96 891 (.ref 445),en P z97 916 (.ref 464),en P z98 941 (.ref 483),en P z99 966 (.ref 502),en P e9j 992 (.ref 521),en P e8x 1020 (.ref 540),en P e9g 1045 (.ref 559)]
def mb5 (P:Params):List DictEntry:=[en P e2i 1072 (.ref 578),en P f2u 1102 (.ref 597),en P f3m 1111 (.ref 606),en P f1d 1138 (.ref 623),en P e2r 1164 (.ref 642),en P f1p 1191 (.ref 661),en P f0o 1216 (.ref 680),en P e4z 1242 (.ref 699),en P e7v 1267 (.ref 718),en P e1b 1292 (.ref 737),en P e3z 1318 (.ref 756),en P e5q 1343 (.ref 775),en P f2g 1347 (.int (0) 1346),en P e5g 1349 (.int (1) 1348),en P f0j 1351 (.int (2) 1350),en P e8l 1353 (.int (5) 1352),en P d9z 1392 (.ref 794),en P e3r 1396 (.int (40) 1395),en P e1u 1398 (.int (160) 1397),en P e9u 1400 (.int (1) 1399)]
def mb6 (P:Params):List DictEntry:=[en P e3d 1402 (.int (2) 1401),en P e1c 1404 (.int (3) 1403),en P e6v 1406 (.int (4) 1405),en P g5y 1408 (.int (5) 1407),en P g5g 1410 (.int (6) 1409),en P e2y 1412 (.int (10) 1411),en P e4s 1413 (.ref 799),en P e6w 1441 (.ref 816),en P e0b 1681 (.ref 1005),en P f0v 1695 (.ref 1016),en P e6f 1704 (.ref 1023),en P e4u 1716 (.ref 1030),en P e1h 1725 (.ref 1037),en P e5v 1731 (.ref 1038),en P e5l 1767 (.ref 1062),en P e1w 1799 (.ref 1090),en P e8i 1824 (.ref 1109),en P d9k 1834 (.ref 1118),en P e8k 1842 (.ref 1125),en P e1n 1850 (.ref 1132)]
def mb7 (P:Params):List DictEntry:=[en P f3v 1857 (.ref 1139),en P e9h 1865 (.ref 1146),en P e5e 1873 (.ref 1153),en P d9m 1881 (.ref 1160),en P e6k 1894 (.ref 1167),en P f0m 1904 (.ref 1174),en P e3h 1914 (.ref 1181),en P e8j 1923 (.ref 1188),en P e6r 1932 (.ref 1195),en P f1w 1941 (.ref 1202),en P e5j 1965 (.ref 1219),en P e6j 1997 (.ref 1245),en P e2w 2025 (.ref 1264),en P e2s 2051 (.ref 1283),en P e8o 2078 (.ref 1302),en P e0w 2106 (.ref 1321),en P e9d 2116 (.ref 1330),en P e1m 2124 (.ref 1337),en P f4a 2136 (.ref 1344),en P e3a 2164 (.ref 1361)]
def mb8 (P:Params):List DictEntry:=[en P e6o 2174 (.ref 1370),en P e8p 2181 (.ref 1377),en P e8y 2207 (.ref 1394),en P f4c 2233 (.ref 1413),en P e4j 2242 (.ref 1422),en P e2m 2251 (.ref 1429),en P f1l 2261 (.ref 1436),en P e3s 2287 (.ref 1453),en P f2y 2296 (.ref 1462),en P e0d 2322 (.ref 1479),en P e9e 2350 (.ref 1498),en P e7e 2360 (.ref 1507),en P f1u 2367 (.ref 1514),en P f2e 2375 (.ref 1521),en P f1o 2383 (.ref 1528),en P f3i 2391 (.ref 1535),en P e7x 2418 (.ref 1552),en P e8b 2445 (.ref 1571),en P e0q 2449 (.str g8i 2448),en P e3c 2468 (.ref 1574)]
def mb9 (P:Params):List DictEntry:=[en P e3w 2476 (.ref 1575),en P e0a 2484 (.ref 1582),en P e0z 2491 (.ref 1589),en P d9s 2498 (.ref 1596),en P e1i 2505 (.ref 1603),en P e7m 2518 (.ref 1610),en P e9n 2524 (.ref 1615),en P e9p 2533 (.ref 1622),en P e1o 2539 (.ref 1627),en P f3y 2559 (.ref 1634),en P e9b 2575 (.ref 1641),en P e2v 2589 (.ref 1648),en P e4i 2604 (.ref 1655),en P e1l 2618 (.ref 1662),en P f0w 2625 (.ref 1669),en P e2z 2631 (.ref 1674),en P e5k 2639 (.ref 1681),en P f0e 2647 (.ref 1688),en P f0i 2656 (.ref 1695),en P e0v 2662 (.ref 1700)]
def h0e (P:Params):List DictEntry:=[en P e8e 2670 (.ref 1707),en P e7q 2684 (.ref 1714),en P e6c 2696 (.ref 1721),en P f3e 2705 (.ref 1728),en P e6i 2716 (.ref 1735),en P f3x 2727 (.ref 1742),en P f0r 2736 (.ref 1749),en P f4b 2742 (.ref 1754)]
def g7e (P:Params):List DictEntry:=mb0 P++(mb1 P++(mb2 P++(mb3 P++(mb4 P++(mb5 P++(mb6 P++(mb7 P++(mb8 P++(mb9 P++(h0e P))))))))))
abbrev q3 (l r:Nat) (z:List Value):List Value:=.int l 0::.int 0 0::.ref r::z
noncomputable def f9p:List Value:=q3 1 20<|q3 56 27<|q3 65 48<|q3 67 55<|q3 69 62<|q3 71 69<|q3 90 76<|q3 95 97<|q3 100 117<|q3 105 137<|q3 110 157<|q3 120 185<|q3 137 231<|q3 139 238<|q3 145 245<|q3 153 252<|q3 164 259<|q3 178 266<|q3 182 287<|q3 198 336<|q3 219 371<|q3 221 378<|q3 225 385<|q3 234 392<|q3 239 399<|q3 247 406<|q3 251 413<|q3 256 420<|q3 265 427<|q3 270 434<|q3 278 453<|q3 282 472<|q3 286 491<|q3 290 510<|q3 297 529<|q3 309 548<|q3 313 567<|q3 319 586<|q3 330 605<|q3 335 612<|q3 341 631<|q3 346 650<|q3 352 669<|q3 356 688<|q3 363 707<|q3 367 726<|q3 371 745<|q3 377 764<|q3 388 783<|q3 408 805<|q3 412 826<|q3 537 1015<|q3 555 1022<|q3 557 1029<|q3 568 1036<|q3 575 1044<|q3 582 1072<|q3 589 1098<|q3 594 1117<|q3 610 1124<|q3 617 1131<|q3 622 1138<|q3 626 1145<|q3 631 1152<|q3 636 1159<|q3 641 1166<|q3 657 1173<|q3 663 1180<|q3 673 1187<|q3 676 1194<|q3 685 1201<|q3 690 1208<|q3 694 1227<|q3 701 1253<|q3 711 1272<|q3 717 1291<|q3 726 1310<|q3 746 1329<|q3 760 1336<|q3 764 1343<|q3 780 1350<|q3 798 1369<|q3 810 1376<|q3 814 1383<|q3 825 1402<|q3 838 1421<|q3 843 1428<|q3 849 1435<|q3 857 1442<|q3 868 1461<|q3 876 1468<|q3 885 1487<|q3 899 1506<|q3 911 1513<|q3 916 1520<|q3 922 1527<|q3 927 1534<|q3 937 1541<|q3 943 1560<|q3 951 1581<|q3 953 1588<|q3 955 1595<|q3 957 1602<|q3 959 1609<|q3 968 1614<|q3 970 1621<|q3 972 1626<|q3 983 1633<|q3 1005 1640<|q3 1016 1647<|q3 1025 1654<|q3 1033 1661<|q3 1061 1668<|q3 1065 1673<|q3 1067 1680<|q3 1069 1687<|q3 1071 1694<|q3 1073 1699<|q3 1075 1706<|q3 1077 1713<|q3 1124 1720<|q3 1143 1727<|q3 1160 1734<|q3 1175 1741<|q3 1190 1748<|q3 1196 1753 []
def b0 (P:Params):Obj:=b9s [en P g0f 1 (.str h3a 160),en P z0 2 (.builtin "builtins.__doc__:str#opaque"),en P z1 3 (.builtin "builtins.__package__:str#opaque"),en P z2 4 (.builtin "builtins.__loader__:shared#opaque"),en P z3 5 (.builtin "builtins.__spec__#opaque"),en P g1e 6 (.builtin "__build_class__"),en P g9r 7 (.builtin "__import__"),en P g9d 8 (.builtin "abs"),en P h1j 9 (.builtin "all"),en P g5w 10 (.builtin "any"),en P h0x 11 (.builtin "ascii"),en P h2s 12 (.builtin "bin"),en P g7n 13 (.builtin "breakpoint"),en P g4v 14 (.builtin "callable"),en P g4x 15 (.builtin "chr"),en P g4k 16 (.builtin "compile"),en P g0x 17 (.builtin "delattr"),en P g6o 18 (.builtin "dir"),en P g4y 19 (.builtin "divmod"),en P h1o 20 (.builtin "eval"),en P g4h 21 (.builtin "exec"),en P g3t 22 (.builtin "format"),en P h2m 23 (.builtin "getattr"),en P g7j 24 (.builtin "globals"),en P g7q 25 (.builtin "hasattr"),en P g2d 26 (.builtin "hash"),en P h1q 27 (.builtin "hex"),en P g4b 28 (.builtin "id"),en P g3w 29 (.builtin "input"),en P g0s 30 (.builtin "isinstance"),en P g2e 31 (.builtin "issubclass"),en P g9a 32 (.builtin "iter"),en P g3l 33 (.builtin "aiter"),en P g8w 34 (.builtin "len"),en P g3h 35 (.builtin "locals"),en P h2d 36 (.builtin "max"),en P g3b 37 (.builtin "min"),en P h1i 38 (.builtin "next"),en P g3x 39 (.builtin "anext"),en P g4i 40 (.builtin "oct"),en P g2b 41 (.builtin "ord"),en P f9u 42 (.builtin "pow"),en P g1s 43 (.builtin "print"),en P g0l 44 (.builtin "repr"),en P g9q 45 (.builtin "round"),en P g8p 46 (.builtin "setattr"),en P h1a 47 (.builtin "sorted"),en P g8q 48 (.builtin "sum"),en P g9g 49 (.builtin "vars"),en P g1f 50 .none,en P g4g 51 .ellipsis,en P g3d 52 .notImplemented,en P g0t 53 (.bool false),en P h2r 54 (.bool true),en P g8j 55 (.type "bool"),en P g0u 56 (.type "memoryview"),en P h0u 57 (.type "bytearray"),en P g4o 58 (.type "bytes"),en P g1h 59 (.type "classmethod"),en P g8k 60 (.type "complex"),en P g5z 61 (.type "dict"),en P h2t 62 (.type "enumerate"),en P h0z 63 (.type "filter"),en P g9z 64 (.type "float"),en P g2p 65 (.type "frozenset"),en P g2i 66 (.type "property"),en P g0j 67 (.type "int"),en P g9j 68 (.type "list"),en P h0l 69 (.type "map"),en P g3y 70 (.type "object"),en P g6x 71 (.type "range"),en P h1h 72 (.type "reversed"),en P h2l 73 (.type "set"),en P g0b 74 (.type "slice"),en P h1x 75 (.type "staticmethod"),en P h1c 76 (.type "str"),en P h2v 77 (.type "super"),en P g5s 78 (.type "tuple"),en P e1e 79 (.type "type"),en P g0v 80 (.type "zip"),en P g7f 81 (.bool true),en P g2l 82 (.type "BaseException"),en P g1z 83 (.type "BaseExceptionGroup"),en P g0m 84 (.type "Exception"),en P g1b 85 (.type "GeneratorExit"),en P g2u 86 (.type "KeyboardInterrupt"),en P g1p 87 (.type "SystemExit"),en P h2n 88 (.type "ArithmeticError"),en P g0i 89 (.type "AssertionError"),en P g9x 90 (.type "AttributeError"),en P g5d 91 (.type "BufferError"),en P h2y 92 (.type "EOFError"),en P g9o 93 (.type "ImportError"),en P h1m 94 (.type "LookupError"),en P g3a 95 (.type "MemoryError"),en P g1l 96 (.type "NameError"),en P g1o 97 (.type "OSError"),en P g1a 98 (.type "ReferenceError"),en P g3s 99 (.type "RuntimeError"),en P g9t 100 (.type "StopAsyncIteration"),en P g3q 101 (.type "StopIteration"),en P g8m 102 (.type "SyntaxError"),en P g8g 103 (.type "SystemError"),en P g0z 104 (.type "TypeError"),en P g2s 105 (.type "ValueError"),en P g5a 106 (.type "Warning"),en P g4s 107 (.type "FloatingPointError"),en P h2b 108 (.type "OverflowError"),en P g8r 109 (.type "ZeroDivisionError"),en P g3o 110 (.type "BytesWarning"),en P h0k 111 (.type "DeprecationWarning"),en P g7k 112 (.type "EncodingWarning"),en P g5k 113 (.type "FutureWarning"),en P g5t 114 (.type "ImportWarning"),en P g7b 115 (.type "PendingDeprecationWarning"),en P g2h 116 (.type "ResourceWarning"),en P g2k 117 (.type "RuntimeWarning"),en P h0t 118 (.type "SyntaxWarning"),en P h1n 119 (.type "UnicodeWarning"),en P g4e 120 (.type "UserWarning"),en P g7d 121 (.type "BlockingIOError"),en P g5q 122 (.type "ChildProcessError"),en P g9u 123 (.type "ConnectionError"),en P g2a 124 (.type "FileExistsError"),en P g9w 125 (.type "FileNotFoundError"),en P h2o 126 (.type "InterruptedError"),en P h1e 127 (.type "IsADirectoryError"),en P g6c 128 (.type "NotADirectoryError"),en P g6u 129 (.type "PermissionError"),en P g5o 130 (.type "ProcessLookupError"),en P g7s 131 (.type "TimeoutError"),en P g0n 132 (.type "IndentationError"),en P h3h 133 (.type "_IncompleteInputError"),en P g1v 134 (.type "IndexError"),en P g1t 135 (.type "KeyError"),en P g5n 136 (.type "ModuleNotFoundError"),en P h1k 137 (.type "NotImplementedError"),en P g9n 138 (.type "PythonFinalizationError"),en P g1k 139 (.type "RecursionError"),en P h0j 140 (.type "UnboundLocalError"),en P g6s 141 (.type "UnicodeError"),en P g1g 142 (.type "BrokenPipeError"),en P h0i 143 (.type "ConnectionAbortedError"),en P g4c 144 (.type "ConnectionRefusedError"),en P g2t 145 (.type "ConnectionResetError"),en P h2j 146 (.type "TabError"),en P g7r 147 (.type "UnicodeDecodeError"),en P h3e 148 (.type "UnicodeEncodeError"),en P g0k 149 (.type "UnicodeTranslateError"),en P g8b 150 (.type "ExceptionGroup"),en P g2n 151 (.type "OSError"),en P g0c 152 (.type "OSError"),en P g7v 153 (.builtin "open"),en P h1b 154 (.builtin "builtins.quit#opaque"),en P h0g 155 (.builtin "builtins.exit#opaque"),en P g9p 156 (.builtin "builtins.copyright#opaque"),en P g2g 157 (.builtin "builtins.credits#opaque"),en P g7z 158 (.builtin "builtins.license#opaque"),en P g3k 159 (.builtin "builtins.help#opaque")] 159
noncomputable abbrev md (P:Params) (k:Nat) (nv:Value):Obj:=b9s (en P (S [95,95,110,97,109,101,95,95]) 165 nv::(g7e P).take k) (k+1)
noncomputable abbrev o4:Obj:=⟨.type "module",some 0,.plain,⟨[]⟩⟩
def o13:Obj:=r4 "code" [.str (S [60,109,111,100,117,108,101,62]) 182,.str (S [60,109,111,100,117,108,101,62]) 183,.str cut 184,cE 1,cE 0,cE 0,cE 0,cE 0,.ref 11,.bool false,cE 181,.ref 12,.none,.none,.none,.none,cE 185,cE 1,.str cut 186]
def ctO (c:Nat):Obj:=b8k (f9p.take (3*c))
def stO (P:Params) (k:Nat):Obj:=⟨.none,none,.dict ⟨[en P (S [116,121,112,101,46,95,95,115,117,98,99,108,97,115,115,101,115,95,95,46,69,120,99,101,112,116,105,111,110,46,48]) 406 (.int 88 0),en P (S [116,121,112,101,46,95,95,115,117,98,99,108,97,115,115,101,115,95,95,46,69,120,99,101,112,116,105,111,110,46,110]) 407 (.int 1 0)].take k⟩ k,⟨[]⟩⟩
abbrev oA (P:Params) (k:Nat) (nv:Value):List (Addr×Obj):=[(3,md P k nv)]
abbrev oF (P:Params) (k:Nat) (nv:Value) (c:Nat):List (Addr×Obj):=[(3,md P k nv),(4,o4),(12,ctO c),(13,o13)]
abbrev oC (P:Params) (k:Nat) (nv:Value) (c st:Nat) (ex:List (Addr×Obj)):List (Addr×Obj):=(0,b0 P)::(2,stO P st)::(3,md P k nv)::(4,o4)::(12,ctO c)::(13,o13)::ex
abbrev rf (l:List Nat):List Value:=l.map .ref
structure PD where
 i:Nat
 k:Nat
 n:Nat
 p:Pos
 q:Pos
 N:Nat
 t:Nat
 m:Nat
 t':Nat
 a:Params->List (Addr×Obj)
 b:Params->List (Addr×Obj)
 T:Params->BT
abbrev X:=Params->List (Addr×Obj)
abbrev kA (i k n:Nat) (p q:Pos) (N t m t' c:Nat) (v:Value) (c':Nat) (v':Value) (T:BT):PD:=⟨i,k,n,p,q,N,t,m,t',λP=>oA P c v,λP=>oA P c' v',λ_=>T⟩
abbrev kF (i n:Nat) (p q:Pos) (N t m t' c:Nat) (v:Value) (f:Nat) (M:M):PD:=⟨i,1,n,p,q,N,t,m,t',λP=>oF P c v f,λP=>oF P (c+1) v (f+1),λ_=>bt (M.objs (u7 i) M.nm n t v)⟩
abbrev kC (i n:Nat) (p q:Pos) (N t m t' k:Nat) (v:Value) (f u:Nat) (a:X) (u':Nat) (b:X) (c:C):PD:=⟨i,1,n,p,q,N,t,m,t',λP=>oC P k v f u (a P),λP=>oC P (k+1) v (f+1) u' (b P),λP=>bt (c.objs P)⟩
abbrev x0:X:=λ_=>[]
abbrev xC (a b:Nat) (c:C) (l:List Nat):X:=λP=>[(a,c.nsO P),(b,c.clsO (l.map .ref))]
def ext (n:Nat) (l:List (Addr×Obj)) (T:BT) (G:Nat->Option Obj) (a:Nat):Option Obj:=match Nat.blt a n with
 |true=>match cZ l a with
  |some o=>some o
  |none=>G a
 |false=>T.get (a - n)
@[reducible] def chk (G:Nat->Option Obj) (l:List (Addr×Obj)):Prop:=l.map (λp=>G p.1)=l.map λp=>some p.2
def PD.g (d:PD) (G:Params->Nat->Option Obj):Params->Nat->Option Obj:=λP=>ext d.n (d.b P) (d.T P) (G P)
def Ok (d:PD) (G:Params->Nat->Option Obj):Prop:=(∀(w:World) (os:OsState),d1d d.n w d.N ⟨d.a w.params,.nil,0,#[],boot_drawn,d.t,os⟩ (b9n ((pw_rh0145_01.main.body.drop d.i).take d.k) d.p)=some (.next,⟨d.b w.params,d.T w.params,d.m,#[],boot_drawn,d.t',os⟩,cT,d.q))/\
 ∀P,(d.a P).map (λp=>G P p.1)=(d.a P).map λp=>some p.2
def gB:Params->Nat->Option Obj:=λP=>cZ (oC P 8 (.str a9j 164) 0 0 [])
def d0:=kF 0 15 ⟨0,0,0,0⟩ ⟨1,0,3,12⟩ 30 187 7 194 8 f0k 0 ⟨z9,1,1,some [g1u],[]⟩
theorem p0:Ok d0 gB:=by trivial
def g0:=d0.g gB
def d1:=kA 1 10 22 d0.q ⟨13,0,13,9⟩ 91 194 0 214 9 f0k 18 gN .nil
theorem p1:Ok d1 g0:=by trivial
def g1:=d1.g g0
def d2:=kA 11 10 22 d1.q ⟨23,0,23,8⟩ 91 214 0 234 18 gN 28 gN .nil
theorem p2:Ok d2 g1:=by trivial
def g2:=d2.g g1
def d3:=kA 21 10 22 d2.q ⟨33,0,33,7⟩ 91 234 0 254 28 gN 38 gN .nil
theorem p3:Ok d3 g2:=by trivial
def g3:=d3.g g2
def d4:=kA 31 10 22 d3.q ⟨43,0,43,7⟩ 91 254 0 274 38 gN 48 gN .nil
theorem p4:Ok d4 g3:=by trivial
def g4:=d4.g g3
def d5:=kA 41 10 22 d4.q ⟨53,0,53,10⟩ 91 274 0 294 48 gN 58 gN .nil
theorem p5:Ok d5 g4:=by trivial
def g5:=d5.g g4
def d6:=kA 51 2 22 d5.q ⟨55,0,55,9⟩ 19 294 0 298 58 gN 60 gN .nil
theorem p6:Ok d6 g5:=by trivial
def g6:=d6.g g5
def c53:C:=⟨53,z61,56,[],[.type "object"],[⟨nL,58,6,(some [aG,dJ,pC,oX,lO,bF]),[]⟩],[pC,bF,lO,oX,dJ,e0f],"object.__new__",22,298,gN⟩
def d7:=kC 53 22 d6.q ⟨56,0,64,20⟩ 232 298 21 336 60 gN 1 0 x0 0 x0 c53
theorem p7:Ok d7 g6:=by trivial
def g7:=d7.g g6
def d8:=kF 54 43 d7.q ⟨65,0,66,35⟩ 32 336 7 345 61 gN 2 ⟨z62,65,3,some [dJ,pC,bF],[]⟩
theorem p8:Ok d8 g7:=by trivial
def g8:=d8.g g7
def d9:=kF 55 50 d8.q ⟨67,0,68,37⟩ 33 345 7 355 62 gN 3 ⟨z63,67,4,some [dJ,pC,oX,bF],[]⟩
theorem p9:Ok d9 g8:=by trivial
def g9:=d9.g g8
def d10:=kF 56 57 d9.q ⟨69,0,70,41⟩ 34 355 7 366 63 gN 4 ⟨z64,69,5,some [dJ,pC,oX,lO,bF],[]⟩
theorem p10:Ok d10 g9:=by trivial
def g10:=d10.g g9
def d11:=kF 57 64 d10.q ⟨71,0,88,14⟩ 34 366 7 377 64 gN 5 ⟨z65,71,1,some [f0l,jE,b9k,aK,bF],[]⟩
theorem p11:Ok d11 g10:=by trivial
def g11:=d11.g g10
def d12:=kA 58 1 71 d11.q ⟨89,0,89,8⟩ 10 377 0 379 65 gN 65 j1 .nil
theorem p12:Ok d12 g11:=by trivial
def g12:=d12.g g11
def c59:C:=⟨59,z66,90,[(.type "Exception")],[(.type "Exception"),(.type "BaseException"),.type "object"],[⟨nL,92,2,(some [aG,aT]),[λt=>.str b0t t]⟩],[lL,aT],"Exception.__new__",71,379,j1⟩
def d13:=kC 59 71 d12.q ⟨90,0,94,24⟩ 232 379 21 410 65 j1 6 0 x0 2 x0 c59
theorem p13:Ok d13 g12:=by trivial
def g13:=d13.g g12
def c60:C:=⟨60,z67,95,[(.ref 88)],[(.ref 88),(.type "Exception"),(.type "BaseException"),.type "object"],[⟨nL,97,3,(some [aG,lL,aT]),[λt=>.int 2589 t,λt=>.str b0t t]⟩],[lL,aT],"Exception.__new__",92,410,j1⟩
def d14:=kC 60 92 d13.q ⟨95,0,99,24⟩ 251 410 20 439 66 j1 7 2 (xC 87 88 c59 []) 2 (xC 87 88 c59 [109]) c60
theorem p14:Ok d14 g13:=by trivial
def g14:=d14.g g13
def c61:C:=⟨61,z68,100,[(.ref 88)],[(.ref 88),(.type "Exception"),(.type "BaseException"),.type "object"],[⟨nL,102,2,(some [aG,aT]),[λt=>.str b0t t]⟩],[lL,aT],"Exception.__new__",112,439,j1⟩
def d15:=kC 61 112 d14.q ⟨100,0,104,24⟩ 249 439 20 466 67 j1 8 2 (xC 87 88 c59 [109]) 2 (xC 87 88 c59 [109,129]) c61
theorem p15:Ok d15 g14:=by trivial
def g15:=d15.g g14
def c62:C:=⟨62,z69,105,[(.ref 88)],[(.ref 88),(.type "Exception"),(.type "BaseException"),.type "object"],[⟨nL,107,2,(some [aG,aT]),[λt=>.str b0t t]⟩],[lL,aT],"Exception.__new__",132,466,j1⟩
def d16:=kC 62 132 d15.q ⟨105,0,109,24⟩ 249 466 20 493 68 j1 9 2 (xC 87 88 c59 [109,129]) 2 (xC 87 88 c59 [109,129,149]) c62
theorem p16:Ok d16 g15:=by trivial
def g16:=d16.g g15
def c63:C:=⟨63,z70,110,[],[.type "object"],[⟨nL,112,5,(some [aG,lL,bF,b1c,a2w]),[]⟩,⟨a9v,118,1,(some [aG]),[]⟩],[b1c,bF,a2w,lL],"object.__new__",152,493,j1⟩
def d17:=kC 63 152 d16.q ⟨110,0,119,48⟩ 260 493 28 535 69 j1 10 2 x0 2 x0 c63
theorem p17:Ok d17 g16:=by trivial
def g17:=d17.g g16
def c64:C:=⟨64,z71,120,[],[.type "object"],[⟨nL,122,2,(some [aG,a2w]),[λt=>.str b0t t]⟩,⟨g9l,126,4,(some [aG,lL,bF,b1c]),[]⟩,⟨g8a,129,1,(some [aG]),[]⟩],[a2w,iA],"object.__new__",180,535,j1⟩
def d18:=kC 64 180 d17.q ⟨120,0,130,16⟩ 291 535 36 583 70 j1 11 2 x0 2 x0 c64
theorem p18:Ok d18 g17:=by trivial
def g18:=d18.g g17
def d19:=kA 65 4 216 d18.q ⟨134,0,134,11⟩ 37 583 0 591 71 j1 74 f4 .nil
theorem p19:Ok d19 g18:=by trivial
def g19:=d19.g g18
def d20:=kA 69 1 216 d19.q ⟨135,0,135,8⟩ 17 591 1 592 74 f4 75 f4 (bt [eI [(.int (29) 210),(.int (30) 212),(.int (31) 214)]])
theorem p20:Ok d20 g19:=by trivial
def g20:=d20.g g19
def d21:=kA 70 1 217 d20.q ⟨136,0,136,9⟩ 51 592 9 601 75 f4 76 f4 (bt [eI [(.int (4194304) 296),(.str h0r 592)],eI [(.int (65536) 284),(.str h2a 593)],eI [(.int (32768) 282),(.str g4p 594)],eI [(.int (16384) 280),(.str h0w 595)],eI [(.int (262144) 288),(.str g8f 596)],eI [(.int (524288) 290),(.str g5e 597)],eI [(.int (1048576) 292),(.str g9c 598)],eI [(.int (131072) 286),(.str g0y 599)],eI [(.ref 217),(.ref 218),(.ref 219),(.ref 220),(.ref 221),(.ref 222),(.ref 223),(.ref 224)]])
theorem p21:Ok d21 g20:=by trivial
def g21:=d21.g g20
def d22:=kF 71 226 d21.q ⟨137,0,138,60⟩ 30 601 7 608 76 f4 12 ⟨z79,137,1,some [g8n],[]⟩
theorem p22:Ok d22 g21:=by trivial
def g22:=d22.g g21
def d23:=kF 72 233 d22.q ⟨139,0,144,23⟩ 33 608 7 618 77 f4 13 ⟨z80,139,1,some [aK,jE,e3f,fG],[]⟩
theorem p23:Ok d23 g22:=by trivial
def g23:=d23.g g22
def d24:=kF 73 240 d23.q ⟨145,0,152,16⟩ 32 618 7 627 78 f4 14 ⟨z81,145,1,some [aT,fG,e6m],[]⟩
theorem p24:Ok d24 g23:=by trivial
def g24:=d24.g g23
def d25:=kF 74 247 d24.q ⟨153,0,163,16⟩ 30 627 7 634 79 f4 15 ⟨z82,153,1,some [aK],[]⟩
theorem p25:Ok d25 g24:=by trivial
def g25:=d25.g g24
def d26:=kF 75 254 d25.q ⟨164,0,177,16⟩ 30 634 7 641 80 f4 16 ⟨z83,164,1,some [aK],[]⟩
theorem p26:Ok d26 g25:=by trivial
def g26:=d26.g g25
def cX:C:=⟨76,z84,178,[],[.type "object"],[⟨aT,180,3,(some [aG,b6,aK]),[]⟩],[],"object.__new__",261,641,f4⟩
def d27:=kC 76 261 d26.q ⟨178,0,181,35⟩ 223 641 21 670 81 f4 17 2 x0 2 x0 cX
theorem p27:Ok d27 g26:=by trivial
def g27:=d27.g g26
def c77:C:=⟨77,z85,182,[],[.type "object"],[⟨g5f,184,1,(some [aG]),[]⟩,⟨g3i,187,2,(some [aG,a8o]),[]⟩,⟨h2p,190,2,(some [aG,aK]),[]⟩,⟨f0c,193,2,(some [aG,aK]),[]⟩,⟨a9u,196,2,(some [aG,jV]),[]⟩],[],"object.__new__",282,670,f4⟩
def d28:=kC 77 282 d27.q ⟨182,0,197,20⟩ 349 670 49 729 82 f4 18 2 x0 2 x0 c77
theorem p28:Ok d28 g27:=by trivial
def g28:=d28.g g27
def c78:C:=⟨78,z86,198,[],[.type "object"],[⟨nL,200,1,(some [aG]),[]⟩,⟨aT,206,2,(some [aG,aK,e8t,aT]),[]⟩,⟨e0x,217,2,(some [aG,aK]),[]⟩],[e3b,i7,b6r,e4l],"object.__new__",331,729,f4⟩
def d29:=kC 78 331 d28.q ⟨198,0,218,42⟩ 291 729 35 778 83 f4 19 2 x0 2 x0 c78
theorem p29:Ok d29 g28:=by trivial
def g29:=d29.g g28
def d30:=kF 79 366 d29.q ⟨219,0,220,33⟩ 30 778 7 785 84 f4 20 ⟨z87,219,1,some [b6],[]⟩
theorem p30:Ok d30 g29:=by trivial
def g30:=d30.g g29
def d31:=kF 80 373 d30.q ⟨221,0,224,65⟩ 32 785 7 794 85 f4 21 ⟨z88,221,3,some [b6,a8o,b7q],[]⟩
theorem p31:Ok d31 g30:=by trivial
def g31:=d31.g g30
def d32:=kF 81 380 d31.q ⟨225,0,233,23⟩ 34 794 7 805 86 f4 22 ⟨z89,225,3,some [b6,a8o,b7q,jE,aK],[]⟩
theorem p32:Ok d32 g31:=by trivial
def g32:=d32.g g31
def d33:=kF 82 387 d32.q ⟨234,0,237,33⟩ 32 805 7 814 87 f4 23 ⟨z90,234,3,some [b6,aK,b5z],[]⟩
theorem p33:Ok d33 g32:=by trivial
def g33:=d33.g g32
def d34:=kA 83 1 394 d33.q ⟨238,0,238,8⟩ 10 814 0 816 88 f4 88 bO .nil
theorem p34:Ok d34 g33:=by trivial
def g34:=d34.g g33
def d35:=kF 84 394 d34.q ⟨239,0,246,36⟩ 32 816 7 825 88 bO 24 ⟨z91,239,3,some [b6,aK,b6q],[]⟩
theorem p35:Ok d35 g34:=by trivial
def g35:=d35.g g34
def d36:=kF 85 401 d35.q ⟨247,0,250,24⟩ 32 825 7 834 89 bO 25 ⟨z92,247,3,some [b6,aK,b6q],[]⟩
theorem p36:Ok d36 g35:=by trivial
def g36:=d36.g g35
def d37:=kF 86 408 d36.q ⟨251,0,255,15⟩ 32 834 7 843 90 bO 26 ⟨z93,251,2,some [b6,aK,aT],[]⟩
theorem p37:Ok d37 g36:=by trivial
def g37:=d37.g g36
def d38:=kF 87 415 d37.q ⟨256,0,264,78⟩ 34 843 7 854 91 bO 27 ⟨z94,256,3,some [b6,aK,b5v,aT,b7d],[]⟩
theorem p38:Ok d38 g37:=by trivial
def g38:=d38.g g37
def d39:=kF 88 422 d38.q ⟨265,0,269,61⟩ 34 854 7 865 92 bO 28 ⟨z95,265,3,some [b6,aK,b5v,jE,rW],[]⟩
theorem p39:Ok d39 g38:=by trivial
def g39:=d39.g g38
def c89:C:=⟨89,z96,270,[(.ref 277)],[(.ref 277),.type "object"],[⟨aT,272,3,(some [aG,b6,aK,jE,a3j]),[]⟩],[],"object.__new__",429,865,bO⟩
def d40:=kC 89 429 d39.q ⟨270,0,277,27⟩ 248 865 19 892 93 bO 29 2 (xC 276 277 cX []) 2 (xC 276 277 cX [445]) c89
theorem p40:Ok d40 g39:=by trivial
def g40:=d40.g g39
def c90:C:=⟨90,z97,278,[(.ref 277)],[(.ref 277),.type "object"],[⟨aT,280,3,(some [aG,b6,aK]),[]⟩],[],"object.__new__",448,892,bO⟩
def d41:=kC 90 448 d40.q ⟨278,0,281,29⟩ 246 892 19 917 94 bO 30 2 (xC 276 277 cX [445]) 2 (xC 276 277 cX [445,464]) c90
theorem p41:Ok d41 g40:=by trivial
def g41:=d41.g g40
def c91:C:=⟨91,z98,282,[(.ref 277)],[(.ref 277),.type "object"],[⟨aT,284,3,(some [aG,b6,aK]),[]⟩],[],"object.__new__",467,917,bO⟩
def d42:=kC 91 467 d41.q ⟨282,0,285,18⟩ 246 917 19 942 95 bO 31 2 (xC 276 277 cX [445,464]) 2 (xC 276 277 cX [445,464,483]) c91
theorem p42:Ok d42 g41:=by trivial
def g42:=d42.g g41
def c92:C:=⟨92,z99,286,[(.ref 277)],[(.ref 277),.type "object"],[⟨aT,288,3,(some [aG,b6,aK]),[]⟩],[],"object.__new__",486,942,bO⟩
def d43:=kC 92 486 d42.q ⟨286,0,289,46⟩ 246 942 19 967 96 bO 32 2 (xC 276 277 cX [445,464,483]) 2 (xC 276 277 cX [445,464,483,502]) c92
theorem p43:Ok d43 g42:=by trivial
def g43:=d43.g g42
def c93:C:=⟨93,e9j,290,[(.ref 277)],[(.ref 277),.type "object"],[⟨aT,292,3,(some [aG,b6,aK,aT]),[]⟩],[],"object.__new__",505,967,bO⟩
def d44:=kC 93 505 d43.q ⟨290,0,296,25⟩ 247 967 19 993 97 bO 33 2 (xC 276 277 cX [445,464,483,502]) 2 (xC 276 277 cX [445,464,483,502,521]) c93
theorem p44:Ok d44 g43:=by trivial
def g44:=d44.g g43
def c94:C:=⟨94,e8x,297,[(.ref 277)],[(.ref 277),.type "object"],[⟨aT,299,3,(some [aG,b6,aK,tF,sK,tO]),[]⟩],[],"object.__new__",524,993,bO⟩
def d45:=kC 94 524 d44.q ⟨297,0,308,47⟩ 249 993 19 1021 98 bO 34 2 (xC 276 277 cX [445,464,483,502,521]) 2 (xC 276 277 cX [445,464,483,502,521,540]) c94
theorem p45:Ok d45 g44:=by trivial
def g45:=d45.g g44
def c95:C:=⟨95,e9g,309,[(.ref 277)],[(.ref 277),.type "object"],[⟨aT,311,3,(some [aG,b6,aK]),[]⟩],[],"object.__new__",543,1021,bO⟩
def d46:=kC 95 543 d45.q ⟨309,0,312,90⟩ 246 1021 19 1046 99 bO 35 2 (xC 276 277 cX [445,464,483,502,521,540]) 2 (xC 276 277 cX [445,464,483,502,521,540,559]) c95
theorem p46:Ok d46 g45:=by trivial
def g46:=d46.g g45
def c96:C:=⟨96,e2i,313,[(.ref 277)],[(.ref 277),.type "object"],[⟨aT,315,3,(some [aG,b6,aK,jV,aT]),[]⟩],[],"object.__new__",562,1046,bO⟩
def d47:=kC 96 562 d46.q ⟨313,0,318,62⟩ 248 1046 19 1073 100 bO 36 2 (xC 276 277 cX [445,464,483,502,521,540,559]) 2 (xC 276 277 cX [445,464,483,502,521,540,559,578]) c96
theorem p47:Ok d47 g46:=by trivial
def g47:=d47.g g46
def c97:C:=⟨97,f2u,319,[(.ref 277)],[(.ref 277),.type "object"],[⟨aT,321,3,(some [aG,b6,aK,oW,j7,uN,jV,aT]),[]⟩],[],"object.__new__",581,1073,bO⟩
def d48:=kC 97 581 d47.q ⟨319,0,329,47⟩ 251 1073 19 1103 101 bO 37 2 (xC 276 277 cX [445,464,483,502,521,540,559,578]) 2 (xC 276 277 cX [445,464,483,502,521,540,559,578,597]) c97
theorem p48:Ok d48 g47:=by trivial
def g48:=d48.g g47
def d49:=kF 98 600 d48.q ⟨330,0,334,15⟩ 32 1103 7 1112 102 bO 38 ⟨f3m,330,2,some [b6,aK,aT],[]⟩
theorem p49:Ok d49 g48:=by trivial
def g49:=d49.g g48
def c99:C:=⟨99,f1d,335,[(.ref 277)],[(.ref 277),.type "object"],[⟨aT,337,3,(some [aG,b6,aK,fG,aT]),[]⟩],[],"object.__new__",607,1112,bO⟩
def d50:=kC 99 607 d49.q ⟨335,0,340,61⟩ 248 1112 19 1139 103 bO 39 2 (xC 276 277 cX [445,464,483,502,521,540,559,578,597]) 2 (xC 276 277 cX [445,464,483,502,521,540,559,578,597,623]) c99
theorem p50:Ok d50 g49:=by trivial
def g50:=d50.g g49
def g7t:C:=⟨100,e2r,341,[(.ref 277)],[(.ref 277),.type "object"],[⟨aT,343,3,(some [aG,b6,aK,tF]),[]⟩],[],"object.__new__",626,1139,bO⟩
def d51:=kC 100 626 d50.q ⟨341,0,345,51⟩ 247 1139 19 1165 104 bO 40 2 (xC 276 277 cX [445,464,483,502,521,540,559,578,597,623]) 2 (xC 276 277 cX [445,464,483,502,521,540,559,578,597,623,642]) g7t
theorem p51:Ok d51 g50:=by trivial
def g51:=d51.g g50
def g3m:C:=⟨101,f1p,346,[(.ref 277)],[(.ref 277),.type "object"],[⟨aT,348,3,(some [aG,b6,aK,j7,tF]),[]⟩],[],"object.__new__",645,1165,bO⟩
def d52:=kC 101 645 d51.q ⟨346,0,351,54⟩ 248 1165 19 1192 105 bO 41 2 (xC 276 277 cX [445,464,483,502,521,540,559,578,597,623,642]) 2 (xC 276 277 cX [445,464,483,502,521,540,559,578,597,623,642,661]) g3m
theorem p52:Ok d52 g51:=by trivial
def g52:=d52.g g51
def g7h:C:=⟨102,f0o,352,[(.ref 277)],[(.ref 277),.type "object"],[⟨aT,354,3,(some [aG,b6,aK]),[]⟩],[],"object.__new__",664,1192,bO⟩
def d53:=kC 102 664 d52.q ⟨352,0,355,62⟩ 246 1192 19 1217 106 bO 42 2 (xC 276 277 cX [445,464,483,502,521,540,559,578,597,623,642,661]) 2 (xC 276 277 cX [445,464,483,502,521,540,559,578,597,623,642,661,680]) g7h
theorem p53:Ok d53 g52:=by trivial
def g53:=d53.g g52
def h0s:C:=⟨103,e4z,356,[(.ref 277)],[(.ref 277),.type "object"],[⟨aT,358,3,(some [aG,b6,aK,fG]),[]⟩],[],"object.__new__",683,1217,bO⟩
def d54:=kC 103 683 d53.q ⟨356,0,362,25⟩ 247 1217 19 1243 107 bO 43 2 (xC 276 277 cX [445,464,483,502,521,540,559,578,597,623,642,661,680]) 2 (xC 276 277 cX [445,464,483,502,521,540,559,578,597,623,642,661,680,699]) h0s
theorem p54:Ok d54 g53:=by trivial
def g54:=d54.g g53
def h0a:C:=⟨104,e7v,363,[(.ref 277)],[(.ref 277),.type "object"],[⟨aT,365,3,(some [aG,b6,aK]),[]⟩],[],"object.__new__",702,1243,bO⟩
def d55:=kC 104 702 d54.q ⟨363,0,366,52⟩ 246 1243 19 1268 108 bO 44 2 (xC 276 277 cX [445,464,483,502,521,540,559,578,597,623,642,661,680,699]) 2 (xC 276 277 cX [445,464,483,502,521,540,559,578,597,623,642,661,680,699,718]) h0a
theorem p55:Ok d55 g54:=by trivial
def g55:=d55.g g54
def h0f:C:=⟨105,e1b,367,[(.ref 277)],[(.ref 277),.type "object"],[⟨aT,369,3,(some [aG,b6,aK]),[]⟩],[],"object.__new__",721,1268,bO⟩
def d56:=kC 105 721 d55.q ⟨367,0,370,53⟩ 246 1268 19 1293 109 bO 45 2 (xC 276 277 cX [445,464,483,502,521,540,559,578,597,623,642,661,680,699,718]) 2 (xC 276 277 cX [445,464,483,502,521,540,559,578,597,623,642,661,680,699,718,737]) h0f
theorem p56:Ok d56 g55:=by trivial
def g56:=d56.g g55
def g8v:C:=⟨106,e3z,371,[(.ref 277)],[(.ref 277),.type "object"],[⟨aT,373,3,(some [aG,b6,aK,aT]),[]⟩],[],"object.__new__",740,1293,bO⟩
def d57:=kC 106 740 d56.q ⟨371,0,376,60⟩ 247 1293 19 1319 110 bO 46 2 (xC 276 277 cX [445,464,483,502,521,540,559,578,597,623,642,661,680,699,718,737]) 2 (xC 276 277 cX [445,464,483,502,521,540,559,578,597,623,642,661,680,699,718,737,756]) g8v
theorem p57:Ok d57 g56:=by trivial
def g57:=d57.g g56
def h1f:C:=⟨107,e5q,377,[(.ref 277)],[(.ref 277),.type "object"],[⟨aT,379,3,(some [aG,b6,aK]),[]⟩],[],"object.__new__",759,1319,bO⟩
def d58:=kC 107 759 d57.q ⟨377,0,382,80⟩ 246 1319 19 1344 111 bO 47 2 (xC 276 277 cX [445,464,483,502,521,540,559,578,597,623,642,661,680,699,718,737,756]) 2 (xC 276 277 cX [445,464,483,502,521,540,559,578,597,623,642,661,680,699,718,737,756,775]) h1f
theorem p58:Ok d58 g57:=by trivial
def g58:=d58.g g57
def d59:=kA 108 5 778 d58.q ⟨387,0,387,6⟩ 46 1344 0 1354 112 bO 116 b6s .nil
theorem p59:Ok d59 g58:=by trivial
def g59:=d59.g g58
def h1g:C:=⟨113,d9z,388,[],[.type "object"],[⟨nL,390,7,(some [aG,dJ,aT,b7u,bF,b8z,b9a]),[]⟩],[bF,b8z,dJ,b9a,b7u,aT],"object.__new__",778,1354,b6s⟩
def d60:=kC 113 778 d59.q ⟨388,0,396,38⟩ 233 1354 21 1393 116 b6s 48 2 x0 2 x0 h1g
theorem p60:Ok d60 g59:=by trivial
def g60:=d60.g g59
def d61:=kA 114 10 799 d60.q ⟨406,0,406,12⟩ 91 1393 0 1413 117 b6s 126 lM .nil
theorem p61:Ok d61 g60:=by trivial
def g61:=d61.g g60
def d62:=kA 124 1 799 d61.q ⟨407,0,407,9⟩ 19 1413 1 1414 126 lM 127 lM (bt [eI [(.int (3) 1403),(.int (4) 1405),(.int (5) 1407),(.int (6) 1409)]])
theorem p62:Ok d62 g61:=by trivial
def g62:=d62.g g61
def wZ:C:=⟨125,e6w,408,[],[.type "object"],[⟨a8n,410,2,(some [aG,aM]),[]⟩],[],"object.__new__",800,1414,lM⟩
def d63:=kC 125 800 d62.q ⟨408,0,411,60⟩ 222 1414 21 1442 127 lM 49 2 x0 2 x0 wZ
theorem p63:Ok d63 g62:=by trivial
def g63:=d63.g g62
def g8y:C:=⟨126,e0b,412,[],[.type "object"],[⟨nL,414,3,(some [aG,rN,b6c]),[]⟩,⟨e7i,438,1,(some [aG]),[]⟩,⟨f0d,441,2,(some [aG,xA,e9k]),[]⟩,⟨uN,447,1,(some [aG,jF]),[]⟩,⟨e9f,453,2,(some [aG,aT]),[]⟩,⟨e5a,456,2,(some [aG,aT]),[]⟩,⟨e3p,459,2,(some [aG,aT]),[]⟩,⟨f2b,462,2,(some [aG,aT]),[]⟩,⟨e7z,465,2,(some [aG,aT]),[]⟩,⟨g5m,468,2,(some [aG,aT]),[]⟩,⟨e0r,471,2,(some [aG,aT]),[]⟩,⟨e4x,475,2,(some [aG,aT]),[]⟩,⟨d9o,479,1,(some [aG]),[]⟩,⟨g2z,484,1,(some [aG]),[]⟩,⟨g6t,487,1,(some [aG]),[]⟩,⟨g5l,490,3,(some [aG,lL,b1c]),[]⟩,⟨f9t,493,4,(some [aG,lL,bF,b1c]),[]⟩,⟨e2q,497,1,(some [aG,jF]),[]⟩,⟨f0s,503,1,(some [aG]),[]⟩,⟨e0j,507,1,(some [aG]),[]⟩,⟨e2b,513,1,(some [aG]),[]⟩,⟨b9l,516,2,(some [aG,xA,aK]),[]⟩,⟨g9m,529,1,(some [aG]),[]⟩,⟨h2k,532,2,(some [aG,lL]),[]⟩,⟨g1m,535,2,(some [aG,lL]),[]⟩],[c0e,bF,f1i,a9u,i7,b6c,e0m,f2w,b8y,e0l,d9u,rF,b7k,e7d,e3o,f2n,b6g,b7w,f2a,e7r,rN,e0i],"object.__new__",821,1442,lM⟩
def d64:=kC 126 821 d63.q ⟨412,0,536,16⟩ 1010 1442 189 1682 128 lM 50 2 x0 2 x0 g8y
theorem p64:Ok d64 g63:=by trivial
def g64:=d64.g g63
def d65:=kF 127 1010 d64.q ⟨537,0,554,15⟩ 37 1682 7 1696 129 lM 51 ⟨f0v,537,2,some [aM,b9l,c0e,b7k,b6g,b8y,a9u,aK],[]⟩
theorem p65:Ok d65 g64:=by trivial
def g65:=d65.g g64
def d66:=kF 128 1017 d65.q ⟨555,0,556,52⟩ 32 1696 7 1705 130 lM 52 ⟨e6f,555,3,some [jF,dJ,aT],[]⟩
theorem p66:Ok d66 g65:=by trivial
def g66:=d66.g g65
def d67:=kF 129 1024 d66.q ⟨557,0,567,42⟩ 35 1705 7 1717 131 lM 53 ⟨e4u,557,2,some [aM,e8r,b9k,aK,e8w,a3j],[]⟩
theorem p67:Ok d67 g66:=by trivial
def g67:=d67.g g66
def d68:=kF 130 1031 d67.q ⟨568,0,572,15⟩ 32 1717 7 1726 132 lM 54 ⟨e1h,568,3,some [aM,dJ,aT],[]⟩
theorem p68:Ok d68 g67:=by trivial
def g68:=d68.g g67
def d69:=kA 131 1 1038 d68.q ⟨573,0,573,8⟩ 10 1726 0 1728 133 lM 133 b8 .nil
theorem p69:Ok d69 g68:=by trivial
def g69:=d69.g g68
def d70:=kA 132 1 1038 d69.q ⟨574,0,574,10⟩ 14 1728 1 1732 133 b8 134 b8 (bt [eI [(.str e7c 1728),(.str e8g 1729),(.str e5z 1730)]])
theorem p70:Ok d70 g69:=by trivial
def g70:=d70.g g69
def dN:C:=⟨133,e5l,575,[],[.type "object"],[⟨c8o,577,2,(some [aG,aM]),[]⟩,⟨jC,580,2,(some [aG,aM]),[]⟩],[],"object.__new__",1039,1732,b8⟩
def d71:=kC 133 1039 d70.q ⟨575,0,581,52⟩ 254 1732 28 1768 134 b8 55 2 x0 2 x0 dN
theorem p71:Ok d71 g70:=by trivial
def g71:=d71.g g70
def g4f:C:=⟨134,e1w,582,[(.ref 816)],[(.ref 816),.type "object"],[⟨nL,584,1,(some [aG]),[]⟩,⟨a8n,587,2,(some [aG,aM]),[]⟩],[lT],"object.__new__",1067,1768,b8⟩
def d72:=kC 134 1067 d71.q ⟨582,0,588,44⟩ 277 1768 26 1800 135 b8 56 2 (xC 815 816 wZ []) 2 (xC 815 816 wZ [1090]) g4f
theorem p72:Ok d72 g71:=by trivial
def g72:=d72.g g71
def g6w:C:=⟨135,e8i,589,[(.ref 816)],[(.ref 816),.type "object"],[⟨a8n,591,2,(some [aG,aM,bF]),[]⟩],[],"object.__new__",1093,1800,b8⟩
def d73:=kC 135 1093 d72.q ⟨589,0,593,50⟩ 246 1800 19 1825 136 b8 57 2 (xC 815 816 wZ [1090]) 2 (xC 815 816 wZ [1090,1109]) g6w
theorem p73:Ok d73 g72:=by trivial
def g73:=d73.g g72
def d74:=kF 136 1112 d73.q ⟨594,0,609,47⟩ 33 1825 7 1835 137 b8 58 ⟨d9k,594,2,some [aM,lT,jF,aK],[]⟩
theorem p74:Ok d74 g73:=by trivial
def g74:=d74.g g73
def d75:=kF 137 1119 d74.q ⟨610,0,616,15⟩ 31 1835 7 1843 138 b8 59 ⟨e8k,610,1,some [aM,iA],[]⟩
theorem p75:Ok d75 g74:=by trivial
def g75:=d75.g g74
def d76:=kF 138 1126 d75.q ⟨617,0,621,15⟩ 31 1843 7 1851 139 b8 60 ⟨e1n,617,1,some [aM,aK],[]⟩
theorem p76:Ok d76 g75:=by trivial
def g76:=d76.g g75
def d77:=kF 139 1133 d76.q ⟨622,0,625,71⟩ 30 1851 7 1858 140 b8 61 ⟨f3v,622,1,some [aK],[]⟩
theorem p77:Ok d77 g76:=by trivial
def g77:=d77.g g76
def d78:=kF 140 1140 d77.q ⟨626,0,630,15⟩ 31 1858 7 1866 141 b8 62 ⟨e9h,626,1,some [aM,aK],[]⟩
theorem p78:Ok d78 g77:=by trivial
def g78:=d78.g g77
def d79:=kF 141 1147 d78.q ⟨631,0,635,15⟩ 31 1866 7 1874 142 b8 63 ⟨e5e,631,1,some [aM,aK],[]⟩
theorem p79:Ok d79 g78:=by trivial
def g79:=d79.g g78
def d80:=kF 142 1154 d79.q ⟨636,0,640,73⟩ 31 1874 7 1882 143 b8 64 ⟨d9m,636,1,some [aM,e6a],[]⟩
theorem p80:Ok d80 g79:=by trivial
def g80:=d80.g g79
def d81:=kF 143 1161 d80.q ⟨641,0,656,70⟩ 36 1882 7 1895 144 b8 65 ⟨e6k,641,2,some [aM,fG,e1d,e2g,lO,dJ,b7d],[]⟩
theorem p81:Ok d81 g80:=by trivial
def g81:=d81.g g80
def d82:=kF 144 1168 d81.q ⟨657,0,662,59⟩ 33 1895 7 1905 145 b8 66 ⟨f0m,657,2,some [aM,lO,fG,b7p],[]⟩
theorem p82:Ok d82 g81:=by trivial
def g82:=d82.g g81
def d83:=kF 145 1175 d82.q ⟨663,0,672,33⟩ 33 1905 7 1915 146 b8 67 ⟨e3h,663,3,some [aM,aK,c0c,rW],[]⟩
theorem p83:Ok d83 g82:=by trivial
def g83:=d83.g g82
def d84:=kF 146 1182 d83.q ⟨673,0,675,38⟩ 32 1915 7 1924 147 b8 68 ⟨e8j,673,3,some [aM,aK,rW],[]⟩
theorem p84:Ok d84 g83:=by trivial
def g84:=d84.g g83
def d85:=kF 147 1189 d84.q ⟨676,0,684,38⟩ 32 1924 7 1933 148 b8 69 ⟨e6r,676,3,some [aM,rW,c0c],[]⟩
theorem p85:Ok d85 g84:=by trivial
def g85:=d85.g g84
def d86:=kF 148 1196 d85.q ⟨685,0,689,15⟩ 32 1933 7 1942 149 b8 70 ⟨f1w,685,2,some [aM,lO,aK],[]⟩
theorem p86:Ok d86 g85:=by trivial
def g86:=d86.g g85
def g6r:C:=⟨149,e5j,690,[(.ref 1062)],[(.ref 1062),.type "object"],[⟨jC,692,2,(some [aG,aM]),[]⟩],[],"object.__new__",1203,1942,b8⟩
def d87:=kC 149 1203 d86.q ⟨690,0,693,33⟩ 245 1942 19 1966 150 b8 71 2 (xC 1061 1062 dN []) 2 (xC 1061 1062 dN [1219]) g6r
theorem p87:Ok d87 g86:=by trivial
def g87:=d87.g g86
def g7a:C:=⟨150,e6j,694,[(.ref 1062)],[(.ref 1062),.type "object"],[⟨c8o,696,2,(some [aG,aM]),[]⟩,⟨jC,699,2,(some [aG,aM]),[]⟩],[],"object.__new__",1222,1966,b8⟩
def d88:=kC 150 1222 d87.q ⟨694,0,700,33⟩ 277 1966 26 1998 151 b8 72 2 (xC 1061 1062 dN [1219]) 2 (xC 1061 1062 dN [1219,1245]) g7a
theorem p88:Ok d88 g87:=by trivial
def g88:=d88.g g87
def g4u:C:=⟨151,e2w,701,[(.ref 1062)],[(.ref 1062),.type "object"],[⟨jC,703,2,(some [aG,aM,bF,j7,sK,tO]),[]⟩],[],"object.__new__",1248,1998,b8⟩
def d89:=kC 151 1248 d88.q ⟨701,0,710,53⟩ 249 1998 19 2026 152 b8 73 2 (xC 1061 1062 dN [1219,1245]) 2 (xC 1061 1062 dN [1219,1245,1264]) g4u
theorem p89:Ok d89 g88:=by trivial
def g89:=d89.g g88
def g1n:C:=⟨152,e2s,711,[(.ref 1062)],[(.ref 1062),.type "object"],[⟨jC,713,2,(some [aG,aM,bF,j7]),[]⟩],[],"object.__new__",1267,2026,b8⟩
def d90:=kC 152 1267 d89.q ⟨711,0,716,63⟩ 247 2026 19 2052 153 b8 74 2 (xC 1061 1062 dN [1219,1245,1264]) 2 (xC 1061 1062 dN [1219,1245,1264,1283]) g1n
theorem p90:Ok d90 g89:=by trivial
def g90:=d90.g g89
def g0g:C:=⟨153,e8o,717,[(.ref 1062)],[(.ref 1062),.type "object"],[⟨jC,719,2,(some [aG,aM,bF,jV,j7]),[]⟩],[],"object.__new__",1286,2052,b8⟩
def d91:=kC 153 1286 d90.q ⟨717,0,725,47⟩ 248 2052 19 2079 154 b8 75 2 (xC 1061 1062 dN [1219,1245,1264,1283]) 2 (xC 1061 1062 dN [1219,1245,1264,1283,1302]) g0g
theorem p91:Ok d91 g90:=by trivial
def g91:=d91.g g90
def g4q:C:=⟨154,e0w,726,[(.ref 1062)],[(.ref 1062),.type "object"],[⟨jC,728,2,(some [aG,aM,bF,oW,j7,uN]),[]⟩],[],"object.__new__",1305,2079,b8⟩
def d92:=kC 154 1305 d91.q ⟨726,0,745,74⟩ 249 2079 19 2107 155 b8 76 2 (xC 1061 1062 dN [1219,1245,1264,1283,1302]) 2 (xC 1061 1062 dN [1219,1245,1264,1283,1302,1321]) g4q
theorem p92:Ok d92 g91:=by trivial
def g92:=d92.g g91
def d93:=kF 155 1324 d92.q ⟨746,0,759,15⟩ 33 2107 7 2117 156 b8 77 ⟨e9d,746,1,some [aM,b7w,jF,aK],[]⟩
theorem p93:Ok d93 g92:=by trivial
def g93:=d93.g g92
def d94:=kF 156 1331 d93.q ⟨760,0,763,28⟩ 31 2117 7 2125 157 b8 78 ⟨e1m,760,2,some [aM,f3z],[]⟩
theorem p94:Ok d94 g93:=by trivial
def g94:=d94.g g93
def d95:=kF 157 1338 d94.q ⟨764,0,779,63⟩ 35 2125 7 2137 158 b8 79 ⟨f4a,764,3,some [aM,oW,bF,dJ,rW,b8c],[]⟩
theorem p95:Ok d95 g94:=by trivial
def g95:=d95.g g94
def g6m:C:=⟨158,e3a,780,[(.ref 1062)],[(.ref 1062),.type "object"],[⟨jC,782,2,(some [aG,aM,bF,iA,b8f,c6m]),[]⟩],[],"object.__new__",1345,2137,b8⟩
def d96:=kC 158 1345 d95.q ⟨780,0,797,43⟩ 249 2137 19 2165 159 b8 80 2 (xC 1061 1062 dN [1219,1245,1264,1283,1302,1321]) 2 (xC 1061 1062 dN [1219,1245,1264,1283,1302,1321,1361]) g6m
theorem p96:Ok d96 g95:=by trivial
def g96:=d96.g g95
def d97:=kF 159 1364 d96.q ⟨798,0,809,37⟩ 33 2165 7 2175 160 b8 81 ⟨e6o,798,1,some [aM,bF,j7,iA],[]⟩
theorem p97:Ok d97 g96:=by trivial
def g97:=d97.g g96
def d98:=kF 160 1371 d97.q ⟨810,0,813,52⟩ 30 2175 7 2182 161 b8 82 ⟨e8p,810,1,some [aM],[]⟩
theorem p98:Ok d98 g97:=by trivial
def g98:=d98.g g97
def f9z:C:=⟨161,e8y,814,[(.ref 1062)],[(.ref 1062),.type "object"],[⟨jC,816,2,(some [aG,aM,bF,a2h]),[]⟩],[],"object.__new__",1378,2182,b8⟩
def d99:=kC 161 1378 d98.q ⟨814,0,824,46⟩ 247 2182 19 2208 162 b8 83 2 (xC 1061 1062 dN [1219,1245,1264,1283,1302,1321,1361]) 2 (xC 1061 1062 dN [1219,1245,1264,1283,1302,1321,1361,1394]) f9z
theorem p99:Ok d99 g98:=by trivial
def g99:=d99.g g98
def g0e:C:=⟨162,f4c,825,[(.ref 1062)],[(.ref 1062),.type "object"],[⟨jC,827,2,(some [aG,aM,fG,a2f]),[]⟩],[],"object.__new__",1397,2208,b8⟩
def d2i:=kC 162 1397 d99.q ⟨825,0,837,47⟩ 247 2208 19 2234 163 b8 84 2 (xC 1061 1062 dN [1219,1245,1264,1283,1302,1321,1361,1394]) 2 (xC 1061 1062 dN [1219,1245,1264,1283,1302,1321,1361,1394,1413]) g0e
theorem g6d:Ok d2i g99:=by trivial
def c8x:=d2i.g g99
def c6j:=kF 163 1416 d2i.q ⟨838,0,842,15⟩ 32 2234 7 2243 164 b8 85 ⟨e4j,838,2,some [aM,mN,a9v],[]⟩
theorem g1i:Ok c6j c8x:=by trivial
def c6v:=c6j.g c8x
def c7b:=kF 164 1423 c6j.q ⟨843,0,848,33⟩ 32 2243 7 2252 165 b8 86 ⟨e2m,843,3,some [aM,a2f,bF],[]⟩
theorem f9v:Ok c7b c6v:=by trivial
def c5t:=c7b.g c6v
def d1n:=kF 165 1430 c7b.q ⟨849,0,856,33⟩ 33 2252 7 2262 166 b8 87 ⟨f1l,849,3,some [aM,a2f,bF,a9v],[]⟩
theorem g1d:Ok d1n c5t:=by trivial
def d1o:=d1n.g c5t
def g6b:C:=⟨166,e3s,857,[(.ref 1062)],[(.ref 1062),.type "object"],[⟨jC,859,2,(some [aG,aM,mN,aK]),[]⟩],[],"object.__new__",1437,2262,b8⟩
def c9z:=kC 166 1437 d1n.q ⟨857,0,867,56⟩ 247 2262 19 2288 167 b8 88 2 (xC 1061 1062 dN [1219,1245,1264,1283,1302,1321,1361,1394,1413]) 2 (xC 1061 1062 dN [1219,1245,1264,1283,1302,1321,1361,1394,1413,1453]) g6b
theorem g1x:Ok c9z d1o:=by trivial
def c9p:=c9z.g d1o
def c9l:=kF 167 1456 c9z.q ⟨868,0,875,12⟩ 32 2288 7 2297 168 b8 89 ⟨f2y,868,1,some [aM,xA,jF],[]⟩
theorem g5h:Ok c9l c9p:=by trivial
def c8k:=c9l.g c9p
def g7p:C:=⟨168,e0d,876,[(.ref 1062)],[(.ref 1062),.type "object"],[⟨jC,878,2,(some [aG,aM,bF,a2h]),[]⟩],[],"object.__new__",1463,2297,b8⟩
def d2w:=kC 168 1463 c9l.q ⟨876,0,884,45⟩ 247 2297 19 2323 169 b8 90 2 (xC 1061 1062 dN [1219,1245,1264,1283,1302,1321,1361,1394,1413,1453]) 2 (xC 1061 1062 dN [1219,1245,1264,1283,1302,1321,1361,1394,1413,1453,1479]) g7p
theorem g8e:Ok d2w c8k:=by trivial
def d2m:=d2w.g c8k
def g6v:C:=⟨169,e9e,885,[(.ref 1062)],[(.ref 1062),.type "object"],[⟨jC,887,2,(some [aG,aM,bF,jV,e2c,tO]),[]⟩],[],"object.__new__",1482,2323,b8⟩
def c5f:=kC 169 1482 d2w.q ⟨885,0,898,56⟩ 249 2323 19 2351 170 b8 91 2 (xC 1061 1062 dN [1219,1245,1264,1283,1302,1321,1361,1394,1413,1453,1479]) 2 (xC 1061 1062 dN [1219,1245,1264,1283,1302,1321,1361,1394,1413,1453,1479,1498]) g6v
theorem g8c:Ok c5f d2m:=by trivial
def d0t:=c5f.g d2m
def d1x:=kF 170 1501 c5f.q ⟨899,0,910,60⟩ 33 2351 7 2361 171 b8 92 ⟨e7e,899,1,some [aM,bF,mN,b6t],[]⟩
theorem h2h:Ok d1x d0t:=by trivial
def c6p:=d1x.g d0t
def c5w:=kF 171 1508 d1x.q ⟨911,0,915,35⟩ 30 2361 7 2368 172 b8 93 ⟨f1u,911,1,some [aM],[]⟩
theorem g2f:Ok c5w c6p:=by trivial
def c7h:=c5w.g c6p
def d0a:=kF 172 1515 c5w.q ⟨916,0,921,32⟩ 31 2368 7 2376 173 b8 94 ⟨f2e,916,1,some [aM,lT],[]⟩
theorem g3r:Ok d0a c7h:=by trivial
def c7c:=d0a.g c7h
def d0k:=kF 173 1522 d0a.q ⟨922,0,926,30⟩ 31 2376 7 2384 174 b8 95 ⟨f1o,922,1,some [aM,lT],[]⟩
theorem g8l:Ok d0k c7c:=by trivial
def d0n:=d0k.g c7c
def d2l:=kF 174 1529 d0k.q ⟨927,0,935,35⟩ 31 2384 7 2392 175 b8 96 ⟨f3i,927,1,some [aM,lT],[]⟩
theorem g3z:Ok d2l d0n:=by trivial
def d2r:=d2l.g d0n
def c7p:=kA 175 1 1536 d2l.q ⟨936,0,936,8⟩ 10 2392 0 2394 176 b8 176 b8i .nil
theorem g2m:Ok c7p d2r:=by trivial
def d1e:=c7p.g d2r
def h1l:C:=⟨176,e7x,937,[(.ref 816)],[(.ref 816),.type "object"],[⟨a8n,939,2,(some [aG,aM,bF]),[]⟩],[],"object.__new__",1536,2394,b8i⟩
def d2t:=kC 176 1536 c7p.q ⟨937,0,941,46⟩ 246 2394 19 2419 176 b8i 97 2 (xC 815 816 wZ [1090,1109]) 2 (xC 815 816 wZ [1090,1109,1552]) h1l
theorem g3g:Ok d2t d1e:=by trivial
def d1p:=d2t.g d1e
def c4x:=kA 177 1 1555 d2t.q ⟨942,0,942,8⟩ 10 2419 0 2421 177 b8i 177 c0b .nil
theorem g5c:Ok c4x d1p:=by trivial
def c5y:=c4x.g d1p
def g7g:C:=⟨178,e8b,943,[(.ref 277)],[(.ref 277),.type "object"],[⟨aT,945,3,(some [aG,b6,aK]),[]⟩],[],"object.__new__",1555,2421,c0b⟩
def c9w:=kC 178 1555 c4x.q ⟨943,0,946,21⟩ 246 2421 19 2446 177 c0b 98 2 (xC 276 277 cX [445,464,483,502,521,540,559,578,597,623,642,661,680,699,718,737,756,775]) 2 (xC 276 277 cX [445,464,483,502,521,540,559,578,597,623,642,661,680,699,718,737,756,775,1571]) g7g
theorem h2z:Ok c9w c5y:=by trivial
def c9r:=c9w.g c5y
def d1u:=kA 179 2 1574 c9w.q ⟨948,0,948,12⟩ 19 2446 0 2450 178 c0b 179 cI .nil
theorem h2i:Ok d1u c9r:=by trivial
def c4w:=d1u.g c9r
def d0i:=kA 181 1 1574 d1u.q ⟨949,0,949,10⟩ 29 2450 1 2469 179 cI 180 cI (bt [eI [(.str g5v 2450),(.str h0c 2451),(.str e7c 2452),(.str e8g 2453),(.str e5z 2454),(.str h2x 2455),(.str g6j 2456),(.str c6m 2457),(.str g2o 2458),(.str g5r 2459),(.str h3c 2460),(.str g5u 2461),(.str h2q 2462),(.str g4d 2463),(.str h1d 2464),(.str h3d 2465),(.str g6q 2466),(.str g4t 2467)]])
theorem h1v:Ok d0i c4w:=by trivial
def c6f:=d0i.g c4w
def c4y:=kA 182 1 1575 d0i.q ⟨950,0,950,10⟩ 18 2469 1 2477 180 cI 181 cI (bt [eI [(.str g3v 2469),(.str g6z 2470),(.str e1e 2471),(.str g3p 2472),(.str h0h 2473),(.str g9v 2474),(.str g3c 2475)]])
theorem g8h:Ok c4y c6f:=by trivial
def c7u:=c4y.g c6f
def c9q:=kF 183 1576 c4y.q ⟨951,0,952,56⟩ 31 2477 7 2485 181 cI 99 ⟨e0a,951,2,some [dP,e8d],[]⟩
theorem g6i:Ok c9q c7u:=by trivial
def c7i:=c9q.g c7u
def c9u:=kF 184 1583 c9q.q ⟨953,0,954,60⟩ 30 2485 7 2492 182 cI 100 ⟨e0z,953,1,some [dP],[]⟩
theorem h2c:Ok c9u c7i:=by trivial
def d1l:=c9u.g c7i
def d2p:=kF 185 1590 c9u.q ⟨955,0,956,90⟩ 30 2492 7 2499 183 cI 101 ⟨d9s,955,1,some [dP],[]⟩
theorem h1r:Ok d2p d1l:=by trivial
def d0s:=d2p.g d1l
def c7d:=kF 186 1597 d2p.q ⟨957,0,958,67⟩ 30 2499 7 2506 184 cI 102 ⟨e1i,957,1,some [dP],[]⟩
theorem g3f:Ok c7d d0s:=by trivial
def c9b:=c7d.g d0s
def d2u:=kF 187 1604 c7d.q ⟨959,0,967,38⟩ 36 2506 7 2519 185 cI 103 ⟨e7m,959,3,some [dP,lT,tF,fG,b7p,a3e,a2h],[]⟩
theorem h3f:Ok d2u c9b:=by trivial
def d1m:=d2u.g c9b
def c8y:=kF 188 1611 d2u.q ⟨968,0,969,90⟩ 27 2519 5 2525 186 cI 104 ⟨e9n,968,3,none,[]⟩
theorem g9h:Ok c8y d1m:=by trivial
def c9f:=c8y.g d1m
def d2g:=kF 189 1616 c8y.q ⟨970,0,971,66⟩ 32 2525 7 2534 187 cI 105 ⟨e9p,970,3,some [dP,i7,jI],[]⟩
theorem g1w:Ok d2g c9f:=by trivial
def d1b:=d2g.g c9f
def c5c:=kF 190 1623 d2g.q ⟨972,0,982,30⟩ 27 2534 5 2540 188 cI 106 ⟨e1o,972,2,none,[]⟩
theorem h1z:Ok c5c d1b:=by trivial
def d1r:=c5c.g d1b
def d2j:=kF 191 1628 c5c.q ⟨983,0,1004,106⟩ 43 2540 7 2560 189 cI 107 ⟨f3y,983,4,some [a2i,dP,i7,jI,xD,x4,rF,e6e,a4d,jV,oW,b8s,uN,b8c],[]⟩
theorem g8t:Ok d2j d1r:=by trivial
def c9i:=d2j.g d1r
def d1t:=kF 192 1635 d2j.q ⟨1005,0,1015,38⟩ 39 2560 7 2576 190 cI 108 ⟨e9b,1005,3,some [dP,i7,jI,xD,x4,rF,iA,b8f,a3e,a4d],[]⟩
theorem g2x:Ok d1t c9i:=by trivial
def c8z:=d1t.g c9i
def c6e:=kF 193 1642 d1t.q ⟨1016,0,1024,53⟩ 37 2576 7 2590 191 cI 109 ⟨e2v,1016,3,some [dP,i7,jI,jV,b8s,e4o,mN,tO],[]⟩
theorem g9i:Ok c6e c8z:=by trivial
def d2h:=c6e.g c8z
def c8w:=kF 194 1649 c6e.q ⟨1025,0,1032,111⟩ 38 2590 7 2605 192 cI 110 ⟨e4i,1025,3,some [dP,i7,jI,xD,x4,rF,f3l,mN,a2i],[]⟩
theorem g7i:Ok c8w d2h:=by trivial
def d2o:=c8w.g d2h
def d2a:=kF 195 1656 c8w.q ⟨1033,0,1060,53⟩ 37 2605 7 2619 193 cI 111 ⟨e1l,1033,4,some [dP,i7,jI,f0u,a2i,a4d,sK,e5s],[]⟩
theorem g9s:Ok d2a d2o:=by trivial
def c7a:=d2a.g d2o
def d1z:=kF 196 1663 d2a.q ⟨1061,0,1064,96⟩ 30 2619 7 2626 194 cI 112 ⟨f0w,1061,1,some [aK],[]⟩
theorem h0n:Ok d1z c7a:=by trivial
def c4s:=d1z.g c7a
def c8l:=kF 197 1670 d1z.q ⟨1065,0,1066,84⟩ 27 2626 5 2632 195 cI 113 ⟨e2z,1065,2,none,[]⟩
theorem g3u:Ok c8l c4s:=by trivial
def c7j:=c8l.g c4s
def c7k:=kF 198 1675 c8l.q ⟨1067,0,1068,86⟩ 31 2632 7 2640 196 cI 114 ⟨e5k,1067,2,some [iA,rK],[]⟩
theorem g0q:Ok c7k c7j:=by trivial
def c8f:=c7k.g c7j
def c9o:=kF 199 1682 c7k.q ⟨1069,0,1070,91⟩ 31 2640 7 2648 197 cI 115 ⟨f0e,1069,2,some [aK,rK],[]⟩
theorem g6p:Ok c9o c8f:=by trivial
def c6i:=c9o.g c8f
def d0f:=kF 200 1689 c9o.q ⟨1071,0,1072,85⟩ 32 2648 7 2657 198 cI 116 ⟨f0i,1071,3,some [aK,rK,fG],[]⟩
theorem g2j:Ok d0f c6i:=by trivial
def c5d:=d0f.g c6i
def c8q:=kF 201 1696 d0f.q ⟨1073,0,1074,139⟩ 27 2657 5 2663 199 cI 117 ⟨e0v,1073,1,none,[]⟩
theorem g1y:Ok c8q c5d:=by trivial
def c8p:=c8q.g c5d
def c8n:=kF 202 1701 c8q.q ⟨1075,0,1076,50⟩ 31 2663 7 2671 200 cI 118 ⟨e8e,1075,2,some [aK,b5z],[]⟩
theorem g4l:Ok c8n c8p:=by trivial
def c6k:=c8n.g c8p
def c8v:=kF 203 1708 c8n.q ⟨1077,0,1123,84⟩ 37 2671 7 2685 201 cI 119 ⟨e7q,1077,2,some [aK,rK,dJ,oX,aT,sK,oW,fG],[]⟩
theorem h0v:Ok c8v c6k:=by trivial
def c8b:=c8v.g c6k
def c8r:=kF 204 1715 c8v.q ⟨1124,0,1142,14⟩ 35 2685 7 2697 202 cI 120 ⟨e6c,1124,1,some [aT,jE,e7g,bF,b6t,dJ],[]⟩
theorem g4a:Ok c8r c8b:=by trivial
def c8c:=c8r.g c8b
def c8m:=kF 205 1722 c8r.q ⟨1143,0,1159,36⟩ 32 2697 7 2706 203 cI 121 ⟨f3e,1143,1,some [rN,aM,iA],[]⟩
theorem g7u:Ok c8m c8c:=by trivial
def c8u:=c8m.g c8c
def c8i:=kF 206 1729 c8m.q ⟨1160,0,1174,15⟩ 34 2706 7 2717 204 cI 122 ⟨e6i,1160,3,some [f1j,f2d,c5m,a3e,a3j],[]⟩
theorem g1j:Ok c8i c8u:=by trivial
def c6h:=c8i.g c8u
def c9j:=kF 207 1736 c8i.q ⟨1175,0,1189,14⟩ 34 2717 7 2728 205 cI 123 ⟨f3x,1175,2,some [rN,bF,jE,b6r,jF],[]⟩
theorem g7o:Ok c9j c6h:=by trivial
def d1f:=c9j.g c6h
def c7l:=kF 208 1743 c9j.q ⟨1190,0,1195,13⟩ 32 2728 7 2737 206 cI 124 ⟨f0r,1190,0,some [b6,d9t,e4b],[]⟩
theorem g9f:Ok c7l d1f:=by trivial
def c6d:=c7l.g d1f
def f3w:=kF 209 1750 c7l.q ⟨1196,0,1219,65⟩ 27 2737 5 2743 207 cI 125 ⟨f4b,1196,1,none,[]⟩
theorem h1s:Ok f3w c6d:=by trivial
def t8:=f3w.g c6d
end
end Mine
namespace Mine
open PySem PySem.W PySem.Calls PySem.Challenge
noncomputable abbrev pw:Program:=pw_rh0145_01
structure Known (G:Nat->Option Obj) (n t:Nat) (os:OsState) (s:Shared):Prop where
 size:s.heap.objs.size=n
 get:∀a o,G a=some o->s.heap.get? a=some o
 gens:s.gens= #[]
 drawn:s.drawn=boot_drawn
 toks:s.toks=t
 os:s.os=os
theorem qP {G:Nat->Option Obj} {a:Nat} {o:Obj}:∀{l:List (Addr×Obj)},chk G l->cZ l a=some o->G a=some o
 |[],_,e=>by cases e
 |p::r,h,e=>by
  have h1:G p.1=some p.2:=(List.cons.inj h).1;have h2:chk G r:=(List.cons.inj h).2;unfold cZ at e;rw [a4g]at e
  by_cases q:p.1=a
  ·rw [decide_eq_true q]at e;cases e;rw [<-q];exact h1
  ·rw [decide_eq_false q]at e;exact qP h2 e
theorem d8c (l:List Stmt) (p:Pos):b9n l p=piecesOf l u0 cT p [topFrame ⟨0,0,0,0⟩]:=by
 unfold b9n;rw [<-Fast.te12563942051412417395]
def d4i (i k n:Nat) (p q:Pos) (N:Nat) (a:Params->List (Addr×Obj)) (t:Nat) (b:Params->List (Addr×Obj)) (T:Params->BT) (m t':Nat):Prop:=
 ∀(w:World) (os:OsState),d1d n w N ⟨a w.params,.nil,0,#[],boot_drawn,t,os⟩ (b9n ((pw_rh0145_01.main.body.drop i).take k) p)=some (.next,⟨b w.params,T w.params,m,#[],boot_drawn,t',os⟩,cT,q)
theorem Known.step {G:Nat->Option Obj} {n t:Nat} {os:OsState} {s:Shared} {w:World} (K:Known G n t os s) {i k:Nat} {p q:Pos} {N:Nat} {a:Params->List (Addr×Obj)} {b:Params->List (Addr×Obj)} {T:Params->BT} {m t':Nat}
  (P:d4i i k n p q N a t b T m t') (ha:chk G (a w.params)):
  ∃s',segRun treeTable pw w 11 (some (.ref 6)) 1 N s (piecesOf ((pw.main.body.drop i).take k) u0 cT p [topFrame ⟨0,0,0,0⟩])=some (.next,s',cT,q)/\Known (ext n (b w.params) (T w.params) G) (n+m) t' os s':=by
 have h:=P w os;unfold d1d at h;rw [b3p,c0x,d8c]at h
 have lt:∀x o,cZ (a w.params) x=some o->x<n/\s.heap.get? x=some o:=λx o e=>by
  have z:=K.get x o (qP ha e);exact⟨K.size▸Heap.lt_size z,z⟩
 have R:Rep n ⟨a w.params,.nil,0,#[],boot_drawn,t,os⟩ s:=⟨K.size,lt,λi o e=>(nomatch e),K.gens,K.drawn,K.toks,K.os⟩
 obtain⟨s',e,R',S⟩:=c0o R h;refine⟨s',e,⟨R'.size,λx o hx=> ?_,R'.gens,R'.drawn,R'.toks,R'.os⟩⟩
 unfold ext at hx;cases hb:Nat.blt x n with
 |true=>
  rw [hb]at hx;dsimp only at hx;have xl:x<n:=Nat.le_of_ble_eq_true hb;cases ho:cZ (b w.params) x with
  |some o'=>rw [ho]at hx;cases hx;exact(R'.old x o ho).2
  |none=>
   rw [ho]at hx;have ho':cZ (a w.params) x=none:=(S.2.1 x).mpr ho;exact(S.1 x xl ho').trans (K.get x o hx)
 |false=>
  rw [hb]at hx;have z:=(R'.new _ o hx).2
  have le:n<=x:=by
   apply Nat.le_of_not_lt
   intro q;have:Nat.blt x n=true:=Nat.ble_eq_true_of_le q;rw [this]at hb;cases hb
  rwa [Nat.add_sub_cancel' le]at z
def At (w:World) (os:OsState) (s₀:Shared) (p₀:Pos) (i:Nat) (p:Pos) (G:Params->Nat->Option Obj) (n t:Nat):Prop:=
 ∃s M,Known (G w.params) n t os s/\∀N r,topRun treeTable pw w 11 (some (.ref 6)) N s (restOf (pw.main.body.drop i) u0 cT p [topFrame ⟨0,0,0,0⟩])=some r->
  topRun treeTable pw w 11 (some (.ref 6)) (M+N) s₀ (restOf pw.main.body u0 cT p₀ [topFrame ⟨0,0,0,0⟩])=some r
theorem At.step {w:World} {os:OsState} {s₀:Shared} {p₀:Pos} {i k:Nat} {p q:Pos} {G:Params->Nat->Option Obj} {n t:Nat} {N:Nat} {a:Params->List (Addr×Obj)} {b:Params->List (Addr×Obj)} {T:Params->BT} {m t':Nat}
  (A:At w os s₀ p₀ i p G n t) (P:d4i i k n p q N a t b T m t') (ha:∀P,chk (G P) (a P)):
  At w os s₀ p₀ (i+k) q (λP=>ext n (b P) (T P) (G P)) (n+m) t':=by
 obtain⟨s,M,K,h⟩:=A;obtain⟨s',e,K'⟩:=K.step P (ha w.params);refine⟨s',M+N,K',λN' r hr=> ?_⟩
 have z:=piece_app e hr;rw [show(pw.main.body.drop i).take k++pw.main.body.drop (i+k)=pw.main.body.drop i by rw [<-List.drop_drop];exact List.take_append_drop ..]at z
 have:=h _ _ z
 rwa [<-Nat.add_assoc]at this
theorem at0 {w:World} {os:OsState} {s₀:Shared} (K:Known (gB w.params) 15 187 os s₀):At w os s₀ ⟨0,0,0,0⟩ 0 ⟨0,0,0,0⟩ gB 15 187:=
 ⟨s₀,0,K,λN r h=>by rw [Nat.zero_add];exact h⟩
theorem stp {w:World} {os:OsState} {s₀:Shared} {p₀:Pos} {i:Nat} {p:Pos} {G:Params->Nat->Option Obj} (G':Params->Nat->Option Obj) {n t:Nat} {d:PD} (A:At w os s₀ p₀ i p G n t) (h:Ok d G) (e:d.i=i/\d.n=n/\d.p=p/\d.t=t/\d.g G=G':=by exact⟨rfl,rfl,rfl,rfl,rfl⟩):
  At w os s₀ p₀ (d.i+d.k) d.q G' (d.n+d.m) d.t':=by
 obtain⟨rfl,rfl,rfl,rfl,rfl⟩:=e;exact A.step h.1 h.2
theorem f0p {w:World} {os:OsState} {s₀:Shared} (K:Known (gB w.params) 15 187 os s₀):At w os s₀ ⟨0,0,0,0⟩ 210 ⟨1196,0,1219,65⟩ t8 1755 2743:=by
 have a0:=stp g0 (at0 K) p0;have a1:=stp g1 a0 p1;have a2:=stp g2 a1 p2;have a3:=stp g3 a2 p3;have a4:=stp g4 a3 p4;have a5:=stp g5 a4 p5;have a6:=stp g6 a5 p6;have a7:=stp g7 a6 p7;have a8:=stp g8 a7 p8;have a9:=stp g9 a8 p9;have a10:=stp g10 a9 p10;have a11:=stp g11 a10 p11;have a12:=stp g12 a11 p12;have a13:=stp g13 a12 p13;have a14:=stp g14 a13 p14;have a15:=stp g15 a14 p15;have a16:=stp g16 a15 p16;have a17:=stp g17 a16 p17;have a18:=stp g18 a17 p18;have a19:=stp g19 a18 p19;have a20:=stp g20 a19 p20;have a21:=stp g21 a20 p21;have a22:=stp g22 a21 p22;have a23:=stp g23 a22 p23;have a24:=stp g24 a23 p24;have a25:=stp g25 a24 p25;have a26:=stp g26 a25 p26;have a27:=stp g27 a26 p27;have a28:=stp g28 a27 p28;have a29:=stp g29 a28 p29;have a30:=stp g30 a29 p30;have a31:=stp g31 a30 p31;have a32:=stp g32 a31 p32;have a33:=stp g33 a32 p33;have a34:=stp g34 a33 p34;have a35:=stp g35 a34 p35;have a36:=stp g36 a35 p36;have a37:=stp g37 a36 p37;have a38:=stp g38 a37 p38;have a39:=stp g39 a38 p39;have a40:=stp g40 a39 p40;have a41:=stp g41 a40 p41;have a42:=stp g42 a41 p42;have a43:=stp g43 a42 p43;have a44:=stp g44 a43 p44;have a45:=stp g45 a44 p45;have a46:=stp g46 a45 p46;have a47:=stp g47 a46 p47;have a48:=stp g48 a47 p48;have a49:=stp g49 a48 p49;have a50:=stp g50 a49 p50;have a51:=stp g51 a50 p51;have a52:=stp g52 a51 p52;have a53:=stp g53 a52 p53;have a54:=stp g54 a53 p54;have a55:=stp g55 a54 p55;have a56:=stp g56 a55 p56;have a57:=stp g57 a56 p57;have a58:=stp g58 a57 p58;have a59:=stp g59 a58 p59;have a60:=stp g60 a59 p60;have a61:=stp g61 a60 p61;have a62:=stp g62 a61 p62;have a63:=stp g63 a62 p63;have a64:=stp g64 a63 p64;have a65:=stp g65 a64 p65;have a66:=stp g66 a65 p66;have a67:=stp g67 a66 p67;have a68:=stp g68 a67 p68;have a69:=stp g69 a68 p69;have a70:=stp g70 a69 p70;have a71:=stp g71 a70 p71;have a72:=stp g72 a71 p72
 have a73:=stp g73 a72 p73;have a74:=stp g74 a73 p74;have a75:=stp g75 a74 p75;have a76:=stp g76 a75 p76;have a77:=stp g77 a76 p77;have a78:=stp g78 a77 p78;have a79:=stp g79 a78 p79;have a80:=stp g80 a79 p80;have a81:=stp g81 a80 p81;have a82:=stp g82 a81 p82;have a83:=stp g83 a82 p83;have a84:=stp g84 a83 p84;have a85:=stp g85 a84 p85;have a86:=stp g86 a85 p86;have a87:=stp g87 a86 p87;have a88:=stp g88 a87 p88;have a89:=stp g89 a88 p89;have a90:=stp g90 a89 p90;have a91:=stp g91 a90 p91;have a92:=stp g92 a91 p92;have a93:=stp g93 a92 p93;have a94:=stp g94 a93 p94;have a95:=stp g95 a94 p95;have a96:=stp g96 a95 p96;have a97:=stp g97 a96 p97;have a98:=stp g98 a97 p98;have a99:=stp g99 a98 p99;have a100:=stp c8x a99 g6d;have a101:=stp c6v a100 g1i;have a102:=stp c5t a101 f9v;have a103:=stp d1o a102 g1d;have a104:=stp c9p a103 g1x;have a105:=stp c8k a104 g5h;have a106:=stp d2m a105 g8e;have a107:=stp d0t a106 g8c;have a108:=stp c6p a107 h2h;have a109:=stp c7h a108 g2f;have a110:=stp c7c a109 g3r;have a111:=stp d0n a110 g8l;have a112:=stp d2r a111 g3z;have a113:=stp d1e a112 g2m;have a114:=stp d1p a113 g3g;have a115:=stp c5y a114 g5c;have a116:=stp c9r a115 h2z;have a117:=stp c4w a116 h2i;have a118:=stp c6f a117 h1v;have a119:=stp c7u a118 g8h;have a120:=stp c7i a119 g6i;have a121:=stp d1l a120 h2c;have a122:=stp d0s a121 h1r;have a123:=stp c9b a122 g3f;have a124:=stp d1m a123 h3f;have a125:=stp c9f a124 g9h;have a126:=stp d1b a125 g1w;have a127:=stp d1r a126 h1z;have a128:=stp c9i a127 g8t;have a129:=stp c8z a128 g2x;have a130:=stp d2h a129 g9i;have a131:=stp d2o a130 g7i;have a132:=stp c7a a131 g9s;have a133:=stp c4s a132 h0n;have a134:=stp c7j a133 g3u;have a135:=stp c8f a134 g0q;have a136:=stp c6i a135 g6p;have a137:=stp c5d a136 g2j;have a138:=stp c8p a137 g1y;have a139:=stp c6k a138 g4l;have a140:=stp c8b a139 h0v;have a141:=stp c8c a140 g4a
 have a142:=stp c8u a141 g7u;have a143:=stp c6h a142 g1j;have a144:=stp d1f a143 g7o;have a145:=stp c6d a144 g9f;have a146:=stp t8 a145 h1s;exact a146
noncomputable def goV (n₁:Nat) (stp:Shared->Thread->Step) (ok:Thread->Bool):Nat->VS->Thread->Option (VS×Thread)
 |0,v,t=>some (v,t)
 |n+1,v,t=>cond (through t) none (cond (ok t) ((yV n₁ stp v t).bind λr=>Prod.casesOn r λv' t'=>goV n₁ stp ok n v' t') none)
section
variable {n₁ n₀:Nat} {ann:Option Value} {p:Program} {w:World}
theorem e2t {n:Nat} {s s':Shared} {t t':Thread} (e:through t=false) (k:stepOk n₀ ann t=true) (h:step (denote treeTable) p w s t=.go s' t'):
  topGo treeTable p w n₀ ann (n+1) s t=topGo treeTable p w n₀ ann n s' t':=by
 show(match through t with
  |true=>none
  |false=>match stepOk n₀ ann t with
   |false=>none
   |true=>match step (denote treeTable) p w s t with
    | .go s' t'=>topGo treeTable p w n₀ ann n s' t'
    | .halt _ _=>none)=_
 rw [e,k,h]
theorem c9x {y:VS×Thread} {n:Nat}:∀{v:VS} {t:Thread} {s:Shared},Rep n₁ v s->goV n₁ (step (denote treeTable) p w) (stepOk n₀ ann) n v t=some y->
  ∃s',topGo treeTable p w n₀ ann n s t=some (s',y.2)/\Rep n₁ y.1 s'/\qV n₁ v y.1 s s':=by
 induction n with
 |zero=>exact λR h=>(Option.some.inj h:_=y)▸⟨_,rfl,R,.refl⟩
 |succ n ih=>
  intro v t s R h;have h:cond (through t) none (cond (stepOk n₀ ann t) ((yV n₁ (step (denote treeTable) p w) v t).bind λr=>Prod.casesOn r λv' t'=>goV n₁ (step (denote treeTable) p w) (stepOk n₀ ann) n v' t') none)=some y:=h
  generalize he:through t=e at h;cases e with
  |true=>exact nomatch h
  |false=>
   generalize hk:stepOk n₀ ann t=k at h;cases k with
   |false=>exact nomatch h
   |true=>exact bd h λr hs h=>(zS R hs).elim λ_ g=>(ih g.2.1 h).elim λs' z=>⟨s',(e2t he hk g.1).trans z.1,z.2.1,g.2.2.trans z.2.2⟩
end
noncomputable def c7y:Code->Sem PySem.Fin:=Fast.tw11892475500146522536 Fast.tw14364793385576792824
theorem d5h:c7y=denote treeTable:=by
 unfold c7y;rw [<-Fast.te11892475500146522536,<-Fast.te14364793385576792824]
noncomputable def uL (P:Params):List (Addr×Obj):=[(0,b0 P),(2,stO P 0),(3,md P 8 (.str a9j 164)),(4,o4)]
abbrev o14:Obj:=⟨.type "frame",none,.plain,⟨[some (.ref 13),some (.ref 3),some (.ref 3),none,some (.str a9j 164),none,some (.ref 0)]⟩⟩
noncomputable def e5r:BT:=bt [eI [],ctO 0,o13,o14]
theorem e7k (w:World) (os:OsState):goV 11 (b8h w) okQ 12 ⟨uL w.params,.nil,0,#[],boot_drawn,boot_toks,os⟩ (topStub pw)=
  some (⟨uL w.params,e5r,4,#[],boot_drawn,187,os⟩,⟨c7y cT,cT,⟨0,0,0,0⟩,[topFrame ⟨0,0,0,0⟩]⟩):=by kernel_rfl
noncomputable def g7c:Thread:=blockOf pw.main.body u0 cT ⟨0,0,0,0⟩ [topFrame ⟨0,0,0,0⟩]
theorem f3t (w:World) (s:Shared):segRun treeTable pw w 11 (some (.ref 6)) 1 1 s g7c=some (.next,s,cT,⟨0,0,0,0⟩):=by kernel_rfl
theorem e9q (w:World) (s:Shared) (p:Pos):topRun treeTable pw w 11 (some (.ref 6)) 2 s (restOf (pw.main.body.drop 210) u0 cT p [topFrame ⟨0,0,0,0⟩])=some s:=by kernel_rfl
theorem d9h (P:Params):(uL P).map (λp=>(boot_heap P).get? p.1)=(uL P).map λp=>some p.2:=by kernel_rfl
theorem uA (P:Params):(boot_heap P).objs.size=11:=by kernel_rfl
theorem d7i (w:World) (os:OsState):∃N s₁,topRun treeTable pw w 11 (some (.ref 6)) N ⟨boot_heap w.params,#[],boot_drawn,boot_toks,os⟩ (topStub pw)=some s₁/\Known (t8 w.params) 1755 2743 os s₁:=by
 have h:=e7k w os;rw [b3p,c0x,d5h]at h;have hk:=d9h w.params;have G0:∀a o,cZ (uL w.params) a=some o->(boot_heap w.params).get? a=some o:=λa o e=>qP (G:=λa=>(boot_heap w.params).get? a) hk e
 have R:Rep 11 ⟨uL w.params,.nil,0,#[],boot_drawn,boot_toks,os⟩ ⟨boot_heap w.params,#[],boot_drawn,boot_toks,os⟩:=
  ⟨uA w.params,λa o e=>⟨by have:=Heap.lt_size (G0 a o e);rwa [uA]at this,G0 a o e⟩,λi o e=>(nomatch e),rfl,rfl,rfl,rfl⟩
 obtain⟨s1,e1,R1,_⟩:=c9x R h
 have K:Known (gB w.params) 15 187 os s1:=by
  refine⟨R1.size,λa o e=> ?_,R1.gens,R1.drawn,R1.toks,R1.os⟩
  have hc:chk (λa=>ext 11 (uL w.params) e5r (λ_=>none) a) (oC w.params 8 (.str a9j 164) 0 0 []):=by show _=_;kernel_rfl
  have e':=qP hc e;unfold ext at e';cases hb:Nat.blt a 11 with
  |true=>
   rw [hb]at e';dsimp only at e';cases ho:cZ (uL w.params) a with
   |some o'=>rw [ho]at e';cases e';exact(R1.old a o ho).2
   |none=>rw [ho]at e';cases e'
  |false=>
   rw [hb]at e';have z:=(R1.new _ o e').2
   have le: @LE.le Nat _ 11 a:=by
    apply Nat.le_of_not_lt
    intro q;have:Nat.blt a 11=true:=Nat.ble_eq_true_of_le q;rw [this]at hb;cases hb
   rwa [Nat.add_sub_cancel' le]at z
 obtain⟨s,M,K',hM⟩:=f0p K;have f:=e9q w s ⟨1196,0,1219,65⟩;have b:=piece_block (f3t w s1) (hM 2 s f);exact⟨_,s,go_top e1 b,K'⟩
theorem f0x:OpenLaw.wellSaid rw_rh0145_01=true:=by
 unfold OpenLaw.wellSaid OpenRow.wellSaid OpenRow.partSaid looksOpen
 repeat' (with_reducible refine look_both ?_ ?_)
 ·as_aux_lemma=>((try rw [PySem.W.Fast.te11788848310118352699]);kernel_rfl)
 ·as_aux_lemma=>((try rw [PySem.W.Fast.te9807087744658564304]);(try rw [PySem.W.Fast.te12862048085361865435]);kernel_rfl)
 ·as_aux_lemma=>((try rw [PySem.W.Fast.te8377067652309620493]);kernel_rfl)
 ·as_aux_lemma=>((try rw [PySem.W.R.allR_eq]);(try rw [PySem.W.Fast.te18344453789297297638]);(try rw [PySem.W.Fast.te3471404346716756564]);(try rw [PySem.W.Fast.sDec_eq]);(try rw [PySem.W.Fast.te14412699480532031325]);kernel_rfl)
 ·as_aux_lemma=>((try rw [PySem.W.Fast.te8326940854005059898]);(try rw [PySem.W.R.allR_eq]);(try rw [PySem.W.Fast.te5923862056798008813]);(try rw [PySem.W.Fast.te3471404346716756564]);(try rw [PySem.W.Fast.sDec_eq]);(try rw [PySem.W.Fast.te17691160309236699985]);(try rw [PySem.W.R.filterR_eq]);(try rw [PySem.W.Fast.te13343964577679436407]);kernel_rfl)
 ·as_aux_lemma=>((try rw [PySem.W.Fast.te17119622794617984870]);(try rw [PySem.W.Fast.te17868728402115742887]);kernel_rfl)
 ·as_aux_lemma=>(kernel_rfl)
 ·as_aux_lemma=>(kernel_rfl)
 ·as_aux_lemma=>((try rw [PySem.W.R.allR_eq]);(try rw [PySem.W.Fast.te9706382859710513879]);kernel_rfl)
 ·as_aux_lemma=>((try rw [PySem.W.R.allR_eq]);(try rw [PySem.W.Fast.te3471404346716756564]);(try rw [PySem.W.Fast.sDec_eq]);(try rw [PySem.W.Fast.te18344453789297297638]);(try rw [PySem.W.Fast.strDec_eq]);(try rw [PySem.W.Fast.te2357444279172408678]);kernel_rfl)
 ·as_aux_lemma=>((try rw [PySem.W.R.mapR_eq]);(try rw [PySem.W.Fast.sDec_eq]);kernel_rfl)
 ·as_aux_lemma=>((try rw [PySem.W.R.allR_eq]);(try rw [PySem.W.Fast.te4857012375875476094]);(try rw [PySem.W.Fast.named_eq]);(try rw [PySem.W.Fast.te3471404346716756564]);(try rw [PySem.W.Fast.sDec_eq]);(try rw [PySem.W.Fast.te18344453789297297638]);kernel_rfl)
 ·as_aux_lemma=>((try rw [PySem.W.Fast.te13582783067957832011]);kernel_rfl)
 ·as_aux_lemma=>((try rw [PySem.W.Fast.te5318747976498570220]);kernel_rfl)
 ·as_aux_lemma=>((try rw [PySem.W.Fast.te5318747976498570220]);kernel_rfl)
 ·as_aux_lemma=>((try rw [PySem.W.R.allR_eq]);(try rw [PySem.W.Fast.te5318747976498570220]);kernel_rfl)
 ·as_aux_lemma=>((try rw [PySem.W.R.allR_eq]);(try rw [PySem.W.Fast.te4579403493507170074]);(try rw [PySem.W.R.anyR_eq]);(try rw [PySem.W.Fast.te4274047373036748609]);kernel_rfl)
 ·as_aux_lemma=>((try rw [PySem.W.R.allR_eq]);kernel_rfl)
 ·as_aux_lemma=>(kernel_rfl)
 ·as_aux_lemma=>((try rw [PySem.W.Fast.te3471404346716756564]);(try rw [PySem.W.Fast.sDec_eq]);(try rw [PySem.W.Fast.te18344453789297297638]);kernel_rfl)
 ·as_aux_lemma=>((try rw [PySem.W.Fast.te3471404346716756564]);(try rw [PySem.W.Fast.sDec_eq]);(try rw [PySem.W.Fast.te12749700546528644094]);kernel_rfl)
 ·as_aux_lemma=>(kernel_rfl)
 ·as_aux_lemma=>((try rw [PySem.W.R.allR_eq]);(try rw [PySem.W.Fast.te10501279942588096481]);kernel_rfl)
 ·as_aux_lemma=>((try rw [PySem.W.Fast.te8179353310426384613]);kernel_rfl)
 ·as_aux_lemma=>(kernel_rfl)
 ·as_aux_lemma=>(kernel_rfl)
 ·as_aux_lemma=>((try rw [PySem.W.Fast.te8326940854005059898]);(try rw [PySem.W.Fast.te797321630700447069]);(try rw [PySem.W.Fast.te9572597257264208301]);kernel_rfl)
 ·as_aux_lemma=>((try rw [PySem.W.Fast.te9558739934217749035]);kernel_rfl)
 ·as_aux_lemma=>((try rw [PySem.W.Fast.te16286561074155671207]);kernel_rfl)
 ·as_aux_lemma=>((try rw [PySem.W.R.allR_eq]);(try rw [PySem.W.Fast.sDec_eq]);kernel_rfl)
 ·as_aux_lemma=>((try rw [PySem.W.R.allR_eq]);(try rw [PySem.W.Fast.te797321630700447069]);(try rw [PySem.W.Fast.named_eq]);(try rw [PySem.W.Fast.sDec_eq]);(try rw [PySem.W.Fast.te6984425678791042302]);kernel_rfl)
 ·as_aux_lemma=>((try rw [PySem.W.R.allR_eq]);(try rw [PySem.W.Fast.te17095254045102204799]);(try rw [PySem.W.Fast.te12879404354523853263]);(try rw [PySem.W.Fast.te6984425678791042302]);kernel_rfl)
 ·as_aux_lemma=>((try rw [PySem.W.R.allR_eq]);(try rw [PySem.W.Fast.te17095254045102204799]);(try rw [PySem.W.Fast.te12879404354523853263]);(try rw [PySem.W.Fast.te6984425678791042302]);(try rw [PySem.W.Fast.te482687673346738481]);(try rw [PySem.W.Fast.sDec_eq]);kernel_rfl)
 ·as_aux_lemma=>((try rw [PySem.W.Fast.te17119622794617984870]);(try rw [PySem.W.Fast.te3471404346716756564]);(try rw [PySem.W.Fast.sDec_eq]);(try rw [PySem.W.Fast.te9572597257264208301]);kernel_rfl)
 ·as_aux_lemma=>((try rw [PySem.W.Fast.te3471404346716756564]);(try rw [PySem.W.Fast.sDec_eq]);(try rw [PySem.W.Fast.te10792542408131684335]);kernel_rfl)
 ·as_aux_lemma=>((try rw [PySem.W.Fast.te7723801398212525404]);(try rw [PySem.W.Fast.sDec_eq]);(try rw [PySem.W.Fast.te10792542408131684335]);kernel_rfl)
 ·as_aux_lemma=>((try rw [PySem.W.R.allR_eq]);(try rw [PySem.W.Fast.te10792542408131684335]);(try rw [PySem.W.Fast.named_eq]);kernel_rfl)
 ·as_aux_lemma=>((try rw [PySem.W.Fast.te17119622794617984870]);(try rw [PySem.W.Fast.te3471404346716756564]);(try rw [PySem.W.Fast.sDec_eq]);(try rw [PySem.W.Fast.te10792542408131684335]);kernel_rfl)
 ·as_aux_lemma=>((try rw [PySem.W.Fast.te17119622794617984870]);(try rw [PySem.W.Fast.sDec_eq]);kernel_rfl)
end Mine
namespace Mine
open PySem PySem.W PySem.Calls PySem.Challenge PyProof.Rows
noncomputable abbrev cl0:ClaimW:=rw_rh0145_01.row.toRowW.claim
def d2y:Prop:=∀(w:World) (s₀ s₁:Shared),(∀a o,t8 w.params a=some o->s₁.heap.get? a=some o)->s₁.gens= #[]->
 ∀(args:List WData) (vs:List Value) (as:List Addr),cl0.pre args=true->WData.layableAll args=true->
  ReadsAllW [] (classAt s₀.heap) s₁.heap vs args as->WellAll w.params s₁.heap vs args->(∀a∈as,(a==sysModules)=false)->
  wpAny (model pw w) callerA (PySem.call (.ref 1754) vs) (λv s'=>GoodW cl0 (classAt s₀.heap) (ExcName.means s₀.heap) args s₁ (.ok (.ret v)) s')
   (λe s'=>GoodW cl0 (classAt s₀.heap) (ExcName.means s₀.heap) args s₁ (.error e) s') s₁
noncomputable def hS (P:Params):Heap:=⟨⟨[b0 P,emptyDict,stO P 2,md P 208 (.str x5 2446),o4]⟩,{}⟩
theorem hV {h h':Heap} {a:Addr} (e:h.get? a=h'.get? a):h.isNs a=h'.isNs a:=by unfold Heap.isNs;rw [e]
theorem gJ {h h':Heap} {a:Addr} (e:h.get? a=h'.get? a):h.nsMap a=h'.nsMap a:=by funext n;unfold Heap.nsMap;rw [e]
theorem mV {h h':Heap} {a:Addr} (e:h.get? a=h'.get? a):h.nsKeys a=h'.nsKeys a:=by unfold Heap.nsKeys;rw [e]
theorem a5x {h h':Heap} {a:Addr} (e:h.get? a=h'.get? a):h.nsPairs a=h'.nsPairs a:=by unfold Heap.nsPairs;rw [e]
theorem d8r (P:Params):([0,2,3,4,1754].map λa=>t8 P a)=[some (b0 P),some (stO P 2),some (md P 208 (.str x5 2446)),some o4,(bt (M.objs ⟨S [108,97,119],1196,1,none,[]⟩ (u7 209) (S [108,97,119]) 1750 2737 (.str x5 2446))).get 4]:=by kernel_rfl
noncomputable abbrev d0l:Obj:=⟨.type "function",none,.func (fnD (S [108,97,119]) (S [108,97,119]) (u7 209) 3 .none .none .none (.str x5 2446) (.ref 1753) .none 0),⟨[]⟩⟩
theorem e3y:(bt (M.objs ⟨S [108,97,119],1196,1,none,[]⟩ (u7 209) (S [108,97,119]) 1750 2737 (.str x5 2446))).get 4=some d0l:=by kernel_rfl
theorem d7o:pw.theDef (Str.ofString "law")=some (d3f (u7 209),d3k (u7 209),c2c (u7 209)):=by kernel_rfl
theorem c6r (P:Params):globalOf (boot_heap P) "__annotations__"=some (.ref 6):=by kernel_rfl
theorem f7n (P:Params):(hS P).accountedOkI (importedModules pw.main.body)=true:=by kernel_rfl
theorem c4p (P:Params):staticsOk (importedModules pw.main.body) (boot_heap P) (hS P)=true:=by kernel_rfl
theorem d7b (P:Params):namesBound pw (hS P)=true:=by kernel_rfl
theorem e7n (P:Params):laidKept (boot_heap P) (hS P)=true:=by kernel_rfl
theorem f7q (P:Params):(hS P).bltView=bltViewBooted:=by kernel_rfl
theorem f4w (P:Params):(hS P).isNs builtinsNs=true:=by kernel_rfl
theorem f8w (P:Params):(hS P).isNs mainGlobals=true:=by kernel_rfl
theorem d2z (P:Params):(hS P).nsMap mainGlobals (Str.ofString "law")=some (.ref 1754):=by kernel_rfl
theorem g4n (P:Params):(hS P).nsMap mainGlobals (Str.ofString "__builtins__")=some (.ref 4):=by kernel_rfl
theorem e6b:opensWell pw=true:=by kernel_rfl
theorem f5s:opening pw=plainProg pw.main.scope.names:=by kernel_rfl
theorem f3f (s:Shared):fenceModules? pw s=some s:=by kernel_rfl
theorem e9x:rw_rh0145_01.row.toRowW.promised:=⟨[.list []],by kernel_rfl,by kernel_rfl⟩
theorem e4m:frees rw_rh0145_01.row.toRowW=true:=by kernel_rfl
theorem d5p:rw_rh0145_01.row.toRowW.within.isEmpty=true:=by kernel_rfl
theorem tw1:pw.tablesWhole=true:=by
 unfold Program.tablesWhole TablesWhole.wProgram TablesWhole.holds;rw [Fast.te6116379765354995101,Fast.te15985051520779696433]
 kernel_rfl
theorem f6v:pw.bare:=⟨rfl,rfl,rfl,rfl,rfl,tw1⟩
theorem law_holds (walk:d2y):rw_rh0145_01.Holds:=by
 refine⟨f0x,row_said f0x,e9x,⟨⟨f6v,e6b,rfl⟩,e9x.witness,λw=> ?_⟩⟩
 have h:=boot_open (p:=pw) (N:=600) f5s (by decide) f3f w
 rw [<-table_eq_tree]at h;obtain⟨s₀,h2,e'⟩:=Option.map_eq_some_iff.mp h;obtain⟨s,h4,h5⟩:=Option.bind_eq_some_iff.mp h2;have A:=AfterImport.of_importEnds h4;refine⟨⟨s,A⟩,λs' hs'=> ?_⟩
 obtain rfl:s'=s:=AfterImport.unique hs' A;have z:s₀.asleep:=Shared.asleep_of_life (fence_lifeW h5) A.life;obtain⟨hp,g,d,tk,os⟩:=s₀;obtain⟨rfl,rfl,rfl,rfl⟩:hp=boot_heap w.params/\g=Array.mk []/\d=boot_drawn/\tk=boot_toks:=by simpa using e'
 obtain⟨N,s₁,hr,K⟩:=d7i w os;rw [<-table_eq_tree]at hr;obtain⟨a,l,ho,fr⟩:=topRun_spec _ _ _ _ z hr
 have G:[s₁.heap.get? 0,s₁.heap.get? 2,s₁.heap.get? 3,s₁.heap.get? 4,s₁.heap.get? 1754]=[some (b0 w.params),some (stO w.params 2),some (md w.params 208 (.str x5 2446)),some o4,some d0l]:=by
  have q:=d8r w.params;simp only [List.map_cons,List.map_nil,List.cons.injEq,and_true]at q;obtain⟨q0,q2,q3,q4,q5⟩:=q;rw [e3y]at q5;rw [K.get _ _ q0,K.get _ _ q2,K.get _ _ q3,K.get _ _ q4,K.get _ _ q5]
 simp only [List.cons.injEq,and_true]at G;obtain⟨k0,k2,k3,k4,k5⟩:=G;have e0:s₁.heap.get? builtinsNs=(hS w.params).get? builtinsNs:=k0;have e2:s₁.heap.get? cStatics=(hS w.params).get? cStatics:=k2;have e3:s₁.heap.get? mainGlobals=(hS w.params).get? mainGlobals:=k3;have hg:s₁.heap.isNs mainGlobals=true:=(hV e3).trans (f8w _);have hb:s₁.heap.isNs builtinsNs=true:=(hV e0).trans (f4w _)
 have hacc:s₁.heap.accountedOkI (importedModules pw.main.body)=true:=by
  have:=f7n w.params;unfold Heap.accountedOkI at this⊢;rw [hV e2,mV e2];simp only [gJ e2];exact this
 have hst:staticsOk (importedModules pw.main.body) (boot_heap w.params) s₁.heap=true:=by
  have:=c4p w.params;unfold staticsOk at this⊢;rw [hV e2,mV e2];simp only [gJ e2];exact this
 have hnb:namesBound pw s₁.heap=true:=by
  have:=d7b w.params;unfold namesBound at this⊢;rw [hV e3,mV e3];exact this
 have hlk:laidKept (boot_heap w.params) s₁.heap=true:=by
  have:=e7n w.params;unfold laidKept at this⊢;rw [hV e3];simp only [gJ e3];exact this
 have hblt:s₁.heap.bltView=bltViewBooted:=by
  have:=f7q w.params;unfold Heap.bltView at this⊢;rw [a5x e0];exact this
 have hgl:globalOf s₁.heap (Str.ofString "law")=some (.ref 1754):=by rw [Pin.globalOf_eq hg,gJ e3];exact d2z _
 have hbm:globalOf s₁.heap (Str.ofString "__builtins__")=some (.ref 4):=by rw [Pin.globalOf_eq hg,gJ e3];exact g4n _
 have T:TopRan pw w ⟨boot_heap w.params,Array.mk [],boot_drawn,boot_toks,os⟩ s₁:=
  ⟨a,l,Shared.rest_eq ho,λb o hb' hn=>fr b o (by have:=Heap.lt_size hb';rwa [uA]at this) (λq=>hn (.inl q)) (λq=>hn (.inr (.inl q))) (λq=>hn (.inr (.inr (by rw [c6r];exact q)))) hb',
   Heap.accountedI_of_ok hacc,statics_of_ok hst,Pin.keysAreStrs_of hg,λx hx=>(Pin.builtinOf_eq hb x).trans (Heap.of_bltView hb hblt x hx),⟨4,o4,hbm,k4,rfl,rfl⟩,
   λg hg'=>(by rw [K.gens]at hg';simp at hg'),names_of_bound hnb,laid_of_kept hlk⟩
 have asl:s₁.asleep:=Shared.asleep_of_life l z;refine⟨_,h5,rfl,s₁,T,λn hn=> ?_,λx hx=>(nomatch hx),λx hx=>(nomatch hx),?_⟩
 ·obtain rfl:n=Str.ofString "law":=by
   have q:n∈ [Str.ofString "law"]:=hn;exact List.mem_singleton.mp q
  exact⟨1754,d0l,_,_,_,_,hgl,k5,rfl,d7o,by decide+kernel,by decide+kernel,rfl,rfl,rfl,rfl,rfl,rfl,.inl ⟨by kernel_rfl,rfl⟩,[],by kernel_rfl,.inl ⟨rfl,rfl⟩⟩
 ·refine ClaimW.callFrom_of_specN (c:=cl0) (tree:=λvs=>do match<-nsGet mainNs (Str.ofString "law")with
    |some f=>do ret (<-PySem.call f vs)
    |none=>unsupported "claim.caller:no-such-global") asl (by rw [K.gens];simp [leftWithCleanup]) λargs hpre hlay ord hord=> ?_
  obtain⟨⟨vs,s₂⟩,hlaid⟩:=Option.isSome_iff_exists.mp (layAllW_isSome (R:=[]) (cl:=classAt s₁.heap) (P:=w.params) (ord:=ord) (λc hc=>(nomatch hc)) args rw_rh0145_01.row.toRowW.args s₁ (pre_splitW hpre).1)
  have keeps:=layAllW_keeps _ _ _ hlaid;have hal:=layAllW_rest _ _ _ hlaid;obtain⟨as,hrd,hin,hold⟩:=reads_layAllW hord _ _ _ hlaid hlay s₂.heap (λ_ _ e=>e)
  have wk:=walk w s₁ {s₂ with gens:= #[]} (λa o e=>keeps a o (K.get a o e)) rfl args vs as hpre hlay hrd (well_layAllW hord args s₁ _ hlaid _ λ_ _ e=>e)
   (λa ha=>beq_eq_false_iff_ne.mpr λe=>by
    have q: @LE.le Nat _ s₁.heap.objs.size a:=(hin.2.2 a ha).1;have sz: @Eq Nat s₁.heap.objs.size 1755:=K.size;have e: @Eq Nat a 1:=e;omega)
  obtain⟨hsame,hu,ha,hap,hm⟩:=frees_parts e4m;have hi:=ident_freeW hu ha hap;have hwi:cl0.within=[]:=List.isEmpty_iff.mp d5p;refine⟨vs,s₂,hlaid,?_⟩;refine wpAny_bind (wpAny_nsGet (((Heap.Ns.of_isNs hg).keeps keeps):({s₂ with gens:= #[]}:Shared).heap.Ns mainNs (s₁.heap.nsMap mainGlobals)) ?_)
  rw [show s₁.heap.nsMap mainGlobals (Str.ofString "law")=some (.ref 1754) by rw [gJ e3];exact d2z _]
  refine wpAny_bind (wpAny_mono wk (λv s' g=>wpAny_pure ⟨_,rfl,?_⟩) λe s' g=> ?_)
  ·have zz:=g.endsN (c:=cl0) hsame hwi hi hrd hold hal.2.2.1;exact⟨zz.1,zz.2.1,zz.2.2,λq=>(nomatch q)⟩
  ·have zz:=g.endsN (c:=cl0) hsame hwi hi hrd hold hal.2.2.1;exact⟨zz.1,zz.2.1,zz.2.2,λq=>(nomatch q)⟩
end Mine
namespace Mx
def h3j:=@Nat.le_trans
def h3k:=@Nat.le_refl
def h3l:=@Option.some.inj
def h3m:=@True.intro
def h3n:=@Nat.le_of_ble_eq_true
def h3o:=@List.length_append
def h3p:=@List.append_assoc
def h3q:=@List.append_nil
def h3r:=@Nat.succ_le_succ
def h3s:=@congrArg
def h3t:=@of_decide_eq_true
def h3u:=@decide_eq_false
def h3v:=@decide_eq_true
def h3w:=@Nat.zero_le
def h3x:=@Nat.le_add_right
def h3y:=@Nat.le_of_eq
def h3z:=@Nat.add_le_add_left
def h4a:=@Nat.add_le_add_right
def h4b:=@Nat.le_add_left
def h4c:=@Nat.zero_add
def h4d:=@Nat.add_assoc
def h4e:=@Nat.add_comm
def h4f:=@Nat.add_right_comm
def h4g:=@Nat.eq_of_beq_eq_true
def h4h:=@Nat.le_of_succ_le_succ
def h4i:=@Nat.le_of_succ_le
def h4j:=@List.length_map
def h4k:=@List.length_nil
def h4l:=@Bool.and_eq_true
def h4m:=@Nat.lt_of_lt_of_le
def h4n:=@Nat.le_max_left
def h4o:=@Nat.le_max_right
def h4p:=@Nat.lt_irrefl
def h4q:=@Nat.lt_succ_self
def h4r:=@Nat.le_succ
def h4s:=@PySem.wpAny_bind
def h4t:=@PySem.wpAny_pure
def h4u:=@PySem.wpAny_mono
def h4v:=@PySem.Heap.get?_push_of_some
def h4w:=@Nat.le_succ_of_le
def h4x:=@Nat.add_le_add
def h4y:=@Nat.lt_of_le_of_lt
def h4z:=@Nat.succ_pos
inductive AV where
 |none
 |bool (b:Bool)
 |int (i:Int)
 |str (s:List Nat)
 |tup (l:List AV)
 |lst (l:List AV)
 |inst (c:Nat) (fs:List (Nat×AV))
 |obj (c r:Nat)
 |ref (r:Nat)
 deriving Inhabited
inductive Cell where
 |list (l:List AV)
 |obj (fs:List (Nat×AV))
 |dict (l:List (AV×AV))
 deriving Inhabited
abbrev aB:=List (Option Cell)
noncomputable def aD {α:Type}:List α->Nat->Option α
 |[],_=>.none
 |x::_,0=>some x
 |_::l,n+1=>aD l n
noncomputable def bW {α:Type}:List α->Nat->α->List α
 |[],_,_=>[]
 |_::l,0,y=>y::l
 |x::l,n+1,y=>x::bW l n y
def aQ (st:aB) (r:Nat):Option Cell:=match aD st r with
 |some c=>c
 | .none=>.none
noncomputable def dH:aB->Nat->Option Nat
 |[],_=>.none
 | .none::_,0=>some 0
 |some _::l,0=>(match dH l 0 with|some j=>some (j+1)| .none=>.none)
 |_::l,k+1=>(match dH l k with|some j=>some (j+1)| .none=>.none)
inductive Slot where
 |no
 |val (v:AV)
 |own (l:List AV)
 deriving Inhabited
abbrev aN:=List Slot
noncomputable def rO:List (Nat×AV)->Nat->Option AV
 |[],_=>.none
 |(b,v)::l,a=>match Nat.beq b a with|true=>some v|false=>rO l a
noncomputable def xG:List (Nat×AV)->Nat->AV->List (Nat×AV)
 |[],a,x=>[(a,x)]
 |(b,v)::l,a,x=>match Nat.beq b a with|true=>(b,x)::l|false=>(b,v)::xG l a x
def gU (st:aB):AV->Option (List (Nat×AV))
 | .inst _ fs=>some fs
 | .obj _ r=>(match aQ st r with|some (.obj fs)=>some fs|_=>.none)
 |_=>.none
structure Tab where
 fld:Nat->Nat->Bool
 meth:Nat->Nat->Option Nat
 made:Nat->List AV->Option (List (Nat×AV))
noncomputable def oL:AV->Option Nat
 | .inst c _=>some c
 | .obj c _=>some c
 |_=>.none
def tD (T:Tab) (st:aB) (v:AV) (a:Nat):Option AV:=match oL v,gU st v with
 |some c,some fs=>(match T.fld c a with|true=>rO fs a|false=>.none)
 |_,_=>.none
noncomputable def jD {α:Type}:List α->Bool
 |[]=>false
 |_::_=>true
def AV.truthy:AV->Option Bool
 | .none=>some false
 | .bool b=>some b
 | .int i=>some (!decide (i=0))
 | .str s=>some (jD s)
 | .tup l=>some (jD l)
 | .lst l=>some (jD l)
 |_=>.none
inductive Op where
 |add|sub|mul|mod|fdiv|band
inductive Cm where
 |eq|ne|lt|gt|ge|isin|notin
noncomputable def oY:Nat:=16777216
noncomputable def nB (s:List Nat):Nat->List Nat
 |0=>[]
 |n+1=>s++nB s n
def nZ (x:AV) (k:Int->Prop):Prop:=match x with
 | .int i=>k i
 |_=>False
def onS (x:AV) (k:List Nat->Prop):Prop:=match x with
 | .str i=>k i
 |_=>False
def b0w (x:AV) (k:Int->Prop) (k':List Nat->Prop):Prop:=match x with
 | .int i=>k i
 | .str i=>k' i
 |_=>False
def v8 (o:Op) (x y:AV) (K:AV->Prop):Prop:=match o with
 | .add=>b0w x (λa=>nZ y λb=>K (.int (a+b))) λa=>onS y λb=>a.length+b.length<=oY/\K (.str (a++b))
 | .sub=>nZ x λa=>nZ y λb=>K (.int (a - b))
 | .mul=>b0w x (λa=>nZ y λb=>(a.natAbs<=1000000/\b.natAbs<=1000000)/\K (.int (a*b))) λa=>nZ y λb=>(a.length<=1000/\0<=b/\b<=10000)/\K (.str (nB a b.toNat))
 | .mod=>nZ x λa=>nZ y λb=>0<b/\K (.int (a%b))
 | .fdiv=>nZ x λa=>nZ y λb=>(0<b/\b<1000000)/\K (.int (a/b))
 | .band=>nZ x λa=>nZ y λb=>(0<=a/\0<=b)/\K (.int (Nat.land a.toNat b.toNat:Nat))
noncomputable def oI {α:Type} (x:AV) (k:Int->Option α):Option α:=match x with
 | .int i=>k i
 |_=>.none
noncomputable def oS {α:Type} (x:AV) (k:List Nat->Option α):Option α:=match x with
 | .str i=>k i
 |_=>.none
noncomputable def oIS {α:Type} (x:AV) (k:Int->Option α) (k':List Nat->Option α):Option α:=match x with
 | .int i=>k i
 | .str i=>k' i
 |_=>.none
def iJ (x y:AV):Option Bool:=oIS y (λb=>oI x λa=>some (decide (a=b))) λb=>oS x λa=>some (decide (a=b))
noncomputable def qN (x:AV):List AV->Option Bool
 |[]=>some false
 |y::l=>match iJ y x,qN x l with|some a,some b=>some (a||b)|_,_=>.none
noncomputable def dget (x:AV):List (AV×AV)->Option (Option AV)
 |[]=>(match x with| .int _=>some .none| .str _=>some .none|_=>.none)
 |(k,v)::l=>match iJ k x with|some true=>some (some v)|some false=>dget x l| .none=>.none
noncomputable def dY (x v:AV):List (AV×AV)->Option (List (AV×AV))
 |[]=>(match x with| .int _=>some [(x,v)] | .str _=>some [(x,v)] |_=>.none)
 |(k,y)::l=>match iJ k x with
  |some true=>some ((k,v)::l)
  |some false=>(match dY x v l with|some l'=>some ((k,y)::l')| .none=>.none)
  | .none=>.none
noncomputable def eS (c:Nat):List Nat->Bool
 |[]=>false
 |d::l=>match Nat.beq d c with|true=>true|false=>eS c l
def inD (st:aB) (x:AV) (r:Nat):Option Bool:=match aQ st r with
 |some (.dict l)=>(match dget x l with|some o=>some o.isSome| .none=>.none)
 |_=>.none
def inS (x:AV) (b:List Nat):Option Bool:=match x with
 | .str l=>(match l with
  |c::l=>(match l with|[]=>some (eS c b)|_=>.none)
  |_=>.none)
 |_=>.none
def inv (st:aB) (x:AV):AV->Option Bool
 | .tup l=>qN x l
 | .str b=>inS x b
 | .ref r=>inD st x r
 |_=>.none
def a3z (st:aB) (o:Cm) (x y:AV):Option Bool:=match o with
 | .eq=>iJ x y
 | .ne=>(match iJ x y with|some t=>some (!t)| .none=>.none)
 | .lt=>oI x λa=>oI y λb=>some (decide (a<b))
 | .gt=>oI x λa=>oI y λb=>some (decide (b<a))
 | .ge=>oI x λa=>oI y λb=>some (decide (b<=a))
 | .isin=>inv st x y
 | .notin=>(match y with
  | .ref r=>(match inD st x r with|some t=>some (!t)| .none=>.none)
  |_=>.none)
noncomputable def AV.isNone:AV->Bool
 | .none=>true
 |_=>false
def pT (st:aB):AV->Option (List AV)
 | .lst l=>some l
 | .tup l=>some l
 | .ref r=>(match aQ st r with|some (.list l)=>some l|_=>.none)
 |_=>.none
def b9f (st:aB):AV->Option Nat
 | .str s=>some s.length
 |v=>(match pT st v with|some l=>some l.length| .none=>.none)
def at? {α:Type} (l:List α) (i:Int):Option α:=match i with
 | .ofNat n=>aD l n
 | .negSucc n=>aD l.reverse n
def a2p (st:aB) (r:Nat) (i:AV):Option AV:=match aQ st r with
 |some (.dict d)=>(match dget i d with|some (some x)=>some x|_=>.none)
 |_=>.none
def dB (st:aB) (v i:AV):Option AV:=match i with
 | .int n=>(match v with
  | .str s=>(match at? s n with|some c=>some (.str [c])| .none=>.none)
  | .lst l=>at? l n
  | .tup l=>at? l n
  | .ref r=>(match aQ st r with
   |some (.list l)=>at? l n
   |_=>a2p st r (.int n))
  |_=>.none)
 | .str n=>(match v with
  | .ref r=>a2p st r (.str n)
  |_=>.none)
 |_=>.none
noncomputable def uQ:AV->Nat->Option Nat
 | .none,d=>some d
 | .int (.ofNat n),_=>some n
 |_,_=>.none
noncomputable def dR {α:Type} (l:List α) (lo hi:Nat):List α:=(l.take hi).drop lo
noncomputable def dL (sep:List Nat):List AV->Option (List Nat)
 |[]=>some []
 |v::l=>oS v λs=>match l with
  |[]=>some s
  |_::_=>(match dL sep l with|some r=>some (s++sep++r)| .none=>.none)
noncomputable def oP:List AV->Option Int
 |[]=>some 0
 |v::l=>oI v λi=>match oP l with|some r=>some (i+r)| .none=>.none
noncomputable def e9 (i:Int):Nat->List AV
 |0=>[]
 |k+1=>.int i::e9 (i+1) k
def yM (n:Int):List AV:=e9 0 n.toNat
def a0x (st:aB) (rng:Bool) (v:AV):Option (List AV):=match rng with
 |true=>oI v λn=>(match decide (n.natAbs<4611686018427387904)with|true=>some (yM n)|false=>.none)
 |false=>(match v with
  | .lst l=>some l
  | .tup l=>some l
  |_=>.none)
mutual
noncomputable def AV.noRef:AV->Bool
 | .tup l=>nJ l
 | .lst l=>nJ l
 | .inst _ fs=>a9e fs
 | .obj _ _=>false
 | .ref _=>false
 |_=>true
noncomputable def nJ:List AV->Bool
 |[]=>true
 |v::l=>v.noRef&&nJ l
noncomputable def a9e:List (Nat×AV)->Bool
 |[]=>true
 |(_,v)::l=>v.noRef&&a9e l
end
def old (a b:aB):Prop:=∀r c,aQ a r=some c->aQ b r=some c
mutual
inductive E where
 |lit (v:AV)
 |glob (g:Nat) (v:AV)
 |var (i:Nat)
 |share (i k:Nat)
 |attr (e:E) (a:Nat)
 |bin (o:Op) (a b:E)
 |notE (e:E)
 |andE (a b:E)
 |orE (a b:E)
 |cmp (o:Cm) (a b:E)
 |isN (no:Bool) (a:E)
 |ife (c:C) (a b:E)
 |call (f:Nat) (es:Es)
 |callP (f:Nat) (es:Es)
 |meth (o:E) (m:Nat) (es:Es)
 |new0 (c:Nat)
 |newI (c f:Nat) (es:Es)
 |newO (c k f:Nat) (es:Es)
 |len (e:E)
 |idx (a b:E)
 |cut (a lo hi:E)
 |tup (es:Es)
 |dictD (k:Nat) (ks:List AV) (vs:Es)
 |dget (d k:E)
 |join (sep:List Nat) (e:E)
 |sum (e:E)
 |frz (f:F)
 |cellL (k:Nat) (f:F)
 |popV (i:Nat)
 |popC (e:E)
 |bad
inductive Es where
 |nil
 |cons (e:E) (es:Es)
inductive C where
 |tt
 |e (e:E)
 |own (i:Nat)
 |not (c:C)
 |and (a b:C)
 |or (a b:C)
inductive F where
 |disp (es:Es)
 |cat (a b:E)
 |cut (a lo hi:E)
 |comp (caps:List Nat) (tg:List Nat) (rng:Bool) (it:E) (cond:C) (elt:E)
end
mutual
inductive S where
 |assign (i:Nat) (e:E)
 |ownS (i:Nat) (f:F)
 |expr (e:E)
 |appV (i:Nat) (e:E)
 |appC (l e:E)
 |setA (o:E) (a:Nat) (e:E)
 |augA (o:E) (a:Nat) (op:Op) (e:E)
 |augV (i:Nat) (op:Op) (e:E)
 |setI (d k e:E)
 |unpack (is:List Nat) (e:E)
 |ret (e:E)
 |retN
 |ite (c:C) (a b:Ss)
 |while (c:C) (b:Ss)
 |forL (tg:List Nat) (one:Bool) (rng:Bool) (it:E) (b:Ss)
 |forC (i:Nat) (it:E) (b:Ss)
 |brk
 |cont
 |tryB (b:Ss)
 |bad
inductive Ss where
 |nil
 |cons (s:S) (ss:Ss)
end
inductive Fl where
 |nxt|brk|cont
 |ret (v:AV)
noncomputable def mZ:aN->List Nat->List AV->Option aN
 |L,[],[]=>some L
 |L,i::is,v::vs=>mZ (bW L i (.val v)) is vs
 |_,_,_=>.none
def uT (L:aN) (tg:List Nat) (one:Bool) (x:AV):Option aN:=match one with
 |true=>(match tg with
  |[]=>.none
  |i::r=>(match r with
   |[]=>some (bW L i (.val x))
   |_::_=>.none))
 |false=>(match x with
  | .tup l=>mZ L tg l
  |_=>.none)
def pQ (L:aN) (is:List Nat):AV->Option aN
 | .tup l=>mZ L is l
 | .lst l=>mZ L is l
 |_=>.none
noncomputable def fT (L:aN):List Nat->Option aN
 |[]=>some []
 |i::is=>match aD L i with
  |some (.val v)=>(match fT L is with|some l=>some (.val v::l)| .none=>.none)
  |_=>.none
abbrev RT:=Nat->List AV->aB->(AV->aB->Prop)->Prop
noncomputable def kB (m:Nat):List (Nat×AV)->Bool
 |[]=>true
 |(b,_)::l=>match Nat.beq b m with|true=>false|false=>kB m l
def o6 (T:Tab) (st:aB) (v:AV) (m:Nat):Option Nat:=match oL v,gU st v with
 |some c,some fs=>(match kB m fs with|true=>T.meth c m|false=>.none)
 |_,_=>.none
noncomputable def b9h:List Nat->Bool
 |[_]=>true
 |_=>false
abbrev VK:=AV->aN->aB->Prop
abbrev LK:=List AV->aN->aB->Prop
abbrev BK:=Bool->aN->aB->Prop
abbrev FK:=Fl->aN->aB->Prop
abbrev gP:=aN->aB->VK->Prop
abbrev EvC:=aN->aB->BK->Prop
abbrev EvL:=aN->aB->LK->Prop
abbrev EvS:=aN->aB->FK->Prop
def f7j (T:Tab) (a:Nat) (K:VK):VK:=λv L st=>match tD T st v a with
 |some x=>K x L st
 | .none=>False
def kV {α:Type} (L:aN) (st:aB) (K:α->aN->aB->Prop):α->Prop:=λz=>K z L st
def f9g (o:Op) (x:AV) (K:VK):VK:=λy L st=>v8 o x y (kV L st K)
def g1q (o:Op) (b:gP) (K:VK):VK:=λx L st=>b L st (f9g o x K)
def g3e (K:VK):VK:=λv L st=>match v.truthy with
 |some b=>K (.bool !b) L st
 | .none=>False
def g9y (b:gP) (K:VK):VK:=λv L st=>match v.truthy with
 |some true=>b L st K
 |some false=>K v L st
 | .none=>False
def kOr (b:gP) (K:VK):VK:=λv L st=>match v.truthy with
 |some true=>K v L st
 |some false=>b L st K
 | .none=>False
def f7y (o:Cm) (x:AV) (K:VK):VK:=λy L st=>match a3z st o x y with
 |some t=>K (.bool t) L st
 | .none=>False
def h1w (o:Cm) (b:gP) (K:VK):VK:=λx L st=>b L st (f7y o x K)
def g7x (no:Bool) (K:VK):VK:=λx L st=>K (.bool (match no with|true=> !x.isNone|false=>x.isNone)) L st
def g0h (a b:gP) (K:VK):BK:=λt L st=>match t with
 |true=>a L st K
 |false=>b L st K
def kR (L:aN) (K:VK):AV->aB->Prop:=λv st=>K v L st
def f8c (R:RT) (f:Nat) (K:VK):LK:=λvs L st=>R f vs st (kR L K)
def kP2 (L:aN) (st:aB) (K:VK):AV->aB->Prop:=λv st'=>(v.noRef=true/\old st st')/\K v L st
def e3v (R:RT) (f:Nat) (K:VK):LK:=λvs L st=>R f vs st (kP2 L st K)
def d9x (R:RT) (f:Nat) (v:AV) (K:VK):LK:=λvs L st=>R f (v::vs) st (kR L K)
def f8b (T:Tab) (R:RT) (m:Nat) (es:EvL) (K:VK):VK:=λv L st=>match o6 T st v m with
 |some f=>es L st (d9x R f v K)
 | .none=>False
def f5j (T:Tab) (R:RT) (c f:Nat) (K:VK):LK:=λvs L st=>match T.made c vs with
 |some fs=>R f (.obj c st.length::vs) (st++[some (.obj [])]) (λv st'=>v=.none/\st'=st++[some (.obj fs)])/\K (.inst c fs) L st
 | .none=>False
def e7b (v:AV) (L:aN) (K:VK):AV->aB->Prop:=λx st=>x=.none/\K v L st
def b5x (R:RT) (c k f:Nat) (K:VK):LK:=λvs L st=>match dH st k with
 |some r=>R f (.obj c r::vs) (bW st r (some (.obj []))) (e7b (.obj c r) L K)
 | .none=>False
def h2w (K:VK):VK:=λv L st=>match b9f st v with
 |some n=>K (.int n) L st
 | .none=>False
def b6j (x:AV) (K:VK):VK:=λy L st=>match dB st x y with
 |some z=>K z L st
 | .none=>False
def g8x (b:gP) (K:VK):VK:=λx L st=>b L st (b6j x K)
def f8s (x l:AV) (K:VK):VK:=λh L st=>match x with
 | .str s=>(match uQ l 0,uQ h s.length with
  |some i,some j=>K (.str (dR s i j)) L st
  |_,_=>False)
 |_=>False
def f8m (hi:gP) (x:AV) (K:VK):VK:=λl L st=>hi L st (f8s x l K)
def h3i (lo hi:gP) (K:VK):VK:=λx L st=>lo L st (f8m hi x K)
def h3g (K:VK):LK:=λvs L st=>K (.tup vs) L st
def f6j (k:Nat) (ks:List AV) (K:VK):LK:=λvs L st=>match dH st k with
 |some r=>ks.length=vs.length/\K (.ref r) L (bW st r (some (.dict (ks.zip vs))))
 | .none=>False
def f3b (r:Nat) (K:VK):VK:=λy L st=>match aQ st r with
 |some (.dict l)=>(match Mx.dget y l with
  |some (some z)=>K z L st
  |some .none=>K .none L st
  | .none=>False)
 |_=>False
def f5w (k:gP) (K:VK):VK:=λx L st=>match x with
 | .ref r=>(match aQ st r with
  |some (.dict _)=>k L st (f3b r K)
  |_=>False)
 |_=>False
def f8a (sep:List Nat) (K:VK):VK:=λv L st=>match v with
 | .lst l=>(match dL sep l with
  |some s=>s.length+sep.length<=oY/\K (.str s) L st
  | .none=>False)
 |_=>False
def f9y (K:VK):VK:=λv L st=>match v with
 | .lst l=>(match oP l with
  |some i=>K (.int i) L st
  | .none=>False)
 |_=>False
def g8z (K:VK):LK:=λl L st=>K (.lst l) L st
def f8j (k:Nat) (K:VK):LK:=λl L st=>match dH st k with
 |some r=>K (.ref r) L (bW st r (some (.list l)))
 | .none=>False
def f8v (K:VK):VK:=λv L st=>match v with
 | .ref r=>(match aQ st r with
  |some (.list l)=>(match aD l.reverse 0 with
   |some x=>K x L (bW st r (some (.list l.dropLast)))
   | .none=>False)
  |_=>False)
 |_=>False
def d9n (v:AV) (K:LK):LK:=λvs L st=>K (v::vs) L st
def f4k (es:EvL) (K:LK):VK:=λv L st=>es L st (d9n v K)
def c6u (K:BK):VK:=λv L st=>match v.truthy with
 |some b=>K b L st
 | .none=>False
def f5y (K:BK):BK:=λb L st=>K (!b) L st
def f5u (b:EvC) (K:BK):BK:=λt L st=>match t with
 |true=>b L st K
 |false=>K false L st
def f9s (b:EvC) (K:BK):BK:=λt L st=>match t with
 |true=>K true L st
 |false=>b L st K
def f5c (x:AV) (K:LK):VK:=λy L st=>match x,y with
 | .lst l,.lst r=>l.length+r.length<=oY/\K (l++r) L st
 |_,_=>False
def h1u (b:gP) (K:LK):VK:=λx L st=>b L st (f5c x K)
def d9q (x l:AV) (K:LK):VK:=λh L st=>match x with
 | .lst xs=>(match uQ l 0,uQ h xs.length with
  |some i,some j=>K (dR xs i j) L st
  |_,_=>False)
 |_=>False
def e5f (hi:gP) (x:AV) (K:LK):VK:=λl L st=>hi L st (d9q x l K)
def f7k (lo hi:gP) (K:LK):VK:=λx L st=>lo L st (e5f hi x K)
def e0k (k:List AV->aB->Prop) (acc:List AV):VK:=λv _ st=>acc.length<=1000000/\k (acc++[v]) st
def c3f (elt:gP) (k:List AV->aB->Prop) (acc:List AV):BK:=λt L2 st=>match t with
 |true=>elt L2 st (e0k k acc)
 |false=>k acc st
def f0 (tg:List Nat) (n:Nat) (Lc:aN) (cond:EvC) (elt:gP) (x:AV) (k:List AV->aB->Prop) (acc:List AV) (st:aB):Prop:=
 match uT (Lc++tg.map λ_=>.no) (tg.map (· +n)) (b9h tg) x with
 |some Lx=>cond Lx st (c3f elt k acc)
 | .none=>False
def e0t (L:aN) (K:LK):List AV->aB->Prop:=λacc st=>K acc L st
def kIt (rng:Bool) (K:LK):VK:=λx L st=>match a0x st rng x with
 |some l=>K l L st
 | .none=>False
def f9a (tg:List Nat) (n:Nat) (Lc:aN) (cond:EvC) (elt:gP) (K:LK):LK:=λl L st=>l.foldr (f0 tg n Lc cond elt) (e0t L K) [] st
def e6n (i:Nat) (L:aN) (st:aB) (K:VK):Prop:=match aD L i with
 |some (.val v)=>K v L st
 |some (.own l)=>K (.lst l) (bW L i (.val (.lst l))) st
 |_=>False
def e7p (i k:Nat) (L:aN) (st:aB) (K:VK):Prop:=match aD L i with
 |some (.own l)=>(match dH st k with
  |some r=>K (.ref r) (bW L i (.val (.ref r))) (bW st r (some (.list l)))
  | .none=>False)
 |_=>False
def f7v (i:Nat) (L:aN) (st:aB) (K:VK):Prop:=match aD L i with
 |some (.own l)=>(match aD l.reverse 0 with
  |some v=>K v (bW L i (.own l.dropLast)) st
  | .none=>False)
 |_=>False
def h0y (i:Nat) (L:aN) (st:aB) (K:BK):Prop:=match aD L i with
 |some (.own l)=>K (jD l) L st
 |_=>False
def f8f (tg caps:List Nat) (rng:Bool) (it:gP) (cond:EvC) (elt:gP) (L:aN) (st:aB) (K:LK):Prop:=match fT L caps with
 |some Lc=>it L st (kIt rng (f9a tg caps.length Lc cond elt K))
 | .none=>False
mutual
noncomputable def aE (T:Tab) (R:RT):E->aN->aB->VK->Prop
 | .lit v,L,st,K=>K v L st
 | .glob _ v,L,st,K=>K v L st
 | .var i,L,st,K=>e6n i L st K
 | .share i k,L,st,K=>e7p i k L st K
 | .attr e a,L,st,K=>aE T R e L st (f7j T a K)
 | .bin o a b,L,st,K=>aE T R a L st (g1q o (aE T R b) K)
 | .notE e,L,st,K=>aE T R e L st (g3e K)
 | .andE a b,L,st,K=>aE T R a L st (g9y (aE T R b) K)
 | .orE a b,L,st,K=>aE T R a L st (kOr (aE T R b) K)
 | .cmp o a b,L,st,K=>aE T R a L st (h1w o (aE T R b) K)
 | .isN no a,L,st,K=>aE T R a L st (g7x no K)
 | .ife c a b,L,st,K=>aC T R c L st (g0h (aE T R a) (aE T R b) K)
 | .call f es,L,st,K=>m9 T R es L st (f8c R f K)
 | .callP f es,L,st,K=>m9 T R es L st (e3v R f K)
 | .meth o m es,L,st,K=>aE T R o L st (f8b T R m (m9 T R es) K)
 | .new0 c,L,st,K=>K (.inst c []) L st
 | .newI c f es,L,st,K=>m9 T R es L st (f5j T R c f K)
 | .newO c k f es,L,st,K=>m9 T R es L st (b5x R c k f K)
 | .len e,L,st,K=>aE T R e L st (h2w K)
 | .idx a b,L,st,K=>aE T R a L st (g8x (aE T R b) K)
 | .cut a lo hi,L,st,K=>aE T R a L st (h3i (aE T R lo) (aE T R hi) K)
 | .tup es,L,st,K=>m9 T R es L st (h3g K)
 | .dictD k ks vs,L,st,K=>m9 T R vs L st (f6j k ks K)
 | .dget d k,L,st,K=>aE T R d L st (f5w (aE T R k) K)
 | .join sep e,L,st,K=>aE T R e L st (f8a sep K)
 | .sum e,L,st,K=>aE T R e L st (f9y K)
 | .frz f,L,st,K=>aF T R f L st (g8z K)
 | .cellL k f,L,st,K=>aF T R f L st (f8j k K)
 | .popV i,L,st,K=>f7v i L st K
 | .popC e,L,st,K=>aE T R e L st (f8v K)
 | .bad,_,_,_=>False
noncomputable def m9 (T:Tab) (R:RT):Es->aN->aB->LK->Prop
 | .nil,L,st,K=>K [] L st
 | .cons e es,L,st,K=>aE T R e L st (f4k (m9 T R es) K)
noncomputable def aC (T:Tab) (R:RT):C->aN->aB->BK->Prop
 | .tt,L,st,K=>K true L st
 | .e e,L,st,K=>aE T R e L st (c6u K)
 | .own i,L,st,K=>h0y i L st K
 | .not c,L,st,K=>aC T R c L st (f5y K)
 | .and a b,L,st,K=>aC T R a L st (f5u (aC T R b) K)
 | .or a b,L,st,K=>aC T R a L st (f9s (aC T R b) K)
noncomputable def aF (T:Tab) (R:RT):F->aN->aB->LK->Prop
 | .disp es,L,st,K=>m9 T R es L st K
 | .cat a b,L,st,K=>aE T R a L st (h1u (aE T R b) K)
 | .cut a lo hi,L,st,K=>aE T R a L st (f7k (aE T R lo) (aE T R hi) K)
 | .comp caps tg rng it cond elt,L,st,K=>f8f tg caps rng (aE T R it) (aC T R cond) (aE T R elt) L st K
end
def g5p (i:Nat) (K:FK):VK:=λv L st=>K .nxt (bW L i (.val v)) st
def h1t (i:Nat) (K:FK):LK:=λl L st=>K .nxt (bW L i (.own l)) st
def g2y (K:FK):VK:=λ_ L st=>K .nxt L st
def f6s (i:Nat) (K:FK):VK:=λv L st=>match aD L i with
 |some (.own l)=>l.length<=1000000/\K .nxt (bW L i (.own (l++[v]))) st
 |_=>False
def e1q (r:Nat) (K:FK):VK:=λv L st=>match aQ st r with
 |some (.list l)=>l.length<=1000000/\K .nxt L (bW st r (some (.list (l++[v]))))
 |_=>False
def f4l (e:gP) (K:FK):VK:=λx L st=>match x with
 | .ref r=>(match aQ st r with
  |some (.list _)=>e L st (e1q r K)
  |_=>False)
 |_=>False
def e3n (T:Tab) (a:Nat) (v:AV) (K:FK):VK:=λx L st=>match x with
 | .obj c r=>(match T.fld c a,aQ st r with
  |true,some (.obj fs)=>(match Nat.ble fs.length 900 with
   |true=>K .nxt L (bW st r (some (.obj (xG fs a v))))
   |false=>False)
  |_,_=>False)
 |_=>False
def f6q (T:Tab) (a:Nat) (o:gP) (K:FK):VK:=λv L st=>o L st (e3n T a v K)
def e5i (x:AV) (a:Nat) (L:aN) (st:aB) (K:FK):AV->Prop:=λz=>match x with
 | .obj _ r=>(match aQ st r with
  |some (.obj fs)=>(match Nat.ble fs.length 900 with
   |true=>K .nxt L (bW st r (some (.obj (xG fs a z))))
   |false=>False)
  |_=>False)
 |_=>False
def f0h (x:AV) (a:Nat) (op:Op) (u:AV) (K:FK):VK:=λv L st=>v8 op u v (e5i x a L st K)
def f9k (T:Tab) (a:Nat) (op:Op) (e:gP) (K:FK):VK:=λx L st=>match tD T st x a with
 |some u=>e L st (f0h x a op u K)
 | .none=>False
def f7p (i:Nat) (L:aN) (st:aB) (K:FK):AV->Prop:=λz=>K .nxt (bW L i (.val z)) st
def f5m (i:Nat) (op:Op) (u:AV) (K:FK):VK:=λv L st=>v8 op u v (f7p i L st K)
def e6u (v x:AV) (K:FK):VK:=λy L st=>match x with
 | .ref r=>(match aQ st r with
  |some (.dict l)=>(match dY y v l with
   |some l'=>l.length<=1000/\K .nxt L (bW st r (some (.dict l')))
   | .none=>False)
  |_=>False)
 |_=>False
def e8c (k:gP) (v:AV) (K:FK):VK:=λx L st=>k L st (e6u v x K)
def f4g (d k:gP) (K:FK):VK:=λv L st=>d L st (e8c k v K)
def g2v (is:List Nat) (K:FK):VK:=λv L st=>match pQ L is v with
 |some L'=>K .nxt L' st
 | .none=>False
def g8u (K:FK):VK:=λv L st=>K (.ret v) L st
def f1m (a b:EvS) (K:FK):BK:=λt L st=>match t with
 |true=>a L st K
 |false=>b L st K
def mC (k:aN->aB->Prop) (K:FK):FK:=λfl L st=>match fl with
 | .nxt=>k L st
 | .cont=>k L st
 | .brk=>K .nxt L st
 | .ret v=>K (.ret v) L st
def g9b (b:EvS) (k:aN->aB->Prop) (K:FK):BK:=λt L st=>match t with
 |true=>b L st (mC k K)
 |false=>K .nxt L st
def kWh (c:EvC) (b:EvS) (K:FK) (k:aN->aB->Prop) (L:aN) (st:aB):Prop:=c L st (g9b b k K)
def gQ (tg:List Nat) (one:Bool) (b:EvS) (K:FK) (x:AV) (k:aN->aB->Prop) (L:aN) (st:aB):Prop:=match uT L tg one x with
 |some L=>b L st (mC k K)
 | .none=>False
def e7f (tg:List Nat) (one:Bool) (b:EvS) (K:FK):LK:=λl L st=>l.foldr (gQ tg one b K) (K .nxt) L st
def b0d (i r:Nat) (l:List AV) (b:EvS) (K:FK) (x:AV) (k:aN->aB->Prop) (L:aN) (st:aB):Prop:=
 aQ st r=some (.list l)/\b (bW L i (.val x)) st (mC k K)
def b1i (r:Nat) (l:List AV) (K:FK) (L:aN) (st:aB):Prop:=aQ st r=some (.list l)/\K .nxt L st
def f5i (i:Nat) (b:EvS) (K:FK):VK:=λx L st=>match x with
 | .ref r=>(match aQ st r with
  |some (.list l)=>l.foldr (b0d i r l b K) (b1i r l K) L st
  |_=>False)
 |_=>False
def jB (ss:EvS) (K:FK):FK:=λfl L st=>match fl with
 | .nxt=>ss L st K
 | .brk=>K .brk L st
 | .cont=>K .cont L st
 | .ret v=>K (.ret v) L st
def f9j (i:Nat) (e:gP) (L:aN) (st:aB) (K:FK):Prop:=match aD L i with
 |some (.own _)=>e L st (f6s i K)
 |_=>False
def f5r (i:Nat) (op:Op) (e:gP) (L:aN) (st:aB) (K:FK):Prop:=match aD L i with
 |some (.val u)=>e L st (f5m i op u K)
 |_=>False
def f4d (c:EvC) (b:EvS) (L:aN) (st:aB) (K:FK):Prop:=∃n:Nat,Nat.rec (motive:=λ_=>aN->aB->Prop) (λ_ _=>False) (λ_=>kWh c b K) n L st
mutual
noncomputable def aS (T:Tab) (R:RT):S->aN->aB->FK->Prop
 | .assign i e,L,st,K=>aE T R e L st (g5p i K)
 | .ownS i f,L,st,K=>aF T R f L st (h1t i K)
 | .expr e,L,st,K=>aE T R e L st (g2y K)
 | .appV i e,L,st,K=>f9j i (aE T R e) L st K
 | .appC l e,L,st,K=>aE T R l L st (f4l (aE T R e) K)
 | .setA o a e,L,st,K=>aE T R e L st (f6q T a (aE T R o) K)
 | .augA o a op e,L,st,K=>aE T R o L st (f9k T a op (aE T R e) K)
 | .augV i op e,L,st,K=>f5r i op (aE T R e) L st K
 | .setI d k e,L,st,K=>aE T R e L st (f4g (aE T R d) (aE T R k) K)
 | .unpack is e,L,st,K=>aE T R e L st (g2v is K)
 | .ret e,L,st,K=>aE T R e L st (g8u K)
 | .retN,L,st,K=>K (.ret .none) L st
 | .ite c a b,L,st,K=>aC T R c L st (f1m (aZ T R a) (aZ T R b) K)
 | .while c b,L,st,K=>f4d (aC T R c) (aZ T R b) L st K
 | .forL tg one rng it b,L,st,K=>aE T R it L st (kIt rng (e7f tg one (aZ T R b) K))
 | .forC i it b,L,st,K=>aE T R it L st (f5i i (aZ T R b) K)
 | .brk,L,st,K=>K .brk L st
 | .cont,L,st,K=>K .cont L st
 | .tryB b,L,st,K=>aZ T R b L st K
 | .bad,_,_,_=>False
noncomputable def aZ (T:Tab) (R:RT):Ss->aN->aB->FK->Prop
 | .nil,L,st,K=>K .nxt L st
 | .cons s ss,L,st,K=>aS T R s L st (jB (aZ T R ss) K)
end
structure Fn where
 np:Nat
 nv:Nat
 body:Ss
def locals (f:Fn) (vs:List AV):aN:=vs.map .val++List.replicate (f.nv - f.np) .no
def c4 (P:AV->aB->Prop):FK:=λfl _ st=>match fl with
 | .nxt=>P .none st
 | .ret v=>P v st
 | .brk=>False
 | .cont=>False
noncomputable def aO (T:Tab) (fn:Nat->Option Fn):Nat->RT
 |0,_,_,_,_=>False
 |n+1,f,vs,st,P=>(match fn f with
  |some F=>vs.length=F.np/\aZ T (aO T fn n) F.body (locals F vs) st (c4 P)
  | .none=>False)
noncomputable abbrev f0n:Nat:=1
noncomputable abbrev e0n:Nat:=2
noncomputable abbrev c1o:Nat:=3
noncomputable abbrev sO:Nat:=4
noncomputable abbrev a4a:Nat:=6
noncomputable abbrev a6o:Nat:=7
noncomputable abbrev uO:Nat:=8
noncomputable abbrev a9f:Nat:=9
noncomputable abbrev zK:Nat:=10
noncomputable abbrev cD:Nat:=12
noncomputable abbrev zM:Nat:=13
noncomputable abbrev b3a:Nat:=14
noncomputable abbrev b0e:Nat:=15
noncomputable abbrev w1:Nat:=16
noncomputable abbrev tW:Nat:=17
noncomputable abbrev hH:Nat:=18
noncomputable abbrev vV:Nat:=19
noncomputable abbrev a9k:Nat:=20
noncomputable abbrev b1y:Nat:=21
noncomputable abbrev b8w:Nat:=22
noncomputable abbrev a8b:Nat:=32
noncomputable abbrev a6l:Nat:=43
noncomputable abbrev tJ:Nat:=44
noncomputable abbrev a3b:Nat:=45
noncomputable abbrev a6k:Nat:=46
noncomputable abbrev wY:Nat:=47
noncomputable abbrev xO:Nat:=48
noncomputable abbrev xN:Nat:=49
noncomputable abbrev lZ:Nat:=50
noncomputable abbrev lV:Nat:=51
noncomputable abbrev tV:Nat:=52
noncomputable abbrev tU:Nat:=53
noncomputable abbrev uI:Nat:=54
noncomputable abbrev xS:Nat:=55
noncomputable abbrev pA:Nat:=56
noncomputable abbrev sD:Nat:=57
noncomputable abbrev wU:Nat:=58
noncomputable abbrev gA:Nat:=59
noncomputable abbrev mP:Nat:=60
noncomputable abbrev b6a:Nat:=61
noncomputable abbrev a2e:Nat:=62
noncomputable abbrev wG:Nat:=63
noncomputable abbrev qF:Nat:=64
noncomputable abbrev zH:Nat:=65
noncomputable abbrev y7:Nat:=66
noncomputable abbrev vL:Nat:=67
noncomputable abbrev nE:Nat:=68
noncomputable abbrev b2g:Nat:=69
noncomputable abbrev x3:Nat:=70
noncomputable abbrev y6:Nat:=71
noncomputable abbrev b6v:Nat:=72
noncomputable abbrev xP:Nat:=73
noncomputable abbrev b2v:Nat:=74
noncomputable abbrev b2s:Nat:=75
noncomputable abbrev b7f:Nat:=76
noncomputable abbrev b1t:Nat:=77
noncomputable abbrev b0y:Nat:=78
noncomputable abbrev q6:Nat:=79
noncomputable abbrev yC:Nat:=80
noncomputable abbrev m8:Nat:=81
noncomputable abbrev nT:Nat:=87
noncomputable abbrev a1p:Nat:=88
noncomputable abbrev a1g:Nat:=89
noncomputable abbrev b2w:Nat:=91
noncomputable abbrev wD:Nat:=92
noncomputable abbrev w0:Nat:=95
noncomputable abbrev rY:Nat:=96
noncomputable abbrev nV:Nat:=97
noncomputable abbrev tH:Nat:=98
noncomputable abbrev a6b:Nat:=99
noncomputable abbrev b1k:Nat:=102
noncomputable abbrev uK:Nat:=103
noncomputable abbrev rB:Nat:=104
noncomputable abbrev rQ:Nat:=105
noncomputable abbrev rH:Nat:=106
noncomputable abbrev y1:Nat:=107
noncomputable abbrev b6m:Nat:=109
noncomputable abbrev b9t:Nat:=110
noncomputable abbrev b2b:Nat:=111
noncomputable abbrev b2u:Nat:=112
noncomputable abbrev a5h:Nat:=113
noncomputable abbrev b9v:Nat:=114
noncomputable abbrev b2o:Nat:=115
noncomputable abbrev b7y:Nat:=116
noncomputable abbrev b6d:Nat:=117
noncomputable abbrev a7m:Nat:=118
noncomputable abbrev c2m:Nat:=119
noncomputable abbrev b2e:Nat:=120
noncomputable abbrev a1q:Nat:=121
noncomputable abbrev qU:Nat:=122
noncomputable abbrev tG:Nat:=123
noncomputable abbrev tZ:Nat:=124
noncomputable abbrev a4m:Nat:=125
noncomputable abbrev uE:Nat:=126
noncomputable abbrev b2t:Nat:=127
noncomputable abbrev b7n:Nat:=128
noncomputable abbrev mI:Nat:=129
noncomputable abbrev a8t:Nat:=130
noncomputable abbrev rC:Nat:=131
noncomputable abbrev fU:Nat:=132
noncomputable abbrev rU:Nat:=133
noncomputable abbrev a6j:Nat:=134
noncomputable abbrev cS (s:S) (l:Ss):Ss:=.cons s l
noncomputable abbrev nS:Ss:=.nil
noncomputable abbrev E1 (a:E):Es:=.cons a .nil
noncomputable abbrev E2 (a b:E):Es:=.cons a (.cons b .nil)
noncomputable abbrev E3 (a b c:E):Es:=.cons a (.cons b (.cons c .nil))
noncomputable abbrev E4 (a b c d:E):Es:=.cons a (.cons b (.cons c (.cons d .nil)))
noncomputable abbrev E5 (a b c d e:E):Es:=.cons a (.cons b (.cons c (.cons d (.cons e .nil))))
noncomputable abbrev E6 (a b c d e f:E):Es:=.cons a (.cons b (.cons c (.cons d (.cons e (.cons f .nil)))))
noncomputable abbrev lI (i:Int):E:=.lit (.int i)
noncomputable abbrev lS (l:List Nat):E:=.lit (.str l)
noncomputable abbrev gI (k:Nat) (i:Int):E:=.glob k (.int i)
noncomputable abbrev cC (o:Cm) (a b:E):C:=.e (.cmp o a b)
noncomputable abbrev V0:E:=.var 0
noncomputable abbrev V1:E:=.var 1
noncomputable abbrev V2:E:=.var 2
noncomputable abbrev V3:E:=.var 3
noncomputable abbrev V4:E:=.var 4
noncomputable abbrev V5:E:=.var 5
noncomputable abbrev V6:E:=.var 6
noncomputable abbrev V7:E:=.var 7
noncomputable abbrev V8:E:=.var 8
noncomputable abbrev V9:E:=.var 9
noncomputable abbrev V10:E:=.var 10
noncomputable abbrev V11:E:=.var 11
noncomputable abbrev V12:E:=.var 12
noncomputable abbrev V13:E:=.var 13
def b3d:Fn:=⟨6,6,(cS (.setA V0 5 V1) (cS (.setA V0 4 V2) (cS (.setA V0 3 V3) (cS (.setA V0 2 V4) (cS (.setA V0 1 V5) (cS (.setA V0 0 (lI 0)) nS))))))⟩
def f2m:Fn:=⟨3,3,(cS (.ret (.newI 0 0 (E5 V0 V1 (.frz (.disp .nil)) (lI 0) V2))) nS)⟩
def e3k:Fn:=⟨4,4,(cS (.ret (.newI 0 0 (E5 V0 V1 V2 (lI 0) V3))) nS)⟩
def c3y:Fn:=⟨5,5,(cS (.ret (.newI 0 0 (E5 V0 V1 V2 V3 V4))) nS)⟩
def tK:Fn:=⟨1,5,(cS (.ownS 1 (.disp .nil)) (cS (.ownS 2 (.disp (E1 V0))) (cS (.while (.own 2) (cS (.assign 3 (.popV 2)) (cS (.while (.or (cC .eq (.attr V3 5) (gI 11 33)) (cC .eq (.attr V3 5) (gI 10 32))) (cS (.assign 3 (.idx (.attr V3 3) (lI 0))) nS)) (cS (.ite (cC .eq (.attr V3 5) (gI 6 8)) (cS (.appV 1 V3) nS) (cS (.ite (cC .eq (.attr V3 5) (gI 7 36)) (cS (.appV 2 (.idx (.attr V3 3) (lI 0))) nS) (cS (.ite (cC .isin (.attr V3 5) (.tup (E2 (gI 9 34) (gI 8 35)))) (cS (.assign 4 (.bin .sub (.len (.attr V3 3)) (lI 1))) (cS (.while (cC .ge V4 (lI 0)) (cS (.ite (.e (.isN true (.idx (.attr V3 3) V4))) (cS (.appV 2 (.idx (.attr V3 3) V4)) nS) .nil) (cS (.augV 4 .sub (lI 1)) nS))) nS)) .nil) nS)) nS)) nS)))) (cS (.ret V1) nS))))⟩
def a8j:Fn:=⟨2,2,(cS (.setA V0 13 (.frz (.disp .nil))) (cS (.setA V0 12 V1) nS))⟩
def a4f:Fn:=⟨1,4,(cS (.ownS 1 (.disp .nil)) (cS (.forL [2,3] false false (.glob 14 (.tup [(.tup [(.int 4194304),(.str [100,101,99,108,97,114,101,32])]),(.tup [(.int 65536),(.str [112,117,98,108,105,99,32])]),(.tup [(.int 32768),(.str [112,114,111,116,101,99,116,101,100,32])]),(.tup [(.int 16384),(.str [112,114,105,118,97,116,101,32])]),(.tup [(.int 262144),(.str [115,116,97,116,105,99,32])]),(.tup [(.int 524288),(.str [97,98,115,116,114,97,99,116,32])]),(.tup [(.int 1048576),(.str [111,118,101,114,114,105,100,101,32])]),(.tup [(.int 131072),(.str [114,101,97,100,111,110,108,121,32])])])) (cS (.ite (.e (.bin .band (.attr V0 2) V2)) (cS (.appV 1 V3) nS) .nil) nS)) (cS (.ret (.join [] V1)) nS)))⟩
def a6c:Fn:=⟨1,3,(cS (.ite (.or (cC .eq (.cut V0 (.lit .none) (lI 1)) (lS [123])) (cC .eq (.cut V0 (.lit .none) (lI 4)) (lS [108,101,116,91]))) (cS (.ret (.lit (.bool true))) nS) .nil) (cS (.forL [1] true false (.tup (E2 (lS [102,117,110,99,116,105,111,110]) (lS [99,108,97,115,115]))) (cS (.ite (cC .eq (.cut V0 (.lit .none) (.len V1)) V1) (cS (.assign 2 (.cut V0 (.len V1) (.bin .add (.len V1) (lI 1)))) (cS (.ret (.orE (.cmp .eq V2 (lS [])) (.notE .bad))) nS)) .nil) nS)) (cS (.ret (.lit (.bool false))) nS)))⟩
def lD:Fn:=⟨1,1,(cS (.while (.e (.isN true V0)) (cS (.ite (cC .eq (.attr V0 5) (gI 15 44)) (cS (.ite (.e (.isN false (.idx (.attr V0 3) (lI 2)))) (cS (.ret (.lit (.bool true))) nS) .nil) (cS (.assign 0 (.idx (.attr V0 3) (lI 2))) nS)) (cS (.ite (cC .isin (.attr V0 5) (.tup (E5 (gI 20 45) (gI 19 47) (gI 18 48) (gI 17 49) (gI 16 55)))) (cS (.assign 0 (.idx (.attr V0 3) (lI (-1)))) nS) (cS (.ret (.lit (.bool false))) nS)) nS)) nS)) (cS (.ret (.lit (.bool false))) nS))⟩
def a9d:Fn:=⟨1,1,(cS (.ite (.and (cC .eq (.attr V0 5) (gI 27 23)) (cC .eq (.attr V0 4) (lS [105,110]))) (cS (.ret (.lit (.bool true))) nS) .nil) (cS (.ite (.or (cC .eq (.attr V0 5) (gI 29 21)) (cC .isin (.attr V0 5) (.glob 28 (.tup [(.int 29),(.int 30),(.int 31)])))) (cS (.ret (.call 9 (E1 (.idx (.attr V0 3) (lI 0))))) nS) .nil) (cS (.ite (.or (cC .eq (.attr V0 5) (gI 27 23)) (cC .eq (.attr V0 5) (gI 26 24))) (cS (.ret (.orE (.call 9 (E1 (.idx (.attr V0 3) (lI 0)))) (.call 9 (E1 (.idx (.attr V0 3) (lI 1)))))) nS) .nil) (cS (.ite (cC .eq (.attr V0 5) (gI 25 26)) (cS (.ret (.orE (.call 9 (E1 (.idx (.attr V0 3) (lI 0)))) (.call 9 (E1 (.idx (.attr V0 3) (lI 2)))))) nS) .nil) (cS (.ite (cC .eq (.attr V0 5) (gI 24 25)) (cS (.ret (.call 9 (E1 (.idx (.attr V0 3) (lI 1))))) nS) .nil) (cS (.ite (.and (cC .eq (.attr V0 5) (gI 23 27)) (.and (.e (.bin .band (.attr V0 2) (gI 22 4))) (.e (.bin .band (.attr V0 2) (gI 21 8))))) (cS (.ret (.call 9 (E1 (.idx (.attr V0 3) (lI 3))))) nS) .nil) (cS (.ret (.lit (.bool false))) nS)))))))⟩
def a0v:Fn:=⟨2,2,(cS (.ret (.lit (.bool false))) nS)⟩
def a3c:Fn:=⟨1,1,(cS (.setA V0 33 (.dictD 12 [] .nil)) (cS (.setA V0 32 (lI 0)) (cS (.setA V0 31 (lI 0)) (cS (.setA V0 30 (.new0 3)) nS))))⟩
def a3d:Fn:=⟨2,4,(cS (.assign 2 (.dget (.attr V0 33) (.attr V1 5))) (cS (.ite (.e (.isN false V2)) (.cons .bad .nil) .nil) (cS (.augA V0 31 .add (lI 1)) (cS (.ite (cC .gt (.attr V0 31) (gI 35 200)) (.cons .bad .nil) .nil) (cS (.assign 3 (.meth V2 34 (E2 V0 V1))) (cS (.augA V0 31 .sub (lI 1)) (cS (.ret V3) nS)))))))⟩
def a1s:Fn:=⟨2,2,(cS (.ret (.call 15 (E3 V0 (.attr V1 3) (lS [])))) nS)⟩
def b2j:Fn:=⟨1,1,(cS (.ret (.bin .add (lS [10]) (.bin .mul (lS [32,32]) (.attr V0 32)))) nS)⟩
def c7z:Fn:=⟨3,3,(cS (.ite (.not (.e V1)) (cS (.ret (lS [123,125])) nS) .nil) (cS (.ret (.bin .add (.bin .add (.bin .add (lS [123]) (.call 16 (E3 V0 V1 V2))) (.call 14 (E1 V0))) (lS [125]))) nS))⟩
def w4:Fn:=⟨3,5,(cS (.ownS 3 (.disp .nil)) (cS (.augA V0 32 .add (lI 1)) (cS (.forL [4] true false V1 (cS (.appV 3 (.call 14 (E1 V0))) (cS (.appV 3 (.meth V0 34 (E1 V4))) (cS (.appV 3 V2) nS)))) (cS (.augA V0 32 .sub (lI 1)) (cS (.ret (.join [] V3)) nS)))))⟩
def c4k:Fn:=⟨3,3,(cS (.ite (.e (.isN false V1)) (cS (.ret (lS [])) nS) .nil) (cS (.ret (.bin .add V2 (.meth V0 34 (E1 V1)))) nS))⟩
def b5w:Fn:=⟨3,3,(cS (.ite (cC .eq (.attr V1 5) (gI 37 59)) (cS (.ret (.bin .add (lS [32]) (.meth V0 38 (E1 V1)))) nS) .nil) (cS (.ite (.and (.e V2) (.e (.call 8 (E1 V1)))) (cS (.ret (.bin .add (.bin .add (.bin .add (lS [32,123]) (.call 16 (E3 V0 (.frz (.disp (E1 V1))) (lS [])))) (.call 14 (E1 V0))) (lS [125]))) nS) .nil) (cS (.ite (.e (.meth (.attr V0 30) 36 (E1 V1))) (cS (.ret (.bin .add (lS [32]) (.meth V0 34 (E1 V1)))) nS) .nil) (cS (.ret (.call 16 (E3 V0 (.frz (.disp (E1 V1))) (lS [])))) nS))))⟩
def b1u:Fn:=⟨3,3,(cS (.ite (.or (cC .eq (.attr V1 5) (gI 37 59)) (.and (.e V2) (.e (.call 8 (E1 V1))))) (cS (.ret (lS [32])) nS) .nil) (cS (.ret (.call 14 (E1 V0))) nS))⟩
def b1o:Fn:=⟨2,3,(cS (.assign 2 (.meth V0 34 (E1 V1))) (cS (.ite (.e (.call 9 (E1 V1))) (cS (.ret (.bin .add (.bin .add (lS [40]) V2) (lS [41]))) nS) .nil) (cS (.ret V2) nS)))⟩
def b2m:Fn:=⟨3,5,(cS (.assign 3 (.meth V0 34 (E1 (.idx (.attr V1 3) (lI 0))))) (cS (.ite (.e (.bin .band (.attr V1 2) (gI 39 2097152))) (cS (.augV 3 .add (lS [33])) nS) .nil) (cS (.augV 3 .add (.call 17 (E3 V0 (.idx (.attr V1 3) (lI 1)) (lS [58,32])))) (cS (.assign 4 (.idx (.attr V1 3) (lI 2))) (cS (.ite (.e (.isN false V4)) (cS (.ret V3) nS) .nil) (cS (.ret (.bin .add (.bin .add V3 (lS [32,61,32])) (.ife (.e V2) (.call 20 (E2 V0 V4)) (.meth V0 34 (E1 V4))))) nS))))))⟩
def a0o:Fn:=⟨3,5,(cS (.ownS 3 (.disp .nil)) (cS (.forL [4] true false (.attr V1 3) (cS (.appV 3 (.call 21 (E3 V0 V4 V2))) nS)) (cS (.ret (.bin .add (.bin .add (.bin .add (.call 6 (E1 V1)) (.attr V1 4)) (lS [32])) (.join [44,32] V3))) nS)))⟩
def mX:Fn:=⟨3,5,(cS (.ownS 3 (.disp .nil)) (cS (.forL [4] true false (.attr V2 3) (cS (.appV 3 (.meth V1 34 (E1 V4))) (cS (.appV 3 (lS [10])) nS))) (cS (.ret (.join [] V3)) nS)))⟩
def vQ:Fn:=⟨3,3,(cS (.ret (.meth V1 38 (E1 V2))) nS)⟩
def vG:Fn:=⟨3,3,(cS (.ret (lS [59])) nS)⟩
def a0m:Fn:=⟨3,3,(cS (.ret (.bin .add (.call 22 (E3 V1 V2 (.lit (.bool false)))) (lS [59]))) nS)⟩
def tY:Fn:=⟨3,4,(cS (.assign 3 (.meth V1 34 (E1 (.idx (.attr V2 3) (lI 0))))) (cS (.ite (.e (.call 7 (E1 V3))) (cS (.assign 3 (.bin .add (.bin .add (lS [40]) V3) (lS [41]))) nS) .nil) (cS (.ret (.bin .add V3 (lS [59]))) nS)))⟩
def a4h:Fn:=⟨3,6,(cS (.assign 3 (.bin .add (.bin .add (lS [105,102,32,40]) (.meth V1 34 (E1 (.idx (.attr V2 3) (lI 0))))) (lS [41]))) (cS (.assign 4 (.idx (.attr V2 3) (lI 1))) (cS (.assign 5 (.idx (.attr V2 3) (lI 2))) (cS (.ite (.e (.isN false V5)) (cS (.ret (.bin .add V3 (.call 18 (E3 V1 V4 (.lit (.bool false)))))) nS) .nil) (cS (.augV 3 .add (.bin .add (.bin .add (.call 18 (E3 V1 V4 (.lit (.bool true)))) (.call 19 (E3 V1 V4 (.lit (.bool true))))) (lS [101,108,115,101]))) (cS (.ite (cC .eq (.attr V5 5) (gI 15 44)) (cS (.ret (.bin .add (.bin .add V3 (lS [32])) (.meth V1 34 (E1 V5)))) nS) .nil) (cS (.ret (.bin .add V3 (.call 18 (E3 V1 V5 (.lit (.bool false)))))) nS)))))))⟩
def vO:Fn:=⟨3,3,(cS (.ret (.bin .add (.bin .add (.bin .add (lS [119,104,105,108,101,32,40]) (.meth V1 34 (E1 (.idx (.attr V2 3) (lI 0))))) (lS [41])) (.call 18 (E3 V1 (.idx (.attr V2 3) (lI 1)) (.lit (.bool false)))))) nS)⟩
def a2y:Fn:=⟨3,5,(cS (.assign 3 (.idx (.attr V2 3) (lI 0))) (cS (.assign 4 (.bin .add (.bin .add (lS [100,111]) (.call 18 (E3 V1 V3 (.lit (.bool false))))) (.call 19 (E3 V1 V3 (.lit (.bool false)))))) (cS (.ret (.bin .add (.bin .add (.bin .add V4 (lS [119,104,105,108,101,32,40])) (.meth V1 34 (E1 (.idx (.attr V2 3) (lI 1))))) (lS [41,59]))) nS)))⟩
def a1y:Fn:=⟨3,8,(cS (.unpack [3,4,5,6] (.attr V2 3)) (cS (.assign 7 (lS [102,111,114,32,40])) (cS (.ite (.and (.e (.isN true V3)) (cC .eq (.attr V3 5) (gI 40 41))) (cS (.augV 7 .add (.call 22 (E3 V1 V3 (.lit (.bool true))))) nS) (cS (.ite (.e (.isN true V3)) (cS (.augV 7 .add (.call 32 (E2 V1 (.idx (.attr V3 3) (lI 0))))) nS) .nil) nS)) (cS (.augV 7 .add (.bin .add (.bin .add (.bin .add (.bin .add (lS [59]) (.call 17 (E3 V1 V4 (lS [32])))) (lS [59])) (.call 17 (E3 V1 V5 (lS [32])))) (lS [41]))) (cS (.ret (.bin .add V7 (.call 18 (E3 V1 V6 (.lit (.bool false)))))) nS)))))⟩
def b0n:Fn:=⟨2,3,(cS (.assign 2 (.call 20 (E2 V0 V1))) (cS (.ite (.and (cC .eq (.cut V2 (.lit .none) (lI 3)) (lS [108,101,116])) (.or (cC .eq (.len V2) (lI 3)) (.not (.e .bad)))) (cS (.ret (.bin .add (.bin .add (lS [40]) V2) (lS [41]))) nS) .nil) (cS (.ret V2) nS)))⟩
def sH:Fn:=⟨3,5,(cS (.assign 3 (.ife (cC .eq (.attr V2 5) (gI 18 48)) (lS [32,111,102,32]) (lS [32,105,110,32]))) (cS (.assign 4 (.bin .add (.bin .add (.bin .add (lS [102,111,114,32,40]) (.call 22 (E3 V1 (.idx (.attr V2 3) (lI 0)) (.lit (.bool true))))) V3) (.meth V1 34 (E1 (.idx (.attr V2 3) (lI 1)))))) (cS (.ret (.bin .add (.bin .add V4 (lS [41])) (.call 18 (E3 V1 (.idx (.attr V2 3) (lI 2)) (.lit (.bool false)))))) nS)))⟩
def uM:Fn:=⟨3,4,(cS (.assign 3 (.bin .add (.bin .add (lS [115,119,105,116,99,104,32,40]) (.meth V1 34 (E1 (.idx (.attr V2 3) (lI 0))))) (lS [41,32]))) (cS (.ret (.bin .add V3 (.call 15 (E3 V1 (.frz (.cut (.attr V2 3) (lI 1) (.lit .none))) (lS []))))) nS))⟩
def xZ:Fn:=⟨3,5,(cS (.assign 3 (.idx (.attr V2 3) (lI 0))) (cS (.assign 4 (.ife (.e (.isN false V3)) (lS [100,101,102,97,117,108,116,58]) (.bin .add (.bin .add (lS [99,97,115,101,32]) (.meth V1 34 (E1 V3))) (lS [58])))) (cS (.ret (.bin .add V4 (.call 16 (E3 V1 (.frz (.cut (.attr V2 3) (lI 1) (.lit .none))) (lS []))))) nS)))⟩
def sM:Fn:=⟨3,3,(cS (.ret (.bin .add (.bin .add (lS [114,101,116,117,114,110]) (.call 17 (E3 V1 (.idx (.attr V2 3) (lI 0)) (lS [32])))) (lS [59]))) nS)⟩
def xI:Fn:=⟨3,4,(cS (.assign 3 (.ife (cC .eq (.attr V2 5) (gI 41 53)) (lS [98,114,101,97,107]) (lS [99,111,110,116,105,110,117,101]))) (cS (.ite (cC .ne (.attr V2 4) (lS [])) (cS (.augV 3 .add (.bin .add (lS [32]) (.attr V2 4))) nS) .nil) (cS (.ret (.bin .add V3 (lS [59]))) nS)))⟩
def vM:Fn:=⟨3,3,(cS (.ret (.bin .add (.bin .add (.attr V2 4) (lS [58,32])) (.meth V1 34 (E1 (.idx (.attr V2 3) (lI 0)))))) nS)⟩
def vN:Fn:=⟨3,3,(cS (.ret (.bin .add (.bin .add (lS [116,104,114,111,119,32]) (.meth V1 34 (E1 (.idx (.attr V2 3) (lI 0))))) (lS [59]))) nS)⟩
def a0q:Fn:=⟨3,4,(cS (.assign 3 (.bin .add (lS [116,114,121,32]) (.meth V1 38 (E1 (.idx (.attr V2 3) (lI 0)))))) (cS (.augV 3 .add (.call 17 (E3 V1 (.idx (.attr V2 3) (lI 1)) (lS [32])))) (cS (.ret (.bin .add V3 (.call 17 (E3 V1 (.idx (.attr V2 3) (lI 2)) (lS [32,102,105,110,97,108,108,121,32]))))) nS)))⟩
def vE:Fn:=⟨3,3,(cS (.ite (.e (.isN false (.idx (.attr V2 3) (lI 0)))) (cS (.ret (.bin .add (lS [99,97,116,99,104,32]) (.meth V1 38 (E1 (.idx (.attr V2 3) (lI 1)))))) nS) .nil) (cS (.ret (.bin .add (.bin .add (.bin .add (lS [99,97,116,99,104,32,40]) (.meth V1 34 (E1 (.idx (.attr V2 3) (lI 0))))) (lS [41,32])) (.meth V1 38 (E1 (.idx (.attr V2 3) (lI 1)))))) nS))⟩
def b1s:Fn:=⟨7,7,(cS (.setA V0 5 V1) (cS (.setA V0 34 V2) (cS (.setA V0 44 V3) (cS (.setA V0 1 V4) (cS (.setA V0 43 V5) (cS (.setA V0 42 V6) nS))))))⟩
def a6e:Fn:=⟨3,3,(cS (.setA V0 64 (.frz (.cut V1 (.lit .none) (.lit .none)))) (cS (.setA V0 1 (lI 0)) (cS (.setA V0 63 V2) (cS (.setA V0 62 (.dictD 0 [] .nil)) (cS (.setA V0 61 (.dictD 0 [] .nil)) (cS (.setA V0 60 (.dictD 0 [] .nil)) (cS (.setA V0 59 (.dictD 0 [] .nil)) (cS (.setA V0 31 (lI 0)) (cS (.setA V0 58 (.tup (E3 (lS []) (lI 0) (lI 0)))) (cS (.setA V0 57 (.lit (.bool true))) (cS (.setA V0 56 (lI 0)) (cS (.setA V0 55 (lI 0)) (cS (.setA V0 54 (lI 0)) (cS (.setA V0 53 (.cellL 0 (.disp .nil))) (cS (.setA V0 52 (.lit (.bool false))) (cS (.setA V0 51 (.lit (.bool false))) (cS (.setA V0 50 (lI 0)) (cS (.setA V0 49 (.frz (.disp .nil))) (cS (.setA V0 48 (.dictD 0 [] .nil)) (cS (.setA V0 47 (.dictD 0 [] .nil)) (cS (.setA V0 46 (.frz (.disp .nil))) (cS (.setA V0 45 (.frz (.disp .nil))) nS))))))))))))))))))))))⟩
def b1b:Fn:=⟨1,1,(cS (.ret (.idx (.attr V0 64) (.attr V0 1))) nS)⟩
def a3l:Fn:=⟨2,3,(cS (.assign 2 (.bin .add (.attr V0 1) V1)) (cS (.ite (cC .ge V2 (.len (.attr V0 64))) (cS (.assign 2 (.bin .sub (.len (.attr V0 64)) (lI 1))) nS) .nil) (cS (.ret (.idx (.attr V0 64) V2)) nS)))⟩
def a6f:Fn:=⟨1,2,(cS (.assign 1 (.idx (.attr V0 64) (.attr V0 1))) (cS (.ite (cC .ne (.attr V1 5) (gI 65 0)) (cS (.augA V0 1 .add (lI 1)) nS) .nil) (cS (.ret V1) nS)))⟩
def y2:Fn:=⟨2,2,(cS (.ret (.call 61 (E3 (.idx (.attr V0 64) (.attr V0 1)) (gI 66 5) V1))) nS)⟩
def yB:Fn:=⟨2,2,(cS (.ret (.call 61 (E3 (.idx (.attr V0 64) (.attr V0 1)) (gI 67 2) V1))) nS)⟩
def xL:Fn:=⟨2,2,(cS (.ret (.call 61 (E3 (.idx (.attr V0 64) (.attr V0 1)) (gI 68 1) V1))) nS)⟩
def vK:Fn:=⟨2,2,(cS (.ret (.call 63 (E3 V0 (gI 66 5) V1))) nS)⟩
def vH:Fn:=⟨2,2,(cS (.ret (.call 63 (E3 V0 (gI 67 2) V1))) nS)⟩
def u6:Fn:=⟨2,2,(cS (.ite (.not (.e (.call 63 (E3 V0 (gI 66 5) V1)))) (.cons .bad .nil) .nil) nS)⟩
def tM:Fn:=⟨2,2,(cS (.ite (.not (.e (.call 63 (E3 V0 (gI 67 2) V1)))) (.cons .bad .nil) .nil) nS)⟩
def t3:Fn:=⟨1,1,(cS (.ite (cC .ne (.attr (.meth V0 70 .nil) 5) (gI 68 1)) (.cons .bad .nil) .nil) (cS (.ret (.attr (.meth V0 69 .nil) 34)) nS))⟩
def xW:Fn:=⟨1,2,(cS (.assign 1 (.meth V0 70 .nil)) (cS (.ite (.or (cC .eq (.attr V1 5) (gI 65 0)) (.e (.attr V1 42))) (cS (.ret (.lit (.bool true))) nS) .nil) (cS (.ret (.andE (.cmp .eq (.attr V1 5) (gI 66 5)) (.orE (.cmp .eq (.attr V1 34) (lS [59])) (.cmp .eq (.attr V1 34) (lS [125]))))) nS)))⟩
def pM:Fn:=⟨1,1,(cS (.ite (.and (.not (.e (.meth V0 72 (E1 (lS [59]))))) (.not (.e (.meth V0 71 .nil)))) (.cons .bad .nil) .nil) nS)⟩
def a6h:Fn:=⟨1,1,(cS (.augA V0 31 .add (lI 1)) (cS (.ite (cC .gt (.attr V0 31) (gI 73 40)) (.cons .bad (.cons .bad .nil)) .nil) nS))⟩
def b2a:Fn:=⟨1,1,(cS (.augA V0 31 .sub (lI 1)) nS)⟩
def a5y:Fn:=⟨2,3,(cS (.ite (cC .notin V1 (.attr V0 62)) (.cons .bad .nil) .nil) (cS (.expr (.meth V0 77 .nil)) (cS (.ite (cC .isin V1 (.glob 75 (.tup [(.int 3),(.int 4),(.int 5),(.int 6)]))) (cS (.assign 2 (.call 60 (E2 V0 (.idx (.attr V0 62) V1)))) nS) (cS (.assign 2 (.meth (.idx (.attr V0 62) V1) 76 (E1 V0))) nS)) (cS (.ite (cC .eq (.attr V0 31) (lI 1)) (cS (.expr (.call 62 (E2 V0 V2))) nS) .nil) (cS (.expr (.meth V0 74 .nil)) (cS (.ret V2) nS))))))⟩
def a9x:Fn:=⟨2,8,(cS (.assign 2 (.attr V0 57)) (cS (.assign 3 (.attr V0 52)) (cS (.assign 4 (.attr V0 51)) (cS (.assign 5 (.attr V0 50)) (cS (.assign 6 (.attr V0 49)) (cS (.setA V0 57 (.lit (.bool true))) (cS (.setA V0 52 (.lit (.bool false))) (cS (.setA V0 51 (.lit (.bool false))) (cS (.setA V0 50 (lI 0)) (cS (.setA V0 49 (.frz (.disp .nil))) (cS (.assign 7 (.meth V1 76 (E1 V0))) (cS (.setA V0 57 V2) (cS (.setA V0 52 V3) (cS (.setA V0 51 V4) (cS (.setA V0 50 V5) (cS (.setA V0 49 V6) (cS (.ret V7) nS)))))))))))))))))⟩
def b5u:Fn:=⟨3,3,(cS (.ret (.andE (.cmp .eq (.attr V0 5) V1) (.cmp .eq (.attr V0 34) V2))) nS)⟩
def qI:Fn:=⟨2,6,(cS (.ownS 2 (.disp (E1 (.tup (E2 V1 (lI 1)))))) (cS (.while (.own 2) (cS (.unpack [3,4] (.popV 2)) (cS (.ite (.e (.isN false V3)) (cS .cont nS) .nil) (cS (.ite (cC .gt V4 (gI 78 160)) (.cons .bad (.cons .bad .nil)) .nil) (cS (.forL [5] true false (.attr V3 3) (cS (.appV 2 (.tup (E2 V5 (.bin .add V4 (lI 1))))) nS)) nS))))) nS))⟩
def b2f:Fn:=⟨3,3,(cS (.ite (.not (.e (.call 61 (E3 (.meth V0 70 .nil) V1 V2)))) (cS (.ret (.lit (.bool false))) nS) .nil) (cS (.expr (.meth V0 69 .nil)) (cS (.ret (.lit (.bool true))) nS)))⟩
def a3i:Fn:=⟨2,2,(cS (.ret (.lit (.bool true))) nS)⟩
def a1c:Fn:=⟨1,1,(cS (.setA V0 79 (.dictD 0 [] .nil)) nS)⟩
def yA:Fn:=⟨2,2,(cS (.ret (.call 68 (E2 V1 (.attr V0 79)))) nS)⟩
def vP:Fn:=⟨2,3,(cS (.assign 2 (.attr (.meth V1 70 .nil) 1)) (cS (.ret (.call 2 (E4 (gI 37 59) (lS []) (.call 69 (E1 V1)) V2))) nS))⟩
def mM:Fn:=⟨2,4,(cS (.assign 2 (.meth V0 70 .nil)) (cS (.ite (.or (cC .eq (.attr V2 5) (gI 67 2)) (cC .eq (.attr V2 5) (gI 68 1))) (cS (.ite (.and (cC .isin (.attr V2 34) V1) (.e (.meth (.idx V1 (.attr V2 34)) 90 (E1 V0)))) (cS (.ret (.meth (.idx V1 (.attr V2 34)) 89 (E1 V0))) nS) .nil) nS) .nil) (cS (.ite (.and (cC .eq (.attr V2 5) (gI 68 1)) (.and (.e (.call 61 (E3 (.meth V0 88 (E1 (lI 1))) (gI 66 5) (lS [58])))) (cC .isin (lS [35,108,97,98,101,108]) V1))) (cS (.ret (.meth (.idx V1 (lS [35,108,97,98,101,108])) 89 (E1 V0))) nS) .nil) (cS (.ite (.e (.meth V0 85 (E1 (lS [123])))) (cS (.ret (.meth V0 82 (E1 (gI 87 4)))) nS) .nil) (cS (.ite (.e (.meth V0 72 (E1 (lS [59])))) (cS (.ret (.call 1 (E3 (gI 86 60) (lS []) (.attr V2 1)))) nS) .nil) (cS (.ite (.or (.e (.meth V0 85 (E1 (lS [125])))) (.or (.e (.meth V0 84 (E1 (lS [105,109,112,111,114,116])))) (.e (.meth V0 84 (E1 (lS [101,120,112,111,114,116])))))) (.cons .bad .nil) .nil) (cS (.assign 3 (.meth V0 82 (E1 (gI 83 2)))) (cS (.expr (.meth V0 81 .nil)) (cS (.ret (.call 2 (E4 (gI 80 43) (lS []) (.frz (.disp (E1 V3))) (.attr V2 1)))) nS)))))))))⟩
def oU:Fn:=⟨1,2,(cS (.expr (.meth V0 91 (E1 (lS [123])))) (cS (.ownS 1 (.disp .nil)) (cS (.while (.and (.not (.e (.meth V0 85 (E1 (lS [125]))))) (cC .ne (.attr (.meth V0 70 .nil) 5) (gI 65 0))) (cS (.appV 1 (.meth V0 82 (E1 (gI 92 3)))) nS)) (cS (.expr (.meth V0 91 (E1 (lS [125])))) (cS (.ret V1) nS)))))⟩
def x7:Fn:=⟨1,2,(cS (.expr (.meth V0 91 (E1 (lS [40])))) (cS (.assign 1 (.meth V0 82 (E1 (gI 83 2)))) (cS (.expr (.meth V0 91 (E1 (lS [41])))) (cS (.ret V1) nS))))⟩
def y0:Fn:=⟨1,1,(cS (.ite (cC .eq (.attr V0 5) (gI 40 41)) (cS (.ret (.cmp .ne (.attr V0 4) (lS [118,97,114]))) nS) .nil) (cS (.ret (.cmp .isin (.attr V0 5) (.tup (E5 (gI 23 27) (gI 96 61) (gI 95 64) (gI 94 65) (gI 93 66))))) nS))⟩
def b6i:Fn:=⟨1,2,(cS (.assign 1 (.meth V0 82 (E1 (gI 92 3)))) (cS (.ite (.e (.call 71 (E1 V1))) (.cons .bad .nil) .nil) (cS (.ret V1) nS)))⟩
def x9:Fn:=⟨1,2,(cS (.augA V0 55 .add (lI 1)) (cS (.assign 1 (.call 72 (E1 V0))) (cS (.augA V0 55 .sub (lI 1)) (cS (.ret V1) nS))))⟩
def b2d:Fn:=⟨1,2,(cS (.assign 1 (.meth V0 88 (E1 (lI 1)))) (cS (.ite (cC .eq (.attr V1 5) (gI 68 1)) (cS (.ret (.lit (.bool true))) nS) .nil) (cS (.ret (.orE (.call 61 (E3 V1 (gI 66 5) (lS [91]))) (.call 61 (E3 V1 (gI 66 5) (lS [123]))))) nS)))⟩
def pE:Fn:=⟨2,7,(cS (.assign 2 (.meth V0 82 (E1 (gI 99 10)))) (cS (.forL [3] true false (.ife (cC .ne V1 (lS [118,97,114])) (.call 4 (E1 V2)) (.tup .nil)) (cS (.ite (cC .eq (.attr V3 4) (lS [108,101,116])) (.cons .bad .nil) .nil) nS)) (cS (.assign 4 (lI 0)) (cS (.ite (.and (.e (.meth V0 85 (E1 (lS [33])))) (.and (.not (.e (.attr (.meth V0 70 .nil) 42))) (cC .eq (.attr V2 5) (gI 6 8)))) (cS (.expr (.meth V0 69 .nil)) (cS (.assign 4 (gI 39 2097152)) nS)) .nil) (cS (.assign 5 (.lit .none)) (cS (.ite (.e (.meth V0 72 (E1 (lS [58])))) (cS (.assign 5 (.meth V0 82 (E1 (gI 98 1)))) nS) .nil) (cS (.assign 6 (.lit .none)) (cS (.ite (.e (.meth V0 72 (E1 (lS [61])))) (cS (.assign 6 (.meth V0 82 (E1 (gI 83 2)))) nS) .nil) (cS (.ret (.call 3 (E5 (gI 97 42) (lS []) (.frz (.disp (E3 V2 V5 V6))) V4 (.attr V2 1)))) nS)))))))))⟩
def rE:Fn:=⟨2,4,(cS (.assign 2 (.meth V0 69 .nil)) (cS (.ownS 3 (.disp (E1 (.call 75 (E2 V0 (.attr V2 34)))))) (cS (.while (.e (.meth V0 72 (E1 (lS [44])))) (cS (.appV 3 (.call 75 (E2 V0 (.attr V2 34)))) nS)) (cS (.ret (.call 3 (E5 (gI 40 41) (.attr V2 34) V3 V1 (.attr V2 1)))) nS))))⟩
def pG:Fn:=⟨3,4,(cS (.forL [3] true false (.attr V1 3) (cS (.ite (.e (.bin .band (.attr V1 2) (gI 100 4194304))) (.cons .bad .nil) (cS (.ite (.e (.isN false (.idx (.attr V3 3) (lI 2)))) (cS (.ite (cC .ne (.attr (.idx (.attr V3 3) (lI 0)) 5) (gI 6 8)) (.cons .bad .nil) (cS (.ite (cC .eq (.attr V1 4) (lS [99,111,110,115,116])) (.cons .bad .nil) .nil) nS)) nS) .nil) nS)) (cS (.expr (.call 78 (E3 V0 V3 V2))) nS))) nS)⟩
def a7j:Fn:=⟨3,3,(cS (.ite (.not (.e (.bin .band (.attr V1 2) (gI 39 2097152)))) (cS .retN nS) .nil) (cS (.ite (.e (.isN true (.idx (.attr V1 3) (lI 2)))) (.cons .bad .nil) (cS (.ite (.e (.isN false (.idx (.attr V1 3) (lI 1)))) (.cons .bad .nil) (cS (.ite (.e V2) (.cons .bad .nil) .nil) nS)) nS)) nS))⟩
def a2a:Fn:=⟨2,3,(cS (.assign 2 (.call 76 (E2 V0 V1))) (cS (.expr (.meth V0 81 .nil)) (cS (.expr (.call 77 (E3 V0 V2 (.cmp .ne (.bin .band V1 (gI 100 4194304)) (lI 0))))) (cS (.ret V2) nS))))⟩
def wW:Fn:=⟨2,2,(cS (.ret (.call 79 (E2 V1 (lI 0)))) nS)⟩
def vF:Fn:=⟨2,2,(cS (.ret (.call 74 (E1 V1))) nS)⟩
def wX:Fn:=⟨2,2,(cS (.ret (.call 79 (E2 V1 (lI 0)))) nS)⟩
def zO:Fn:=⟨2,6,(cS (.assign 2 (.attr (.meth V1 69 .nil) 1)) (cS (.assign 3 (.call 70 (E1 V1))) (cS (.assign 4 (.call 72 (E1 V1))) (cS (.assign 5 (.lit .none)) (cS (.ite (.e (.meth V1 101 (E1 (lS [101,108,115,101])))) (cS (.assign 5 (.call 72 (E1 V1))) nS) .nil) (cS (.ret (.call 2 (E4 (gI 15 44) (lS []) (.frz (.disp (E3 V3 V4 V5))) V2))) nS))))))⟩
def sZ:Fn:=⟨2,4,(cS (.assign 2 (.attr (.meth V1 69 .nil) 1)) (cS (.assign 3 (.call 70 (E1 V1))) (cS (.ret (.call 2 (E4 (gI 20 45) (lS []) (.frz (.disp (E2 V3 (.call 73 (E1 V1))))) V2))) nS)))⟩
def zG:Fn:=⟨2,5,(cS (.assign 2 (.attr (.meth V1 69 .nil) 1)) (cS (.assign 3 (.call 73 (E1 V1))) (cS (.expr (.meth V1 103 (E1 (lS [119,104,105,108,101])))) (cS (.assign 4 (.call 70 (E1 V1))) (cS (.expr (.meth V1 72 (E1 (lS [59])))) (cS (.ret (.call 2 (E4 (gI 102 46) (lS []) (.frz (.disp (E2 V3 V4))) V2))) nS))))))⟩
def mO:Fn:=⟨2,6,(cS (.assign 2 (.attr (.meth V1 69 .nil) 1)) (cS (.ite (.e (.meth V1 104 (E1 (lS [97,119,97,105,116])))) (.cons .bad .nil) .nil) (cS (.expr (.meth V1 91 (E1 (lS [40])))) (cS (.assign 3 (.call 87 (E1 V1))) (cS (.ite (.and (.e (.isN true V3)) (cC .eq (.attr V3 5) (gI 40 41))) (cS (.ite (.or (.e (.meth V1 104 (E1 (lS [111,102])))) (.e (.meth V1 84 (E1 (lS [105,110]))))) (cS (.ret (.call 89 (E3 V1 V3 V2))) nS) .nil) (cS (.expr (.call 77 (E3 V1 V3 (.lit (.bool true))))) nS)) (cS (.ite (.or (.e (.meth V1 104 (E1 (lS [111,102])))) (.e (.meth V1 84 (E1 (lS [105,110]))))) (.cons .bad .nil) .nil) nS)) (cS (.expr (.meth V1 91 (E1 (lS [59])))) (cS (.assign 4 (.call 88 (E2 V1 (lS [59])))) (cS (.expr (.meth V1 91 (E1 (lS [59])))) (cS (.assign 5 (.call 88 (E2 V1 (lS [41])))) (cS (.expr (.meth V1 91 (E1 (lS [41])))) (cS (.ret (.call 2 (E4 (gI 19 47) (lS []) (.frz (.disp (E4 V3 V4 V5 (.call 73 (E1 V1))))) V2))) nS)))))))))))⟩
def x6:Fn:=⟨1,4,(cS (.ite (.e (.meth V0 85 (E1 (lS [59])))) (cS (.ret (.lit .none)) nS) .nil) (cS (.assign 1 (.attr V0 57)) (cS (.setA V0 57 (.lit (.bool false))) (cS (.assign 2 (.meth V0 70 .nil)) (cS (.ite (.and (.e (.meth V0 104 (E1 (lS [108,101,116])))) (.not (.e (.call 74 (E1 V0))))) (.cons .bad .nil) .nil) (cS (.ite (.or (.e (.meth V0 84 (E1 (lS [99,111,110,115,116])))) (.or (.e (.meth V0 84 (E1 (lS [118,97,114])))) (.e (.meth V0 104 (E1 (lS [108,101,116])))))) (cS (.assign 3 (.call 76 (E2 V0 (lI 0)))) nS) (cS (.assign 3 (.call 2 (E4 (gI 80 43) (lS []) (.frz (.disp (E1 (.meth V0 82 (E1 (gI 83 2)))))) (.attr V2 1)))) nS)) (cS (.setA V0 57 V1) (cS (.ret V3) nS))))))))⟩
def a0n:Fn:=⟨2,2,(cS (.ite (.e (.meth V0 85 (E1 V1))) (cS (.ret (.lit .none)) nS) .nil) (cS (.ret (.meth V0 82 (E1 (gI 83 2)))) nS))⟩
def zB:Fn:=⟨3,6,(cS (.assign 3 (gI 18 48)) (cS (.ite (.e (.meth V0 84 (E1 (lS [105,110])))) (cS (.assign 3 (gI 17 49)) nS) .nil) (cS (.expr (.meth V0 69 .nil)) (cS (.assign 4 (.idx (.attr V1 3) (lI 0))) (cS (.ite (cC .gt (.len (.attr V1 3)) (lI 1)) (.cons .bad .nil) .nil) (cS (.ite (.e (.isN true (.idx (.attr V4 3) (lI 2)))) (.cons .bad .nil) .nil) (cS (.ite (.e (.isN true (.idx (.attr V4 3) (lI 1)))) (.cons .bad .nil) .nil) (cS (.expr (.call 78 (E3 V0 V4 (.lit (.bool true))))) (cS (.assign 5 (.meth V0 82 (E1 (gI 83 2)))) (cS (.expr (.meth V0 91 (E1 (lS [41])))) (cS (.ret (.call 2 (E4 V3 (lS []) (.frz (.disp (E3 V1 V5 (.call 73 (E1 V0))))) V2))) nS)))))))))))⟩
def eL:Fn:=⟨2,6,(cS (.assign 2 (.attr (.meth V1 69 .nil) 1)) (cS (.ownS 3 (.disp (E1 (.call 70 (E1 V1))))) (cS (.expr (.meth V1 91 (E1 (lS [123])))) (cS (.augA V1 54 .add (lI 1)) (cS (.assign 4 (.lit (.bool false))) (cS (.while (.not (.e (.meth V1 85 (E1 (lS [125]))))) (cS (.assign 5 (.call 91 (E1 V1))) (cS (.ite (.e (.isN false (.idx (.attr V5 3) (lI 0)))) (cS (.ite (.e V4) (.cons .bad .nil) .nil) (cS (.assign 4 (.lit (.bool true))) nS)) .nil) (cS (.appV 3 V5) nS)))) (cS (.augA V1 54 .sub (lI 1)) (cS (.expr (.meth V1 69 .nil)) (cS (.ret (.call 2 (E4 (gI 105 50) (lS []) V3 V2))) nS)))))))))⟩
def oR:Fn:=⟨1,4,(cS (.assign 1 (.attr (.meth V0 70 .nil) 1)) (cS (.assign 2 (.lit .none)) (cS (.ite (.e (.meth V0 101 (E1 (lS [99,97,115,101])))) (cS (.assign 2 (.meth V0 82 (E1 (gI 83 2)))) nS) (cS (.ite (.not (.e (.meth V0 101 (E1 (lS [100,101,102,97,117,108,116]))))) (.cons .bad .nil) .nil) nS)) (cS (.expr (.meth V0 91 (E1 (lS [58])))) (cS (.ownS 3 (.disp (E1 V2))) (cS (.while (.not (.e (.call 92 (E1 V0)))) (cS (.appV 3 (.meth V0 82 (E1 (gI 92 3)))) nS)) (cS (.ret (.call 2 (E4 (gI 106 51) (lS []) V3 V1))) nS)))))))⟩
def b1v:Fn:=⟨1,1,(cS (.ite (.or (.e (.meth V0 85 (E1 (lS [125])))) (cC .eq (.attr (.meth V0 70 .nil) 5) (gI 65 0))) (cS (.ret (.lit (.bool true))) nS) .nil) (cS (.ret (.orE (.meth V0 84 (E1 (lS [99,97,115,101]))) (.meth V0 84 (E1 (lS [100,101,102,97,117,108,116]))))) nS))⟩
def sI:Fn:=⟨2,4,(cS (.assign 2 (.attr (.meth V1 69 .nil) 1)) (cS (.ite (cC .eq (.attr V1 56) (lI 0)) (.cons .bad .nil) .nil) (cS (.assign 3 (.lit .none)) (cS (.ite (.not (.e (.meth V1 71 .nil))) (cS (.assign 3 (.meth V1 82 (E1 (gI 83 2)))) nS) .nil) (cS (.expr (.meth V1 81 .nil)) (cS (.ret (.call 2 (E4 (gI 107 52) (lS []) (.frz (.disp (E1 V3))) V2))) nS))))))⟩
def vJ:Fn:=⟨2,4,(cS (.assign 2 (.meth V1 69 .nil)) (cS (.assign 3 (lS [])) (cS (.ite (.and (cC .eq (.attr (.meth V1 70 .nil) 5) (gI 68 1)) (.not (.e (.attr (.meth V1 70 .nil) 42)))) (cS (.assign 3 (.attr (.meth V1 69 .nil) 34)) nS) .nil) (cS (.expr (.meth V1 81 .nil)) (cS (.ite (cC .eq (.attr V2 34) (lS [98,114,101,97,107])) (cS (.expr (.call 96 (E3 V1 V3 (.attr V2 1)))) (cS (.ret (.call 1 (E3 (gI 41 53) V3 (.attr V2 1)))) nS)) .nil) (cS (.expr (.call 97 (E3 V1 V3 (.attr V2 1)))) (cS (.ret (.call 1 (E3 (gI 108 54) V3 (.attr V2 1)))) nS)))))))⟩
def kX:Fn:=⟨2,3,(cS (.forC 2 (.attr V0 53) (cS (.ite (cC .eq (.idx V2 (lI 0)) V1) (cS (.ret V2) nS) .nil) nS)) (cS (.ret (.lit .none)) nS))⟩
def a6i:Fn:=⟨3,3,(cS (.ite (cC .eq V1 (lS [])) (cS (.ite (.and (cC .eq (.attr V0 55) (lI 0)) (cC .eq (.attr V0 54) (lI 0))) (.cons .bad .nil) .nil) nS) (cS (.ite (.e (.isN false (.call 95 (E2 V0 V1)))) (.cons .bad .nil) .nil) nS)) nS)⟩
def y8:Fn:=⟨3,4,(cS (.ite (cC .eq V1 (lS [])) (cS (.ite (cC .eq (.attr V0 55) (lI 0)) (.cons .bad .nil) .nil) (cS .retN nS)) .nil) (cS (.assign 3 (.call 95 (E2 V0 V1))) (cS (.ite (.or (.e (.isN false V3)) (cC .eq (.idx V3 (lI 1)) (lI 0))) (.cons .bad .nil) .nil) nS)))⟩
def sQ:Fn:=⟨2,4,(cS (.assign 2 (.meth V1 69 .nil)) (cS (.expr (.meth V1 69 .nil)) (cS (.ite (.e (.isN true (.call 95 (E2 V1 (.attr V2 34))))) (.cons .bad .nil) .nil) (cS (.appC (.attr V1 53) (.tup (E2 (.attr V2 34) (.call 99 (E1 V1))))) (cS (.assign 3 (.call 72 (E1 V1))) (cS (.expr (.popC (.attr V1 53))) (cS (.ret (.call 2 (E4 (gI 16 55) (.attr V2 34) (.frz (.disp (E1 V3))) (.attr V2 1)))) nS)))))))⟩
def iK:Fn:=⟨1,3,(cS (.assign 1 (lI 0)) (cS (.while (.and (cC .eq (.attr (.meth V0 88 (E1 V1)) 5) (gI 68 1)) (.e (.call 61 (E3 (.meth V0 88 (E1 (.bin .add V1 (lI 1)))) (gI 66 5) (lS [58]))))) (cS (.augV 1 .add (lI 2)) nS)) (cS (.assign 2 (.meth V0 88 (E1 V1))) (cS (.ite (.and (cC .eq (.attr V2 5) (gI 67 2)) (cC .isin (.attr V2 34) (.glob 109 (.tup [(.str [119,104,105,108,101]),(.str [100,111]),(.str [102,111,114])])))) (cS (.ret (lI 1)) nS) .nil) (cS (.ret (lI 0)) nS)))))⟩
def u8:Fn:=⟨2,4,(cS (.assign 2 (.attr (.meth V1 69 .nil) 1)) (cS (.ite (.e (.attr (.meth V1 70 .nil) 42)) (.cons .bad .nil) .nil) (cS (.assign 3 (.meth V1 82 (E1 (gI 83 2)))) (cS (.expr (.meth V1 81 .nil)) (cS (.ret (.call 2 (E4 (gI 110 56) (lS []) (.frz (.disp (E1 V3))) V2))) nS)))))⟩
def xJ:Fn:=⟨2,6,(cS (.assign 2 (.attr (.meth V1 69 .nil) 1)) (cS (.assign 3 (.meth V1 82 (E1 (gI 87 4)))) (cS (.assign 4 (.lit .none)) (cS (.assign 5 (.lit .none)) (cS (.ite (.e (.meth V1 84 (E1 (lS [99,97,116,99,104])))) (cS (.assign 4 (.call 102 (E1 V1))) nS) .nil) (cS (.ite (.e (.meth V1 101 (E1 (lS [102,105,110,97,108,108,121])))) (cS (.assign 5 (.meth V1 82 (E1 (gI 87 4)))) nS) .nil) (cS (.ite (.and (.e (.isN false V4)) (.e (.isN false V5))) (.cons .bad .nil) .nil) (cS (.ret (.call 2 (E4 (gI 111 57) (lS []) (.frz (.disp (E3 V3 V4 V5))) V2))) nS))))))))⟩
def a9b:Fn:=⟨1,4,(cS (.assign 1 (.attr (.meth V0 69 .nil) 1)) (cS (.assign 2 (.lit .none)) (cS (.ite (.e (.meth V0 72 (E1 (lS [40])))) (cS (.assign 3 (.attr (.meth V0 70 .nil) 1)) (cS (.ite (.or (.e (.meth V0 85 (E1 (lS [123])))) (.e (.meth V0 85 (E1 (lS [91]))))) (.cons .bad .nil) .nil) (cS (.assign 2 (.call 1 (E3 (gI 6 8) (.meth V0 113 .nil) V3))) (cS (.ite (.e (.meth V0 85 (E1 (lS [58])))) (.cons .bad .nil) .nil) (cS (.expr (.meth V0 91 (E1 (lS [41])))) nS))))) .nil) (cS (.ret (.call 2 (E4 (gI 112 58) (lS []) (.frz (.disp (E2 V2 (.meth V0 82 (E1 (gI 87 4)))))) V1))) nS))))⟩
def b0i:Fn:=⟨1,1,(cS (.ite (cC .notin (gI 92 3) (.attr V0 62)) (cS (.setI (.attr V0 62) (gI 92 3) (.newO 27 0 65 .nil)) (cS (.setI (.attr V0 62) (gI 87 4) (.new0 28)) nS)) .nil) (cS (.ret (.attr (.idx (.attr V0 62) (gI 92 3)) 79)) nS))⟩
def rG:Fn:=⟨1,2,(cS (.assign 1 (.call 103 (E1 V0))) (cS (.setI V1 (lS [105,102]) (.new0 31)) (cS (.setI V1 (lS [108,101,116]) (.new0 30)) (cS (.setI V1 (lS [118,97,114]) (.new0 29)) (cS (.setI V1 (lS [99,111,110,115,116]) (.new0 29)) nS)))))⟩
def qR:Fn:=⟨1,2,(cS (.assign 1 (.call 103 (E1 V0))) (cS (.setI V1 (lS [119,104,105,108,101]) (.new0 32)) (cS (.setI V1 (lS [100,111]) (.new0 33)) (cS (.setI V1 (lS [102,111,114]) (.new0 34)) nS))))⟩
def rS:Fn:=⟨1,2,(cS (.assign 1 (.call 103 (E1 V0))) (cS (.setI V1 (lS [115,119,105,116,99,104]) (.new0 35)) (cS (.setI V1 (lS [114,101,116,117,114,110]) (.new0 36)) (cS (.setI V1 (lS [98,114,101,97,107]) (.new0 37)) (cS (.setI V1 (lS [99,111,110,116,105,110,117,101]) (.idx V1 (lS [98,114,101,97,107]))) (cS (.setI V1 (lS [116,104,114,111,119]) (.new0 39)) (cS (.setI V1 (lS [116,114,121]) (.new0 40)) (cS (.setI V1 (lS [35,108,97,98,101,108]) (.new0 38)) nS))))))))⟩
def xT:Fn:=⟨2,3,(cS (.assign 2 (.attr (.meth V1 70 .nil) 1)) (cS (.ret (.call 1 (E3 (gI 6 8) (.meth V1 113 .nil) V2))) nS))⟩
def xB:Fn:=⟨3,3,(cS (.ret (.attr V2 4)) nS)⟩
def b8v:Fn:=⟨2,2,(cS (.ret (.ife (cC .gt (.len V0) (lI 0)) (.bin .mod (.popC V0) V1) (lI 0))) nS)⟩
def b6n:Fn:=⟨1,1,(cS (.ret (.call 1 (E3 (gI 6 8) (.idx (.glob 114 (.tup [(.str [102]),(.str [111,102]),(.str [116,121,112,101]),(.str [108,101,116]),(.str [103,101,116]),(.str [97,115,121,110,99]),(.str [122])])) (.call 109 (E2 V0 (lI 7)))) (lI 0)))) nS)⟩
def b2r:Fn:=⟨1,1,(cS (.ret (.call 1 (E3 (gI 6 8) (.idx (.tup (E6 (lS [102]) (lS [111,102]) (lS [116,121,112,101]) (lS [103,101,116]) (lS [97,115,121,110,99]) (lS [122]))) (.call 109 (E2 V0 (lI 6)))) (lI 0)))) nS)⟩
def b2k:Fn:=⟨1,1,(cS (.ret (.ife (cC .eq (.call 109 (E2 V0 (lI 2))) (lI 1)) (.call 110 (E1 V0)) (.lit .none))) nS)⟩
def c0h:Fn:=⟨3,7,(cS (.assign 3 (.idx V1 (.call 109 (E2 V0 (.len V1))))) (cS (.ownS 4 (.disp .nil)) (cS (.forL [5] true true (.ife (.e V2) (lI 1) (.bin .add (lI 1) (.call 109 (E2 V0 (lI 3))))) (cS (.assign 6 (.ife (.e V2) (.lit .none) (.call 112 (E1 V0)))) (cS (.ite (.and (cC .eq V3 (lS [99,111,110,115,116])) (.and (.e (.isN false V6)) (.not (.e V2)))) (cS (.assign 6 (.call 110 (E1 V0))) nS) .nil) (cS (.appV 4 (.call 2 (E4 (gI 97 42) (lS []) (.frz (.disp (E3 (.call 111 (E1 V0)) (.lit .none) V6))) (lI 0)))) nS)))) (cS (.ret (.call 2 (E4 (gI 40 41) V3 V4 (lI 0)))) nS))))⟩
def b6o:Fn:=⟨3,3,(cS (.ret (.frz (.comp [0,1,2] [0] true (.call 109 (E2 V0 (lI 3))) .tt (.call 121 (E4 V0 V1 V2 (.lit (.bool false))))))) nS)⟩
def b2i:Fn:=⟨3,3,(cS (.ret (.call 2 (E4 (gI 37 59) (lS []) (.call 114 (E3 V0 V1 V2)) (lI 0)))) nS)⟩
def c0d:Fn:=⟨2,8,(cS (.unpack [2,3,4] V1) (cS (.ownS 5 (.cat (.frz (.comp [] [0,1] false V4 .tt (.tup (E2 (gI 41 53) V0)))) (.frz (.comp [] [0,1] false V4 (.e V1) (.tup (E2 (gI 108 54) V0)))))) (cS (.ite (cC .gt (.bin .add V2 V3) (lI 0)) (cS (.appV 5 (.tup (E2 (gI 41 53) (lS [])))) nS) .nil) (cS (.ite (cC .gt V2 (lI 0)) (cS (.appV 5 (.tup (E2 (gI 108 54) (lS [])))) nS) .nil) (cS (.ite (cC .eq (.len V5) (lI 0)) (cS (.ret (.call 1 (E3 (gI 86 60) (lS []) (lI 0)))) nS) .nil) (cS (.unpack [6,7] (.idx V5 (.call 109 (E2 V0 (.len V5))))) (cS (.ret (.call 1 (E3 V6 V7 (lI 0)))) nS)))))))⟩
def b9w:Fn:=⟨4,14,(cS (.unpack [4,5,6] V3) (cS (.assign 7 (.tup (E3 (.bin .add V4 (lI 1)) V5 V6))) (cS (.ite (cC .eq V0 (lI 0)) (cS (.assign 8 (.call 110 (E1 V1))) (cS (.ret (.call 2 (E4 (gI 20 45) (lS []) (.frz (.disp (E2 V8 (.call 121 (E4 V1 V2 V7 (.lit (.bool true))))))) (lI 0)))) nS)) .nil) (cS (.ite (cC .eq V0 (lI 1)) (cS (.assign 9 (.call 121 (E4 V1 V2 V7 (.lit (.bool true))))) (cS (.ret (.call 2 (E4 (gI 102 46) (lS []) (.frz (.disp (E2 V9 (.call 110 (E1 V1))))) (lI 0)))) nS)) .nil) (cS (.ite (cC .eq V0 (lI 2)) (cS (.assign 10 (.lit .none)) (cS (.assign 11 (.call 109 (E2 V1 (lI 3)))) (cS (.ite (cC .eq V11 (lI 1)) (cS (.assign 10 (.call 2 (E4 (gI 80 43) (lS []) (.frz (.disp (E1 (.call 111 (E1 V1))))) (lI 0)))) nS) (cS (.ite (cC .eq V11 (lI 2)) (cS (.assign 10 (.call 113 (E3 V1 (.tup (E3 (lS [108,101,116]) (lS [118,97,114]) (lS [99,111,110,115,116]))) (.lit (.bool false))))) nS) .nil) nS)) (cS (.assign 8 (.call 112 (E1 V1))) (cS (.assign 12 (.call 112 (E1 V1))) (cS (.ret (.call 2 (E4 (gI 19 47) (lS []) (.frz (.disp (E4 V10 V8 V12 (.call 121 (E4 V1 V2 V7 (.lit (.bool true))))))) (lI 0)))) nS)))))) .nil) (cS (.assign 10 (.call 113 (E3 V1 (.tup (E3 (lS [99,111,110,115,116]) (lS [108,101,116]) (lS [118,97,114]))) (.lit (.bool true))))) (cS (.assign 13 (.call 110 (E1 V1))) (cS (.ret (.call 2 (E4 (.idx (.tup (E2 (gI 18 48) (gI 17 49))) (.bin .sub V0 (lI 3))) (lS []) (.frz (.disp (E3 V10 V13 (.call 121 (E4 V1 V2 V7 (.lit (.bool true))))))) (lI 0)))) nS))))))))⟩
def a7n:Fn:=⟨3,10,(cS (.unpack [3,4,5] V2) (cS (.ownS 6 (.disp (E1 (.call 110 (E1 V0))))) (cS (.assign 7 (.lit (.bool false))) (cS (.forL [8] true true (.call 109 (E2 V0 (lI 4))) (cS (.assign 9 (.call 110 (E1 V0))) (cS (.ite (.and (cC .eq (.call 109 (E2 V0 (lI 3))) (lI 2)) (.not (.e V7))) (cS (.assign 9 (.lit .none)) (cS (.assign 7 (.lit (.bool true))) nS)) .nil) (cS (.appV 6 (.call 2 (E4 (gI 106 51) (lS []) (.frz (.cat (.frz (.disp (E1 V9))) (.call 114 (E3 V0 V1 (.tup (E3 V3 (.bin .add V4 (lI 1)) V5)))))) (lI 0)))) nS)))) (cS (.ret (.call 2 (E4 (gI 105 50) (lS []) V6 (lI 0)))) nS)))))⟩
def c1u:Fn:=⟨3,8,(cS (.assign 3 (.call 115 (E3 V0 V1 V2))) (cS (.assign 4 (.call 109 (E2 V0 (lI 4)))) (cS (.assign 5 (.lit .none)) (cS (.ite (cC .ne V4 (lI 3)) (cS (.assign 6 (.ife (cC .gt V4 (lI 0)) (.call 110 (E1 V0)) (.lit .none))) (cS (.assign 5 (.call 2 (E4 (gI 112 58) (lS []) (.frz (.disp (E2 V6 (.call 115 (E3 V0 V1 V2))))) (lI 0)))) nS)) .nil) (cS (.assign 7 (.ife (cC .gt V4 (lI 1)) (.call 115 (E3 V0 V1 V2)) (.lit .none))) (cS (.ret (.call 2 (E4 (gI 111 57) (lS []) (.frz (.disp (E3 V3 V5 V7))) (lI 0)))) nS))))))⟩
def wL:Fn:=⟨3,9,(cS (.unpack [3,4,5] V2) (cS (.assign 6 (.bin .mod (.bin .mul (.len V0) (lI 7)) (lI 30))) (cS (.assign 7 (.ife (cC .lt V6 (lI 5)) (.idx (.tup (E5 (lS [97]) (lS [111,102]) (lS [116,121,112,101]) (lS [103,101,116]) (lS [97,115,121,110,99]))) V6) (.bin .add (lS [108]) (.idx (.glob 115 (.str [97,98,99,100,101,102,103,104,105,106,107,108,109,110,111,112,113,114,115,116,117,118,119,120,121,122])) (.bin .sub V6 (lI 5)))))) (cS (.assign 8 (.call 109 (E2 V0 (lI 7)))) (cS (.ite (cC .lt V8 (lI 5)) (cS (.ret (.call 2 (E4 (gI 16 55) V7 (.frz (.disp (E1 (.call 117 (E4 V8 V0 V1 (.tup (E3 V3 V4 (.frz (.cat V5 (.frz (.disp (E1 (.tup (E2 V7 (.lit (.bool true)))))))))))))))) (lI 0)))) nS) .nil) (cS (.ret (.call 2 (E4 (gI 16 55) V7 (.frz (.disp (E1 (.call 121 (E4 V0 V1 (.tup (E3 V3 V4 (.frz (.cat V5 (.frz (.disp (E1 (.tup (E2 V7 (.lit (.bool false))))))))))) (.lit (.bool true))))))) (lI 0)))) nS))))))⟩
def zY:Fn:=⟨4,8,(cS (.assign 4 (.ife (cC .gt V1 (lI 0)) (.call 109 (E2 V0 (lI 20))) (.bin .add (lI 11) (.call 109 (E2 V0 (lI 6)))))) (cS (.ite (cC .lt V4 (lI 3)) (cS (.assign 5 (.call 110 (E1 V0))) (cS (.assign 6 (.call 121 (E4 V0 (.bin .sub V1 (lI 1)) V2 (.lit (.bool true))))) (cS (.assign 7 (.ife (cC .gt V4 (lI 0)) (.call 121 (E4 V0 (.bin .sub V1 (lI 1)) V2 (.lit (.bool true)))) (.lit .none))) (cS (.ret (.call 2 (E4 (gI 15 44) (lS []) (.frz (.disp (E3 V5 V6 V7))) (lI 0)))) nS)))) .nil) (cS (.ite (cC .lt V4 (lI 8)) (cS (.ret (.call 117 (E4 (.bin .sub V4 (lI 3)) V0 (.bin .sub V1 (lI 1)) V2))) nS) .nil) (cS (.ite (cC .eq V4 (lI 8)) (cS (.ret (.call 118 (E3 V0 (.bin .sub V1 (lI 1)) V2))) nS) .nil) (cS (.ite (cC .eq V4 (lI 9)) (cS (.ret (.call 119 (E3 V0 (.bin .sub V1 (lI 1)) V2))) nS) .nil) (cS (.ite (cC .eq V4 (lI 10)) (cS (.ret (.call 120 (E3 V0 (.bin .sub V1 (lI 1)) V2))) nS) .nil) (cS (.ite (cC .eq V4 (lI 12)) (cS (.ret (.call 116 (E2 V0 V2))) nS) .nil) (cS (.ite (cC .eq V4 (lI 13)) (cS (.ret (.call 2 (E4 (gI 107 52) (lS []) (.frz (.disp (E1 (.call 112 (E1 V0))))) (lI 0)))) nS) .nil) (cS (.ite (cC .eq V4 (lI 14)) (cS (.ret (.call 2 (E4 (gI 110 56) (lS []) (.frz (.disp (E1 (.call 110 (E1 V0))))) (lI 0)))) nS) .nil) (cS (.ite (cC .eq V4 (lI 15)) (cS (.ret (.call 113 (E3 V0 (.ife (.e V3) (.tup (E1 (lS [118,97,114]))) (.tup (E3 (lS [108,101,116]) (lS [118,97,114]) (lS [99,111,110,115,116])))) (.lit (.bool false))))) nS) .nil) (cS (.ite (cC .eq V4 (lI 16)) (cS (.ret (.call 1 (E3 (gI 86 60) (lS []) (lI 0)))) nS) .nil) (cS (.ite (cC .gt V4 (lI 16)) (cS (.ret (.call 115 (E3 V0 (.bin .sub V1 (lI 1)) V2))) nS) .nil) (cS (.ret (.call 2 (E4 (gI 80 43) (lS []) (.frz (.disp (E1 (.call 110 (E1 V0))))) (lI 0)))) nS)))))))))))))⟩
def b8m:Fn:=⟨1,1,(cS (.ite (cC .eq (.attr V0 5) (gI 15 44)) (cS (.ret (.orE (.isN false (.idx (.attr V0 3) (lI 2))) (.call 122 (E1 (.idx (.attr V0 3) (lI 2)))))) nS) .nil) (cS (.ret (.andE (.cmp .isin (.attr V0 5) (.tup (E5 (gI 20 45) (gI 19 47) (gI 18 48) (gI 17 49) (gI 16 55)))) (.call 122 (E1 (.idx (.attr V0 3) (lI (-1))))))) nS))⟩
def b0r:Fn:=⟨2,2,(cS (.ret (.join [] (.frz (.comp [1] [0] false V0 .tt (.bin .add (.bin .add (.bin .add (lS [10]) V0) (lS [32,32])) (.call 129 (E2 V1 (.bin .add V0 (lS [32,32]))))))))) nS)⟩
def a7e:Fn:=⟨2,2,(cS (.ret (.ife (cC .eq (.len V0) (lI 0)) (lS [123,125]) (.bin .add (.bin .add (.bin .add (.bin .add (lS [123]) (.call 123 (E2 V0 V1))) (lS [10])) V1) (lS [125])))) nS)⟩
def c3k:Fn:=⟨2,2,(cS (.ret (.ife (cC .eq (.attr V0 5) (gI 37 59)) (.bin .add (lS [32]) (.call 129 (E2 V0 V1))) (.call 123 (E2 (.frz (.disp (E1 V0))) V1)))) nS)⟩
def b0u:Fn:=⟨3,3,(cS (.ret (.bin .add (.bin .add (.call 125 (E2 V0 V1)) (.ife (cC .eq (.attr V0 5) (gI 37 59)) (lS [32]) (.bin .add (lS [10]) V1))) V2)) nS)⟩
def b2l:Fn:=⟨1,1,(cS (.ret (.bin .add (.bin .add (.attr V0 4) (lS [32])) (.join [44,32] (.frz (.comp [] [0] false (.attr V0 3) .tt (.ife (.e (.isN false (.idx (.attr V0 3) (lI 2)))) (.attr (.idx (.attr V0 3) (lI 0)) 4) (.bin .add (.bin .add (.attr (.idx (.attr V0 3) (lI 0)) 4) (lS [32,61,32])) (.attr (.idx (.attr V0 3) (lI 2)) 4)))))))) nS)⟩
def b7o:Fn:=⟨2,2,(cS (.ret (.ife (.e (.isN false V0)) (lS []) (.bin .add V1 (.attr V0 4)))) nS)⟩
def b5p:Fn:=⟨2,8,(cS (.assign 2 (.attr V0 5)) (cS (.assign 3 (.attr V0 3)) (cS (.ite (cC .eq V2 (gI 37 59)) (cS (.ret (.call 124 (E2 V3 V1))) nS) .nil) (cS (.ite (cC .eq V2 (gI 86 60)) (cS (.ret (lS [59])) nS) .nil) (cS (.ite (cC .eq V2 (gI 40 41)) (cS (.ret (.bin .add (.call 127 (E1 V0)) (lS [59]))) nS) .nil) (cS (.ite (cC .eq V2 (gI 80 43)) (cS (.ret (.bin .add (.attr (.idx V3 (lI 0)) 4) (lS [59]))) nS) .nil) (cS (.ite (cC .eq V2 (gI 15 44)) (cS (.assign 4 (.bin .add (.bin .add (lS [105,102,32,40]) (.attr (.idx V3 (lI 0)) 4)) (lS [41]))) (cS (.ite (.e (.isN false (.idx V3 (lI 2)))) (cS (.ret (.bin .add V4 (.call 125 (E2 (.idx V3 (lI 1)) V1)))) nS) .nil) (cS (.assign 5 (.ife (.e (.call 122 (E1 (.idx V3 (lI 1))))) (.call 2 (E4 (gI 37 59) (lS []) (.frz (.disp (E1 (.idx V3 (lI 1))))) (lI 0))) (.idx V3 (lI 1)))) (cS (.augV 4 .add (.call 126 (E3 V5 V1 (lS [101,108,115,101])))) (cS (.ret (.ife (cC .eq (.attr (.idx V3 (lI 2)) 5) (gI 15 44)) (.bin .add (.bin .add V4 (lS [32])) (.call 129 (E2 (.idx V3 (lI 2)) V1))) (.bin .add V4 (.call 125 (E2 (.idx V3 (lI 2)) V1))))) nS))))) .nil) (cS (.ite (cC .eq V2 (gI 20 45)) (cS (.ret (.bin .add (.bin .add (.bin .add (lS [119,104,105,108,101,32,40]) (.attr (.idx V3 (lI 0)) 4)) (lS [41])) (.call 125 (E2 (.idx V3 (lI 1)) V1)))) nS) .nil) (cS (.ite (cC .eq V2 (gI 102 46)) (cS (.ret (.bin .add (lS [100,111]) (.call 126 (E3 (.idx V3 (lI 0)) V1 (.bin .add (.bin .add (lS [119,104,105,108,101,32,40]) (.attr (.idx V3 (lI 1)) 4)) (lS [41,59])))))) nS) .nil) (cS (.ite (cC .eq V2 (gI 19 47)) (cS (.assign 6 (lS [])) (cS (.ite (.e (.isN true (.idx V3 (lI 0)))) (cS (.assign 6 (.ife (cC .eq (.attr (.idx V3 (lI 0)) 5) (gI 40 41)) (.call 127 (E1 (.idx V3 (lI 0)))) (.attr (.idx (.attr (.idx V3 (lI 0)) 3) (lI 0)) 4))) nS) .nil) (cS (.ret (.bin .add (.bin .add (.bin .add (.bin .add (.bin .add (.bin .add (.bin .add (lS [102,111,114,32,40]) V6) (lS [59])) (.call 128 (E2 (.idx V3 (lI 1)) (lS [32])))) (lS [59])) (.call 128 (E2 (.idx V3 (lI 2)) (lS [32])))) (lS [41])) (.call 125 (E2 (.idx V3 (lI 3)) V1)))) nS))) .nil) (cS (.ite (.or (cC .eq V2 (gI 18 48)) (cC .eq V2 (gI 17 49))) (cS (.assign 7 (.ife (cC .eq V2 (gI 18 48)) (lS [32,111,102,32]) (lS [32,105,110,32]))) (cS (.ret (.bin .add (.bin .add (.bin .add (.bin .add (.bin .add (lS [102,111,114,32,40]) (.call 127 (E1 (.idx V3 (lI 0))))) V7) (.attr (.idx V3 (lI 1)) 4)) (lS [41])) (.call 125 (E2 (.idx V3 (lI 2)) V1)))) nS)) .nil) (cS (.ite (cC .eq V2 (gI 105 50)) (cS (.ret (.bin .add (.bin .add (.bin .add (lS [115,119,105,116,99,104,32,40]) (.attr (.idx V3 (lI 0)) 4)) (lS [41,32])) (.call 124 (E2 (.frz (.cut V3 (lI 1) (.lit .none))) V1)))) nS) .nil) (cS (.ite (cC .eq V2 (gI 106 51)) (cS (.ret (.bin .add (.ife (.e (.isN false (.idx V3 (lI 0)))) (lS [100,101,102,97,117,108,116,58]) (.bin .add (.bin .add (lS [99,97,115,101,32]) (.attr (.idx V3 (lI 0)) 4)) (lS [58]))) (.call 123 (E2 (.frz (.cut V3 (lI 1) (.lit .none))) V1)))) nS) .nil) (cS (.ite (cC .eq V2 (gI 107 52)) (cS (.ret (.bin .add (.bin .add (lS [114,101,116,117,114,110]) (.call 128 (E2 (.idx V3 (lI 0)) (lS [32])))) (lS [59]))) nS) .nil) (cS (.ite (cC .eq V2 (gI 110 56)) (cS (.ret (.bin .add (.bin .add (lS [116,104,114,111,119,32]) (.attr (.idx V3 (lI 0)) 4)) (lS [59]))) nS) .nil) (cS (.ite (.or (cC .eq V2 (gI 41 53)) (cC .eq V2 (gI 108 54))) (cS (.ret (.bin .add (.bin .add (.ife (cC .eq V2 (gI 41 53)) (lS [98,114,101,97,107]) (lS [99,111,110,116,105,110,117,101])) (.ife (cC .ne (.attr V0 4) (lS [])) (.bin .add (lS [32]) (.attr V0 4)) (lS []))) (lS [59]))) nS) .nil) (cS (.ite (cC .eq V2 (gI 16 55)) (cS (.ret (.bin .add (.bin .add (.attr V0 4) (lS [58,32])) (.call 129 (E2 (.idx V3 (lI 0)) V1)))) nS) .nil) (cS (.assign 4 (.bin .add (lS [116,114,121,32]) (.call 129 (E2 (.idx V3 (lI 0)) V1)))) (cS (.ite (.e (.isN true (.idx V3 (lI 1)))) (cS (.augV 4 .add (.bin .add (.bin .add (lS [32,99,97,116,99,104,32]) (.call 128 (E2 (.idx (.attr (.idx V3 (lI 1)) 3) (lI 0)) (lS [40])))) (.ife (.e (.isN true (.idx (.attr (.idx V3 (lI 1)) 3) (lI 0)))) (lS [41,32]) (lS [])))) (cS (.augV 4 .add (.call 129 (E2 (.idx (.attr (.idx V3 (lI 1)) 3) (lI 1)) V1))) nS)) .nil) (cS (.ret (.ife (.e (.isN false (.idx V3 (lI 2)))) V4 (.bin .add (.bin .add V4 (lS [32,102,105,110,97,108,108,121,32])) (.call 129 (E2 (.idx V3 (lI 2)) V1))))) nS))))))))))))))))))))⟩
def mU:Fn:=⟨1,6,(cS (.ownS 1 (.disp .nil)) (cS (.assign 2 (.lit (.bool false))) (cS (.assign 3 (lI 0)) (cS (.while (cC .lt V3 (.len V0)) (cS (.assign 4 V3) (cS (.augV 3 .add (lI 1)) (cS (.ite (.or (cC .eq (.idx V0 V4) (lS [10])) (cC .eq (.idx V0 V4) (lS [32]))) (cS (.assign 2 (.orE V2 (.cmp .eq (.idx V0 V4) (lS [10])))) (cS .cont nS)) .nil) (cS (.assign 5 (gI 66 5)) (cS (.ite (cC .isin (.idx V0 V4) (.glob 115 (.str [97,98,99,100,101,102,103,104,105,106,107,108,109,110,111,112,113,114,115,116,117,118,119,120,121,122]))) (cS (.while (.and (cC .lt V3 (.len V0)) (cC .isin (.idx V0 V3) (.glob 115 (.str [97,98,99,100,101,102,103,104,105,106,107,108,109,110,111,112,113,114,115,116,117,118,119,120,121,122])))) (cS (.augV 3 .add (lI 1)) nS)) (cS (.assign 5 (.ife (cC .isin (.cut V0 V4 V3) (.glob 116 (.tup [(.str [105,102]),(.str [101,108,115,101]),(.str [119,104,105,108,101]),(.str [100,111]),(.str [102,111,114]),(.str [105,110]),(.str [115,119,105,116,99,104]),(.str [99,97,115,101]),(.str [100,101,102,97,117,108,116]),(.str [114,101,116,117,114,110]),(.str [98,114,101,97,107]),(.str [99,111,110,116,105,110,117,101]),(.str [116,104,114,111,119]),(.str [116,114,121]),(.str [99,97,116,99,104]),(.str [102,105,110,97,108,108,121]),(.str [118,97,114]),(.str [99,111,110,115,116])]))) (gI 67 2) (gI 68 1))) nS)) .nil) (cS (.appV 1 (.newI 23 42 (E6 V5 (.cut V0 V4 V3) (lI 0) V4 V3 V2))) (cS (.assign 2 (.lit (.bool false))) nS)))))))) (cS (.appV 1 (.newI 23 42 (E6 (gI 65 0) (lS []) (lI 0) V3 V3 V2))) (cS (.ret V1) nS))))))⟩
def yN:Fn:=⟨1,3,(cS (.assign 1 (.newO 25 0 43 (E2 V0 (.newO 1 0 5 (E1 (lS [])))))) (cS (.setA V1 56 (lI 1)) (cS (.setI (.attr V1 62) (gI 83 2) (.new0 41)) (cS (.setI (.attr V1 62) (gI 99 10) (.new0 41)) (cS (.expr (.call 104 (E1 V1))) (cS (.expr (.call 105 (E1 V1))) (cS (.expr (.call 106 (E1 V1))) (cS (.ownS 2 (.disp .nil)) (cS (.tryB (cS (.while (cC .ne (.attr (.meth V1 70 .nil) 5) (gI 65 0)) (cS (.appV 2 (.meth V1 82 (E1 (gI 92 3)))) nS)) nS)) (cS (.ite (.or (cC .gt (.len (.attr (.attr V1 63) 13)) (lI 0)) (.or (cC .gt (.bin .add (.bin .add (.bin .add (.attr V1 31) (.attr V1 55)) (.attr V1 54)) (.len (.attr V1 53))) (lI 0)) (.or (cC .ne (.attr V1 56) (lI 1)) (.not (.e (.attr V1 57)))))) (cS (.ret (.lit .none)) nS) .nil) (cS (.ret (.call 2 (E4 (gI 117 40) (lS []) V2 (lI 0)))) nS)))))))))))⟩
def b9g:Fn:=⟨3,5,(cS (.ite (.or (.e (.isN false V0)) (.e (.isN false V1))) (cS (.ret (.andE (.isN false V0) (.isN false V1))) nS) .nil) (cS (.ite (.or (cC .ne (.attr V0 5) (.attr V1 5)) (.or (cC .ne (.attr V0 4) (.attr V1 4)) (.or (cC .ne (.attr V0 2) (.attr V1 2)) (cC .ne (.len (.attr V0 3)) (.len (.attr V1 3)))))) (cS (.ret (.lit (.bool false))) nS) .nil) (cS (.forL [3] true true (.len (.attr V0 3)) (cS (.assign 4 (.idx (.attr V1 3) V3)) (cS (.ite (.and (cC .eq (.attr V0 5) (gI 15 44)) (.and (cC .eq V3 (lI 1)) (.and (cC .eq (.attr V4 5) (gI 37 59)) (.and (.e (.isN true (.idx (.attr V0 3) (lI 2)))) (.e (.call 122 (E1 (.idx (.attr V0 3) (lI 1))))))))) (cS (.ite (cC .ne (.len (.attr V4 3)) (lI 1)) (cS (.ret (.lit (.bool false))) nS) .nil) (cS (.appC V2 (.attr V4 1)) (cS (.assign 4 (.idx (.attr V4 3) (lI 0))) nS))) .nil) (cS (.ite (.not (.e (.call 132 (E3 (.idx (.attr V0 3) V3) V4 V2)))) (cS (.ret (.lit (.bool false))) nS) .nil) nS)))) (cS (.ret (.lit (.bool true))) nS))))⟩
def b7c:Fn:=⟨2,5,(cS (.ownS 2 (.disp .nil)) (cS (.assign 3 (lI 0)) (cS (.forL [4] true false V0 (cS (.ite (.and (cC .eq (.attr V4 1) V1) (cC .eq (.attr V4 5) (gI 66 5))) (cS (.assign 3 (lI 1)) (cS .cont nS)) .nil) (cS (.ite (.and (cC .gt V3 (lI 0)) (cC .eq (.attr V4 34) (lS [123]))) (cS (.augV 3 .add (lI 1)) nS) .nil) (cS (.ite (.and (cC .gt V3 (lI 0)) (cC .eq (.attr V4 34) (lS [125]))) (cS (.augV 3 .sub (lI 1)) (cS (.ite (cC .eq V3 (lI 0)) (cS .cont nS) .nil) nS)) .nil) (cS (.appV 2 V4) nS))))) (cS (.ret V2) nS))))⟩
def a6d:Fn:=⟨0,3,(cS (.assign 0 (.newO 4 12 11 .nil)) (cS (.assign 1 (.new0 14)) (cS (.assign 2 (.new0 18)) (cS (.setA V0 33 (.dictD 12 [(.int 8),(.int 40),(.int 59),(.int 60),(.int 41),(.int 43),(.int 44),(.int 45),(.int 46),(.int 47),(.int 48),(.int 49),(.int 50),(.int 51),(.int 52),(.int 53),(.int 54),(.int 55),(.int 56),(.int 57),(.int 58)] (.cons (.new0 42) (.cons (.new0 5) (.cons (.new0 6) (.cons (.new0 7) (.cons (.new0 8) (.cons (.new0 9) (.cons (.new0 10) (.cons (.new0 11) (.cons (.new0 12) (.cons (.new0 13) (.cons V1 (.cons V1 (.cons (.new0 15) (.cons (.new0 16) (.cons (.new0 17) (.cons V2 (.cons V2 (.cons (.new0 19) (.cons (.new0 20) (.cons (.new0 21) (.cons (.new0 22) .nil))))))))))))))))))))))) (cS (.ret V0) nS)))))⟩
def kT:Fn:=⟨1,12,(cS (.assign 1 (.frz (.comp [] [0] false (.frz (.cut V0 (.lit .none) (lI 3))) .tt (.bin .mod V0 (lI 1000000007))))) (cS (.assign 1 (.frz (.cat V1 (.frz (.cut (.frz (.disp (E2 (lI 2) (lI 150)))) (.len V1) (.lit .none)))))) (cS (.ownS 2 (.disp .nil)) (cS (.forL [3] true false V1 (cS (.ownS 4 (.disp .nil)) (cS (.while (cC .gt V3 (lI 0)) (cS (.ownS 4 (.cat (.frz (.disp (E1 (.bin .mod (.bin .mod V3 (lI 1011)) (lI 60))))) V4)) (cS (.assign 3 (.bin .fdiv V3 (lI 2))) nS))) (cS (.appV 2 (.call 121 (E4 (.share 4 16) (lI 3) (.tup (E3 (lI 0) (lI 0) (.frz (.disp .nil)))) (.lit (.bool false))))) nS)))) (cS (.assign 5 (.call 2 (E4 (gI 117 40) (lS []) V2 (lI 0)))) (cS (.assign 6 (.call 134 .nil)) (cS (.assign 7 (.meth V6 34 (E1 V5))) (cS (.ite (.or (cC .ne V7 (.join [] (.frz (.comp [] [0] false V2 .tt (.bin .add (.call 129 (E2 V0 (lS []))) (lS [10])))))) (.or (cC .ne (.attr V6 32) (lI 0)) (cC .ne (.attr V6 31) (lI 0)))) (cS (.ret (.lit (.bool false))) nS) .nil) (cS (.assign 8 (.call 130 (E1 V7))) (cS (.ownS 9 (.disp .nil)) (cS (.assign 10 (.callP 131 (E1 V8))) (cS (.ite (.or (.e (.isN false V10)) (.or (.not (.e (.call 132 (E3 V5 V10 (.share 9 20))))) (cC .ne (.meth V6 34 (E1 V10)) V7))) (cS (.ret (.lit (.bool false))) nS) .nil) (cS (.ite (cC .eq (.len V9) (lI 0)) (cS (.ret (.lit (.bool true))) nS) .nil) (cS (.assign 11 (.callP 131 (E1 (.call 133 (E2 V8 (.idx V9 (.bin .mod (.sum V1) (.len V9)))))))) (cS (.ret (.andE (.isN true V11) (.notE (.call 132 (E3 V5 V11 (.cellL 20 (.disp .nil))))))) nS)))))))))))))))⟩
def fns:List Fn:=[b3d,f2m,e3k,c3y,tK,a8j,a4f,a6c,lD,a9d,a0v,a3c,a3d,a1s,b2j,c7z,w4,c4k,b5w,b1u,b1o,b2m,a0o,mX,vQ,vG,a0m,tY,a4h,vO,a2y,a1y,b0n,sH,uM,xZ,sM,xI,vM,vN,a0q,vE,b1s,a6e,b1b,a3l,a6f,y2,yB,xL,vK,vH,u6,tM,t3,xW,pM,a6h,b2a,a5y,a9x,b5u,qI,b2f,a3i,a1c,yA,vP,mM,oU,x7,y0,b6i,x9,b2d,pE,rE,pG,a7j,a2a,wW,vF,wX,zO,sZ,zG,mO,x6,a0n,zB,eL,oR,b1v,sI,vJ,kX,a6i,y8,sQ,iK,u8,xJ,a9b,b0i,rG,qR,rS,xT,xB,b8v,b6n,b2r,b2k,c0h,b6o,b2i,c0d,b9w,a7n,c1u,wL,zY,b8m,b0r,a7e,c3k,b0u,b2l,b7o,b5p,mU,yN,b9g,b7c,a6d]
noncomputable def o0:List (List (Nat×Nat)):=[[],[],[],[(36,10)],[(38,13),(34,12)],[(34,23)],[(34,24)],[(34,25)],[(34,26)],[(34,27)],[(34,28)],[(34,29)],[(34,30)],[(34,31)],[(34,33)],[(34,34)],[(34,35)],[(34,36)],[(34,37)],[(34,38)],[(34,39)],[(34,40)],[(34,41)],[],[],[(88,45),(71,55),(77,57),(72,50),(101,51),(81,56),(104,49),(85,47),(84,48),(113,54),(91,52),(103,53),(70,44),(82,59),(69,46),(74,58)],[(90,64)],[(76,66)],[(76,67)],[(90,64),(89,80)],[(90,81),(89,82)],[(90,64),(89,83)],[(90,64),(89,84)],[(90,64),(89,85)],[(90,64),(89,86)],[(90,64),(89,90)],[(90,64),(89,93)],[(90,64),(89,94)],[(90,64),(89,98)],[(90,64),(89,100)],[(90,64),(89,101)],[(76,107)],[(34,108)]]
noncomputable def kQ (l:List (Nat×Nat)) (a:Nat):Option Nat:=match l with
 |[]=>none
 |(b,v)::l=>match Nat.beq b a with|true=>some v|false=>kQ l a
noncomputable def lc {α β:Type} (l:List α) (k:α->List α->Option β):Option β:=@List.casesOn α (λ_=>Option β) l none k
noncomputable def l0 {α β:Type} (l:List α) (z:β):Option β:=@List.casesOn α (λ_=>Option β) l (some z) λ_ _=>none
def f1q (c:Nat) (vs:List AV):Option (List (Nat×AV)):=
 bif Nat.beq c 0 then lc vs λa r=>lc r λb r=>lc r λc r=>lc r λd r=>lc r λe r=>l0 r [(5,a),(4,b),(3,c),(2,d),(1,e),(0,.int 0)]
 else bif Nat.beq c 23 then lc vs λa r=>lc r λb r=>lc r λc r=>lc r λd r=>lc r λe r=>lc r λf r=>l0 r [(5,a),(34,b),(44,c),(1,d),(43,e),(42,f)]
 else none
noncomputable def mR:List (List Nat):=[[5,4,3,2,1,0],[13,12],[],[],[33,32,31,30],[],[],[],[],[],[],[],[],[],[],[],[],[],[],[],[],[],[],[5,34,44,1,43,42],[],[64,1,63,62,61,60,59,31,58,57,56,55,54,53,52,51,50,49,48,47,46,45],[],[79],[],[],[],[],[],[],[],[],[],[],[],[],[],[],[]]
def b9i (c a:Nat):Bool:=match aD mR c with|some l=>eS a l|none=>false
def TT:Tab:=⟨b9i,λc m=>match aD o0 c with|some l=>kQ l m|none=>none,f1q⟩
abbrev aH:=aO TT (aD fns)
end Mx
namespace Mx
open PySem PySem.W PySem.Calls PyProof.Rows
theorem ff {P:Prop} (h:false=true):P:=nomatch h
theorem b2 {a b:Bool} (h:(a&&b)=true):a=true/\b=true:=by cases a<;>first|exact⟨rfl,h⟩|exact ff h
theorem bn {a:Bool} (h:(!a)=true):a=false:=by cases a<;>first|rfl|exact ff h
theorem fF {α:Type} {c:Prop} [Decidable c] {x y z:α} {G:Prop} (h:(if c then x else y)=z) (f:c->x=z->G) (g:¬c->y=z->G):G:=
 if q:c then f q ((if_pos q).symm.trans h)else g q ((if_neg q).symm.trans h)
structure Wd where
 F:Addr->Option Obj
 mu:Nat->Option Addr
def Wd.le (a b:Wd):Prop:=(∀x o,a.F x=some o->b.F x=some o)/\∀r x,a.mu r=some x->b.mu r=some x
theorem Wd.le.refl (a:Wd):a.le a:=⟨λ_ _ e=>e,λ_ _ e=>e⟩
theorem Wd.le.trans {a b c:Wd} (x:a.le b) (y:b.le c):a.le c:=⟨λ_ _ e=>y.1 _ _ (x.1 _ _ e),λ_ _ e=>y.2 _ _ (x.2 _ _ e)⟩
noncomputable abbrev c5 (vs:List Value) (n:Nat):Obj:={cls:=.type "list",dict:=none,data:=.seq vs.toArray n,slots:= #[]}
noncomputable abbrev u5 (vs:List Value) (n:Nat):Obj:={cls:=.type "tuple",dict:=none,data:=.seq vs.toArray n,slots:= #[]}
structure Tb where
 nm:Nat->Str
 cls:Nat->Addr
inductive IntV (i:Int):Value->Prop
 |mk {t}:IntV i (.int i t)
inductive StrV:List Nat->Value->Prop
 |mk {x:Str} {t}:x.length<=sizeLine->StrV x.cps.toList (.str x t)
inductive SeqV (o:List Value->Nat->Obj) (W:Wd) (P:List Value->Prop):Value->Prop
 |mk {a vs n}:vs.length<=sizeLine->W.F a=some (o vs n)->P vs->SeqV o W P (.ref a)
inductive InstV (c:Addr) (W:Wd) (P:List DictEntry->Prop):Value->Prop
 |mk {x dx es n}:W.F x=some (instObj c dx)->W.F dx=some (dictOf es n)->P es->InstV c W P (.ref x)
inductive ObjV (c:Addr) (r:Nat) (W:Wd):Value->Prop
 |mk {x dx}:W.F x=some (instObj c dx)->W.mu r=some dx->ObjV c r W (.ref x)
inductive RefV (r:Nat) (W:Wd):Value->Prop
 |mk {a}:W.mu r=some a->RefV r W (.ref a)
inductive ConsV {α:Type} (P:α->Prop) (Q:List α->Prop):List α->Prop
 |mk {x l}:P x->Q l->ConsV P Q (x::l)
inductive EntV (k:Str) (P:Value->Prop) (e:DictEntry):Prop
 |mk {t}:e.key=.str k t->P e.val->EntV k P e
section
variable {o:List Value->Nat->Obj} {W W':Wd} {P P':List Value->Prop} {R R':List DictEntry->Prop} {c:Addr} {r:Nat} {v:Value}
theorem SeqV.map (k:∀x o,W.F x=some o->W'.F x=some o) (f:∀vs,P vs->P' vs) (h:SeqV o W P v):SeqV o W' P' v:=h.rec λz e p=>.mk z (k _ _ e) (f _ p)
theorem InstV.map (k:∀x o,W.F x=some o->W'.F x=some o) (f:∀vs,R vs->R' vs) (h:InstV c W R v):InstV c W' R' v:=h.rec λz e p=>.mk (k _ _ z) (k _ _ e) (f _ p)
theorem ObjV.map (k:∀x o,W.F x=some o->W'.F x=some o) (f:∀a,W.mu r=some a->W'.mu r=some a) (h:ObjV c r W v):ObjV c r W' v:=h.rec λz e=>.mk (k _ _ z) (f _ e)
theorem RefV.map (f:∀a,W.mu r=some a->W'.mu r=some a) (h:RefV r W v):RefV r W' v:=h.rec λe=>.mk (f _ e)
theorem ConsV.map {α:Type} {P P':α->Prop} {Q Q':List α->Prop} {l:List α} (f:∀x,P x->P' x) (g:∀x,Q x->Q' x) (h:ConsV P Q l):ConsV P' Q' l:=h.rec λp q=>.mk (f _ p) (g _ q)
theorem EntV.map {k:Str} {P P':Value->Prop} {e:DictEntry} (f:∀x,P x->P' x) (h:EntV k P e):EntV k P' e:=h.rec λp q=>.mk p (f _ q)
end
section
variable (T:Tb) (W:Wd)
noncomputable def Rep:AV->Value->Prop:=@AV.rec (λ_=>Value->Prop) (λ_=>List Value->Prop) (λ_=>List DictEntry->Prop) (λ_=>DictEntry->Prop) (· =.none) (λb=>(· =.bool b)) IntV StrV (λ_=>SeqV u5 W) (λ_=>SeqV c5 W) (λc _=>InstV (T.cls c) W) (λc r=>ObjV (T.cls c) r W) (λr=>RefV r W)
  (· =[]) (λ_ _=>ConsV) (· =[]) (λ_ _=>ConsV) λa _=>EntV (T.nm a)
noncomputable def aL:List AV->List Value->Prop:=@AV.rec_1 (λ_=>Value->Prop) (λ_=>List Value->Prop) (λ_=>List DictEntry->Prop) (λ_=>DictEntry->Prop) (· =.none) (λb=>(· =.bool b)) IntV StrV (λ_=>SeqV u5 W) (λ_=>SeqV c5 W) (λc _=>InstV (T.cls c) W) (λc r=>ObjV (T.cls c) r W) (λr=>RefV r W)
  (· =[]) (λ_ _=>ConsV) (· =[]) (λ_ _=>ConsV) λa _=>EntV (T.nm a)
noncomputable def bU:List (Nat×AV)->List DictEntry->Prop:=@AV.rec_2 (λ_=>Value->Prop) (λ_=>List Value->Prop) (λ_=>List DictEntry->Prop) (λ_=>DictEntry->Prop) (· =.none) (λb=>(· =.bool b)) IntV StrV (λ_=>SeqV u5 W) (λ_=>SeqV c5 W) (λc _=>InstV (T.cls c) W) (λc r=>ObjV (T.cls c) r W) (λr=>RefV r W)
  (· =[]) (λ_ _=>ConsV) (· =[]) (λ_ _=>ConsV) λa _=>EntV (T.nm a)
noncomputable def y9:Nat×AV->DictEntry->Prop:=@AV.rec_3 (λ_=>Value->Prop) (λ_=>List Value->Prop) (λ_=>List DictEntry->Prop) (λ_=>DictEntry->Prop) (· =.none) (λb=>(· =.bool b)) IntV StrV (λ_=>SeqV u5 W) (λ_=>SeqV c5 W) (λc _=>InstV (T.cls c) W) (λc r=>ObjV (T.cls c) r W) (λr=>RefV r W)
  (· =[]) (λ_ _=>ConsV) (· =[]) (λ_ _=>ConsV) λa _=>EntV (T.nm a)
end
section
variable {T:Tb} {W W':Wd}
theorem Rep.none:Rep T W .none .none:=rfl
theorem Rep.bool {b:Bool}:Rep T W (.bool b) (.bool b):=rfl
theorem Rep.int {i:Int} {t}:Rep T W (.int i) (.int i t):=IntV.mk
theorem Rep.str {x:Str} {t} (h:x.length<=sizeLine):Rep T W (.str x.cps.toList) (.str x t):=StrV.mk h
theorem Rep.tup {l:List AV} {a vs n} (z:vs.length<=sizeLine) (h:W.F a=some (u5 vs n)) (r:aL T W l vs):Rep T W (.tup l) (.ref a):=SeqV.mk z h r
theorem Rep.lst {l:List AV} {a vs n} (z:vs.length<=sizeLine) (h:W.F a=some (c5 vs n)) (r:aL T W l vs):Rep T W (.lst l) (.ref a):=SeqV.mk z h r
theorem Rep.inst {c:Nat} {fs:List (Nat×AV)} {x dx es n} (h:W.F x=some (instObj (T.cls c) dx)) (h':W.F dx=some (dictOf es n)) (r:bU T W fs es):Rep T W (.inst c fs) (.ref x):=InstV.mk h h' r
theorem Rep.obj {c r:Nat} {x dx} (h:W.F x=some (instObj (T.cls c) dx)) (h':W.mu r=some dx):Rep T W (.obj c r) (.ref x):=ObjV.mk h h'
theorem Rep.ref {r:Nat} {a} (h:W.mu r=some a):Rep T W (.ref r) (.ref a):=RefV.mk h
theorem aL.nil:aL T W [] []:=rfl
theorem aL.cons {v:AV} {x:Value} {l:List AV} {vs:List Value} (h:Rep T W v x) (r:aL T W l vs):aL T W (v::l) (x::vs):=ConsV.mk h r
theorem bU.nil:bU T W [] []:=rfl
theorem bU.cons {a:Nat} {v:AV} {fs:List (Nat×AV)} {e:DictEntry} {es:List DictEntry} {t} (k:e.key=.str (T.nm a) t) (h:Rep T W v e.val) (r:bU T W fs es):bU T W ((a,v)::fs) (e::es):=ConsV.mk (EntV.mk k h) r
theorem aL.ind {M:List AV->List Value->Prop} (n:M [] []) (c:∀{v x l vs},Rep T W v x->aL T W l vs->M l vs->M (v::l) (x::vs)):∀{l:List AV} {vs:List Value},aL T W l vs->M l vs:=λ{l}=>
 @List.rec AV (λl=>∀{vs:List Value},aL T W l vs->M l vs) (λh=>Eq.ndrec (motive:=λz=>M [] z) n h.symm) (λv l ih _ h=>ConsV.rec (λr q=>c r q (ih q)) h) l
theorem bU.ind {M:List (Nat×AV)->List DictEntry->Prop} (n:M [] []) (c:∀{a v x t l vs},x.key=.str (T.nm a) t->Rep T W v x.val->bU T W l vs->M l vs->M ((a,v)::l) (x::vs)):∀{l:List (Nat×AV)} {vs:List DictEntry},bU T W l vs->M l vs:=λ{l}=>
 @List.rec (Nat×AV) (λl=>∀{vs:List DictEntry},bU T W l vs->M l vs) (λh=>Eq.ndrec (motive:=λz=>M [] z) n h.symm) (λv l ih _ h=>ConsV.rec (λr q=>EntV.rec (λk r=>c k r q (ih q)) r) h) l
theorem Rep.mono (k:W.le W'):∀{v:AV} {x:Value},Rep T W v x->Rep T W' v x:=λ{v}=>
 @AV.rec (λv=>∀{x:Value},Rep T W v x->Rep T W' v x) (λl=>∀vs,aL T W l vs->aL T W' l vs) (λl=>∀vs,bU T W l vs->bU T W' l vs) (λp=>∀e,y9 T W p e->y9 T W' p e)
  (λh=>h) (λ_ _ h=>h) (λ_ _ h=>h) (λ_ _ h=>h) (λ_ ih _=>SeqV.map k.1 ih) (λ_ ih _=>SeqV.map k.1 ih) (λ_ _ ih _=>InstV.map k.1 ih) (λ_ r _=>ObjV.map k.1 (k.2 r)) (λr _=>RefV.map (k.2 r))
  (λ_ h=>h) (λ_ _ h h' _=>ConsV.map (λ_=>h) h') (λ_ h=>h) (λ_ _ h h' _=>ConsV.map h h') (λ_ _ h _=>EntV.map λ_=>h) v
theorem aL.mono (k:W.le W') {l:List AV} {vs:List Value} (h:aL T W l vs):aL T W' l vs:=h.ind .nil λr _=>.cons (r.mono k)
theorem bU.mono (k:W.le W') {l:List (Nat×AV)} {es:List DictEntry} (h:bU T W l es):bU T W' l es:=h.ind .nil λe r _=>.cons e (r.mono k)
theorem Rep.drop (k:∀x o,W.F x=some o->W'.F x=some o):∀{v:AV} {x:Value},v.noRef=true->Rep T W v x->Rep T W' v x:=λ{v}=>
 @AV.rec (λv=>∀{x:Value},v.noRef=true->Rep T W v x->Rep T W' v x) (λl=>nJ l=true->∀vs,aL T W l vs->aL T W' l vs) (λl=>a9e l=true->∀vs,bU T W l vs->bU T W' l vs) (λp=>p.2.noRef=true->∀e,y9 T W p e->y9 T W' p e)
  (λ_ h=>h) (λ_ _ _ h=>h) (λ_ _ _ h=>h) (λ_ _ _ h=>h) (λ_ ih _ n=>SeqV.map k (ih n)) (λ_ ih _ n=>SeqV.map k (ih n)) (λ_ _ ih _ n=>InstV.map k (ih n)) (λ_ _ _ n=>nomatch n) (λ_ _ n=>nomatch n)
  (λ_ _ h=>h) (λ_ _ h h' n _=>ConsV.map (λ_=>h (b2 n).1) (h' (b2 n).2)) (λ_ _ h=>h) (λ_ _ h h' n _=>ConsV.map (h (b2 n).1) (h' (b2 n).2)) (λ_ _ h n _=>EntV.map λ_=>h n) v
theorem aL.length {l:List AV} {vs:List Value} (h:aL T W l vs):l.length=vs.length:=h.ind (M:=λl vs=>l.length=vs.length) rfl λ_ _=>h3s (· +1)
theorem aL.append {l l':List AV} {vs vs':List Value} (h:aL T W l vs) (h':aL T W l' vs'):aL T W (l++l') (vs++vs'):=h.ind (M:=λl vs=>aL T W (l++l') (vs++vs')) h' λr _=>.cons r
inductive AtR (T:Tb) (W:Wd) (v:AV):Option Value->Prop
 |mk {x}:Rep T W v x->AtR T W v (some x)
theorem aL.nth' {l:List AV} {vs:List Value} {v:AV} (h:aL T W l vs):∀n,aD l n=some v->AtR T W v vs[n]?:=h.ind (M:=λl vs=>∀n,aD l n=some v->AtR T W v vs[n]?) (λ_ e=>nomatch e) λ{u x l vs} a b ih n=>Nat.casesOn (motive:=λn=>aD (u::l) n=some v->AtR T W v (x::vs)[n]?) n (λe=>h3l e▸.mk a) λn e=>ih n e
theorem aL.nth {l:List AV} {vs:List Value} {n:Nat} {v:AV} (h:aL T W l vs) (e:aD l n=some v):∃x,vs[n]?=some x/\Rep T W v x:=by
 have:=h.nth' n e;generalize vs[n]?=o at this;cases this with|mk r=>exact⟨_,rfl,r⟩
theorem aL.reverse {l:List AV} {vs:List Value} (h:aL T W l vs):aL T W l.reverse vs.reverse:=h.ind (M:=λl vs=>aL T W l.reverse vs.reverse) .nil λa _ ih=>by
 rw [List.reverse_cons,List.reverse_cons];exact ih.append (.cons a .nil)
theorem aL.take {l:List AV} {vs:List Value} (n:Nat) (h:aL T W l vs):aL T W (l.take n) (vs.take n):=h.ind (M:=λl vs=>∀n,aL T W (l.take n) (vs.take n)) (λn=>by rw [List.take_nil,List.take_nil];exact .nil) (λa _ ih n=>match n with
 |0=>.nil
 |n+1=>.cons a (ih n)) n
theorem aL.drop' {l:List AV} {vs:List Value} (n:Nat) (h:aL T W l vs):aL T W (l.drop n) (vs.drop n):=h.ind (M:=λl vs=>∀n,aL T W (l.drop n) (vs.drop n)) (λn=>by rw [List.drop_nil,List.drop_nil];exact .nil) (λa b ih n=>match n with
 |0=>.cons a b
 |n+1=>ih n) n
theorem aL.dropLast {l:List AV} {vs:List Value} (h:aL T W l vs):aL T W l.dropLast vs.dropLast:=by
 rw [List.dropLast_eq_take,List.dropLast_eq_take,h.length];exact h.take _
end
inductive KeyV {K:Type} (T:Tb) (W:Wd) (key:K->AV) (p:AV×AV) (kv:K×Value):Prop
 |mk:p.1=key kv.1->Rep T W p.2 kv.2->KeyV T W key p kv
noncomputable def bL {K:Type} (T:Tb) (W:Wd) (key:K->AV) (l:List (AV×AV)):List (K×Value)->Prop:=@List.rec (AV×AV) (λ_=>List (K×Value)->Prop) (· =[]) (λp _=>ConsV (KeyV T W key p)) l
section
variable {K:Type} {T:Tb} {W W':Wd} {key:K->AV}
theorem bL.nil:bL T W key [] []:=rfl
theorem bL.cons {k:K} {v:AV} {x:Value} {l:List (AV×AV)} {kvs:List (K×Value)} (h:Rep T W v x) (r:bL T W key l kvs):bL T W key ((key k,v)::l) ((k,x)::kvs):=ConsV.mk (KeyV.mk rfl h) r
theorem bL.ind {M:List (AV×AV)->List (K×Value)->Prop} (n:M [] []) (c:∀{k v x l kvs},Rep T W v x->bL T W key l kvs->M l kvs->M ((key k,v)::l) ((k,x)::kvs)):∀{l:List (AV×AV)} {kvs:List (K×Value)},bL T W key l kvs->M l kvs:=λ{l}=>
 @List.rec (AV×AV) (λl=>∀{kvs:List (K×Value)},bL T W key l kvs->M l kvs) (λh=>Eq.ndrec (motive:=λz=>M [] z) n h.symm) (λv l ih _ h=>ConsV.rec (λ{p kvs} r q=>KeyV.rec (λe r=>Eq.ndrec (motive:=λz=>M ((z,v.2)::l) (p::kvs)) (c r q (ih q)) e.symm) r) h) l
theorem bL.mono (k:W.le W') {l:List (AV×AV)} {kvs:List (K×Value)} (h:bL T W key l kvs):bL T W' key l kvs:=h.ind .nil λr _=>.cons (r.mono k)
theorem bL.drop {l:List (AV×AV)} {kvs:List (K×Value)} (h:bL T W key l kvs):l.length=kvs.length:=h.ind (M:=λl vs=>l.length=vs.length) rfl λ_ _=>h3s (· +1)
end
noncomputable abbrev dQ (i:Int):AV:=.int i
noncomputable abbrev pJ (x:Str):AV:=.str x.cps.toList
inductive LstAt (h:Heap) (a:Addr) (P:List Value->Prop):Prop
 |mk (vs:List Value) (n:Nat):h.get? a=some (c5 vs n)->vs.length<=sizeLine->P vs->LstAt h a P
inductive ObjAt (h:Heap) (a:Addr) (P:List DictEntry->Prop):Prop
 |mk (es:List DictEntry) (n:Nat):h.get? a=some (dictOf es n)->P es->ObjAt h a P
inductive DctAt (T:Tb) (w:World) (W:Wd) (h:Heap) (a:Addr) (l:List (AV×AV)):Prop
 |ints (kvs:List (Int×Value)):h.DictOf (intKind PySem.Challenge.pw_rh0145_01 w) a kvs->bL T W dQ l kvs->DctAt T w W h a l
 |strs (kvs:List (Str×Value)):h.DictOf (strKind PySem.Challenge.pw_rh0145_01 w) a kvs->bL T W pJ l kvs->DctAt T w W h a l
 |none (n:Nat):l=[]->h.get? a=some (dictOf [] n)->DctAt T w W h a l
def bT (T:Tb) (w:World) (W:Wd) (h:Heap) (a:Addr):Cell->Prop
 | .list l=>LstAt h a (aL T W l)
 | .obj fs=>ObjAt h a (bU T W fs)
 | .dict l=>a≠sysModules/\DctAt T w W h a l
theorem vZ {κ:Type} [DecidableEq κ] {w:World} {kind:PySem.KeyKind PySem.Challenge.pw_rh0145_01 w κ} {a:Addr} {kvs:List (κ×Value)} {h h':Heap} (g:∀o,h.get? a=some o->h'.get? a=some o) (d:h.DictOf kind a kvs):h'.DictOf kind a kvs:=
 let⟨o,es,ep,ho,q⟩:=d;⟨o,es,ep,g _ ho,q⟩
section
variable {T:Tb} {w:World} {W W':Wd} {h h':Heap} {a:Addr}
theorem LstAt.map {P P':List Value->Prop} (g:∀o,h.get? a=some o->h'.get? a=some o) (f:∀vs,P vs->P' vs) (x:LstAt h a P):LstAt h' a P':=x.rec λ_ _ e z r=>⟨_,_,g _ e,z,f _ r⟩
theorem ObjAt.map {P P':List DictEntry->Prop} (g:∀o,h.get? a=some o->h'.get? a=some o) (f:∀vs,P vs->P' vs) (x:ObjAt h a P):ObjAt h' a P':=x.rec λ_ _ e r=>⟨_,_,g _ e,f _ r⟩
theorem DctAt.map {l:List (AV×AV)} (g:∀o,h.get? a=some o->h'.get? a=some o) (f:∀{K:Type} (key:K->AV) kvs,bL T W key l kvs->bL T W' key l kvs) (x:DctAt T w W h a l):DctAt T w W' h' a l:=
 x.rec (λ_ d r=>.ints _ (vZ g d) (f _ _ r)) (λ_ d r=>.strs _ (vZ g d) (f _ _ r)) λ_ e z=>.none _ e (g _ z)
theorem bT.mono {c:Cell} (k:W.le W') (g:∀o,h.get? a=some o->h'.get? a=some o):bT T w W h a c->bT T w W' h' a c:=
 @Cell.rec (λc=>bT T w W h a c->bT T w W' h' a c) (λ_=>LstAt.map g λ_ r=>r.mono k) (λ_=>ObjAt.map g λ_ r=>r.mono k) (λ_ x=>⟨x.1,x.2.map g λ_ _ r=>r.mono k⟩) c
theorem bT.alive {c:Cell}:bT T w W h a c->∃o,h.get? a=some o:=
 @Cell.rec (λc=>bT T w W h a c->∃o,h.get? a=some o) (λ_ x=>x.rec λ_ _ e _ _=>⟨_,e⟩) (λ_ x=>x.rec λ_ _ e _=>⟨_,e⟩) (λ_ x=>x.2.rec (λ_ d _=>let⟨_,_,_,h,_⟩:=d;⟨_,h⟩) (λ_ d _=>let⟨_,_,_,h,_⟩:=d;⟨_,h⟩) λ_ _ e=>⟨_,e⟩) c
end
theorem qX {α:Type} {y z:α}:∀{l:List α} {n m:Nat},aD (bW l n y) m=some z->(m=n/\y=z)\/(m≠n/\aD l m=some z):=λ{l}=>by
 induction l with
 |nil=>exact λh=>nomatch h
 |cons x l ih=>
  intro n m h;cases n with
  |zero=>
   cases m with
   |zero=>exact .inl ⟨rfl,h3l h⟩
   |succ m=>exact .inr ⟨(λe=>nomatch e),h⟩
  |succ n=>
   cases m with
   |zero=>exact .inr ⟨(λe=>nomatch e),h⟩
   |succ m=>exact(ih h).imp (λh=>⟨h3s _ h.1,h.2⟩) λh=>⟨λe=>h.1 (Nat.succ.inj e),h.2⟩
theorem b7m {α:Type} {y z:α}:∀{l:List α} {n:Nat},aD l n=some z->aD (bW l n y) n=some y:=λ{l}=>by
 induction l with
 |nil=>exact λh=>nomatch h
 |cons x l ih=>exact λ{n}=>Nat.casesOn (motive:=λn=>aD (x::l) n=some z->aD (bW (x::l) n y) n=some y) n (λ_=>rfl) λn h=>ih h
theorem b8p {α:Type} {y:α}:∀{l:List α} {n m:Nat},m≠n->aD (bW l n y) m=aD l m:=λ{l}=>by
 induction l with
 |nil=>exact λ_=>rfl
 |cons x l ih=>
  intro n m h;cases n with
  |zero=>
   cases m with
   |zero=>exact absurd rfl h
   |succ m=>rfl
  |succ n=>
   cases m with
   |zero=>rfl
   |succ m=>exact ih λe=>h (h3s _ e)
theorem iI {st:aB} {r:Nat} {o:Option Cell} (h:aD st r=some o):aQ st r=o:=by unfold aQ;rw [h]
theorem gG {st:aB} {r:Nat} {c:Cell} (h:aQ st r=some c):aD st r=some (some c):=by
 revert h
 unfold aQ;exact Option.rec (motive:=λo=>(match o with|some c=>c| .none=>.none:Option Cell)=some c->o=some (some c)) (λh=>nomatch h) (λo h=>h3s some h) (aD st r)
theorem a4p {st:aB} {r q:Nat} {c d:Cell} (e:aQ (bW st r (some c)) q=some d):(q=r/\c=d)\/(q≠r/\aQ st q=some d):=
 (qX (gG e)).imp (λh=>⟨h.1,h3l h.2⟩) λh=>⟨h.1,iI h.2⟩
theorem b3c {st:aB} {r:Nat} {c:Cell} {o:Option Cell} (h:aD st r=some o):aQ (bW st r (some c)) r=some c:=iI (b7m h)
theorem c2w {st:aB} {r q:Nat} {c:Cell} (h:q≠r):aQ (bW st r (some c)) q=aQ st q:=by unfold aQ;rw [b8p h]
theorem wJ {st:aB} {r q:Nat} {c:Cell} {o:Option Cell} (h:aD st r=some o) (k:q≠r->∃d,aQ st q=some d):∃d,aQ (bW st r (some c)) q=some d:=
 if e:q=r then⟨c,by rw [e];exact b3c h⟩else(k e).imp λ_ z=>(c2w e).trans z
theorem f2o {o:Option Nat} {r:Nat} (h:(match o with|some j=>some (j+1)| .none=>.none:Option Nat)=some r):∃j,o=some j/\j+1=r:=by
 cases o with
 |none=>exact nomatch h
 |some j=>exact⟨j,rfl,h3l h⟩
theorem fY:∀{st:aB} {k r:Nat},dH st k=some r->aD st r=some none:=λ{st}=>by
 induction st with
 |nil=>exact λh=>nomatch h
 |cons c l ih=>
  intro k r h;have go:∀k,(match dH l k with|some j=>some (j+1)| .none=>.none:Option Nat)=some r->aD (c::l) r=some none:=λk h=>(f2o h).elim λj h=>h.2▸ih h.1
  cases k with
  |zero=>
   cases c with
   |none=>exact h3l h▸rfl
   |some c=>exact go 0 h
  |succ k=>cases c<;>exact go k h
structure Gh where
 W:Wd
 h:Heap
 os:OsState
 prot:Addr->Option Obj
structure Base (T:Tb) (w:World) (G:Gh) (W:Wd) (st:aB) (h:Heap):Prop where
 ext:G.W.le W
 newF:∀a o,W.F a=some o->G.W.F a=some o\/G.h.objs.size<=a
 newM:∀r a,W.mu r=some a->G.W.mu r=some a\/G.h.objs.size<=a
 keep:∀a o,G.h.get? a=some o->(∀r,G.W.mu r≠some a)->h.get? a=some o
 froz:∀a o,W.F a=some o->h.get? a=some o
 cells:∀r c,aQ st r=some c->∃a,W.mu r=some a/\bT T w W h a c
 live:∀r a,W.mu r=some a->∃c,aQ st r=some c
 inj:∀r q a,W.mu r=some a->W.mu q=some a->r=q
 disj:∀r a,W.mu r=some a->W.F a=none
structure Pv (G:Gh) (W:Wd) (a:Addr):Prop where
 f:W.F a=none
 m:∀r,W.mu r≠some a
 g:G.h.objs.size<=a
section
variable {T:Tb} {w:World} {G:Gh} {W:Wd} {st:aB} {h h':Heap} {a:Addr} {o:Obj} {r:Nat} {c:Cell}
theorem dD {α:Type} {o:Option α} {x:α} (h:o=none) (e:o=some x) {P:Prop}:P:=nomatch h.symm.trans e
theorem Base.mu_at (B:Base T w G W st h) {r:Nat} {a:Addr} {c:Cell} (e:W.mu r=some a) (hc:aQ st r=some c):bT T w W h a c:=
 (B.cells r c hc).elim λ_ x=>h3l (x.1.symm.trans e)▸x.2
theorem Base.mu_alive (B:Base T w G W st h) {r:Nat} {a:Addr} (e:W.mu r=some a):∃o,h.get? a=some o:=
 (B.live r a e).elim λ_ hc=>(B.mu_at e hc).alive
theorem Base.grow (B:Base T w G W st h) (k:∀a o,h.get? a=some o->h'.get? a=some o):Base T w G W st h':=
 {B with keep:=λa o e n=>k _ _ (B.keep a o e n),froz:=λa o e=>k _ _ (B.froz a o e),cells:=λr c e=>(B.cells r c e).imp λa x=>⟨x.1,x.2.mono (.refl _) λo=>k _ _⟩}
theorem dS {h:Heap} {a b:Addr} {o:Obj} (e:h.get? a=some o) (hb:h.objs.size<=b):a≠b:=λq=>absurd (Heap.lt_size e) (q▸Nat.not_lt.mpr hb)
theorem Base.but (B:Base T w G W st h) (p:Pv G W a) (k:∀b o,b≠a->h.get? b=some o->h'.get? b=some o):Base T w G W st h':=
 {B with
  keep:=λb o e n=>k _ _ (dS e p.g) (B.keep b o e n)
  froz:=λb o e=>k _ _ (λq=>dD p.f (q▸e)) (B.froz b o e)
  cells:=λr c e=>(B.cells r c e).imp λb x=>⟨x.1,x.2.mono (.refl _) λo=>k _ _ λq=>p.m r (q▸x.1)⟩}
def Wd.frz (W:Wd) (a:Addr) (o:Obj):Wd:=⟨λx=>if x=a then some o else W.F x,W.mu⟩
theorem sJ {b:Addr} {p:Obj} (h:(W.frz a o).F b=some p):(b=a/\o=p)\/W.F b=some p:=fF h (λq e=>.inl ⟨q,h3l e⟩) λ_ e=>.inr e
theorem eZ {a:Addr} {o:Obj}:(W.frz a o).F a=some o:=if_pos rfl
theorem zA {b:Addr} (h:b≠a):(W.frz a o).F b=W.F b:=if_neg h
theorem Wd.le_frz {W:Wd} {a:Addr} {o:Obj} (h:∀o',W.F a=some o'->o'=o):W.le (W.frz a o):=
 ⟨λx p e=>if q:x=a then q▸(h p (q▸e))▸eZ else(zA q).trans e,λ_ _ e=>e⟩
theorem Base.le_frz (B:Base T w G W st h) (ho:h.get? a=some o):W.le (W.frz a o):=
 Wd.le_frz λo' e=>h3l ((B.froz _ _ e).symm.trans ho)
theorem Base.freeze (B:Base T w G W st h) (ho:h.get? a=some o) (hM:∀r,W.mu r≠some a) (hG:G.h.objs.size<=a):Base T w G (W.frz a o) st h:=
 have L:=B.le_frz ho
 ⟨B.ext.trans L,λb p e=>(sJ e).elim (λq=>.inr (q.1▸hG)) (B.newF _ _),B.newM,B.keep,λb p e=>(sJ e).elim (λq=>q.1▸q.2▸ho) (B.froz _ _),λr c e=>(B.cells r c e).imp λa x=>⟨x.1,x.2.mono L λo e=>e⟩,B.live,B.inj,
  λr b e=>(zA λq=>hM r (e.trans (h3s some q))).trans (B.disj r b e)⟩
def Wd.cell (W:Wd) (r:Nat) (a:Addr):Wd:=⟨W.F,λq=>if q=r then some a else W.mu q⟩
theorem iX {q:Nat} {b:Addr} (h:(W.cell r a).mu q=some b):(q=r/\a=b)\/(q≠r/\W.mu q=some b):=fF h (λq e=>.inl ⟨q,h3l e⟩) λn e=>.inr ⟨n,e⟩
theorem gW {a:Addr} {r:Nat}:(W.cell r a).mu r=some a:=if_pos rfl
theorem d5q {q:Nat} (h:q≠r):(W.cell r a).mu q=W.mu q:=if_neg h
theorem Base.le_cell (B:Base T w G W st h) (hr:aD st r=some none):W.le (W.cell r a):=
 ⟨λ_ _ e=>e,λq b e=>(d5q λz=>(B.live _ _ e).elim λc hc=>dD rfl (h3l (hr.symm.trans ((h3s (aD st) z).symm.trans (gG hc))))).trans e⟩
theorem Base.cell (B:Base T w G W st h) (hr:aD st r=some none) (hc:bT T w W h a c) (p:Pv G W a):Base T w G (W.cell r a) (bW st r (some c)) h:=
 have L:=B.le_cell (a:=a) hr
 ⟨B.ext.trans L,B.newF,λq b e=>(iX e).elim (λz=>.inr (z.2▸p.g)) λz=>B.newM _ _ z.2,B.keep,B.froz,
  λq d e=>(a4p e).elim (λz=>⟨a,z.1▸gW,z.2▸hc.mono L λ_ e=>e⟩) λz=>(B.cells q d z.2).imp λb k=>⟨L.2 _ _ k.1,k.2.mono L λ_ e=>e⟩,
  λq b e=>wJ hr λn=>(iX e).elim (λz=>absurd z.1 n) λz=>B.live _ _ z.2,
  λq q' b e e'=>(iX e).elim (λx=>(iX e').elim (λy=>x.1.trans y.1.symm) λy=>absurd (x.2▸y.2) (p.m _)) λx=>(iX e').elim (λy=>absurd (y.2▸x.2) (p.m _)) λy=>B.inj _ _ _ x.2 y.2,
  λq b e=>(iX e).elim (λz=>z.2▸p.f) λz=>B.disj _ _ z.2⟩
theorem Base.set (B:Base T w G W st h) (hr:W.mu r=some a) (k:∀b o,b≠a->h.get? b=some o->h'.get? b=some o) (hc:bT T w W h' a c):Base T w G W (bW st r (some c)) h':=
 (B.live r a hr).elim λ_ hc₀=>
 {B with
  keep:=λb o e n=>k _ _ (λq=>(B.newM r a hr).elim (λz=>n r (q▸z)) λz=>dS e z q) (B.keep b o e n)
  froz:=λb o e=>k _ _ (λq=>dD (B.disj r a hr) (q▸e)) (B.froz b o e)
  cells:=λq d e=>(a4p e).elim (λz=>⟨a,z.1▸hr,z.2▸hc⟩) λz=>(B.cells q d z.2).imp λb x=>⟨x.1,x.2.mono (.refl _) λo=>k _ _ λy=>z.1 (B.inj q r a (y▸x.1) hr)⟩
  live:=λq b e=>wJ (gG hc₀) λ_=>B.live _ _ e}
end
structure Cx where
 vars:List Str
 scope:Scope
structure EnvOk (X:Cx) (env:Env):Prop where
 scope:env.scope=X.scope
 kind:X.scope.kind=.function
 glob:env.globals=mainGlobals
 blt:env.builtins=builtinsNs
 nodup:X.vars.Nodup
section
variable (T:Tb) (X:Cx) (G:Gh) (env:Env) (W:Wd) (m:Str->Option Value) (h:Heap) (x:Str)
inductive VaA (v:AV):Prop
 |loc (y:Value):X.scope.names.lookup x=some .local->m x=some y->Rep T W v y->VaA v
 |cell (c:Addr) (o:Obj) (y:Value):X.scope.names.lookup x=some .cell->env.cells.lookup x=some c->W.F c=some o->o.data=.cell (some y)->Rep T W v y->VaA v
structure OwB (l:List AV) (a:Addr) (vs:List Value) (n:Nat):Prop where
 o:h.get? a=some (c5 vs n)
 z:vs.length<=sizeLine
 r:aL T W l vs
 p:Pv G W a
 l:a≠env.locals
 q:G.prot a=none
inductive OwA (l:List AV):Prop
 |mk (a:Addr) (vs:List Value) (n:Nat):X.scope.names.lookup x=some .local->m x=some (.ref a)->OwB T G env W h l a vs n->OwA l
def uB:Slot->Prop
 | .no=>True
 | .val v=>VaA T X env W m x v
 | .own l=>OwA T X G env W m h x l
end
inductive Owns (X:Cx) (L:aN) (m:Str->Option Value) (i:Nat) (a:Addr):Prop
 |mk (x:Str) (l:List AV):aD X.vars i=some x->aD L i=some (.own l)->m x=some (.ref a)->Owns X L m i a
structure Inv (T:Tb) (w:World) (X:Cx) (G:Gh) (env:Env) (W:Wd) (L:aN) (st:aB) (m:Str->Option Value) (s:Shared):Prop where
 gens:s.gens= #[]
 os:s.os=G.os
 base:Base T w G W st s.heap
 ns:s.heap.Ns env.locals m
 lp:Pv G W env.locals
 len:L.length=X.vars.length
 slots:∀i x sl,aD X.vars i=some x->aD L i=some sl->uB T X G env W m s.heap x sl
 apart:∀i j a,Owns X L m i a->Owns X L m j a->i=j
 prot:∀a o,G.prot a=some o->s.heap.get? a=some o/\Pv G W a/\a≠env.locals
theorem Heap.not_alive {h:Heap} {a:Addr} (k:h.objs.size<=a):h.get? a=none:=PySem.Heap.get?_none_of_le k
theorem b5j {h h':Heap} {a:Addr} {m:Str->Option Value} (n:h.Ns a m) (g:∀o,h.get? a=some o->h'.get? a=some o):h'.Ns a m:=
 let⟨o,es,ep,ho,q⟩:=n;⟨o,es,ep,g _ ho,q⟩
theorem pN {α:Type} {x:α}:∀{l:List α} {i:Nat},aD l i=some x->i<l.length:=λ{l}=>by
 induction l with
 |nil=>exact λh=>nomatch h
 |cons y l ih=>exact λ{i}=>Nat.casesOn (motive:=λi=>aD (y::l) i=some x->i<(y::l).length) i (λ_=>Nat.zero_lt_succ _) λn h=>Nat.succ_lt_succ (ih h)
theorem b9c {α:Type} (y:α):∀(l:List α) (n:Nat),(bW l n y).length=l.length:=λl=>by
 induction l with
 |nil=>exact λ_=>rfl
 |cons x l ih=>exact λn=>Nat.casesOn (motive:=λn=>(bW (x::l) n y).length=(x::l).length) n rfl λn=>h3s (· +1) (ih n)
theorem i0 {α:Type} {y:α}:∀{l:List α} {k:Nat},aD l k=some y->y∈l:=λ{l}=>by
 induction l with
 |nil=>exact λh=>nomatch h
 |cons x l ih=>exact λ{k}=>Nat.casesOn (motive:=λi=>aD (x::l) i=some y->y∈x::l) k (λh=>h3l h▸.head _) λn h=>.tail _ (ih h)
theorem b3w {y:Str}:∀{l:List Str},l.Nodup->∀{i j:Nat},aD l i=some y->aD l j=some y->i=j:=λ{l}=>by
 induction l with
 |nil=>exact λ_ _ _ h=>nomatch h
 |cons a l ih=>
  intro hd i j h1 h2;have hd:=List.nodup_cons.mp hd;cases i with
  |zero=>
   cases j with
   |zero=>rfl
   |succ j=>exact absurd (h3l h1▸i0 (l:=l) (k:=j) h2) hd.1
  |succ i=>
   cases j with
   |zero=>exact absurd (h3l h2▸i0 (l:=l) (k:=i) h1) hd.1
   |succ j=>exact h3s (· +1) (ih hd.2 h1 h2)
section
variable {T:Tb} {w:World} {X:Cx} {G:Gh} {env:Env} {W W':Wd} {L:aN} {st st':aB} {m m':Str->Option Value} {s s':Shared}
theorem VaA.mono {x:Str} {v:AV} (k:W.le W') (z:VaA T X env W m x v):VaA T X env W' m x v:=
 z.rec (λ_ a b r=>.loc _ a b (r.mono k)) λ_ _ _ a b c d r=>.cell _ _ _ a b (k.1 _ _ c) d (r.mono k)
theorem OwB.mono {P:Addr->Option Obj} {h h':Heap} {l:List AV} {a:Addr} {vs:List Value} {n:Nat} (k:W.le W') (p:Pv G W' a) (g:∀o,h.get? a=some o->h'.get? a=some o) (q:P a=none) (z:OwB T G env W h l a vs n):OwB T {G with prot:=P} env W' h' l a vs n:=
 ⟨g _ z.o,z.z,z.r.mono k,⟨p.f,p.m,p.g⟩,z.l,q⟩
theorem Pv.lt (p:Pv G W env.locals) (I:Inv T w X G env W L st m s):G.h.objs.size<=s.heap.objs.size:=h3j p.g (Nat.le_of_lt I.ns.lt)
theorem Base.pr {P:Addr->Option Obj} {h:Heap} (B:Base T w G W st h):Base T w {G with prot:=P} W st h:=⟨B.ext,B.newF,B.newM,B.keep,B.froz,B.cells,B.live,B.inj,B.disj⟩
theorem Pv.pr {P:Addr->Option Obj} {a:Addr} (p:Pv G W a):Pv {G with prot:=P} W a:=⟨p.f,p.m,p.g⟩
theorem d3y {a b n:Nat} (l:b<n) (h:n<=a):b≠a:=λq=>absurd l (Nat.not_lt.mpr (q▸h))
theorem Pv.cell {a b:Addr} {r:Nat} (p:Pv G W b) (h:b≠a):Pv G (W.cell r a) b:=⟨p.f,λq e=>(iX e).elim (λz=>h z.2.symm) λz=>p.m _ z.2,p.g⟩
theorem Pv.frz {a b:Addr} {o:Obj} (p:Pv G W b) (h:b≠a):Pv G (W.frz a o) b:=⟨(zA h).trans p.f,p.m,p.g⟩
theorem r0 {i j:Nat} {sl:Slot} {a:Addr} {x:Str} (hx:aD X.vars i=some x) (hm:∀y,y≠x->m' y=m y) (hd:X.vars.Nodup) {M:Prop}
  (o:Owns X (bW L i sl) m' j a) (f:∀l,j=i->sl=.own l->m' x=some (.ref a)->M) (g:j≠i->Owns X L m j a->M):M:=
 o.rec λy l hy hl e=>(qX hl).elim (λq=>f l q.1 q.2 (h3l (hy.symm.trans ((h3s (aD X.vars) q.1).trans hx))▸e)) λq=>
  g q.1 ⟨y,l,hy,q.2,(hm y λz=>q.1 (b3w hd hy (z▸hx))).symm.trans e⟩
section
variable (I:Inv T w X G env W L st m s)
include I
theorem Inv.size:G.h.objs.size<=s.heap.objs.size:=I.lp.lt I
theorem Inv.newF {a:Addr} (h:s.heap.objs.size<=a):W.F a=none:=by
 cases e:W.F a with
 |none=>rfl
 |some o=>exact dD (Heap.not_alive h) (I.base.froz _ _ e)
theorem Inv.newM {a:Addr} (h:s.heap.objs.size<=a):∀r,W.mu r≠some a:=λr e=>(I.base.mu_alive e).elim λo ho=>dD (Heap.not_alive h) ho
theorem Inv.newP {a:Addr} (h:s.heap.objs.size<=a):Pv G W a:=⟨I.newF h,I.newM h,h3j I.size h⟩
theorem Inv.new_ne {a:Addr} (h:s.heap.objs.size<=a):a≠env.locals:=λq=>absurd I.ns.lt (q▸Nat.not_lt.mpr h)
theorem Inv.slot_own {i:Nat} {x:Str} {l:List AV} (hx:aD X.vars i=some x) (hl:aD L i=some (.own l)):OwA T X G env W m s.heap x l:=I.slots i x _ hx hl
theorem Inv.slot_val {i:Nat} {x:Str} {v:AV} (hx:aD X.vars i=some x) (hl:aD L i=some (.val v)):VaA T X env W m x v:=I.slots i x _ hx hl
theorem Inv.ownB {i:Nat} {a:Addr} (o:Owns X L m i a) {M:Prop} (f:∀l vs n,OwB T G env W s.heap l a vs n->M):M:=
 o.rec λx l hx hl e=>(I.slot_own hx hl).rec λb vs n _ e' B=>f l vs n ((Value.ref.inj (h3l (e'.symm.trans e)))▸B)
theorem Inv.step {P:Addr->Option Obj} (hg:s'.gens= #[]) (hos:s'.os=G.os) (B:Base T w G W' st' s'.heap) (le:W.le W')
  (hp:∀b,Pv G W b->b<s.heap.objs.size->(b=env.locals\/∃i,Owns X L m i b)->Pv G W' b/\∀o,s.heap.get? b=some o->s'.heap.get? b=some o)
  (hP:∀b o,P b=some o->s'.heap.get? b=some o/\Pv G W' b/\b≠env.locals) (hn:∀i b,Owns X L m i b->P b=none):Inv T w X {G with prot:=P} env W' L st' m s':=
 have l:=hp _ I.lp I.ns.lt (.inl rfl)
 ⟨hg,hos,B.pr,b5j I.ns l.2,⟨l.1.f,l.1.m,l.1.g⟩,I.len,λi x sl hx=>@Slot.rec (λsl=>aD L i=some sl->uB T X {G with prot:=P} env W' m s'.heap x sl) (λ_=>h3m) (λv hl=>(I.slot_val hx hl).mono le)
  (λl hl=>(I.slot_own hx hl).rec λa vs n k e z=>
   have O:=⟨i,⟨x,l,hx,hl,e⟩⟩;have p:=hp a z.p (Heap.lt_size z.o) (.inr O)
   .mk a vs n k e (z.mono le p.1 p.2 (hn i a ⟨x,l,hx,hl,e⟩))) sl,I.apart,λb o e=>(hP b o e).imp id λh=>⟨⟨h.1.f,h.1.m,h.1.g⟩,h.2⟩⟩
theorem Inv.step0 (hg:s'.gens=s.gens) (hos:s'.os=s.os) (B:Base T w G W' st' s'.heap) (le:W.le W') (hp:∀b,Pv G W b->b<s.heap.objs.size->Pv G W' b/\∀o,s.heap.get? b=some o->s'.heap.get? b=some o):Inv T w X G env W' L st' m s':=
 I.step (P:=G.prot) (hg.trans I.gens) (hos.trans I.os) B le (λb p l _=>hp b p l) (λb o e=>
  have z:=I.prot b o e;have k:=hp b z.2.1 (Heap.lt_size z.1)
  ⟨k.2 _ z.1,k.1,z.2.2⟩) λi b o=>I.ownB o λ_ _ _ z=>z.q
theorem Inv.grow (hg:s'.gens=s.gens) (ho:s'.os=s.os) (k:∀a o,s.heap.get? a=some o->s'.heap.get? a=some o):Inv T w X G env W L st m s':=
 I.step0 hg ho (I.base.grow k) (.refl _) λb p _=>⟨p,k b⟩
theorem Inv.frz {a:Addr} {o:Obj} (hg:s'.gens=s.gens) (hos:s'.os=s.os) (ha:s.heap.objs.size<=a) (ho:s'.heap.get? a=some o)
  (k:∀a o,s.heap.get? a=some o->s'.heap.get? a=some o):W.le (W.frz a o)/\Inv T w X G env (W.frz a o) L st m s':=
 have B:=I.base.grow k;have L':=B.le_frz ho
 ⟨L',I.step0 hg hos (B.freeze ho (I.newM ha) (h3j I.size ha)) L' λb p l=>⟨p.frz (d3y l ha),k b⟩⟩
theorem Inv.newCell {a:Addr} {r:Nat} {c:Cell} (hg:s'.gens=s.gens) (hos:s'.os=s.os) (ha:s.heap.objs.size<=a)
  (k:∀a o,s.heap.get? a=some o->s'.heap.get? a=some o) (hr:aD st r=some none) (hc:bT T w W s'.heap a c):W.le (W.cell r a)/\Inv T w X G env (W.cell r a) L (bW st r (some c)) m s':=
 have B:=I.base.grow k;have L':=B.le_cell (a:=a) hr
 ⟨L',I.step0 hg hos (B.cell hr hc (I.newP ha)) L' λb p l=>⟨p.cell (d3y l ha),k b⟩⟩
theorem Inv.setCell {a:Addr} {r:Nat} {c:Cell} (hg:s'.gens=s.gens) (hos:s'.os=s.os) (hr:W.mu r=some a)
  (k:∀b o,b≠a->s.heap.get? b=some o->s'.heap.get? b=some o) (hc:bT T w W s'.heap a c):Inv T w X G env W L (bW st r (some c)) m s':=
 I.step0 hg hos (I.base.set hr k hc) (.refl _) λb p _=>⟨p,λo=>k b o λq=>p.m r (q▸hr)⟩
theorem Inv.slot {i:Nat} {x:Str} {sl:Slot} (hd:X.vars.Nodup) (hx:aD X.vars i=some x) (hm:∀y,y≠x->m' y=m y) (hg:s'.gens=s.gens) (hos:s'.os=s.os) (B:Base T w G W' st' s'.heap) (le:W.le W')
  (hn:s'.heap.Ns env.locals m') (hl:Pv G W' env.locals)
  (hp:∀b,Pv G W b->b<s.heap.objs.size->b≠env.locals->¬Owns X L m i b->Pv G W' b/\∀o,s.heap.get? b=some o->s'.heap.get? b=some o)
  (hs:uB T X G env W' m' s'.heap x sl) (hf:∀l a j,sl=.own l->m' x=some (.ref a)->j≠i->¬Owns X L m j a):Inv T w X G env W' (bW L i sl) st' m' s':=
 have key:∀{b},Pv G W b->b<s.heap.objs.size->b≠env.locals->¬Owns X L m i b->Pv G W' b/\∀o,s.heap.get? b=some o->s'.heap.get? b=some o:=λ{b}=>hp b
 ⟨hg.trans I.gens,hos.trans I.os,B,hn,hl,(b9c ..).trans I.len,λj z q hz hq=>(qX hq).elim (λe=>by
   obtain⟨rfl,rfl⟩:=e;exact h3l (hx.symm.trans hz)▸hs) λe=>
  have zx:z≠x:=λh=>e.1 (b3w hd hz (h▸hx))
  @Slot.rec (λq=>aD L j=some q->uB T X G env W' m' s'.heap z q) (λ_=>h3m) (λv hl=>(I.slot_val hz hl).rec (λy a b r=>.loc y a ((hm z zx).trans b) (r.mono le)) λc o y a b f d r=>.cell c o y a b (le.1 _ _ f) d (r.mono le))
   (λl hl=>(I.slot_own hz hl).rec λa vs n k e' B=>
    have p:=hp a B.p (Heap.lt_size B.o) B.l λO=>e.1 (I.apart j i a ⟨z,l,hz,hl,e'⟩ O)
    .mk a vs n k ((hm z zx).trans e') (B.mono (P:=G.prot) le p.1 p.2 B.q)) q e.2,
  λj j' a o o'=>r0 hx hm hd o (λl e1 es em=>r0 hx hm hd o' (λ_ e2 _ _=>e1.trans e2.symm) λn2 o2=>absurd o2 (hf l a j' es em n2)) λn1 o1=>r0 hx hm hd o' (λl e2 es em=>absurd o1 (hf l a j es em n1)) λ_ o2=>I.apart j j' a o1 o2,
  λb o e=>
   have z:=I.prot b o e;have k:=hp b z.2.1 (Heap.lt_size z.1) z.2.2 λO=>I.ownB O λ_ _ _ B=>dD B.q e
   ⟨k.2 _ z.1,k.1,z.2.2⟩⟩
def f8r (T:Tb) (X:Cx) (G:Gh) (env:Env) (W:Wd) (L:aN) (m:Str->Option Value) (h:Heap) (i:Nat) (y:Value):Slot->Prop
 | .no=>False
 | .val v=>Rep T W v y
 | .own l=>∃a vs n,y=.ref a/\OwB T G env W h l a vs n/\∀j,j≠i->¬Owns X L m j a
theorem Inv.store (hd:X.vars.Nodup) {i:Nat} {x:Str} {y:Value} {sl:Slot} {h':Heap} (hg:s'.gens=s.gens) (hos:s'.os=s.os) (hh:s'.heap=h') (hx:aD X.vars i=some x)
  (hk:X.scope.names.lookup x=some .local) (hn:h'.Ns env.locals (λz=>if z=x then some y else m z)) (hs:Heap.SameBut env.locals s.heap h')
  (hv:f8r T X G env W L m s.heap i y sl):Inv T w X G env W (bW L i sl) st (λz=>if z=x then some y else m z) s':=by
 subst hh;have k:∀b o,b≠env.locals->s.heap.get? b=some o->s'.heap.get? b=some o:=λb o q e=>(hs.2 b q).trans e
 have ex:(if x=x then some y else m x)=some y:=if_pos rfl
 refine I.slot hd hx (λz q=>if_neg q) hg hos (I.base.but I.lp k) (.refl _) hn I.lp (λb p l n _=>⟨p,λo=>k b o n⟩) ?_ ?_
 ·cases sl with
  |no=>exact hv.elim
  |val v=>exact .loc y hk ex hv
  |own l=>exact hv.elim λa h=>h.elim λvs h=>h.elim λn h=>.mk a vs n hk (ex.trans (h3s some h.1)) (h.2.1.mono (P:=G.prot) (.refl _) h.2.1.p (λo=>k a o h.2.1.l) h.2.1.q)
 ·intro l a j e em;subst e;exact hv.elim λb h=>h.elim λvs h=>h.elim λn h=>Value.ref.inj (h.1.symm.trans (h3l (ex.symm.trans em)))▸h.2.2 j
theorem Inv.frzSlot (hd:X.vars.Nodup) {i:Nat} {l:List AV} {x:Str} (hx:aD X.vars i=some x) (hl:aD L i=some (.own l)) {M:Prop}
  (f:∀a vs n,m x=some (.ref a)->s.heap.get? a=some (c5 vs n)->W.le (W.frz a (c5 vs n))->Rep T (W.frz a (c5 vs n)) (.lst l) (.ref a)->Inv T w X G env (W.frz a (c5 vs n)) (bW L i (.val (.lst l))) st m s->M):M:=
 (I.slot_own hx hl).rec λa vs n hk e B=>
  have Le:=I.base.le_frz B.o;have R:Rep T (W.frz a (c5 vs n)) (.lst l) (.ref a):=.lst (n:=n) B.z eZ (B.r.mono Le)
  f a vs n e B.o Le R (I.slot hd hx (λ_ _=>rfl) rfl rfl (I.base.freeze B.o B.p.m B.p.g) Le I.ns (I.lp.frz B.l.symm) (λb p _ _ o=>⟨p.frz λq=>o ⟨x,l,hx,hl,q▸e⟩,λ_ e=>e⟩) (.loc _ hk e R) λ_ _ _ z=>nomatch z)
theorem Inv.shareSlot (hd:X.vars.Nodup) {i r:Nat} {l:List AV} {x:Str} (hx:aD X.vars i=some x) (hl:aD L i=some (.own l)) (hr:aD st r=some none) {M:Prop}
  (f:∀a,m x=some (.ref a)->W.le (W.cell r a)->Rep T (W.cell r a) (.ref r) (.ref a)->Inv T w X G env (W.cell r a) (bW L i (.val (.ref r))) (bW st r (some (.list l))) m s->M):M:=
 (I.slot_own hx hl).rec λa vs n hk e B=>
  have Le:=I.base.le_cell (a:=a) hr;have R:Rep T (W.cell r a) (.ref r) (.ref a):=.ref gW
  f a e Le R (I.slot hd hx (λ_ _=>rfl) rfl rfl (I.base.cell hr ⟨vs,n,B.o,B.z,B.r⟩ B.p) Le I.ns (I.lp.cell B.l.symm) (λb p _ _ o=>⟨p.cell λq=>o ⟨x,l,hx,hl,q▸e⟩,λ_ e=>e⟩) (.loc _ hk e R) λ_ _ _ z=>nomatch z)
theorem Inv.setOwn (hd:X.vars.Nodup) {i:Nat} {l l':List AV} {x:Str} {a:Addr} {vs vs':List Value} {n n':Nat} (hx:aD X.vars i=some x) (hl:aD L i=some (.own l)) (hk:X.scope.names.lookup x=some .local) (e:m x=some (.ref a)) (B:OwB T G env W s.heap l a vs n)
  (hg:s'.gens=s.gens) (hos:s'.os=s.os) (k:∀b o,b≠a->s.heap.get? b=some o->s'.heap.get? b=some o) (ho:s'.heap.get? a=some (c5 vs' n')) (z:vs'.length<=sizeLine) (r:aL T W l' vs'):
  Inv T w X G env W (bW L i (.own l')) st m s':=
 have O:Owns X L m i a:=⟨x,l,hx,hl,e⟩
 I.slot hd hx (λ_ _=>rfl) hg hos (I.base.but B.p k) (.refl _) (b5j I.ns λo=>k _ o B.l.symm) I.lp (λb p _ _ o=>⟨p,λ_=>k b _ λq=>o (q▸O)⟩) (.mk a vs' n' hk e ⟨ho,z,r,B.p,B.l,B.q⟩)
  λ_ b j _ e' n o=>n (I.apart j i b o (Value.ref.inj (h3l (e.symm.trans e'))▸O))
end
noncomputable def Gh.at (W:Wd) (h:Heap) (os:OsState):Gh:=⟨W,h,os,λ_=>none⟩
theorem Inv.enter (I:Inv T w X G env W L st m s):Base T w (Gh.at W s.heap s.os) W st s.heap:=
 ⟨.refl _,λ_ _ e=>.inl e,λ_ _ e=>.inl e,λ_ _ e _=>e,I.base.froz,I.base.cells,I.base.live,I.base.inj,I.base.disj⟩
theorem Inv.back (I:Inv T w X G env W L st m s) (B:Base T w (Gh.at W s.heap s.os) W' st' s'.heap) (hg:s'.gens= #[]) (hos:s'.os=s.os):W.le W'/\Inv T w X G env W' L st' m s':=
 have big:∀{a},s.heap.objs.size<=a->G.h.objs.size<=a:=λh=>h3j I.size h
 ⟨B.ext,I.step0 (hg.trans I.gens.symm) hos ⟨I.base.ext.trans B.ext,λa o e=>(B.newF a o e).elim (I.base.newF a o) λz=>.inr (big z),λr a e=>(B.newM r a e).elim (I.base.newM r a) λz=>.inr (big z),
   λa o e n=>B.keep a o (I.base.keep a o e n) λr q=>(I.base.newM r a q).elim (n r) λz=>dS e z rfl,B.froz,B.cells,B.live,B.inj,B.disj⟩ B.ext λb p l=>
  ⟨⟨by
   cases q:W'.F b with
   |none=>rfl
   |some o=>exact(B.newF b o q).elim (λz=>dD p.f z) λz=>absurd l (Nat.not_lt.mpr z),λr q=>(B.newM r b q).elim (p.m r) λz=>absurd l (Nat.not_lt.mpr z),p.g⟩,λo e=>B.keep b o e p.m⟩⟩
end
section
variable {T:Tb} {W W':Wd}
theorem d3d (k:W.le W') {r:Nat} {a b:Addr} (e:W.mu r=some b) (h:W'.mu r=some a):W.mu r=some a:=e.trans ((k.2 _ _ e).symm.trans h)
theorem Rep.shrink (k:W.le W') {v:AV}:∀{x y:Value},Rep T W' v x->Rep T W v y->Rep T ⟨W'.F,W.mu⟩ v x:=
 @AV.rec (λv=>∀{x y:Value},Rep T W' v x->Rep T W v y->Rep T ⟨W'.F,W.mu⟩ v x) (λl=>∀us,aL T W l us->∀vs,aL T W' l vs->aL T ⟨W'.F,W.mu⟩ l vs) (λl=>∀us,bU T W l us->∀vs,bU T W' l vs->bU T ⟨W'.F,W.mu⟩ l vs) (λp=>∀us,y9 T W p us->∀vs,y9 T W' p vs->y9 T ⟨W'.F,W.mu⟩ p vs)
  (λh _=>h) (λ_ _ _ h _=>h) (λ_ _ _ h _=>h) (λ_ _ _ h _=>h) (λ_ ih _ _ h h'=>h'.rec λ_ _ r=>SeqV.map (W:=W') (λ_ _ e=>e) (ih _ r) h) (λ_ ih _ _ h h'=>h'.rec λ_ _ r=>SeqV.map (W:=W') (λ_ _ e=>e) (ih _ r) h)
  (λ_ _ ih _ _ h h'=>h'.rec λ_ _ r=>InstV.map (W:=W') (λ_ _ e=>e) (ih _ r) h) (λ_ _ _ _ h h'=>h'.rec λ_ e=>ObjV.map (W:=W') (λ_ _ e=>e) (λ_=>d3d k e) h) (λ_ _ _ h h'=>h'.rec λe=>RefV.map (W:=W') (λ_=>d3d k e) h)
  (λ_ _ _ h=>h) (λ_ _ h h' _ x _=>x.rec λp q=>ConsV.map (λ_ z=>h z p) (h' _ q)) (λ_ _ _ h=>h) (λ_ _ h h' _ x _=>x.rec λp q=>ConsV.map (h _ p) (h' _ q)) (λ_ _ h _ x _=>x.rec λ_ r=>EntV.map λ_ z=>h z r) v
theorem aL.shrink (k:W.le W') {l:List AV} {vs us:List Value} (h:aL T W' l vs):aL T W l us->aL T ⟨W'.F,W.mu⟩ l vs:=
 h.ind (M:=λl vs=>∀us,aL T W l us->aL T ⟨W'.F,W.mu⟩ l vs) (λ_ _=>.nil) (λr _ ih _ x=>x.rec λp q=>.cons (r.shrink k p) (ih _ q)) us
theorem bU.shrink (k:W.le W') {l:List (Nat×AV)} {es us:List DictEntry} (h:bU T W' l es):bU T W l us->bU T ⟨W'.F,W.mu⟩ l es:=
 h.ind (M:=λl vs=>∀us,bU T W l us->bU T ⟨W'.F,W.mu⟩ l vs) (λ_ _=>.nil) (λe r _ ih _ x=>x.rec λp q=>.cons e (p.rec λ_ p=>r.shrink k p) (ih _ q)) us
inductive Each (T:Tb) (W:Wd):List (AV×AV)->Prop
 |nil:Each T W []
 |cons {p l y}:Rep T W p.2 y->Each T W l->Each T W (p::l)
variable {K:Type} {key:K->AV}
theorem bL.each {l:List (AV×AV)} {kvs:List (K×Value)} (h:bL T W key l kvs):Each T W l:=h.ind (M:=λl _=>Each T W l) .nil λr _=>.cons r
theorem bL.shrink (k:W.le W') {l:List (AV×AV)} {kvs:List (K×Value)} (h:bL T W' key l kvs):Each T W l->bL T ⟨W'.F,W.mu⟩ key l kvs:=
 h.ind (M:=λl kvs=>Each T W l->bL T ⟨W'.F,W.mu⟩ key l kvs) (λ_=>.nil) λr _ ih e=>by cases e with|cons p q=>exact .cons (r.shrink k p) (ih q)
theorem DctAt.each {w:World} {h:Heap} {a:Addr} {l:List (AV×AV)} (x:DctAt T w W h a l):Each T W l:=x.rec (λ_ _ r=>r.each) (λ_ _ r=>r.each) λ_ e _=>e▸.nil
theorem bT.shrink {w:World} {h h':Heap} {a a':Addr} {c:Cell} (k:W.le W'):bT T w W' h' a c->bT T w W h a' c->bT T w ⟨W'.F,W.mu⟩ h' a c:=
 @Cell.rec (λc=>bT T w W' h' a c->bT T w W h a' c->bT T w ⟨W'.F,W.mu⟩ h' a c) (λ_ x y=>y.rec λ_ _ _ _ r'=>x.map (λ_ e=>e) λ_ r=>r.shrink k r') (λ_ x y=>y.rec λ_ _ _ r'=>x.map (λ_ e=>e) λ_ r=>r.shrink k r')
  (λ_ x y=>⟨x.1,x.2.map (λ_ e=>e) λ_ _ r=>r.shrink k y.2.each⟩) c
theorem Base.gc {w:World} {st st':aB} {h h':Heap} {os:OsState} (B₀:Base T w (Gh.at W h os) W st h) (B:Base T w (Gh.at W h os) W' st' h') (o:old st st'):Base T w (Gh.at W h os) ⟨W'.F,W.mu⟩ st h':=
 have k:W.le W':=B.ext
 ⟨⟨k.1,λ_ _ e=>e⟩,B.newF,λ_ _ e=>.inl e,B.keep,B.froz,λr c e=>(B₀.cells r c e).imp λa x=>⟨x.1,(B.mu_at (k.2 _ _ x.1) (o r c e)).shrink k x.2⟩,B₀.live,B₀.inj,λr a e=>B.disj r a (k.2 _ _ e)⟩
end
noncomputable def nU (l r:List Nat):Bool:=decide (l=r)
theorem jN {l r:List Nat} (h:nU l r=true):l=r:=h3t h
noncomputable def bD (a b:Str):Bool:=nU a.cps.toList b.cps.toList
theorem v6:∀{a b:Str},a.cps.toList=b.cps.toList->a=b
 |⟨⟨_⟩⟩,⟨⟨_⟩⟩,h=>h3s (λl:List Nat=>(⟨⟨l⟩⟩:Str)) h
theorem cM {a b:Str} (h:bD a b=true):a=b:=v6 (jN h)
noncomputable def dE {α:Type} (l:Option α) (k:α->Bool):Bool:=Option.casesOn l false k
theorem dE.el {α:Type} {l:Option α} {k:α->Bool} {P:Prop} (h:dE l k=true) (f:∀{a},l=some a->k a=true->P):P:=
 Option.casesOn (motive:=λo=>dE o k=true->l=o->P) l (λh=>ff h) (λ_ h e=>f e h) h rfl
noncomputable def a8r (l:List Str) (i:Nat) (x:Str):Bool:=dE (aD l i) λy=>bD y x
theorem a0d {l:List Str} {i:Nat} {x:Str} (h:a8r l i x=true):aD l i=some x:=dE.el h λe h=>cM h▸e
noncomputable def eD (l:List (Str×NameKind)) (x:Str):Option NameKind:=l.rec none λp _ r=>bif bD p.1 x then some p.2 else r
theorem dO {a b:Str}:bD a b=true↔a=b:=⟨cM,λe=>h3v (h3s (λx:Str=>x.cps.toList) e)⟩
theorem nX {a b:Str}:(b==a)=bD a b:=Bool.eq_iff_iff.mpr (beq_iff_eq.trans (eq_comm.trans dO.symm))
theorem u3 (l:List (Str×NameKind)) (x:Str):eD l x=l.lookup x:=by
 induction l with
 |nil=>rfl
 |cons p l ih=>
  rw [List.lookup_cons,nX];show(bif bD p.1 x then some p.2 else eD l x)=_
  rw [ih];cases bD p.1 x<;>rfl
noncomputable def eH (o:Option NameKind) (k:NameKind):Bool:=decide (o=some k)
theorem rT {o:Option NameKind} {k:NameKind} (h:eH o k=true):o=some k:=h3t h
noncomputable def dt (p:Prop) [Decidable p] (f:p->Bool):Bool:=dite p f λ_=>false
theorem dt.el {p:Prop} [Decidable p] {f:p->Bool} {G:Prop} (h:dt p f=true) (k:∀q,f q=true->G):G:=if q:p then k q ((dif_pos q).symm.trans h)else ff ((dif_neg q).symm.trans h)
noncomputable def vI (x:PySem.Value) (k:Int->Bool):Bool:=dt (x.ctorIdx=4) λh=>PySem.Value.int.elim x h λj _=>k j
@[elab_as_elim] theorem vI.el {M:PySem.Value->Prop} {x:PySem.Value} {k:Int->Bool} (h:vI x k=true) (f:∀{j t},k j=true->M (.int j t)):M x:=
 dt.el h λq=>PySem.Value.int.elim (motive:=λx=>∀q,PySem.Value.int.elim x q (λj _=>k j)=true->M x) x q (λ_ _ _ h=>f h) q
noncomputable def vS (x:PySem.Value) (k:Str->Bool):Bool:=dt (x.ctorIdx=6) λh=>PySem.Value.str.elim x h λj _=>k j
@[elab_as_elim] theorem vS.el {M:PySem.Value->Prop} {x:PySem.Value} {k:Str->Bool} (h:vS x k=true) (f:∀{j t},k j=true->M (.str j t)):M x:=
 dt.el h λq=>PySem.Value.str.elim (motive:=λx=>∀q,PySem.Value.str.elim x q (λj _=>k j)=true->M x) x q (λ_ _ _ h=>f h) q
noncomputable def vR (x:PySem.Value) (k:Addr->Bool):Bool:=dt (x.ctorIdx=10) λh=>PySem.Value.ref.elim x h λj=>k j
@[elab_as_elim] theorem vR.el {M:PySem.Value->Prop} {x:PySem.Value} {k:Addr->Bool} (h:vR x k=true) (f:∀{j},k j=true->M (.ref j)):M x:=
 dt.el h λq=>PySem.Value.ref.elim (motive:=λx=>∀q,PySem.Value.ref.elim x q (λj=>k j)=true->M x) x q (λ_ _ h=>f h) q
noncomputable def vB (x:PySem.Value) (k:String->Bool):Bool:=dt (x.ctorIdx=9) λh=>PySem.Value.builtin.elim x h λj=>k j
@[elab_as_elim] theorem vB.el {M:PySem.Value->Prop} {x:PySem.Value} {k:String->Bool} (h:vB x k=true) (f:∀{j},k j=true->M (.builtin j)):M x:=
 dt.el h λq=>PySem.Value.builtin.elim (motive:=λx=>∀q,PySem.Value.builtin.elim x q (λj=>k j)=true->M x) x q (λ_ _ h=>f h) q
noncomputable def vT (x:PySem.Value) (k:String->Bool):Bool:=dt (x.ctorIdx=8) λh=>PySem.Value.type.elim x h λj=>k j
@[elab_as_elim] theorem vT.el {M:PySem.Value->Prop} {x:PySem.Value} {k:String->Bool} (h:vT x k=true) (f:∀{j},k j=true->M (.type j)):M x:=
 dt.el h λq=>PySem.Value.type.elim (motive:=λx=>∀q,PySem.Value.type.elim x q (λj=>k j)=true->M x) x q (λ_ _ h=>f h) q
noncomputable def cB {α:Type} (l:List α):Bool:=List.casesOn l true λ_ _=>false
theorem cB.el {α:Type} {l:List α} (h:cB l=true):l=[]:=List.casesOn (motive:=λl=>cB l=true->l=[]) l (λ_=>rfl) (λ_ _ h=>ff h) h
noncomputable abbrev noL {α:Type} (l:List α):Bool:=cB l
theorem noL.el {α:Type} {l:List α} (h:noL l=true):l=[]:=cB.el h
noncomputable def eG {α:Type} (l:Option α):Bool:=Option.casesOn l true λ_=>false
theorem eG.el {α:Type} {l:Option α} (h:eG l=true):l=none:=Option.casesOn (motive:=λl=>eG l=true->l=none) l (λ_=>rfl) (λ_ h=>ff h) h
noncomputable def e7 {α:Type} (l:List α) (k:α->List α->Bool):Bool:=List.casesOn l false k
@[elab_as_elim] theorem e7.el {α:Type} {M:List α->Prop} {l:List α} {k:α->List α->Bool} (h:e7 l k=true) (f:∀{x r},k x r=true->M (x::r)):M l:=List.casesOn (motive:=λl=>e7 l k=true->M l) l (λh=>ff h) (λ_ _ h=>f h) h
noncomputable def fL {α:Type} (l:List α) (k:α->Bool):Bool:=e7 l λa r=>List.casesOn r (k a) λ_ _=>false
@[elab_as_elim] theorem fL.el {α:Type} {M:List α->Prop} {l:List α} {k:α->Bool} (h:fL l k=true) (f:∀{a},k a=true->M [a]):M l:=
 e7.el h λ{a r} h=>List.casesOn (motive:=λr=>(List.casesOn r (k a) λ_ _=>false:Bool)=true->M (a::r)) r (λh=>f h) (λ_ _ h=>ff h) h
noncomputable def a6q (d:Data) (k:List Value->Bool):Bool:=dt (d.ctorIdx=2) λh=>PySem.Data.seq.elim d h λvs _=>k vs.toList
@[elab_as_elim] theorem a6q.el {M:Data->Prop} {d:Data} {k:List Value->Bool} (h:a6q d k=true) (f:∀{vs n},k vs=true->M (.seq vs.toArray n)):M d:=
 dt.el h λq=>PySem.Data.seq.elim (motive:=λd=>∀q,PySem.Data.seq.elim d q (λvs _=>k vs.toList)=true->M d) d q (λ_ _ _ h=>f h) q
noncomputable def a0w (o:Obj) (k:List Value->Bool):Bool:=vT o.cls (λc=>decide (c="tuple"))&&eG o.dict&&noL o.slots.toList&&a6q o.data k
noncomputable def d3a (o:Option Obj) (k:List Value->Bool):Bool:=dE o λo=>a0w o k
theorem a0w.el {o:Obj} {k:List Value->Bool} (h:a0w o k=true) {M:Obj->Prop} (f:∀vs n,k vs=true->M (u5 vs n)):M o:=
 vT.el (M:=λc=>M ⟨c,o.dict,o.data,o.slots⟩) (b2 (b2 (b2 h).1).1).1 λe=>a6q.el (M:=λd=>M ⟨.type _,o.dict,d,o.slots⟩) (b2 h).2 λ{vs n} q=>by
  rw [h3t e,eG.el (b2 (b2 (b2 h).1).1).2,show o.slots= #[] from h3s Array.mk (noL.el (b2 (b2 h).1).2)]
  exact f vs n q
noncomputable def b9m (K:Frag) (v:AV):Value->Bool:=
 @AV.rec (λ_=>Value->Bool) (λ_=>List Value->Bool) (λ_=>Bool) (λ_=>Bool) (λ_=>false) (λ_ _=>false) (λi y=>vI y λj=>decide (i=j)) (λs y=>vS y λx=>nU s x.cps.toList&&Nat.ble s.length 1000)
  (λl r y=>vR y λa=>d3a (K.lookup a) r&&Nat.ble l.length 1000) (λ_ _ _=>false) (λ_ _ _ _=>false) (λ_ _ _=>false) (λ_ _=>false) noL (λ_ _ h r l=>e7 l λx vs=>h x&&r vs) false (λ_ _ _ _=>false) (λ_ _ _=>false) v
noncomputable def wQ:Str:=S' [95,95,100,101,98,117,103,95,95]
where S' (l:List Nat):Str:=⟨⟨l⟩⟩
structure Fx where
 T:Tb
 K:Frag
 fn:Nat->Addr
 plain:Nat->Bool
 frozen:Nat->Option Nat
 init:Nat->Nat->Bool
 dflt:Nat->Bool
 isFn:Nat->Bool
 gl:List (Str×Value)
 bl:List (Str×Value)
noncomputable def f7 (l:List (Str×Value)) (x:Str):Option Value:=l.rec none λp _ r=>bif bD p.1 x then some p.2 else r
noncomputable def a3o (b:Bool) (o:Option Value):Option Value:=bif b then o else none
theorem a3o.el {b:Bool} {o:Option Value} {y:Value} (h:a3o b o=some y):b=true/\o=some y:=by cases b with|true=>exact⟨rfl,h⟩|false=>exact nomatch h
noncomputable def dU (Φ:Fx) (X:Cx) (x:Str):Option Value:=a3o (eH (eD X.scope.names x) .globalImplicit&& !bD x wQ) (f7 Φ.gl x)
noncomputable def jJ (o:Option Value) (a:Addr):Bool:=dE o λv=>vR v λb=>Nat.beq b a
noncomputable def bAt (Φ:Fx) (X:Cx) (x:Str):Option Value:=a3o (eH (eD X.scope.names x) .globalImplicit&& !bD x wQ) (f7 Φ.bl x)
noncomputable def a1a (o:Option Value) (id:String):Bool:=dE o λv=>vB v λi=>decide (i=id)
noncomputable def b5y (o:Option Value) (id:String):Bool:=dE o λv=>vT v λi=>decide (i=id)
theorem iY {o:Option Value} {a:Addr} (h:jJ o a=true):o=some (.ref a):=dE.el h λe h=>e.trans (vR.el (M:=λv=>some v=some (.ref a)) h λh=>h4g h▸rfl)
theorem a5q {o:Option Value} {a:String} (h:a1a o a=true):o=some (.builtin a):=dE.el h λe h=>e.trans (vB.el (M:=λv=>some v=some (.builtin a)) h λh=>h3t h▸rfl)
theorem c0p {o:Option Value} {a:String} (h:b5y o a=true):o=some (.type a):=dE.el h λe h=>e.trans (vT.el (M:=λv=>some v=some (.type a)) h λh=>h3t h▸rfl)
noncomputable def tX (x:PySem.Expr) (k:Const->Bool):Bool:=dt (x.ctorIdx=19) λh=>PySem.Expr.Constant.elim x h λc _ _=>k c
@[elab_as_elim] theorem tX.el {M:PySem.Expr->Prop} {x:PySem.Expr} {k:Const->Bool} (h:tX x k=true) (f:∀{c n p},k c=true->M (.Constant c n p)):M x:=
 dt.el h λq=>PySem.Expr.Constant.elim (motive_1:=λx=>∀q,PySem.Expr.Constant.elim x q (λc _ _=>k c)=true->M x) x q (λ_ _ _ _ h=>f h) q
noncomputable def onU (x:PySem.Expr) (k:UnaryOp->Expr->Bool):Bool:=dt (x.ctorIdx=3) λh=>PySem.Expr.UnaryOp.elim x h λo y _=>k o y
@[elab_as_elim] theorem onU.el {M:PySem.Expr->Prop} {x:PySem.Expr} {k:UnaryOp->Expr->Bool} (h:onU x k=true) (f:∀{o y p},k o y=true->M (.UnaryOp o y p)):M x:=
 dt.el h λq=>PySem.Expr.UnaryOp.elim (motive_1:=λx=>∀q,PySem.Expr.UnaryOp.elim x q (λo y _=>k o y)=true->M x) x q (λ_ _ _ _ h=>f h) q
noncomputable def dM (x:PySem.Expr) (k:Str->Bool):Bool:=dt (x.ctorIdx=23) λh=>PySem.Expr.Name.elim x h λy _=>k y
@[elab_as_elim] theorem dM.el {M:PySem.Expr->Prop} {x:PySem.Expr} {k:Str->Bool} (h:dM x k=true) (f:∀{y p},k y=true->M (.Name y p)):M x:=
 dt.el h λq=>PySem.Expr.Name.elim (motive_1:=λx=>∀q,PySem.Expr.Name.elim x q (λy _=>k y)=true->M x) x q (λ_ _ _ h=>f h) q
noncomputable def vX (x:PySem.Expr) (k:Expr->Str->Pos->Bool):Bool:=dt (x.ctorIdx=20) λh=>PySem.Expr.Attribute.elim x h λv y p=>k v y p
@[elab_as_elim] theorem vX.el {M:PySem.Expr->Prop} {x:PySem.Expr} {k:Expr->Str->Pos->Bool} (h:vX x k=true) (f:∀{v y p},k v y p=true->M (.Attribute v y p)):M x:=
 dt.el h λq=>PySem.Expr.Attribute.elim (motive_1:=λx=>∀q,PySem.Expr.Attribute.elim x q (λv y p=>k v y p)=true->M x) x q (λ_ _ _ _ h=>f h) q
noncomputable def onB (x:PySem.Expr) (k:Expr->Operator->Expr->Bool):Bool:=dt (x.ctorIdx=2) λh=>PySem.Expr.BinOp.elim x h λl o r _=>k l o r
@[elab_as_elim] theorem onB.el {M:PySem.Expr->Prop} {x:PySem.Expr} {k:Expr->Operator->Expr->Bool} (h:onB x k=true) (f:∀{l o r p},k l o r=true->M (.BinOp l o r p)):M x:=
 dt.el h λq=>PySem.Expr.BinOp.elim (motive_1:=λx=>∀q,PySem.Expr.BinOp.elim x q (λl o r _=>k l o r)=true->M x) x q (λ_ _ _ _ _ h=>f h) q
noncomputable def pK (x:PySem.Expr) (k:BoolOp->List Expr->Pos->Bool):Bool:=dt (x.ctorIdx=0) λh=>PySem.Expr.BoolOp.elim x h λo l p=>k o l p
@[elab_as_elim] theorem pK.el {M:PySem.Expr->Prop} {x:PySem.Expr} {k:BoolOp->List Expr->Pos->Bool} (h:pK x k=true) (f:∀{o l p},k o l p=true->M (.BoolOp o l p)):M x:=
 dt.el h λq=>PySem.Expr.BoolOp.elim (motive_1:=λx=>∀q,PySem.Expr.BoolOp.elim x q (λo l p=>k o l p)=true->M x) x q (λ_ _ _ _ h=>f h) q
noncomputable def onC (x:PySem.Expr) (k:Expr->List CmpOp->List Expr->Bool):Bool:=dt (x.ctorIdx=15) λh=>PySem.Expr.Compare.elim x h λl o r _=>k l o r
@[elab_as_elim] theorem onC.el {M:PySem.Expr->Prop} {x:PySem.Expr} {k:Expr->List CmpOp->List Expr->Bool} (h:onC x k=true) (f:∀{l o r p},k l o r=true->M (.Compare l o r p)):M x:=
 dt.el h λq=>PySem.Expr.Compare.elim (motive_1:=λx=>∀q,PySem.Expr.Compare.elim x q (λl o r _=>k l o r)=true->M x) x q (λ_ _ _ _ _ h=>f h) q
noncomputable def b6f (x:PySem.Expr) (k:Expr->Expr->Expr->Bool):Bool:=dt (x.ctorIdx=5) λh=>PySem.Expr.IfExp.elim x h λt y z _=>k t y z
@[elab_as_elim] theorem b6f.el {M:PySem.Expr->Prop} {x:PySem.Expr} {k:Expr->Expr->Expr->Bool} (h:b6f x k=true) (f:∀{t y z p},k t y z=true->M (.IfExp t y z p)):M x:=
 dt.el h λq=>PySem.Expr.IfExp.elim (motive_1:=λx=>∀q,PySem.Expr.IfExp.elim x q (λt y z _=>k t y z)=true->M x) x q (λ_ _ _ _ _ h=>f h) q
noncomputable def a3g (x:PySem.Expr) (k:Expr->List Expr->List Keyword->Pos->Bool):Bool:=dt (x.ctorIdx=16) λh=>PySem.Expr.Call.elim x h λf l ks p=>k f l ks p
@[elab_as_elim] theorem a3g.el {M:PySem.Expr->Prop} {x:PySem.Expr} {k:Expr->List Expr->List Keyword->Pos->Bool} (h:a3g x k=true) (f:∀{f l ks p},k f l ks p=true->M (.Call f l ks p)):M x:=
 dt.el h λq=>PySem.Expr.Call.elim (motive_1:=λx=>∀q,PySem.Expr.Call.elim x q (λf l ks p=>k f l ks p)=true->M x) x q (λ_ _ _ _ _ h=>f h) q
noncomputable def oV (x:PySem.Expr) (k:Expr->Expr->Bool):Bool:=dt (x.ctorIdx=21) λh=>PySem.Expr.Subscript.elim x h λv y _=>k v y
@[elab_as_elim] theorem oV.el {M:PySem.Expr->Prop} {x:PySem.Expr} {k:Expr->Expr->Bool} (h:oV x k=true) (f:∀{v y p},k v y=true->M (.Subscript v y p)):M x:=
 dt.el h λq=>PySem.Expr.Subscript.elim (motive_1:=λx=>∀q,PySem.Expr.Subscript.elim x q (λv y _=>k v y)=true->M x) x q (λ_ _ _ _ h=>f h) q
noncomputable def a3a (x:PySem.Expr) (k:Option Expr->Option Expr->Option Expr->Bool):Bool:=dt (x.ctorIdx=26) λh=>PySem.Expr.Slice.elim x h λl u t _=>k l u t
@[elab_as_elim] theorem a3a.el {M:PySem.Expr->Prop} {x:PySem.Expr} {k:Option Expr->Option Expr->Option Expr->Bool} (h:a3a x k=true) (f:∀{l u t p},k l u t=true->M (.Slice l u t p)):M x:=
 dt.el h λq=>PySem.Expr.Slice.elim (motive_1:=λx=>∀q,PySem.Expr.Slice.elim x q (λl u t _=>k l u t)=true->M x) x q (λ_ _ _ _ _ h=>f h) q
noncomputable def onT (x:PySem.Expr) (k:List Expr->Bool):Bool:=dt (x.ctorIdx=25) λh=>PySem.Expr.Tuple.elim x h λl _ _=>k l
@[elab_as_elim] theorem onT.el {M:PySem.Expr->Prop} {x:PySem.Expr} {k:List Expr->Bool} (h:onT x k=true) (f:∀{l n p},k l=true->M (.Tuple l n p)):M x:=
 dt.el h λq=>PySem.Expr.Tuple.elim (motive_1:=λx=>∀q,PySem.Expr.Tuple.elim x q (λl _ _=>k l)=true->M x) x q (λ_ _ _ _ h=>f h) q
noncomputable def onD (x:PySem.Expr) (k:List (Option Expr)->List Expr->Bool):Bool:=dt (x.ctorIdx=6) λh=>PySem.Expr.Dict.elim x h λks vs _=>k ks vs
@[elab_as_elim] theorem onD.el {M:PySem.Expr->Prop} {x:PySem.Expr} {k:List (Option Expr)->List Expr->Bool} (h:onD x k=true) (f:∀{ks vs p},k ks vs=true->M (.Dict ks vs p)):M x:=
 dt.el h λq=>PySem.Expr.Dict.elim (motive_1:=λx=>∀q,PySem.Expr.Dict.elim x q (λks vs _=>k ks vs)=true->M x) x q (λ_ _ _ _ h=>f h) q
noncomputable def onL (x:PySem.Expr) (k:List Expr->Bool):Bool:=dt (x.ctorIdx=24) λh=>PySem.Expr.List.elim x h λl _=>k l
@[elab_as_elim] theorem onL.el {M:PySem.Expr->Prop} {x:PySem.Expr} {k:List Expr->Bool} (h:onL x k=true) (f:∀{l p},k l=true->M (.List l p)):M x:=
 dt.el h λq=>PySem.Expr.List.elim (motive_1:=λx=>∀q,PySem.Expr.List.elim x q (λl _=>k l)=true->M x) x q (λ_ _ _ h=>f h) q
noncomputable def b6y (x:PySem.Expr) (k:Expr->List Comprehension->Scope->Bool):Bool:=dt (x.ctorIdx=8) λh=>PySem.Expr.ListComp.elim x h λy gs sc _=>k y gs sc
@[elab_as_elim] theorem b6y.el {M:PySem.Expr->Prop} {x:PySem.Expr} {k:Expr->List Comprehension->Scope->Bool} (h:b6y x k=true) (f:∀{y gs sc p},k y gs sc=true->M (.ListComp y gs sc p)):M x:=
 dt.el h λq=>PySem.Expr.ListComp.elim (motive_1:=λx=>∀q,PySem.Expr.ListComp.elim x q (λy gs sc _=>k y gs sc)=true->M x) x q (λ_ _ _ _ _ h=>f h) q
noncomputable def b6e (x:PySem.Const) (k:Int->Bool):Bool:=dt (x.ctorIdx=2) λh=>PySem.Const.int.elim x h λi=>k i
@[elab_as_elim] theorem b6e.el {M:PySem.Const->Prop} {x:PySem.Const} {k:Int->Bool} (h:b6e x k=true) (f:∀{i},k i=true->M (.int i)):M x:=
 dt.el h λq=>PySem.Const.int.elim (motive:=λx=>∀q,PySem.Const.int.elim x q (λi=>k i)=true->M x) x q (λ_ _ h=>f h) q
noncomputable def a3h (x:PySem.Const) (k:Str->Bool):Bool:=dt (x.ctorIdx=5) λh=>PySem.Const.str.elim x h λi=>k i
@[elab_as_elim] theorem a3h.el {M:PySem.Const->Prop} {x:PySem.Const} {k:Str->Bool} (h:a3h x k=true) (f:∀{i},k i=true->M (.str i)):M x:=
 dt.el h λq=>PySem.Const.str.elim (motive:=λx=>∀q,PySem.Const.str.elim x q (λi=>k i)=true->M x) x q (λ_ _ h=>f h) q
noncomputable abbrev wE (x:Expr) (n:Nat):Bool:= !Nat.beq x.ctorIdx n
noncomputable def dG (x:Expr):Bool:= !dt (x.ctorIdx=16) λh=>PySem.Expr.Call.elim x h λf l ks _=>Nat.beq f.ctorIdx 23&&(cB l&&cB ks)
noncomputable def d3v (o:Op):Operator:=Op.casesOn o .Add .Sub .Mult .Mod .FloorDiv .BitAnd
noncomputable def rI (o:Op) (op:Operator):Bool:=decide (op=d3v o)
theorem b4h {o:Op} {op:Operator} (h:rI o op=true):op=d3v o:=h3t h
noncomputable def d3p (o:Cm):CmpOp:=Cm.casesOn o .Eq .NotEq .Lt .Gt .GtE .In .NotIn
noncomputable def a4b (o:Cm) (op:CmpOp):Bool:=decide (op=d3p o)
theorem d7v {o:Cm} {op:CmpOp} (h:a4b o op=true):op=d3p o:=h3t h
noncomputable def zQ (v:AV) (c:Const):Bool:=@AV.casesOn (λ_=>Bool) v (decide (c=.none)) (λb=>decide (c=.bool b)) (λi=>decide (c=.int i)) (λl=>a3h c λx=>nU l x.cps.toList&&Nat.ble l.length 1000) (λ_=>false) (λ_=>false) (λ_ _=>false) (λ_ _=>false) (λ_=>false)
noncomputable def b1m (x:Expr):Bool:=wE x 26
noncomputable def uC (x:Expr):Bool:=wE x 0&&(wE x 5&&(wE x 15&& !onU x λo _=>decide (o=.Not)))
noncomputable def cH (X:Cx) (i:Nat) (k:NameKind) (x:Str):Bool:=a8r X.vars i x&&eH (eD X.scope.names x) k&& !bD x wQ
noncomputable def d3c (X:Cx) (i:Nat) (x:Str):Bool:=a8r X.vars i x&&(eH (eD X.scope.names x) .local||eH (eD X.scope.names x) .cell)&& !bD x wQ
noncomputable def apS:Str:=S' [97,112,112,101,110,100]
where S' (l:List Nat):Str:=⟨⟨l⟩⟩
noncomputable def a8m:Str:=apS.S' [112,111,112]
noncomputable def d0q:Str:=apS.S' [103,101,116]
noncomputable def b7t:Str:=apS.S' [106,111,105,110]
noncomputable def fZ (a p:Pos):Bool:=Nat.beq a.endLine p.line
theorem b9o {a p:Pos} (h:fZ a p=true):(a.endLine==p.line)=true:=by
 rw [h4g h];simp
noncomputable def bE (X:Cx) (sc:Scope):List (Str×NameKind):=sc.names.map λp=>if p.2==.free&&X.scope.kind==.function&&X.scope.names.lookup p.1==some .cell then(p.1,.cell)else p
noncomputable def iN (X:Cx) (l:List Nat):Option (List Str):=l.rec (some []) λi _ r=>(aD X.vars i).bind λx=>r.map λl=>x::l
noncomputable def d4h (x:Expr):Option Str:=dite (x.ctorIdx=23) (λh=>PySem.Expr.Name.elim x h λy _=>some y) λ_=>none
noncomputable def e9l (l:List Expr):Option (List Str):=l.rec (some []) λe _ r=>(d4h e).bind λx=>r.map λl=>x::l
noncomputable def d9a (x:Expr):Option (List Str):=dite (x.ctorIdx=25) (λh=>PySem.Expr.Tuple.elim x h λes _ _=>e9l es) λ_=>(d4h x).map λy=>[y]
noncomputable def c1l (i:Int) (l:List AV):Bool:=l.rec true λv _ r=>(@AV.casesOn (λ_=>Bool) v false (λ_=>false) (λj=> !decide (i=j)) (λ_=>false) (λ_=>false) (λ_=>false) (λ_ _=>false) (λ_ _=>false) (λ_=>false))&&r
noncomputable def tI (l:List AV):Bool:=l.rec true λv l r=>(@AV.casesOn (λ_=>Bool) v false (λ_=>false) (λi=>c1l i l) (λ_=>false) (λ_=>false) (λ_=>false) (λ_ _=>false) (λ_ _=>false) (λ_=>false))&&r
noncomputable def b4z (k:ScopeKind):Bool:=decide (k=.function)
noncomputable def a8a (x:Expr):Bool:=wE x 7
noncomputable def a9t (l:List Str):Bool:=l.rec true λx l r=> !(l.any λy=>bD x y)&&r
noncomputable def d5z (X:Cx) (sc:Scope) (cs:List Str):Bool:=sc.names.all λp=> !decide (p.2=.cell)&&(!decide (p.2=.free)||(eH (eD X.scope.names p.1) .cell&&cs.any λy=>bD p.1 y))
noncomputable def e4f (X:Cx) (sc:Scope):Bool:=sc.names.all λp=> !eH (some p.2) .local||eH (eD sc.names p.1) .local
noncomputable def gE (x:Expr):Bool:=wE x 8&&(wE x 9&&wE x 10)
noncomputable def a8s (x:Expr):Bool:=wE x 25
noncomputable def bM (x:Expr):Bool:=wE x 22
noncomputable def zL (o:Operator):Bool:=decide (o=.Add)||decide (o=.Sub)
noncomputable def e5y (c:C):Bool:=C.casesOn c true (λ_=>false) (λ_=>false) (λ_=>false) (λ_ _=>false) λ_ _=>false
noncomputable def b5o (e:E):Bool:=decide (e.ctorIdx=0)&&dt (e.ctorIdx=0) λh=>E.lit.elim e h AV.isNone
noncomputable def v7 (o:UnaryOp):Bool:=decide (o=.Not)
theorem v7.el {o:UnaryOp} (h:v7 o=true):o=.Not:=h3t h
noncomputable def v0 (o:BoolOp):Bool:=decide (o=.And)
theorem v0.el {o:BoolOp} (h:v0 o=true):o=.And:=h3t h
noncomputable def a3u (o:BoolOp):Bool:=decide (o=.Or)
theorem a3u.el {o:BoolOp} (h:a3u o=true):o=.Or:=h3t h
noncomputable def a7a (o:UnaryOp):Bool:=decide (o=.USub)
theorem a7a.el {o:UnaryOp} (h:a7a o=true):o=.USub:=h3t h
noncomputable def a6x (o:Operator):Bool:=decide (o=.Add)
theorem a6x.el {o:Operator} (h:a6x o=true):o=.Add:=h3t h
noncomputable def yK (c:Const):Bool:=decide (c=.none)
theorem yK.el {c:Const} (h:yK c=true):c=.none:=h3t h
noncomputable def a8g (no:Bool) (o:CmpOp):Bool:=decide (o=Bool.casesOn no .Is .IsNot)
noncomputable def avI (v:AV) (k:Int->Bool):Bool:=dt (v.ctorIdx=2) λh=>AV.int.elim v h k
@[elab_as_elim] theorem avI.el {M:AV->Prop} {v:AV} {k:Int->Bool} (h:avI v k=true) (f:∀{i},k i=true->M (.int i)):M v:=
 dt.el h λq=>AV.int.elim (motive_1:=λv=>∀q,AV.int.elim v q k=true->M v) v q (λ_ _ h=>f h) q
noncomputable def d3u (v:AV) (i:Int):Bool:=avI v λj=>decide (j= -i)&&decide (0<i)
noncomputable def iC (k:Expr->Bool) (o:BoolOp) (p:Pos) (l:List Expr):Bool:=e7 l λy r=>List.casesOn r (k y) λ_ _=>k (.BoolOp o (y::r) p)
@[elab_as_elim] theorem iC.el {M:List Expr->Prop} {l:List Expr} {k:Expr->Bool} {o:BoolOp} {p:Pos} (h:iC k o p l=true) (f:∀{y},k y=true->M [y]) (g:∀{y r},k (.BoolOp o (y::r) p)=true->M (y::r)):M l:=
 e7.el h λ{y r} h=>List.casesOn (motive:=λq=>(List.casesOn q (k y) λ_ _=>k (.BoolOp o (y::r) p):Bool)=true->r=q->M (y::r)) r (λh e=>e▸f h) (λ_ _ h _=>g h) h rfl
noncomputable def jT (x:Expr) (k:Str->List Expr->Bool):Bool:=a3g x λf l ks _=>dM f λy=>cB ks&&k y l
@[elab_as_elim] theorem jT.el {M:Expr->Prop} {x:Expr} {k:Str->List Expr->Bool} (h:jT x k=true) (f:∀{y l p q},k y l=true->M (.Call (.Name y p) l [] q)):M x:=
 a3g.el h λh=>dM.el h λh=>cB.el (b2 h).1▸f (b2 h).2
noncomputable def lY (x:Expr) (k:Expr->Str->List Expr->Bool):Bool:=a3g x λf l ks p=>vX f λv y q=>cB ks&&fZ q p&&k v y l
@[elab_as_elim] theorem lY.el {M:Expr->Prop} {x:Expr} {k:Expr->Str->List Expr->Bool} (h:lY x k=true) (f:∀{v y l p q},fZ p q=true->k v y l=true->M (.Call (.Attribute v y p) l [] q)):M x:=
 a3g.el h λh=>vX.el h λh=>cB.el (b2 (b2 h).1).1▸f (b2 (b2 h).1).2 (b2 h).2
noncomputable def qW (k:Expr->Bool) (e:E) (l:Option Expr):Bool:=Option.casesOn l (b5o e) k
noncomputable def a6r (v:AV) (j:Int):Bool:=avI v λi=>decide (i=j)
noncomputable def f4q (Φ:Fx) (X:Cx) (v:AV) (k:Option Expr):Bool:=dE k λx=>dM x λy=>dE (dU Φ X y) λu=>vI u (a6r v)
noncomputable def b7e (Φ:Fx) (X:Cx) (ks:List AV):List (Option Expr)->Bool:=ks.rec noL λv _ f l=>e7 l λk r=>f4q Φ X v k&&f r
noncomputable def a3m (X:Cx) (is:List Nat):List Expr->Bool:=is.rec cB λi _ f l=>e7 l λt r=>dM t (cH X i .local)&&f r
noncomputable def iO (X:Cx) (tg:List Nat) (one:Bool) (t:Expr):Bool:=Bool.casesOn one (onT t λes=>a3m X tg es&&Nat.ble es.length 1000) (dM t λx=>fL tg λi=>cH X i .local x)
noncomputable def b6l (e:E):Bool:=dt (e.ctorIdx=0) λh=>E.lit.elim e h λv=>dt (v.ctorIdx=3) λh=>AV.str.elim v h cB
theorem b6l.el {e:E} (h:b6l e=true):e=.lit (.str []):=
 dt.el h λq=>E.lit.elim (motive_1:=λe=>∀q,(E.lit.elim e q λv=>dt (v.ctorIdx=3) λh=>AV.str.elim v h cB)=true->e=.lit (.str [])) e q (λv _ h=>dt.el h λq=>AV.str.elim (motive_1:=λv=>∀q,AV.str.elim v q cB=true->E.lit v=.lit (.str [])) v q (λl _ h=>cB.el h▸rfl) q) q
noncomputable def yO (es:Es):Bool:=Es.casesOn es false λe r=>b6l e&&Es.casesOn r true λ_ _=>false
theorem b7s {es:Es}:yO es=true->es=.cons (.lit (.str [])) .nil:=
 Es.casesOn (motive_2:=λes=>yO es=true->es=.cons (.lit (.str [])) .nil) es (λh=>ff h) λe r=>Es.casesOn (motive_2:=λr=>yO (.cons e r)=true->Es.cons e r=.cons (.lit (.str [])) .nil) r (λh=>b6l.el (b2 h).1▸rfl) λ_ _ h=>ff (b2 h).2
noncomputable def f4y (e:E):Bool:=decide (e.ctorIdx=9)||decide (e.ctorIdx=10)
noncomputable def a6z (Φ:Fx) (X:Cx) (rng:Bool) (k:Expr->Bool) (i:Expr):Bool:=Bool.casesOn rng (k i&&a8a i) (jT i λr args=>fL args λy=>b5y (bAt Φ X r) "range"&&k y&&bM y)
noncomputable def d2v (k:Expr->Bool) (c:C) (ifs:List Expr):Bool:=List.casesOn ifs (e5y c) λy r=>cB r&&k y
noncomputable def uR (X:Cx) (caps tg:List Nat) (g:Comprehension) (sc:Scope) (cs ts:List Str):Bool:=
 decide (g.is_async=0)&&b4z sc.kind&&(cs.all λc=>eH (eD X.scope.names c) .cell&&eH (eD (bE X sc) c) .cell)&&
  iO ⟨cs++ts,{sc with names:=bE X sc}⟩ (tg.map (· +caps.length)) (b9h tg) g.target&&a9t (cs++ts)&&Nat.beq ts.length tg.length&&d5z X sc cs&&e4f X sc
mutual
noncomputable def b4 (Φ:Fx) (X:Cx):E->Expr->Bool
 | .lit v,ex=>tX ex (λc=>zQ v c)||onU ex λo y=>a7a o&&tX y λc=>b6e c (d3u v)
 | .glob _ v,ex=>dM ex λx=>dE (dU Φ X x) (b9m Φ.K v)
 | .var i,ex=>dM ex (d3c X i)
 | .share i _,ex=>dM ex (cH X i .local)
 | .attr e a,ex=>vX ex λv y _=>b4 Φ X e v&&dG v&&bD (Φ.T.nm a) y
 | .bin o a b,ex=>onB ex λl op r=>rI o op&&b4 Φ X a l&&b4 Φ X b r
 | .notE e,ex=>onU ex λo y=>v7 o&&b4 Φ X e y
 | .andE a b,ex=>pK ex λo l p=>v0 o&&e7 l λx r=>b4 Φ X a x&&iC (b4 Φ X b) .And p r
 | .orE a b,ex=>pK ex λo l p=>a3u o&&e7 l λx r=>b4 Φ X a x&&iC (b4 Φ X b) .Or p r
 | .cmp o a b,ex=>onC ex λl ops rs=>fL ops λop=>fL rs λr=>a4b o op&&b4 Φ X a l&&b4 Φ X b r&& !behindInMarks op r
 | .isN no a,ex=>onC ex λl ops rs=>fL ops λop=>fL rs λr=>a8g no op&&tX r yK&&b4 Φ X a l
 | .ife c a b,ex=>b6f ex λt x y=>nA Φ X c t&&b4 Φ X a x&&b4 Φ X b y
 | .call f es,ex=>jT ex λx args=>jJ (dU Φ X x) (Φ.fn f)&&Φ.isFn f&&jM Φ X es args
 | .callP f es,ex=>jT ex λx args=>jJ (dU Φ X x) (Φ.fn f)&&Φ.isFn f&&jM Φ X es args
 | .meth o m es,ex=>lY ex λob nm args=>b4 Φ X o ob&&dG ob&&bD (Φ.T.nm m) nm&&Nat.blt args.length 30&&jM Φ X es args
 | .new0 c,ex=>jT ex λx args=>cB args&&jJ (dU Φ X x) (Φ.T.cls c)&&Φ.plain c
 | .newI c f es,ex=>jT ex λx args=>jJ (dU Φ X x) (Φ.T.cls c)&&dE (Φ.frozen c) (λg=>Nat.beq g f)&&jM Φ X es args
 | .newO c _ f es,ex=>jT ex λx args=>jJ (dU Φ X x) (Φ.T.cls c)&&Φ.init c f&&(jM Φ X es args||cB args&&yO es&&Φ.dflt f)
 | .len e,ex=>jT ex λx args=>fL args λy=>a1a (bAt Φ X x) "len"&&bM y&&b4 Φ X e y
 | .idx a b,ex=>oV ex λv s=>b4 Φ X a v&&b4 Φ X b s&&b1m s
 | .cut a lo hi,ex=>oV ex λv s=>a3a s λl u t=>eG t&&b4 Φ X a v&&qW (b4 Φ X lo) lo l&&qW (b4 Φ X hi) hi u
 | .tup es,ex=>onT ex λelts=>jM Φ X es elts&&Nat.ble elts.length 1000
 | .dictD _ ks vs,ex=>onD ex λkeys values=>b7e Φ X ks keys&&jM Φ X vs values&&(Nat.beq keys.length 0||Nat.beq keys.length 21)&&Nat.beq keys.length values.length&&tI ks
 | .dget d k,ex=>lY ex λob nm args=>fL args λy=>b4 Φ X d ob&&dG ob&&bD d0q nm&&b4 Φ X k y&&bM y
 | .join sep e,ex=>lY ex λob nm args=>fL args λy=>tX ob (λc=>a3h c λs=>nU sep s.cps.toList)&&bD b7t nm&&b4 Φ X e y&&bM y
 | .sum e,ex=>jT ex λx args=>fL args λy=>a1a (bAt Φ X x) "sum"&&bM y&&b4 Φ X e y
 | .frz f,ex=>tL Φ X f ex
 | .cellL _ f,ex=>tL Φ X f ex
 | .popV i,ex=>lY ex λob nm args=>cB args&&dM ob (cH X i .local)&&bD a8m nm
 | .popC e,ex=>lY ex λob nm args=>cB args&&b4 Φ X e ob&&dG ob&&bD a8m nm
 | .bad,_=>true
noncomputable def jM (Φ:Fx) (X:Cx):Es->List Expr->Bool
 | .nil,l=>cB l
 | .cons e es,l=>e7 l λex r=>bM ex&&b4 Φ X e ex&&jM Φ X es r
noncomputable def nA (Φ:Fx) (X:Cx):C->Expr->Bool
 | .tt,_=>false
 | .e e,ex=>b4 Φ X e ex&&(uC ex||f4y e)
 | .own i,ex=>dM ex (cH X i .local)
 | .not c,ex=>onU ex λo y=>v7 o&&nA Φ X c y
 | .and a b,ex=>pK ex λo l p=>v0 o&&e7 l λx r=>nA Φ X a x&&iC (nA Φ X b) .And p r
 | .or a b,ex=>pK ex λo l p=>a3u o&&e7 l λx r=>nA Φ X a x&&iC (nA Φ X b) .Or p r
noncomputable def tL (Φ:Fx) (X:Cx):F->Expr->Bool
 | .disp es,ex=>onL ex λelts=>jM Φ X es elts&&Nat.ble elts.length 1000
 | .cat a b,ex=>onB ex λl op r=>a6x op&&b4 Φ X a l&&b4 Φ X b r
 | .cut a lo hi,ex=>oV ex λv s=>a3a s λl u t=>eG t&&b4 Φ X a v&&qW (b4 Φ X lo) lo l&&qW (b4 Φ X hi) hi u
 | .comp caps tg rng it cond elt,ex=>b6y ex λx gs sc=>fL gs λg=>dE (iN X caps) λcs=>dE (d9a g.target) λts=>
   uR X caps tg g sc cs ts&&a6z Φ X rng (b4 Φ X it) g.iter&&b4 Φ ⟨cs++ts,{sc with names:=bE X sc}⟩ elt x&&d2v (nA Φ ⟨cs++ts,{sc with names:=bE X sc}⟩ cond) cond g.ifs
end
noncomputable def stA (x:PySem.Stmt) (k:List Expr->Expr->Bool):Bool:=dt (x.ctorIdx=5) λh=>PySem.Stmt.Assign.elim x h λl v _=>k l v
@[elab_as_elim] theorem stA.el {M:PySem.Stmt->Prop} {x:PySem.Stmt} {k:List Expr->Expr->Bool} (h:stA x k=true) (f:∀{l v p},k l v=true->M (.Assign l v p)):M x:=
 dt.el h λq=>PySem.Stmt.Assign.elim (motive_2:=λx=>∀q,PySem.Stmt.Assign.elim x q (λl v _=>k l v)=true->M x) x q (λ_ _ _ _ h=>f h) q
noncomputable def stE (x:PySem.Stmt) (k:Expr->Bool):Bool:=dt (x.ctorIdx=24) λh=>PySem.Stmt.Expr.elim x h λv _=>k v
@[elab_as_elim] theorem stE.el {M:PySem.Stmt->Prop} {x:PySem.Stmt} {k:Expr->Bool} (h:stE x k=true) (f:∀{v p},k v=true->M (.Expr v p)):M x:=
 dt.el h λq=>PySem.Stmt.Expr.elim (motive_2:=λx=>∀q,PySem.Stmt.Expr.elim x q (λv _=>k v)=true->M x) x q (λ_ _ _ h=>f h) q
noncomputable def stG (x:PySem.Stmt) (k:Expr->Operator->Expr->Bool):Bool:=dt (x.ctorIdx=7) λh=>PySem.Stmt.AugAssign.elim x h λt o v _=>k t o v
@[elab_as_elim] theorem stG.el {M:PySem.Stmt->Prop} {x:PySem.Stmt} {k:Expr->Operator->Expr->Bool} (h:stG x k=true) (f:∀{t o v p},k t o v=true->M (.AugAssign t o v p)):M x:=
 dt.el h λq=>PySem.Stmt.AugAssign.elim (motive_2:=λx=>∀q,PySem.Stmt.AugAssign.elim x q (λt o v _=>k t o v)=true->M x) x q (λ_ _ _ _ _ h=>f h) q
noncomputable def a3n (x:PySem.Stmt) (k:Option Expr->Bool):Bool:=dt (x.ctorIdx=3) λh=>PySem.Stmt.Return.elim x h λv _=>k v
@[elab_as_elim] theorem a3n.el {M:PySem.Stmt->Prop} {x:PySem.Stmt} {k:Option Expr->Bool} (h:a3n x k=true) (f:∀{v p},k v=true->M (.Return v p)):M x:=
 dt.el h λq=>PySem.Stmt.Return.elim (motive_2:=λx=>∀q,PySem.Stmt.Return.elim x q (λv _=>k v)=true->M x) x q (λ_ _ _ h=>f h) q
noncomputable def stI (x:PySem.Stmt) (k:Expr->List Stmt->List Stmt->Bool):Bool:=dt (x.ctorIdx=12) λh=>PySem.Stmt.If.elim x h λt b c _=>k t b c
@[elab_as_elim] theorem stI.el {M:PySem.Stmt->Prop} {x:PySem.Stmt} {k:Expr->List Stmt->List Stmt->Bool} (h:stI x k=true) (f:∀{t b c p},k t b c=true->M (.If t b c p)):M x:=
 dt.el h λq=>PySem.Stmt.If.elim (motive_2:=λx=>∀q,PySem.Stmt.If.elim x q (λt b c _=>k t b c)=true->M x) x q (λ_ _ _ _ _ h=>f h) q
noncomputable def stW (x:PySem.Stmt) (k:Expr->List Stmt->List Stmt->Bool):Bool:=dt (x.ctorIdx=11) λh=>PySem.Stmt.While.elim x h λt b c _=>k t b c
@[elab_as_elim] theorem stW.el {M:PySem.Stmt->Prop} {x:PySem.Stmt} {k:Expr->List Stmt->List Stmt->Bool} (h:stW x k=true) (f:∀{t b c p},k t b c=true->M (.While t b c p)):M x:=
 dt.el h λq=>PySem.Stmt.While.elim (motive_2:=λx=>∀q,PySem.Stmt.While.elim x q (λt b c _=>k t b c)=true->M x) x q (λ_ _ _ _ _ h=>f h) q
noncomputable def stF (x:PySem.Stmt) (k:Expr->Expr->List Stmt->List Stmt->Bool):Bool:=dt (x.ctorIdx=9) λh=>PySem.Stmt.For.elim x h λt i b c _=>k t i b c
@[elab_as_elim] theorem stF.el {M:PySem.Stmt->Prop} {x:PySem.Stmt} {k:Expr->Expr->List Stmt->List Stmt->Bool} (h:stF x k=true) (f:∀{t i b c p},k t i b c=true->M (.For t i b c p)):M x:=
 dt.el h λq=>PySem.Stmt.For.elim (motive_2:=λx=>∀q,PySem.Stmt.For.elim x q (λt i b c _=>k t i b c)=true->M x) x q (λ_ _ _ _ _ _ h=>f h) q
noncomputable def stT (x:PySem.Stmt) (k:List Stmt->List ExceptHandler->List Stmt->List Stmt->Bool):Bool:=dt (x.ctorIdx=17) λh=>PySem.Stmt.Try.elim x h λb h c d _=>k b h c d
@[elab_as_elim] theorem stT.el {M:PySem.Stmt->Prop} {x:PySem.Stmt} {k:List Stmt->List ExceptHandler->List Stmt->List Stmt->Bool} (h:stT x k=true) (f:∀{b h c d p},k b h c d=true->M (.Try b h c d p)):M x:=
 dt.el h λq=>PySem.Stmt.Try.elim (motive_2:=λx=>∀q,PySem.Stmt.Try.elim x q (λb h c d _=>k b h c d)=true->M x) x q (λ_ _ _ _ _ _ h=>f h) q
noncomputable def a6s (s:Stmt):Bool:=dt (s.ctorIdx=26) λ_=>true
theorem a6s.el {s:Stmt} (h:a6s s=true):∃p,s=.Break p:=dt.el h λq _=>PySem.Stmt.Break.elim (motive_2:=λs=>∃p,s=.Break p) s q λp=>⟨p,rfl⟩
noncomputable def a1d (s:Stmt):Bool:=dt (s.ctorIdx=27) λ_=>true
theorem a1d.el {s:Stmt} (h:a1d s=true):∃p,s=.Continue p:=dt.el h λq _=>PySem.Stmt.Continue.elim (motive_2:=λs=>∃p,s=.Continue p) s q λp=>⟨p,rfl⟩
noncomputable def uX {α:Type} (l:List α):Bool:=e7 l λ_ _=>true
theorem uX.el {α:Type} {l:List α} (h:uX l=true):∃a r,l=a::r:=e7.el (M:=λl=>∃a r,l=a::r) h λ_=>⟨_,_,rfl⟩
noncomputable def lR (s:Stmt) (k:Expr->Expr->Bool):Bool:=stA s λl v=>fL l λt=>k t v&&gE v
@[elab_as_elim] theorem lR.el {M:Stmt->Prop} {s:Stmt} {k:Expr->Expr->Bool} (h:lR s k=true) (f:∀{t v p},gE v=true->k t v=true->M (.Assign [t] v p)):M s:=
 stA.el h λh=>fL.el h λh=>f (b2 h).2 (b2 h).1
noncomputable abbrev a3p (l:List Stmt) (k:Stmt->List Stmt->Bool):Bool:=e7 l k
@[elab_as_elim] theorem a3p.el {M:List Stmt->Prop} {l:List Stmt} {k:Stmt->List Stmt->Bool} (h:a3p l k=true) (f:∀{x r},k x r=true->M (x::r)):M l:=e7.el h f
mutual
noncomputable def e4r (Φ:Fx) (X:Cx):S->Stmt->Bool
 | .assign i e,s=>lR s λt v=>dM t (cH X i .local)&&b4 Φ X e v
 | .ownS i f,s=>lR s λt v=>dM t (cH X i .local)&&tL Φ X f v
 | .expr e,s=>stE s λv=>b4 Φ X e v&&gE v
 | .appV i e,s=>stE s λv=>lY v λob nm args=>fL args λy=>dM ob (cH X i .local)&&bD apS nm&&b4 Φ X e y&&bM y
 | .appC l e,s=>stE s λv=>lY v λob nm args=>fL args λy=>b4 Φ X l ob&&dG ob&&bD apS nm&&b4 Φ X e y&&bM y
 | .setA o a e,s=>lR s λt v=>vX t λob y _=>b4 Φ X e v&&b4 Φ X o ob&&bD (Φ.T.nm a) y
 | .augA o a op e,s=>stG s λt op' v=>vX t λob y _=>rI op op'&&zL op'&&b4 Φ X o ob&&b4 Φ X e v&&bD (Φ.T.nm a) y
 | .augV i op e,s=>stG s λt op' v=>dM t (cH X i .local)&&rI op op'&&zL op'&&b4 Φ X e v
 | .setI d k e,s=>lR s λt v=>oV t λob i=>b4 Φ X e v&&b4 Φ X d ob&&b4 Φ X k i&&b1m i
 | .unpack is e,s=>lR s λt v=>onT t λts=>a3m X is ts&&b4 Φ X e v&&a8s v&&Nat.ble ts.length 1000
 | .ret e,s=>a3n s λv=>dE v (b4 Φ X e)
 | .retN,s=>a3n s eG
 | .ite c a b,s=>stI s λt x y=>nA Φ X c t&&jL Φ X a x&&jL Φ X b y
 | .while c b,s=>stW s λt x y=>cB y&&nA Φ X c t&&jL Φ X b x
 | .forL tg one rng it b,s=>stF s λt i x y=>cB y&&iO X tg one t&&a6z Φ X rng (b4 Φ X it) i&&jL Φ X b x
 | .forC i it b,s=>stF s λt it' x y=>cB y&&dM t (cH X i .local)&&b4 Φ X it it'&&a8a it'&&jL Φ X b x
 | .brk,s=>a6s s
 | .cont,s=>a1d s
 | .tryB b,s=>stT s λx h c d=>uX h&&cB c&&cB d&&jL Φ X b x
 | .bad,_=>true
noncomputable def jL (Φ:Fx) (X:Cx):Ss->List Stmt->Bool
 | .nil,l=>cB l
 | .cons s ss,l=>a3p l λx r=>e4r Φ X s x&&jL Φ X ss r
end
noncomputable abbrev pw:Program:=PySem.Challenge.pw_rh0145_01
def cO (s s':Shared):Prop:=s'.gens=s.gens/\s'.os=s.os/\∀a o,s.heap.get? a=some o->s'.heap.get? a=some o
theorem cO.refl (s:Shared):cO s s:=⟨rfl,rfl,λ_ _ e=>e⟩
theorem cO.trans {a b c:Shared} (x:cO a b) (y:cO b c):cO a c:=⟨y.1.trans x.1,y.2.1.trans x.2.1,λ_ _ e=>y.2.2 _ _ (x.2.2 _ _ e)⟩
theorem cO.toks {s:Shared} {t:Nat}:cO s {s with toks:=t}:=⟨rfl,rfl,λ_ _ e=>e⟩
abbrev No:Value->Shared->Prop:=λ_ _=>False
theorem a2m:oY=sizeLine:=rfl
theorem b7g (s:List Nat) (n:Nat):(nB s n).length=n*s.length:=by
 induction n with
 |zero=>exact(Nat.zero_mul _).symm
 |succ n ih=>show(s++nB s n).length=_;rw [h3o,ih,Nat.succ_mul,h4e]
theorem a7r (x:Array Nat) (n:Nat):∀a:Array Nat,((List.replicate n x).foldl (· ++ ·) a).toList=a.toList++nB x.toList n:=by
 induction n with
 |zero=>exact λa=>(h3q _).symm
 |succ n ih=>intro a;show((List.replicate n x).foldl (· ++ ·) (a++x)).toList=a.toList++(x.toList++nB x.toList n);rw [ih,Array.toList_append,h3p]
theorem qM (x y:Str):(x++y).cps.toList=x.cps.toList++y.cps.toList:=Array.toList_append
theorem q9 (x:Str):x.length=x.cps.toList.length:=rfl
theorem zU {n:Str}:∀{ns:List Str} {vs:List Value},ns.length=vs.length->n∈ns->∃v,(ns.zip vs).lookup n=some v:=λ{ns}=>by
 induction ns with
 |nil=>exact λ_ h=>nomatch h
 |cons a ns ih=>
  intro vs h hm;cases vs with
  |nil=>exact nomatch h
  |cons v vs=>
   rw [List.zip_cons_cons,List.lookup_cons,nX];cases e:bD a n with
   |true=>exact⟨v,rfl⟩
   |false=>exact(List.mem_cons.mp hm).elim (λq=>ff (e.symm.trans (dO.mpr q.symm))) (ih (Nat.succ.inj h))
theorem d1q {α β:Type} {f g:α->Option β} {l:List α}:(∀n∈l,f n=g n)->l.filterMap f=l.filterMap g:=by
 induction l with
 |nil=>exact λ_=>rfl
 |cons a l ih=>exact λh=>by rw [List.filterMap_cons,List.filterMap_cons,h a (.head _),ih λn hn=>h n (.tail _ hn)]
theorem a6a:∀{ns:List Str} {vs:List Value},ns.Nodup->ns.length=vs.length->(ns.filterMap λn=>((ns.zip vs).lookup n).map (n,·))=ns.zip vs:=λ{ns}=>by
 induction ns with
 |nil=>exact λ_ _=>rfl
 |cons a ns ih=>
  intro vs hd h;cases vs with
  |nil=>exact nomatch h
  |cons v vs=>
   have hd:=List.nodup_cons.mp hd;rw [List.zip_cons_cons,List.filterMap_cons,List.lookup_cons,beq_self_eq_true];refine h3s ((a,v):: ·) ((d1q λn hn=> ?_).trans (ih hd.2 (Nat.succ.inj h)))
   rw [List.lookup_cons,nX,show bD a n=false from Bool.eq_false_iff.mpr λe=>hd.1 (cM e▸hn)]
theorem pbM {α β:Type} {a:α} {f:α->Sem β}:((pure a:Sem α) >>=f)=f a:=rfl
theorem sqM:seqItems? Value.none=pure none:=rfl
theorem fiM {α β:Type} {b:β} {f:α->β->Sem (ForInStep β)}:forIn ([]:List α) b f=(pure b:Sem β):=rfl
theorem c0a {fd:FuncData} {args:List Arg} {dfl:List Expr} {vals:List Value} (hp:fd.params=⟨[],args,none,[],[],none,dfl⟩) (hd:fd.defaults=.none)
  (nd:(args.map (·.arg)).Nodup) (hl:(args.map (·.arg)).length=vals.length):bindArgs fd ⟨vals,[]⟩=pure ((args.map (·.arg)).zip vals):=by
 obtain⟨n1,n2,n3,n4,n5,n6,n7,n8,n9,m1,m2,m3,m4,m5,m6⟩:=fd;cases hp;cases hd;have F:=a6a nd hl;have M:∀k,(((args.map (·.arg)).take k).filter λn=>(((args.map (·.arg)).zip vals).lookup n).isNone)=[]:=λk=>
  List.filter_eq_nil_iff.mpr λn hn=>by
   obtain⟨v,e⟩:=zU hl (List.mem_of_mem_take hn);rw [e];exact Bool.false_ne_true
 have c1:decide (vals.length>(args.map (·.arg)).length)=false:=h3u (hl▸h4p _)
 have zn:∀a b,(List.drop a (args.map (·.arg))).zip (List.drop b ([]:List Value))=[]:=λa b=>by rw [List.drop_nil,List.zip_nil_right]
 dsimp only [bindArgs,pbM,fiM,sqM,List.map,List.nil_append,Option.getD_none,List.drop_nil,h4k];refine(if_neg (λh=>Bool.false_ne_true ((h3s (· &&_) c1).symm.trans h))).trans ?_
 refine(if_neg (λh=>Bool.false_ne_true ((h3s (λl:List Str=> !l.isEmpty) (M _)).symm.trans h))).trans ?_
 rw [zn,fiM,pbM,h3q,F];rfl
theorem nn {α:Type} {c:α} {P:Prop} (h:none=some c):P:=nomatch h
section
variable {T:Tb} {w:World} {W:Wd} {A:Around} {s:Shared} {x y:AV} {v a b:Value}
@[elab_as_elim] theorem Rep.int_el {i:Int} {M:Value->Prop} (h:Rep T W (.int i) v) (f:∀{t},M (.int i t)):M v:=IntV.casesOn (motive:=λv _=>M v) h f
@[elab_as_elim] theorem Rep.str_el {l:List Nat} {M:List Nat->Value->Prop} (h:Rep T W (.str l) v) (f:∀{x:Str} {t},x.length<=sizeLine->M x.cps.toList (.str x t)):M l v:=StrV.casesOn (motive:=λl v _=>M l v) h f
@[elab_as_elim] theorem Rep.lst_el {l:List AV} {M:Value->Prop} (h:Rep T W (.lst l) v) (f:∀{a vs n},vs.length<=sizeLine->W.F a=some (c5 vs n)->aL T W l vs->M (.ref a)):M v:=SeqV.casesOn (motive:=λv _=>M v) h f
@[elab_as_elim] theorem Rep.tup_el {l:List AV} {M:Value->Prop} (h:Rep T W (.tup l) v) (f:∀{a vs n},vs.length<=sizeLine->W.F a=some (u5 vs n)->aL T W l vs->M (.ref a)):M v:=SeqV.casesOn (motive:=λv _=>M v) h f
@[elab_as_elim] theorem Rep.ref_el {r:Nat} {M:Value->Prop} (h:Rep T W (.ref r) v) (f:∀{a},W.mu r=some a->M (.ref a)):M v:=RefV.casesOn (motive:=λv _=>M v) h f
theorem Rep.str_inv {l:List Nat} (h:Rep T W (.str l) v):∃x t,v=.str x t/\x.cps.toList=l/\x.length<=sizeLine:=h.str_el (M:=λl v=>∃x t,v=.str x t/\x.cps.toList=l/\x.length<=sizeLine) λz=>⟨_,_,rfl,rfl,z⟩
theorem f1r {M:AV->Prop} {k:Int->Prop}:∀{x:AV},nZ x k->(∀i,k i->M (.int i))->M x:=λ{x} h f=>@AV.casesOn (λx=>nZ x k->M x) x False.elim (λ_=>False.elim) f (λ_=>False.elim) (λ_=>False.elim) (λ_=>False.elim) (λ_ _=>False.elim) (λ_ _=>False.elim) (λ_=>False.elim) h
theorem e1t {M:AV->Prop} {k:List Nat->Prop}:∀{x:AV},onS x k->(∀i,k i->M (.str i))->M x:=λ{x} h f=>@AV.casesOn (λx=>onS x k->M x) x False.elim (λ_=>False.elim) (λ_=>False.elim) f (λ_=>False.elim) (λ_=>False.elim) (λ_ _=>False.elim) (λ_ _=>False.elim) (λ_=>False.elim) h
theorem d5l {M:AV->Prop} {k:Int->Prop} {k':List Nat->Prop}:∀{x:AV},b0w x k k'->(∀i,k i->M (.int i))->(∀i,k' i->M (.str i))->M x:=λ{x} h f g=>@AV.casesOn (λx=>b0w x k k'->M x) x False.elim (λ_=>False.elim) f g (λ_=>False.elim) (λ_=>False.elim) (λ_ _=>False.elim) (λ_ _=>False.elim) (λ_=>False.elim) h
theorem f3h {α:Type} {c:α} {M:AV->Prop} {k:Int->Option α} {k':List Nat->Option α}:∀{x:AV},oIS x k k'=some c->(∀i,k i=some c->M (.int i))->(∀i,k' i=some c->M (.str i))->M x:=λ{x} h f g=>
 @AV.casesOn (λx=>oIS x k k'=some c->M x) x nn (λ_=>nn) f g (λ_=>nn) (λ_=>nn) (λ_ _=>nn) (λ_ _=>nn) (λ_=>nn) h
theorem b7r {α:Type} {c:α} {M:AV->Prop} {k:Int->Option α} {x:AV} (h:oI x k=some c) (f:∀i,k i=some c->M (.int i)):M x:=
 @AV.casesOn (λx=>oI x k=some c->M x) x nn (λ_=>nn) f (λ_=>nn) (λ_=>nn) (λ_=>nn) (λ_ _=>nn) (λ_ _=>nn) (λ_=>nn) h
theorem d3s {α:Type} {c:α} {M:AV->Prop} {k:List Nat->Option α} {x:AV} (h:oS x k=some c) (f:∀i,k i=some c->M (.str i)):M x:=
 @AV.casesOn (λx=>oS x k=some c->M x) x nn (λ_=>nn) (λ_=>nn) f (λ_=>nn) (λ_=>nn) (λ_ _=>nn) (λ_ _=>nn) (λ_=>nn) h
@[elab_as_elim] theorem Rep.onI {M:Value->Prop} {k:Int->Prop} (r:Rep T W x v) (h:nZ x k) (f:∀{i t},k i->M (.int i t)):M v:=
 f1r (M:=λx=>Rep T W x v->M v) h (λ_ e r=>r.int_el (M:=M) (f e)) r
@[elab_as_elim] theorem Rep.onS {M:Value->Prop} {k:List Nat->Prop} (r:Rep T W x v) (h:onS x k) (f:∀{i:Str} {t},i.length<=sizeLine->k i.cps.toList->M (.str i t)):M v:=
 e1t (M:=λx=>Rep T W x v->M v) h (λ_ e r=>r.str_el (M:=λl v=>k l->M v) (λz=>f z) e) r
@[elab_as_elim] theorem Rep.onIS {M:Value->Prop} {k:Int->Prop} {k':List Nat->Prop} (r:Rep T W x v) (h:b0w x k k') (f:∀{i t},k i->M (.int i t)) (g:∀{i:Str} {t},i.length<=sizeLine->k' i.cps.toList->M (.str i t)):M v:=
 d5l (M:=λx=>Rep T W x v->M v) h (λ_ e r=>r.int_el (M:=M) (f e)) (λ_ e r=>r.str_el (M:=λl v=>k' l->M v) (λz=>g z) e) r
@[elab_as_elim] theorem Rep.oI {α:Type} {c:α} {M:Value->Prop} {k:Int->Option α} (r:Rep T W x v) (h:oI x k=some c) (f:∀{i t},k i=some c->M (.int i t)):M v:=
 b7r (M:=λx=>Rep T W x v->M v) h (λ_ e r=>r.int_el (M:=M) (f e)) r
@[elab_as_elim] theorem Rep.oS {α:Type} {c:α} {M:Value->Prop} {k:List Nat->Option α} (r:Rep T W x v) (h:oS x k=some c) (f:∀{i:Str} {t},k i.cps.toList=some c->M (.str i t)):M v:=
 d3s (M:=λx=>Rep T W x v->M v) h (λ_ e r=>r.str_el (M:=λl v=>k l=some c->M v) (λ_=>f) e) r
@[elab_as_elim] theorem Rep.oIS {α:Type} {c:α} {M:Value->Prop} {k:Int->Option α} {k':List Nat->Option α} (r:Rep T W x v) (h:oIS x k k'=some c) (f:∀{i t},k i=some c->M (.int i t)) (g:∀{i:Str} {t},k' i.cps.toList=some c->M (.str i t)):M v:=
 f3h (M:=λx=>Rep T W x v->M v) h (λ_ e r=>r.int_el (M:=M) (f e)) (λ_ e r=>r.str_el (M:=λl v=>k' l=some c->M v) (λ_=>g) e) r
theorem c5b {a b:Int} (h:a.natAbs<=1000000):IntMulOk a b:=by
 refine .of_left ?_;unfold Builtin.Int.intBits;split
 ·omega
 ·rename_i q;have h0:a.natAbs≠0:=by simpa using q
  have:a.natAbs.log2<60:=(Nat.log2_lt h0).mpr (by omega)
  omega
section
variable {K:AV->Prop} {Q:Value->Shared->Prop} (q:∀{z v s'},Rep T W z v->cO s s'->K z->Q v s')
include q
theorem b4k {i j:Str} (h:i.cps.toList.length+j.cps.toList.length<=oY/\K (.str (i.cps.toList++j.cps.toList))) {k:Tok} {t:Tok}:Q (.str (i++j) t) {s with toks:=k}:=
 have e:=qM i j
 q (.str (by rw [q9,e,h3o,<-a2m];exact h.1)) .toks (by rw [e];exact h.2)
omit q in
theorem c5k {a m:Nat} (h:a*m<=10000000) (hm:0<m):¬((a:Int) >(2 ^ 63 - 1)/(m:Int)):=
 Int.not_lt.mpr ((Int.le_ediv_iff_mul_le (Int.natCast_pos.mpr hm)).mpr (Int.le_trans (Int.ofNat_le.mpr h) (by decide)))
theorem d0r {x:Str} {t u:Tok} {n:Int} (hx:x.length<=sizeLine) (h:(x.cps.toList.length<=1000/\0<=n/\n<=10000)/\K (.str (nB x.cps.toList n.toNat))):wpAny (model pw w) A (binaryOp .Mult (.str x t) (.int n u)) Q No s:=by
 cases n with
 |negSucc m=>exact absurd h.1.2.1 (Int.not_le.mpr (Int.negSucc_lt_zero m))
 |ofNat m=>
  have hl:x.length<=1000:=h.1.1;have hm:m<=10000:=Int.ofNat_le.mp h.1.2.2;have hn:x.length*m<=10000000:=Nat.mul_le_mul hl hm;have hi:=h.1.2;have h:K (.str (nB x.cps.toList m)):=h.2;refine P.mul_str ?_ (λp _=>c5k hn (Nat.pos_of_ne_zero λe=>p (e▸by decide))) (λ_ _=>h3u (Nat.not_lt.mpr (h3j hn (by decide)))) ?_
  ·exact Bool.or_eq_false_iff.mpr ⟨h3u (Int.not_lt.mpr (Int.le_trans (b:=0) (by decide) hi.1)),h3u (Int.not_le.mpr (Int.lt_of_le_of_lt hi.2 (by decide)))⟩
  cases m with
  |zero=>exact⟨h3w _,q (.str (x:=⟨#[]⟩) (h3w _)) .toks h⟩
  |succ m=>
   rw [if_neg (show¬Int.ofNat (m+1) <1 from Int.not_lt.mpr (Int.ofNat_le.mpr (h3r (h3w m))))]
   split
   ·rename_i e;refine q (.str hx) (.refl _) ?_;rcases(Bool.or_eq_true _ _).mp e with e|e
    ·cases Int.ofNat.inj (beq_iff_eq.mp e);have h:K (.str (x.cps.toList++[])):=h;rw [h3q]at h;exact h
    ·have z:x.cps.toList=[]:=List.eq_nil_of_length_eq_zero (beq_iff_eq.mp e)
     have e:∀k,nB [] k=[]:=λk=>by
      induction k with
      |zero=>rfl
      |succ k ih=>exact ih
     rw [z]at h⊢;rw [e]at h;exact h
   ·have hz:(⟨(List.replicate (m+1) x.cps).foldl (· ++ ·) #[]⟩:Str).length<=sizeLine:=by
     rw [q9,a7r,List.nil_append,b7g,Nat.mul_comm];exact h3j hn (by decide)
    exact⟨hz,q (.str hz) .toks (by rw [a7r];exact h)⟩
theorem e7l {o:Op} {op:Operator} (h:v8 o x y K) (hx:Rep T W x a) (hy:Rep T W y b) (ho:rI o op=true) (hA:A.handled=none):wpAny (model pw w) A (binaryOp op a b) Q No s:=by
 obtain rfl:=b4h ho;cases o
 ·exact hx.onIS h (λh=>hy.onI h λh=>add_int (q .int .toks h)) λ_ h=>hy.onS h λ_ h=>add_str (λt' tk=>b4k q h) (by rw [q9,q9,<-a2m];exact h.1)
 ·exact hx.onI h λh=>hy.onI h λh=>sub_int (q .int .toks h)
 ·exact hx.onIS h (λh=>hy.onI h λh=>P.mul_int (q .int .toks h.2) (c5b h.1.1)) λhz h=>hy.onI h λh=>d0r q hz h
 ·exact hx.onI h λh=>hy.onI h λh=>mod_int_or hA (λe=>absurd e (Int.ne_of_gt h.1)) λne=>q .int .toks (by rw [Int.fmod_eq_emod_of_nonneg _ (Int.le_of_lt h.1)];exact h.2)
 ·exact hx.onI h λh=>hy.onI h λh=>floordiv_int_or hA (λe=>absurd e (Int.ne_of_gt h.1.1)) (λne=>q .int .toks (by rw [Int.fdiv_eq_ediv_of_nonneg _ (Int.le_of_lt h.1.1)];exact h.2)) (λ_=>.inl (PyProof.noPylong_small (by have:=h.1;omega)))
 ·exact hx.onI h λh=>hy.onI h λh=>and_int (q .int .toks (by
   unfold Builtin.bitAnd;rw [h3v h.1.1,h3v h.1.2];exact h.2))
theorem c2f {o:Op} {op:Operator} (h:v8 o x y K) (hx:Rep T W x a) (hy:Rep T W y b) (ho:rI o op=true) (hg:zL op=true):wpAny (model pw w) A (inplaceOp op a b) Q No s:=by
 obtain rfl:=b4h ho;cases o
 ·exact hx.onIS h (λh=>hy.onI h λh=>iadd_int (q .int .toks h)) λ_ h=>hy.onS h λ_ h=>iadd_str (λt' tk=>b4k q h) (by rw [q9,q9,<-a2m];exact h.1)
 ·exact hx.onI h λh=>hy.onI h λh=>isub_int (q .int .toks h)
 all_goals cases hg
end
noncomputable def veq (x y:Value):Bool:=@Value.casesOn (λ_=>Bool) x false false false (λ_=>false) (λa _=>vI y λb=>decide (a=b)) (λ_ _=>false) (λa _=>vS y λb=>decide (a.cps.toList=b.cps.toList)) (λ_ _=>false) (λ_=>false) (λ_=>false) λ_=>false
theorem a2x {i j:Str}:(i==j)=decide (i.cps.toList=j.cps.toList):=by
 rw [<-PyProof.Rows.toList_beq,Bool.eq_iff_iff,beq_iff_eq,decide_eq_true_iff]
theorem d8f {t:Bool} (h:iJ x y=some t) (hx:Rep T W x a) (hy:Rep T W y b):MeetsSeq.EqGives a b t/\veq a b=t:=
 hy.oIS h (λh=>hx.oI h λh=>h3l h▸⟨MeetsSeq.EqGives.int _ _ _ _,rfl⟩) λ{j u} h=>hx.oS h λh=>h3l h▸⟨by
  rw [<-a2x,<-PyProof.Rows.toList_beq];exact SeqRoads2.EqGives.str _ _ _ _,rfl⟩
theorem c3b {v:AV} {l:List AV} {t:Bool} (h:qN x (v::l)=some t):∃p q,iJ v x=some p/\qN x l=some q/\(p||q)=t:=by
 have h:(match iJ v x,qN x l with|some a,some b=>some (a||b)|_,_=>none)=some t:=h
 cases e1:iJ v x with
 |none=>rw [e1]at h;exact nn h
 |some p=>
  cases e2:qN x l with
  |none=>rw [e1,e2]at h;exact nn h
  |some q=>rw [e1,e2]at h;exact⟨p,q,rfl,rfl,h3l h⟩
theorem c9n (hx:Rep T W x b) {l:List AV} {vs:List Value} {t:Bool} (r:aL T W l vs) (h:qN x l=some t):(∀y,y∈vs->MeetsSeq.EqGives y b (veq y b))/\vs.any (veq · b)=t:=
 r.ind (M:=λl vs=>∀t,qN x l=some t->(∀y,y∈vs->MeetsSeq.EqGives y b (veq y b))/\vs.any (veq · b)=t) (λt h=>⟨λy hy=>(nomatch hy),h3l h⟩) (λhv _ ih t h=>
  let⟨p,q,e1,e2,e⟩:=c3b h
  have z:=d8f e1 hv hx;have k:=ih q e2
  ⟨λy hy=>(List.mem_cons.mp hy).elim (λq=>q▸z.2.symm▸z.1) (k.1 y),e▸(List.any_cons.trans (by rw [z.2,k.2]))⟩) t h
theorem a5g {c:Nat}:∀{l:List Nat},eS c l=decide (c∈l):=λ{l}=>by
 induction l with
 |nil=>exact(h3u List.not_mem_nil).symm
 |cons d l ih=>
  show(match Nat.beq d c with|true=>true|false=>eS c l)=_
  cases e:Nat.beq d c with
  |true=>exact(h3v (h4g e▸.head _)).symm
  |false=>exact ih.trans (decide_eq_decide.mpr ⟨.tail _,λh=>(List.mem_cons.mp h).elim (λq=>ff (e.symm.trans (q▸Nat.beq_refl c))) id⟩)
variable {G:Gh} {st:aB}
def r5 (T:Tb) (W:Wd) (o:Option AV) (o':Option Value):Prop:=Option.casesOn o (o'=none) λv=>AtR T W v o'
@[elab_as_elim] theorem r5.some {M:Option AV->Option Value->Prop} {o o'} (r:r5 T W o o') (f:∀{v x},Rep T W v x->M (some v) (some x)) (g:M none none):M o o':=
 Option.casesOn (motive:=λo=>r5 T W o o'->M o o') o (λe=>Eq.ndrec (motive:=λz=>M none z) g (Eq.symm e)) (λv r=>AtR.casesOn (motive:=λz _=>M (Option.some v) z) r f) r
section
variable {κ:Type} [DecidableEq κ] {k i:κ} {z:Value} {kvs:List (κ×Value)}
theorem b9x:valueAt ((i,z)::kvs) i=some z:=by
 show((match decide (i=i)with|true=>some (i,z)|false=>_:Option (κ×Value)).map _)=_
 rw [h3v rfl];rfl
theorem b9b (q:¬k=i):valueAt ((k,z)::kvs) i=valueAt kvs i:=by
 show((match decide (k=i)with|true=>some (k,z)|false=>kvs.find? λkv=>kv.1=i:Option (κ×Value)).map _)=_
 rw [h3u q];rfl
theorem c2a {k x v:AV} {l:List (AV×AV)} {o:Option AV} {b:Bool} (e:iJ k x=some b) (h:dget x ((k,v)::l)=some o):(b=true/\some v=o)\/(b=false/\dget x l=some o):=by
 have h:(match iJ k x with|some true=>some (some v)|some false=>dget x l| .none=>.none)=some o:=h
 rw [e]at h;cases b with
 |true=>exact .inl ⟨rfl,h3l h⟩
 |false=>exact .inr ⟨rfl,h⟩
theorem b1p {key:κ->AV} (hk:∀k,iJ (key k) (key i)=some (decide (k=i))) (hn:∀o,dget (key i) []=some o->none=o) {l:List (AV×AV)} {kvs:List (κ×Value)} {o:Option AV} (r:bL T W key l kvs):dget (key i) l=some o->r5 T W o (valueAt kvs i):=
 r.ind (M:=λl kvs=>dget (key i) l=some o->r5 T W o (valueAt kvs i)) (λh=>hn o h▸rfl) λ{k v x l kvs} hv _ ih h=>(c2a (hk k) h).elim (λq=>h3t q.1▸q.2▸(b9x (i:=k)).symm▸.mk hv) λq=>(b9b (of_decide_eq_false q.1)).symm▸ih q.2
theorem qS {kind:PySem.KeyKind pw w κ} {a:Addr} {n:Nat} (q:s.heap.get? a=some (dictOf [] n)):s.heap.DictOf kind a []:=⟨_,#[],n,q,⟨rfl,rfl,rfl⟩,rfl,(λ_ he=>nomatch he.val),Pairs.nil,List.nodup_nil⟩
theorem oH {κ':Type} [DecidableEq κ'] {kind:PySem.KeyKind pw w κ} {kind':PySem.KeyKind pw w κ'} {a:Addr} (d:s.heap.DictOf kind a []):s.heap.DictOf kind' a []:=by
 obtain⟨o,⟨es⟩,ep,ho,hc,hd,hk,hp,hn⟩:=d;cases es with
 |cons e r=>exact nomatch hp
 |nil=>exact⟨o,#[],ep,ho,hc,hd,(λ_ he=>nomatch he.val),Pairs.nil,List.nodup_nil⟩
end
theorem c8h {l:List (AV×AV)} {i:Int} {kvs:List (Int×Value)} {o:Option AV}:bL T W dQ l kvs->dget (.int i) l=some o->r5 T W o (valueAt kvs i):=b1p (key:=dQ) (λ_=>rfl) λ_=>h3l
theorem c8j {l:List (AV×AV)} {i:Str} {kvs:List (Str×Value)} {o:Option AV}:bL T W pJ l kvs->dget (.str i.cps.toList) l=some o->r5 T W o (valueAt kvs i):=
 b1p (key:=pJ) (λk=>h3s some (decide_eq_decide.mpr ⟨v6,λe=>e▸rfl⟩)) λ_=>h3l
inductive Ask (T:Tb) (w:World) (W:Wd) (s:Shared) (a:Addr) (o:Option AV) (b:Value):Prop
 |mk {κ:Type} [DecidableEq κ] (kind:PySem.KeyKind pw w κ) (k:κ) (kvs:List (κ×Value)):kind.is k b=true->s.heap.DictOf kind a kvs->r5 T W o (valueAt kvs k)->Ask T w W s a o b
theorem b0k {l:List (AV×AV)} {o:Option AV} {M:AV->Prop} (h:dget x l=some o) (f:∀i,dget (.int i) l=some o->M (.int i)) (g:∀i,dget (.str i) l=some o->M (.str i)):M x:=
 have no:∀{x:AV} {P:Prop},dget x []=none->(∀y,iJ y x=none)->dget x l=some o->P:=λ{x P} e k=>List.casesOn (motive:=λl=>dget x l=some o->P) l (λh=>nn (e.symm.trans h)) λp l h=>by
  have h:(match iJ p.1 x with|some true=>some (some p.2)|some false=>dget x l| .none=>.none)=some o:=h
  rw [k]at h;exact nn h
 @AV.casesOn (λx=>dget x l=some o->M x) x (no rfl λ_=>rfl) (λ_=>no rfl λ_=>rfl) f g (λ_=>no rfl λ_=>rfl) (λ_=>no rfl λ_=>rfl) (λ_ _=>no rfl λ_=>rfl) (λ_ _=>no rfl λ_=>rfl) (λ_=>no rfl λ_=>rfl) h
theorem hZ (i:Int) (t:Tok):(Value.int i t).isInt i=true:=beq_self_eq_true i
theorem mD (i:Str) (t:Tok):Value.isStrOf i (.str i t)=true:=beq_self_eq_true i
theorem g6h {l:List (AV×AV)} {kvs:List (Int×Value)} {o:Option AV} {i:List Nat} (r:bL T W dQ l kvs):dget (.str i) l=some o->kvs=[]/\none=o:=
 r.ind (key:=dQ) (M:=λl kvs=>dget (.str i) l=some o->kvs=[]/\none=o) (λh=>⟨rfl,h3l h⟩) λ_ _ _ h=>nn h
theorem h2e {l:List (AV×AV)} {kvs:List (Str×Value)} {o:Option AV} {i:Int} (r:bL T W pJ l kvs):dget (.int i) l=some o->kvs=[]/\none=o:=
 r.ind (key:=pJ) (M:=λl kvs=>dget (.int i) l=some o->kvs=[]/\none=o) (λh=>⟨rfl,h3l h⟩) λ_ _ _ h=>nn h
theorem wV {a:Addr} {l:List (AV×AV)} {o:Option AV} (c:bT T w W s.heap a (.dict l)) (hx:Rep T W x b) (h:dget x l=some o):Ask T w W s a o b:=
 c.2.rec
  (λkvs d r=>b0k (M:=λx=>Rep T W x b->Ask T w W s a o b) h (λi h hx=>hx.int_el (λ{t}=>.mk (intKind pw w) i kvs (hZ i t) d (c8h r h)))
   (λi h hx=>hx.str_el (M:=λi b=>dget (.str i) l=some o->Ask T w W s a o b) (λ{x t} _ h=>have k:=g6h r h;.mk (PySem.strKind pw w) x [] (mD x t) (oH (k.1▸d)) (k.2▸rfl)) h) hx)
  (λkvs d r=>b0k (M:=λx=>Rep T W x b->Ask T w W s a o b) h (λi h hx=>hx.int_el (λ{t}=>have k:=h2e r h;.mk (intKind pw w) i [] (hZ i t) (oH (k.1▸d)) (k.2▸rfl)))
   (λi h hx=>hx.str_el (M:=λi b=>dget (.str i) l=some o->Ask T w W s a o b) (λ{x t} _ h=>.mk (PySem.strKind pw w) x kvs (mD x t) d (c8j r h)) h) hx)
  λn e z=>b0k (M:=λx=>Rep T W x b->Ask T w W s a o b) h (λi h hx=>hx.int_el (λ{t}=>.mk (intKind pw w) i [] (hZ i t) (qS z) (h3l (e▸h:dget (.int i) []=some o)▸rfl)))
   (λi h hx=>hx.str_el (M:=λi b=>dget (.str i) l=some o->Ask T w W s a o b) (λ{x t} _ h=>.mk (PySem.strKind pw w) x [] (mD x t) (qS z) (h3l (e▸h:dget (.str x.cps.toList) []=some o)▸rfl)) h) hx
noncomputable def opN (no:Bool):CmpOp:=Bool.casesOn no .In .NotIn
theorem c2b {o:Option Bool} {t:Bool} {P:Prop} (h:(match o with|some t=>some (!t)| .none=>.none)=some t) (f:∀u,o=some u->(!u)=t->P):P:=by
 cases o with
 |none=>exact nn h
 |some u=>exact f u rfl (h3l h)
theorem e5o {r:Nat} {u:Bool} {P:Prop} (h:inD st x r=some u) (f:∀l o,aQ st r=some (.dict l)->dget x l=some o->o.isSome=u->P):P:=by
 unfold inD at h;cases hc:aQ st r with
 |none=>rw [hc]at h;exact nn h
 |some c=>
  rw [hc]at h
  revert h
  refine @Cell.casesOn (λc=>aQ st r=some c->(match some c with|some (.dict l)=>(match dget x l with|some o=>some o.isSome| .none=>.none)|_=>.none)=some u->P) c (λ_ _ h=>nn h) (λ_ _ h=>nn h) (λl hc h=> ?_) hc
  have h:(match dget x l with|some o=>some o.isSome| .none=>.none)=some u:=h
  cases hd:dget x l with
  |none=>rw [hd]at h;exact nn h
  |some o=>rw [hd]at h;exact f l o hc hd (h3l h)
section
variable {Q:Value->Shared->Prop} {t:Bool} (q:∀{s'},cO s s'->Q (.bool t) s')
include q
theorem d7f {a:Addr} {l:List (AV×AV)} {o:Option AV} (c:bT T w W s.heap a (.dict l)) (hx:Rep T W x b) (hd:dget x l=some o) (no:Bool) (e:(no ^^ o.isSome)=t):
  wpAny (model pw w) A (compareOp (opN no) b (.ref a)) Q No s:=by
 have ns:(a==sysModules)=false:=beq_eq_false_iff_ne.mpr c.1;obtain⟨kind,k,kvs,hk,d,r⟩:=wV c hx hd;have z:(valueAt kvs k).isSome=o.isSome:=r.some (M:=λo o'=>o'.isSome=o.isSome) (λ_=>rfl) rfl
 rw [<-z]at e;cases no with
 |false=>exact wpAny_in_of hk ns d.mapOf ((Bool.false_xor _).symm.trans e▸q .toks)
 |true=>exact wpAny_notIn_of hk ns d.mapOf ((Bool.true_xor _).symm.trans e▸q .toks)
theorem c2h {r:Nat} (B:Base T w G W st s.heap) (hx:Rep T W x a) (hy:Rep T W (.ref r) b) (no:Bool) {u:Bool} (h:inD st x r=some u) (e:(no ^^ u)=t):
  wpAny (model pw w) A (compareOp (opN no) a b) Q No s:=
 hy.ref_el λhm=>e5o h λl o hc hd eo=>d7f q (B.mu_at hm hc) hx hd no (eo.symm▸e)
omit q in
theorem e8a {l:List Nat} {M:AV->Prop} (h:inS x l=some t) (f:∀c,eS c l=t->M (.str [c])):M x:=
 @AV.casesOn (λx=>inS x l=some t->M x) x nn (λ_=>nn) (λ_=>nn) (λs=>List.casesOn (motive:=λs=>inS (.str s) l=some t->M (.str s)) s nn λc r=>List.casesOn (motive:=λr=>inS (.str (c::r)) l=some t->M (.str (c::r))) r (λh=>f c (h3l h)) λ_ _=>nn) (λ_=>nn) (λ_=>nn) (λ_ _=>nn) (λ_ _=>nn) (λ_=>nn) h
omit q in
theorem e1p {M:AV->Prop} (h:inv st x y=some t) (f:∀l,qN x l=some t->M (.tup l)) (g:∀l,inS x l=some t->M (.str l)) (k:∀r,inD st x r=some t->M (.ref r)):M y:=
 @AV.casesOn (λy=>inv st x y=some t->M y) y nn (λ_=>nn) (λ_=>nn) g f (λ_=>nn) (λ_ _=>nn) (λ_ _=>nn) k h
theorem e1y (B:Base T w G W st s.heap) (h:inv st x y=some t) (hx:Rep T W x a) (hy:Rep T W y b):wpAny (model pw w) A (compareOp .In a b) Q No s:=
 e1p (M:=λy=>Rep T W y b->wpAny (model pw w) A (compareOp .In a b) Q No s) h
  (λl h hy=>hy.tup_el λ{_ vs _} hz hF hl=>
   have m:=c9n hx hl h
   SeqRoads2.in_tuple (items:=vs.toArray) (veq · a) (λy hy=>m.1 y (List.mem_toArray.mp hy)) (B.froz _ _ hF) (by rw [List.any_toArray,m.2];exact q (.refl _)))
  (λl h hy=>e8a (M:=λx=>Rep T W x a->wpAny (model pw w) A (compareOp .In a b) Q No s) h (λc e hx=>hy.str_el (M:=λl b=>eS c l=t->wpAny (model pw w) A (compareOp .In a b) Q No s) (λ_ e=>by
   obtain⟨z,tz,rfl,hz,-⟩:=hx.str_inv;obtain rfl:z=⟨#[c]⟩:=v6 hz;exact in_str (by rw [StrLaws.found_one,<-a5g,e];exact q (.refl _))) e) hx)
  (λr h hy=>c2h q B hx hy false h (Bool.false_xor _)) hy
omit q in
theorem e2e {M:AV->Prop} (h:a3z st .notin x y=some t) (f:∀r u,inD st x r=some u->(!u)=t->M (.ref r)):M y:=
 @AV.casesOn (λy=>a3z st .notin x y=some t->M y) y nn (λ_=>nn) (λ_=>nn) (λ_=>nn) (λ_=>nn) (λ_=>nn) (λ_ _=>nn) (λ_ _=>nn) (λr h=>c2b h λu e z=>f r u e z) h
theorem e8v (B:Base T w G W st s.heap) {o:Cm} {op:CmpOp} (h:a3z st o x y=some t) (hx:Rep T W x a) (hy:Rep T W y b) (ho:a4b o op=true):wpAny (model pw w) A (compareOp op a b) Q No s:=by
 have k:∀{u},u=t->Q (.bool u) s:=λe=>e▸q (.refl _)
 obtain rfl:=d7v ho;cases o
 ·exact hy.oIS h (λh=>hx.oI h λh=>eq_int (k (h3l h))) λh=>hx.oS h λh=>eq_str (k (a2x.trans (h3l h)))
 ·exact c2b (o:=iJ x y) h λu e z=>hy.oIS e (λh=>hx.oI h λh=>ne_int (k ((h3s (!·) (h3l h)).trans z))) λh=>hx.oS h λh=>ne_str (k ((h3s (!·) (a2x.trans (h3l h))).trans z))
 ·exact hx.oI h λh=>hy.oI h λh=>lt_int (k (h3l h))
 ·exact hx.oI h λh=>hy.oI h λh=>gt_int (k (h3l h))
 ·exact hx.oI h λh=>hy.oI h λh=>ge_int (k (h3l h))
 ·exact e1y q B h hx hy
 ·exact e2e (M:=λy=>Rep T W y b->wpAny (model pw w) A (compareOp .NotIn a b) Q No s) h (λr u e z hy=>c2h q B hx hy true e ((Bool.true_xor _).trans z)) hy
end
end
section
variable {T:Tb} {w:World} {W:Wd} {A:Around} {s:Shared} {G:Gh} {st:aB}
theorem Rep.lst_inv {l:List AV} {v:Value} (h:Rep T W (.lst l) v):∃a vs n,v=.ref a/\vs.length<=sizeLine/\W.F a=some (c5 vs n)/\aL T W l vs:=h.lst_el λz f r=>⟨_,_,_,rfl,z,f,r⟩
theorem Rep.ref_inv {r:Nat} {v:Value} (h:Rep T W (.ref r) v):∃a,v=.ref a/\W.mu r=some a:=h.ref_el λe=>⟨_,rfl,e⟩
theorem Rep.none_inv {v:Value} (h:Rep T W .none v):v=.none:=h
theorem Rep.bool_inv {b:Bool} {v:Value} (h:Rep T W (.bool b) v):v=.bool b:=h
theorem kZ {a:Addr} {vs:List Value} {n:Nat} (h:s.heap.get? a=some (c5 vs n)):s.heap.IsList a vs.toArray:=⟨_,h,rfl,n,rfl⟩
theorem b7l {a:Addr} {vs:List Value} {n:Nat} (h:s.heap.get? a=some (u5 vs n)):IsTup s.heap a vs.toArray:=⟨_,h,rfl,n,rfl⟩
theorem a2d {l:List AV} {vs:List Value} (h:aL T W l vs):(!vs.toArray.isEmpty)=jD l:=h.ind (M:=λl vs=>(!vs.toArray.isEmpty)=jD l) rfl λ_ _ _=>rfl
theorem fit {n:Nat} (z:n<=sizeLine):(n:Int) <2 ^ 63:=Int.lt_of_le_of_lt (Int.ofNat_le.mpr z) (by decide)
theorem e0u {n:Nat} (z:n<=sizeLine):¬(n:Int)≥2 ^ 63:=Int.not_le.mpr (fit z)
section
variable {x:AV} {v:Value} {t:Bool} {Q:Bool->Shared->Prop}
theorem iS (B:Base T w G W st s.heap) (h:x.truthy=some t) (hx:Rep T W x v) (q:∀{s'},cO s s'->Q t s'):wpAny (model pw w) A (truthy v) Q No s:=
 have k:∀{u s'},some u=some t->cO s s'->Q u s':=λe g=>h3l e▸q g
 @AV.casesOn (λx=>x.truthy=some t->Rep T W x v->wpAny (model pw w) A (truthy v) Q No s) x (λh hx=>hx.none_inv▸truthy_none (k h (.refl _))) (λb h hx=>hx.bool_inv▸wpAny_truthy_bool (k h (.refl _)))
  (λi h hx=>hx.int_el (P.truthy_int (k h (.refl _))))
  (λl h hx=>hx.str_el (M:=λl v=>some (jD l)=some t->wpAny (model pw w) A (truthy v) Q No s) (λ{x _} z h=>P.truthy_str (e0u z) (k (Eq.trans (h3s some (by
   show((x.cps.toList.length:Int) !=0)=_
   cases x.cps.toList<;>rfl)) h) .toks)) h)
  (λl h hx=>hx.tup_el λ{_ vs _} z f r=>truthy_tuple (b7l (B.froz _ _ f)) (fit (n:=vs.toArray.size) z) (k ((h3s some (a2d r)).trans h) .toks))
  (λl h hx=>hx.lst_el λ{_ vs _} z f r=>wpAny_truthy_list (kZ (B.froz _ _ f)) (fit (n:=vs.toArray.size) z) (k ((h3s some (a2d r)).trans h) .toks))
  (λ_ _=>nn) (λ_ _=>nn) (λ_=>nn) h hx
end
inductive Items (T:Tb) (W:Wd) (h:Heap) (l:List AV):Value->Prop
 |list {a vs n}:vs.length<=sizeLine->aL T W l vs->h.get? a=some (c5 vs n)->Items T W h l (.ref a)
 |tup {a vs n}:vs.length<=sizeLine->aL T W l vs->h.get? a=some (u5 vs n)->Items T W h l (.ref a)
theorem a5t (B:Base T w G W st s.heap) {r:Nat} {a:Addr} {l:List AV} (hc:aQ st r=some (.list l)) (hm:W.mu r=some a):Items T W s.heap l (.ref a):=
 (B.mu_at hm hc).rec λ_ _ e z r=>.list z r e
theorem d8e {α:Type} {o:Option Cell} {f:List AV->Option α} {z:α} {P:Prop} (h:(match o with|some (.list l)=>f l|_=>none)=some z) (k:∀l,o=some (.list l)->f l=some z->P):P:=by
 cases o with
 |none=>exact nn h
 |some c=>exact @Cell.casesOn (λd=>c=d->(match some d with|some (.list l)=>f l|_=>none)=some z->P) c (λl e h=>k l (h3s some e) h) (λ_ _=>nn) (λ_ _=>nn) rfl h
theorem c9g (B:Base T w G W st s.heap) {x:AV} {v:Value} {l:List AV} (h:pT st x=some l) (hx:Rep T W x v):Items T W s.heap l v:=
 @AV.casesOn (λx=>pT st x=some l->Rep T W x v->Items T W s.heap l v) x nn (λ_=>nn) (λ_=>nn) (λ_=>nn) (λl' h hx=>hx.tup_el λz f r=>.tup z (h3l h▸r) (B.froz _ _ f)) (λl' h hx=>hx.lst_el λz f r=>.list z (h3l h▸r) (B.froz _ _ f))
  (λ_ _=>nn) (λ_ _=>nn) (λr h hx=>hx.ref_el λhm=>d8e h λl' hc e=>h3l e▸a5t B hc hm) h hx
section
variable {x:AV} {v u:Value} {Q:Value->Shared->Prop}
theorem c3x {l:List AV} {n:Nat} (I:Items T W s.heap l v) (e:l.length=n) (q:∀{t s'},cO s s'->Q (.int n t) s'):wpAny (model pw w) A (call (.builtin "len") [v]) Q No s:=
 have k:∀{m:Nat} {t s'},m=n->cO s s'->Q (.int m t) s':=λe g=>e▸q g
 I.rec (λ{_ vs _} z r h=>len_list (kZ h) (fit (n:=vs.toArray.size) z) (k (r.length.symm.trans e) .toks)) λ{_ vs _} z r h=>PyProof.Rows.len_tuple (b7l h) (fit (n:=vs.toArray.size) z) (k (r.length.symm.trans e) .toks)
theorem d9y (B:Base T w G W st s.heap) {n:Nat} (h:b9f st x=some n) (hx:Rep T W x v) (q:∀{t s'},cO s s'->Q (.int n t) s'):wpAny (model pw w) A (call (.builtin "len") [v]) Q No s:=by
 have it:∀{o:Option (List AV)},pT st x=o->(match o with|some l=>some l.length|none=>none)=some n->wpAny (model pw w) A (call (.builtin "len") [v]) Q No s:=λ{o} e h=>
  Option.casesOn (motive:=λo=>pT st x=o->(match o with|some l=>some l.length|none=>none)=some n->wpAny (model pw w) A (call (.builtin "len") [v]) Q No s) o (λ_=>nn) (λl e h=>c3x (c9g B e hx) (h3l h) q) e h
 cases x with
 |str l=>
  obtain⟨y,t,rfl,rfl,z⟩:=hx.str_inv;cases h;exact len_str (e0u z) (q .toks)
 |_=>exact it rfl h
theorem qJ {α:Type}:∀(l:List α) (n:Nat),aD l n=l[n]?:=λl=>by
 induction l with
 |nil=>exact λ_=>List.getElem?_nil.symm
 |cons x l ih=>exact λn=>Nat.casesOn (motive:=λn=>aD (x::l) n=(x::l)[n]?) n rfl ih
inductive IdxOk (n:Nat):Int->Nat->Prop
 |pos {m:Nat}:m<n->IdxOk n (.ofNat m) m
 |neg {m:Nat}:m<n->IdxOk n (.negSucc m) (n - 1 - m)
theorem c2k {α:Type} {l:List α} {i:Int} {x:α} (h:at? l i=some x):∃k,aD l k=some x/\IdxOk l.length i k:=by
 cases i with
 |ofNat m=>exact⟨m,h,.pos (pN h)⟩
 |negSucc m=>
  have hl:m<l.length:=List.length_reverse (as:=l)▸pN (l:=l.reverse) h;refine⟨_,?_,.neg hl⟩;rw [qJ,<-List.getElem?_reverse hl,<-qJ];exact h
theorem d5x (m d:Nat):Int.negSucc m+((m+d+1:Nat):Int)=d:=by omega
section
variable {n k:Nat} {i:Int} (z:n<=sizeLine) (h:IdxOk n i k)
include h
theorem IdxOk.seq:seqIndex? i n=some k:=by
 cases h with
 |pos h=>exact StrLaws.seqIndex_nonneg (Int.natCast_nonneg _) (Int.ofNat_lt.mpr h)
 | @neg m h=>
  obtain⟨d,rfl⟩:=Nat.exists_eq_add_of_lt h;have e:Int.negSucc m+((m+d+1:Nat):Int)=d:=d5x m d;rw [Nat.add_sub_cancel,Nat.add_sub_cancel_left];exact(StrLaws.seqIndex_neg (Int.negSucc_lt_zero _) (Int.neg_le_neg (Int.ofNat_le.mpr (h3r (h3x m d))))).trans (h3s (λi:Int=>some i.toNat) e)
include z
theorem IdxOk.hi:i<2 ^ 63:=h.rec (λh=>Int.lt_of_lt_of_le (Int.ofNat_lt.mpr (h4m h z)) (by decide)) λ_=>Int.lt_trans (Int.negSucc_lt_zero _) (by decide)
theorem IdxOk.lo: -(2 ^ 63)<=i:=h.rec (λ_=>Int.le_trans (b:=0) (by decide) (Int.natCast_nonneg _)) λ{m} h=>Int.le_trans (b:= -(m+1:Nat)) (Int.neg_le_neg (Int.ofNat_le.mpr (h3j h (h3j z (by decide))))) (Int.le_refl _)
end
def iM (w:World) (A:Around) (v u:Value) (Q:Value->Shared->Prop) (s:Shared):Prop:=(∃T id,s.TypeIs v T/\typeLookup (.type T) "__getitem__"=pure (some (.builtin id)))/\wpAny (model pw w) A (getItem v u) Q No s
section
variable {z i:AV} (q:∀{b s'},Rep T W z b->cO s s'->Q b s')
include q
theorem xM (B:Base T w G W st s.heap) {r:Nat} {a:Addr} (h:a2p st r i=some z) (hm:W.mu r=some a) (hi:Rep T W i u):iM w A (.ref a) u Q s:=by
 unfold a2p at h;cases hc:aQ st r with
 |none=>rw [hc]at h;exact nn h
 |some c=>
  rw [hc]at h;cases c with
  |dict d=>
   have h:(match dget i d with|some (some x)=>some x|_=>none)=some z:=h
   cases hd:dget i d with
   |none=>rw [hd]at h;exact nn h
   |some y=>
    cases y with
    |none=>rw [hd]at h;exact nn h
    |some y=>
     rw [hd]at h;obtain⟨kind,k,kvs,hk,d,r⟩:=wV (B.mu_at hm hc) hi hd;have r:AtR T W y (valueAt kvs k):=r;cases e:valueAt kvs k with
     |none=>rw [e]at r;exact nomatch r
     |some x=>
      rw [e]at r;cases r with|mk r=>exact⟨⟨"dict",_,d.typeIs,slot_dict_getitem.lookup⟩,wpAny_getItem_of hk d.mapOf e (q (h3l h▸r) .toks)⟩
  |_=>exact nn h
theorem a2o {l:List AV} {n:Int} {t:Tok} (I:Items T W s.heap l v) (h:at? l n=some z):iM w A v (.int n t) Q s:=by
 obtain⟨k,hk,ix⟩:=c2k h;cases I with
 | @list a vs _ zl r hh=>
  obtain⟨y,e,ry⟩:=r.nth hk;refine⟨⟨"list",_,⟨_,hh,rfl⟩,slot_list_getitem.lookup⟩,?_⟩;rw [r.length]at ix;have ey:∀{j},j=k->vs.toArray[j]?=some y:=λq=>q▸List.getElem?_toArray.trans e
  have sq:=ix.seq;rcases Int.lt_or_le n 0 with c|c
  ·have b: -(vs.length:Int)<=n:=by cases ix with|pos=>exact absurd c (Int.not_lt.mpr (Int.natCast_nonneg _))|neg hm=>omega
   exact wpAny_getItem_list_neg (kZ hh) c b (ix.lo zl) (ey (h3l ((StrLaws.seqIndex_neg c b).symm.trans sq))) (q ry (.refl _))
  ·have b:n<vs.length:=by cases ix with|pos hm=>exact Int.ofNat_lt.mpr hm|neg=>exact absurd c (Int.not_le.mpr (Int.negSucc_lt_zero _))
   exact wpAny_getItem_list (kZ hh) c (ix.hi zl) (ey (h3l ((StrLaws.seqIndex_nonneg c b).symm.trans sq))) (q ry (.refl _))
 | @tup a vs _ zl r hh=>
  obtain⟨y,e,ry⟩:=r.nth hk;rw [r.length]at ix;exact⟨⟨"tuple",_,⟨_,hh,rfl⟩,slot_tuple_getitem.lookup⟩,PyProof.Rows.getItem_tuple (b7l hh) (ix.lo zl) (ix.hi zl) ix.seq (List.getElem?_toArray.trans e) (q ry (.refl _))⟩
theorem c7m {y:Str} {n:Int} {t ty:Tok} (zl:y.length<=sizeLine) (h:(match at? y.cps.toList n with|some c=>some (.str [c])|none=>none)=some z):iM w A (.str y ty) (.int n t) Q s:=by
 cases hc:at? y.cps.toList n with
 |none=>rw [hc]at h;exact nn h
 |some c=>
  rw [hc]at h;obtain⟨k,hk,ix⟩:=c2k hc;have e:y.cps[k]?=some c:=Array.getElem?_toList.symm.trans ((qJ y.cps.toList k).symm.trans hk);exact⟨⟨"str",_,typeIs_str _ _ _,F.slot_str_getitem.lookup⟩,P.getItem_str (c:=c) (Bool.or_eq_false_iff.mpr ⟨h3u (Int.not_lt.mpr (ix.lo zl)),h3u (Int.not_le.mpr (ix.hi zl))⟩) (by rw [show seqIndex? n y.length=some k from ix.seq];exact e)
   (q (h3l h▸.str (x:=⟨#[c]⟩) (show 1<=sizeLine by decide)) .toks)⟩
theorem f1z (B:Base T w G W st s.heap) (h:dB st x i=some z) (hx:Rep T W x v) (hi:Rep T W i u):iM w A v u Q s:=
 have no:∀{i:AV} {P:Prop},dB st x i=none->dB st x i=some z->P:=λe h=>nn (e.symm.trans h)
 @AV.casesOn (λi=>dB st x i=some z->Rep T W i u->iM w A v u Q s) i (no rfl) (λ_=>no rfl)
  (λn h hi=>@AV.casesOn (λx=>dB st x (.int n)=some z->Rep T W x v->iM w A v u Q s) x nn (λ_=>nn) (λ_=>nn) (λl h hx=>hi.int_el (hx.str_el (M:=λl v=>dB st (.str l) (.int n)=some z->iM w A v (.int n _) Q s) (λzl h=>c7m q zl h) h))
   (λl h hx=>hx.tup_el λzl f r=>hi.int_el (a2o q (.tup zl r (B.froz _ _ f)) h)) (λl h hx=>hx.lst_el λzl f r=>hi.int_el (a2o q (.list zl r (B.froz _ _ f)) h)) (λ_ _=>nn) (λ_ _=>nn)
   (λr h hx=>hx.ref_el λhm=>by
    have h:(match aQ st r with|some (.list l)=>at? l n|_=>a2p st r (.int n))=some z:=h
    cases hc:aQ st r with
    |none=>rw [hc]at h;exact xM q B h hm hi
    |some c=>
     rw [hc]at h;cases c with
     |list l=>exact hi.int_el (a2o q (a5t B hc hm) h)
     |_=>exact xM q B h hm hi) h hx)
  (λn h hi=>@AV.casesOn (λx=>dB st x (.str n)=some z->Rep T W x v->iM w A v u Q s) x nn (λ_=>nn) (λ_=>nn) (λ_=>nn) (λ_=>nn) (λ_=>nn) (λ_ _=>nn) (λ_ _=>nn) (λr h hx=>hx.ref_el λhm=>xM q B h hm hi) h hx)
  (λ_=>no rfl) (λ_=>no rfl) (λ_ _=>no rfl) (λ_ _=>no rfl) (λ_=>no rfl) h hi
end
end
theorem a1m {slice:Expr} {o i:Value} {R:Value->Shared->Prop} {s:Shared} (h:∀ops,wpAny (model pw w) A (operate ops (getItem o i)) R No s):wpAny (model pw w) A (subscripted slice false o i) R No s:=by
 by_cases q:slice.ctorIdx=26
 ·exact PySem.Expr.Slice.elim (motive_1:=λx=>wpAny (model pw w) A (subscripted x false o i) R No s) slice q λ_ _ st _=>by cases st<;>exact h _
 ·have e:subscripted slice false o i=operate [o,i] (getItem o i):=by cases slice<;>first|rfl|exact absurd rfl q
  exact e▸h _
theorem xV {env:Env} {value slice:Expr} {pos:Pos} {Q:Value->Shared->Prop} (h:wpAny (model pw w) A (eval value env) (λo s₁=>wpAny (model pw w) A (eval slice env) (λi s₂=>iM w A o i Q s₂) No s₁) No s):
  wpAny (model pw w) A (eval (.Subscript value slice pos) env) Q No s:=
 Subscript_ (h4u h (λo s₁ h₁=>h4u h₁ (λi s₂ h₂=>by
  obtain⟨⟨T',id,hT,hl⟩,h₂⟩:=h₂;refine h4s ?_;rw [getitemInPython_of_ne hT.not_modules];have fin:wpAny (model pw w) A (subscripted slice false o i) (λr s₃=>wpAny (model pw w) A (letTemporaryGo value o r>>=λ_=>pure r) Q No s₃) No s₂:=
   a1m λops=>wpAny_operating (h4u h₂ (λr s₃ h₃=>h4s (wpAny_letTemporaryGo (h4t h₃))) λ_ _ e=>e)
  refine h4s (wpAny_specialOf hT hl ?_)
  first
   |exact h4t (h4s fin)
   |exact h4s (h4t (h4s fin))
   |exact h4s fin) λ_ _ e=>e) λ_ _ e=>e)
inductive PartOk (d k:Nat):Value->Option (Int×Tok)->Prop
 |none:d=k->PartOk d k .none none
 |int {t:Tok}:PartOk d k (.int (.ofNat k) t) (some (.ofNat k,t))
theorem zC {v:AV} {d k:Nat} {x:Value} (h:uQ v d=some k) (hx:Rep T W v x):∃p,PartOk d k x p:=
 @AV.casesOn (λv=>uQ v d=some k->Rep T W v x->∃p,PartOk d k x p) v (λh hx=>hx.none_inv▸⟨_,.none (h3l h)⟩) (λ_=>nn)
  (λi h hx=>Int.casesOn (motive:=λi=>uQ (.int i) d=some k->Rep T W (.int i) x->∃p,PartOk d k x p) i (λn h hx=>hx.int_el (h3l h▸⟨_,.int⟩)) (λ_=>nn) h hx)
  (λ_=>nn) (λ_=>nn) (λ_=>nn) (λ_ _=>nn) (λ_ _=>nn) (λ_=>nn) h hx
theorem PartOk.val {d k:Nat} {v:Value} {p:Option (Int×Tok)} (h:PartOk d k v p):v=partValue p:=h.rec (λ_=>rfl) rfl
theorem PartOk.isp {d k:Nat} {v:Value} {p:Option (Int×Tok)} (h:PartOk d k v p):IsPart v (p.map (·.1)):=h.rec (λ_=>.none) (.int _ _)
theorem PartOk.at {d k n:Nat} {v:Value} {p:Option (Int×Tok)} (h:PartOk d k v p) (hd:min d n=d):(p.map (·.1)).elim d (clipAt n)=min k n:=h.rec (λe=>hd.symm.trans (h3s (min · n) e)) (clipAt_nat n k)
theorem a2g {α:Type} (l:List α) (i j:Nat):(l.drop (min i l.length)).take (min j l.length - min i l.length)=dR l i j:=by
 show _=(l.take j).drop i
 rw [List.drop_take];rcases Nat.le_total i l.length with p|p
 ·rw [Nat.min_eq_left p];rcases Nat.le_total j l.length with q|q
  ·rw [Nat.min_eq_left q]
  ·rw [Nat.min_eq_right q,List.take_of_length_le (h3y List.length_drop),List.take_of_length_le (h3j (h3y List.length_drop) (Nat.sub_le_sub_right q i))]
 ·rw [Nat.min_eq_right p,List.drop_of_length_le (h3k _),List.drop_of_length_le p,List.take_nil,List.take_nil]
theorem c3v (lo hi:Option Int) (n:Nat):Builtin.Str.strSliceIndices lo hi 1 n=(List.range (hi.elim n (clipAt n) - lo.elim 0 (clipAt n))).map (lo.elim 0 (clipAt n)+ ·):=by
 rw [<-sliceRange_one];have e:Builtin.Str.strSliceIndices lo hi 1 n=sliceRange (sliceBounds lo hi none n).1 (sliceBounds lo hi none n).2.1 (sliceBounds lo hi none n).2.2:=by cases lo<;>cases hi<;>rfl
 rw [e,sliceBounds_plain]
theorem b0m {n:Nat}:min 0 n=0:=Nat.min_eq_left (h3w n)
theorem d9g {x:AV} {v a b:Value} {l:List Nat} {lo hi:AV} {i j:Nat} (hx:Rep T W (.str l) v) (h1:uQ lo 0=some i) (h2:uQ hi l.length=some j) (ha:Rep T W lo a) (hb:Rep T W hi b) {Q:Value->Shared->Prop} (q:∀{r s'},Rep T W (.str (dR l i j)) r->cO s s'->Q r s'):
  iM w A v (.ref s.heap.objs.size) Q {s with heap:=s.heap.push {cls:=.type "slice",data:=.fields #[a,b,.none]}}:=by
 obtain⟨y,t,rfl,rfl,z⟩:=hx.str_inv;have G0:cO s {s with heap:=s.heap.push {cls:=.type "slice",data:=.fields #[a,b,.none]}}:=⟨rfl,rfl,λ_ _ e=>h4v _ e⟩
 obtain⟨p1,k1⟩:=zC h1 ha;obtain⟨p2,k2⟩:=zC h2 hb;obtain rfl:=k1.val;obtain rfl:=k2.val
 have e0:slicePicked y p1 p2 none=(List.range (min j y.length - min i y.length)).map (min i y.length+ ·):=by
  rw [<-k1.at (n:=y.length) b0m,<-k2.at (n:=y.length) (Nat.min_self _)];exact c3v _ _ _
 have e:(⟨((slicePicked y p1 p2 none).filterMap (y.cps[·]?)).toArray⟩:Str).cps.toList=dR y.cps.toList i j:=by
  rw [e0];exact(pick_run _ _ _).trans (a2g _ _ _)
 have lc:(dR y.cps.toList i j).length<=y.length:=h3j (h3y List.length_drop) (h3j (Nat.sub_le _ _) (h3j (h3y List.length_take) (Nat.min_le_right _ _)));refine⟨⟨"str",_,typeIs_str _ _ _,F.slot_str_getitem.lookup⟩,wpAny_getItem_str_slice (l:=p1) (u:=p2) (st:=none) ⟨_,Heap.get?_push_size _ rfl,rfl,rfl⟩ rfl ?_⟩;unfold sliceMade;split
 ·rename_i q';refine q ?_ G0;have q':(slicePicked y p1 p2 none).length=y.length:=beq_iff_eq.mp q';rw [e0,h4j,List.length_range]at q'
  have w:dR y.cps.toList i j=y.cps.toList:=by
   rw [<-a2g];have c:min j y.length=y.length:=Nat.le_antisymm (Nat.min_le_right _ _) (h3j (h3y q'.symm) (Nat.sub_le _ _));have c0:min i y.length=0\/y.length=0:=(Nat.eq_zero_or_pos (min i y.length)).imp id λh=>(Nat.eq_zero_or_pos y.length).elim id λh'=>absurd ((h3s (· - min i y.length) c).symm.trans q') (Nat.ne_of_lt (Nat.sub_lt h' h))
   show(y.cps.toList.drop (min i y.length)).take (min j y.length - min i y.length)=_
   rw [q',List.take_of_length_le (l:=y.cps.toList.drop (min i y.length)) (i:=y.length) (h3j (h3y List.length_drop) (Nat.sub_le _ _))];rcases c0 with c0|c0
   ·rw [c0];rfl
   ·rw [List.eq_nil_of_length_eq_zero c0,List.drop_nil]
  rw [w];exact .str z
 ·have hz:=h3j (h3y (h3s List.length e)) (h3j lc z);exact⟨hz,q (e▸Rep.str (T:=T) (W:=W) (t:=s.toks) hz) (G0.trans .toks)⟩
theorem c1q {vs:List Value} {lo hi:AV} {a b:Value} {i j:Nat} (h1:uQ lo 0=some i) (h2:uQ hi vs.length=some j) (ha:Rep T W lo a) (hb:Rep T W hi b):
  ∃p q,IsPart a p/\IsPart b q/\(slicePick vs.toArray p q none).toList=dR vs i j:=by
 obtain⟨p,hp⟩:=zC h1 ha;obtain⟨q,hq⟩:=zC h2 hb;refine⟨_,_,hp.isp,hq.isp,?_⟩;rw [slicePick_plain];show(vs.drop ((p.map (·.1)).elim 0 (clipAt vs.length))).take ((q.map (·.1)).elim vs.length (clipAt vs.length) - (p.map (·.1)).elim 0 (clipAt vs.length))=_
 rw [hp.at b0m,hq.at (Nat.min_self _)];exact a2g _ _ _
theorem aL.cutv {l:List AV} {vs:List Value} (r:aL T W l vs) (i j:Nat):aL T W (Mx.dR l i j) (Mx.dR vs i j):=(r.take j).drop' i
end
section
variable {T:Tb} {w:World} {W:Wd} {A:Around} {s:Shared} {G:Gh} {st:aB}
theorem b8e {sep:List Nat} {v:AV} {l:List AV} {t:List Nat} (h:dL sep (v::l)=some t) {M:AV->Prop} (f:∀s,(l=[]->s=t)->(∀u r,l=u::r->∃q,dL sep l=some q/\s++sep++q=t)->M (.str s)):M v:=
 d3s h λs h=>f s (λe=>by subst e;exact h3l h) λu r e=>by
  subst e;have h:(match dL sep (u::r)with|some r=>some (s++sep++r)|none=>none)=some t:=h
  cases e:dL sep (u::r)with
  |none=>rw [e]at h;exact nn h
  |some q=>rw [e]at h;exact⟨q,rfl,h3l h⟩
structure Strs (sep t:List Nat) (vs:List Value) (ps:List (Str×Tok)):Prop where
 e:vs=strValues ps
 j:∀x:Str,x.cps.toList=sep->(Str.join x (ps.map (·.1))).cps.toList=t
 l:(ps.map λp=>p.1.length+sep.length).sum<=t.length+sep.length
theorem d6l {sep:List Nat} {l:List AV} {vs:List Value} {t:List Nat} (h:dL sep l=some t) (r:aL T W l vs):∃ps,Strs sep t vs ps:=
 r.ind (M:=λl vs=>∀t,dL sep l=some t->(l=[]↔vs=[])/\∃ps,Strs sep t vs ps) (λt h=>⟨⟨λ_=>rfl,λ_=>rfl⟩,[],rfl,λx hx=>h3l h,h3w _⟩) (λ{v x l vs} hv _ ih t h=>⟨⟨(λe=>nomatch e),(λe=>nomatch e)⟩,
  b8e (M:=λv=>Rep T W v x->∃ps,Strs sep t (x::vs) ps) h (λs h1 h2 hv=>hv.str_el (M:=λs x=>(l=[]->s=t)->(∀u r,l=u::r->∃q,dL sep l=some q/\s++sep++q=t)->∃ps,Strs sep t (x::vs) ps) (λ{y u} _ h1 h2=>by
   cases l with
   |nil=>
    obtain rfl:=(ih [] rfl).1.mp rfl;obtain rfl:=h1 rfl;exact⟨[(y,u)],rfl,λx hx=>rfl,h3y rfl⟩
   |cons a b=>
    obtain⟨q,e,rfl⟩:=h2 a b rfl;obtain⟨i,ps,k⟩:=ih q e;cases ps with
    |nil=>exact nomatch i.mpr k.e
    |cons p ps=>
     refine⟨(y,u)::p::ps,h3s (Value.str y u:: ·) k.e,λx hx=> ?_,?_⟩
     ·show(y++x++Str.join x ((p::ps).map (·.1))).cps.toList=_
      rw [qM,qM,hx,k.j x hx]
     ·have l:=k.l;show y.length+sep.length+((p::ps).map λp=>p.1.length+sep.length).sum<=_
      rw [h3o,h3o,h4d (y.cps.toList.length+sep.length)];exact h3z l _) h1 h2) hv⟩) t h|>.2
theorem c6t (k:Nat) (ts:List Str):∀n,ts.foldl (λacc p=>acc+p.length+k) n=n+(ts.map λp=>p.length+k).sum:=by
 induction ts with
 |nil=>exact λ_=>rfl
 |cons p ts ih=>intro n;rw [List.foldl_cons,ih,List.map_cons,List.sum_cons,h4d n,h4d n]
theorem d8n {sep:Str} {tk:Tok} {l:List AV} {v:Value} {t:List Nat} (B:Base T w G W st s.heap) (h:dL sep.cps.toList l=some t) (hz:t.length+sep.cps.toList.length<=oY) (hx:Rep T W (.lst l) v) {Q:Value->Shared->Prop} (q:∀{r s'},Rep T W (.str t) r->cO s s'->Q r s'):
  wpAny (model pw w) A (call (.builtin "str.join") [.str sep tk,v]) Q No s:=by
 obtain⟨a,vs,n,rfl,z,f,r⟩:=hx.lst_inv;obtain⟨ps,k⟩:=d6l h r;obtain rfl:=k.e;refine SC.join (kZ (B.froz _ _ f)) rfl ?_ λt' _=>q ?_ .toks
 ·unfold JoinOk;rw [Bool.not_eq_true'];refine h3u (Nat.not_lt.mpr ?_);rw [List.foldl_toArray,c6t,List.map_map,h4c];exact h3j k.l hz
 ·have e:(Txt.join sep (ps.map (·.1))).cps.toList=t:=by
   show(Builtin.Str.glued sep (ps.map (·.1))).cps.toList=t
   rw [StrLaws.glued_eq_join];exact k.j sep rfl
  exact e▸Rep.str (T:=T) (W:=W) (x:=Txt.join sep (ps.map (·.1))) (t:=t') (h3j (h3y (h3s List.length e)) (h3j (h3x _ _) hz))
theorem c0m {v:AV} {l:List AV} {t:Int} (h:oP (v::l)=some t) {M:AV->Prop} (f:∀i q,oP l=some q->i+q=t->M (.int i)):M v:=
 b7r h λi h=>by
  cases e:oP l with
  |none=>rw [e]at h;exact nn h
  |some q=>rw [e]at h;exact f i q e (h3l h)
theorem d4n {l:List AV} {vs:List Value} {t:Int} (h:oP l=some t) (r:aL T W l vs):∃ps:List (Int×Tok),vs=ps.map (λp=>.int p.1 p.2)/\(ps.map (·.1)).sum=t:=
 r.ind (M:=λl vs=>∀t,oP l=some t->∃ps:List (Int×Tok),vs=ps.map (λp=>.int p.1 p.2)/\(ps.map (·.1)).sum=t) (λt h=>⟨[],rfl,h3l h⟩) (λ{v x l vs} hv _ ih t h=>
  c0m (M:=λv=>Rep T W v x->∃ps:List (Int×Tok),x::vs=ps.map (λp=>.int p.1 p.2)/\(ps.map (·.1)).sum=t) h (λi q e z hv=>(ih q e).elim λps k=>hv.int_el λ{u}=>⟨(i,u)::ps,h3s (Value.int i u:: ·) k.1,(h3s (i+ ·) k.2).trans z⟩) hv) t h
theorem e0e {l:List AV} {v:Value} {t:Int} (B:Base T w G W st s.heap) (hA:A.handled=none) (h:oP l=some t) (hx:Rep T W (.lst l) v) {Q:Value->Shared->Prop} (q:∀{r s'},Rep T W (.int t) r->cO s s'->Q r s'):
  wpAny (model pw w) A (call (.builtin "sum") [v]) Q No s:=by
 obtain⟨a,vs,n,rfl,z,f,r⟩:=hx.lst_inv;obtain⟨ps,rfl,hs⟩:=d4n h r;have e:(ps.map λp=>Value.int p.1 p.2).toArray=intItems ps.toArray:=by simp [intItems]
 refine sum_intListG (xs:=ps.toArray) hA (e▸kZ (B.froz _ _ f)) λh' tk t' k=>q ?_ ⟨rfl,rfl,k⟩
 rw [preSum_eq];have:((ps.map (·.1)).take ps.length).sum=t:=by rw [List.take_of_length_le (h3y (h4j _))];exact hs
 exact this▸.int
end
structure ClsOk (K:Frag) (C:Addr):Prop where
 ga:findIn K (.ref C) "__getattribute__"=some (some (.builtin "object.__getattribute__"))
 gt:findIn K (.ref C) "__getattr__"=some none
 sa:findIn K (.ref C) "__setattr__"=some (some (.builtin "object.__setattr__"))
 over:plainOver K C=true
 hasD:(clsIn K C).any (·.hasDict)=true
 makes:makesIn K C=true
structure FnHd (Φ:Fx) (f:Nat) (F:Fn) (fd:FuncData) (body:List Stmt) (vars:List Str) (args:List Arg):Prop where
 lk:∃oc od sl,Φ.K.lookup (Φ.fn f)=some ⟨oc,od,.func fd,sl⟩
 par:∃dfl,fd.params=⟨[],args,none,[],[],none,dfl⟩
 body:fd.body=.stmts body
 clo:fd.closure=[]
 glob:fd.globals=mainGlobals
 blt:fd.builtins=builtinsNs
 code:codeIn Φ.K fd.code fd.qualname=true
 kind:fd.scope.kind=.function
 co:fd.scope.isCoroutine=false
 gen:fd.scope.isGenerator=false
 nd:vars.Nodup
 more:∃more,vars=args.map (·.arg)++more
 np:F.np=args.length
 nv:F.nv=vars.length
 names:∀x∈args,fd.scope.names.lookup x.arg=some .local\/fd.scope.names.lookup x.arg=some .cell
 dflt:if Φ.dflt f=true then(∃p q tk,args.map (·.arg)=[p,q]/\∀(S:Setting) (v:Value),peek Φ.K S (bindArgs fd ⟨[v],[]⟩)=some [(p,v),(q,.str ⟨#[]⟩ tk)]/\∀u,peek Φ.K S (bindArgs fd ⟨[v,u],[]⟩)=some [(p,v),(q,u)])else fd.defaults=.none
def h1y (Φ:Fx) (f:Nat) (F:Fn):Prop:=∃fd body vars args,FnHd Φ f F fd body vars args/\jL Φ ⟨vars,fd.scope⟩ F.body body=true
structure Facts (Φ:Fx) (Tt:Tab) (fn:Nat->Option Fn):Prop where
 fld:∀c a,Tt.fld c a=true->ClsOk Φ.K (Φ.T.cls c)/\findIn Φ.K (.ref (Φ.T.cls c)) (Φ.T.nm a)=some none/\copiedNames.contains (Φ.T.nm a)=false
 meth:∀c m f,Tt.meth c m=some f->ClsOk Φ.K (Φ.T.cls c)/\findIn Φ.K (.ref (Φ.T.cls c)) (Φ.T.nm m)=some (some (.ref (Φ.fn f)))/\Φ.isFn f=true
 inj:∀a b,Φ.T.nm a=Φ.T.nm b->a=b
 fnTy:∀f,Φ.isFn f=true->typeIn Φ.K (.ref (Φ.fn f))=some (.type "function")/\keepIn Φ.K (.ref (Φ.fn f))=true
 made:∀c vs fs,Tt.made c vs=some fs->∀p∈fs,p.2∈vs\/p.2.noRef=true
 plain:∀c,Φ.plain c=true->keepIn Φ.K (.ref (Φ.T.cls c))=true/\makesIn Φ.K (Φ.T.cls c)=true/\findIn Φ.K (.ref (Φ.T.cls c)) "__init__"=some (some (.builtin "object.__init__"))
 frozen:∀c f,Φ.frozen c=some f->keepIn Φ.K (.ref (Φ.T.cls c))=true/\makesIn Φ.K (Φ.T.cls c)=true/\findIn Φ.K (.ref (Φ.T.cls c)) "__init__"=some (some (.ref (Φ.fn f)))/\Φ.isFn f=true
 init:∀c f,Φ.init c f=true->keepIn Φ.K (.ref (Φ.T.cls c))=true/\makesIn Φ.K (Φ.T.cls c)=true/\findIn Φ.K (.ref (Φ.T.cls c)) "__init__"=some (some (.ref (Φ.fn f)))/\Φ.isFn f=true
 fns:∀f F,fn f=some F->h1y Φ f F
 limit:∀h:Heap,Φ.K.In h->h.NoLimit
 gl:∀x v,f7 Φ.gl x=some v->nsIn Φ.K mainGlobals x=some (some v)
 bl:∀x v,f7 Φ.bl x=some v->nsIn Φ.K mainGlobals x=some none/\nsIn Φ.K builtinsNs x=some (some v)
 big:∃a o,Φ.K.lookup a=some o/\sysModules<=a
section
variable {Φ:Fx} {Tt:Tab} {fn:Nat->Option Fn} {w:World} {W:Wd} {A:Around} {s:Shared} {G:Gh} {st:aB}
theorem c3j {a b:Nat} {k:Value} {t:Tok} (H:Facts Φ Tt fn) (hk:k=.str (Φ.T.nm b) t):k.isStr (Φ.T.nm a)=Nat.beq b a:=hk▸by
 show(Φ.T.nm b==Φ.T.nm a)=_
 cases q:Nat.beq b a with
 |true=>exact h4g q▸beq_self_eq_true _
 |false=>exact beq_eq_false_iff_ne.mpr λz=>ff (q.symm.trans (H.inj _ _ z▸Nat.beq_refl b))
inductive FndF (T:Tb) (W:Wd):Option AV->Option DictEntry->Prop
 |none:FndF T W none none
 |some {v:AV} {e:DictEntry}:Rep T W v e.val->FndF T W (some v) (some e)
theorem fnd (H:Facts Φ Tt fn) {a:Nat} {fs:List (Nat×AV)} {es:List DictEntry} (r:bU Φ.T W fs es):FndF Φ.T W (rO fs a) (es.find? (·.key.isStr (Φ.T.nm a))):=
 r.ind (M:=λfs es=>FndF Φ.T W (rO fs a) (es.find? (·.key.isStr (Φ.T.nm a)))) .none λ{b u e t fs es} hk hv _ ih=>by
  rw [List.find?_cons,c3j H hk];show FndF Φ.T W (match Nat.beq b a with|true=>some u|false=>rO fs a) _
  cases Nat.beq b a with
  |true=>exact .some hv
  |false=>exact ih
theorem c0u {T:Tb} {fs:List (Nat×AV)} {es:List DictEntry} (r:bU T W fs es):es.any (·.refKey)=false:=
 r.ind (M:=λ_ es=>es.any (·.refKey)=false) rfl λ{_ _ e _ _ _} hk _ _ ih=>by rw [List.any_cons,ih,Bool.or_false];unfold DictEntry.refKey;rw [hk]
theorem c7q (H:Facts Φ Tt fn) {a:Nat} {v:AV} {fs:List (Nat×AV)} {es:List DictEntry} (r:bU Φ.T W fs es) (h:rO fs a=some v):∃x,getL (Φ.T.nm a) es=some (some x)/\Rep Φ.T W v x:=by
 have k:=fnd H (a:=a) r;unfold getL;rw [h]at k;generalize es.find? (·.key.isStr (Φ.T.nm a))=o at k
 cases k with|some k=>exact⟨_,rfl,k⟩
theorem e9z {a:Nat} {fs:List (Nat×AV)}:kB a fs=true->rO fs a=none:=by
 induction fs with
 |nil=>exact λ_=>rfl
 |cons p fs ih=>
  show(match Nat.beq p.1 a with|true=>false|false=>kB a fs)=true->(match Nat.beq p.1 a with|true=>some p.2|false=>rO fs a)=none
  cases Nat.beq p.1 a with
  |true=>exact λh=>ff h
  |false=>exact ih
theorem c4a (H:Facts Φ Tt fn) {a:Nat} {fs:List (Nat×AV)} {es:List DictEntry} (r:bU Φ.T W fs es) (h:kB a fs=true):getL (Φ.T.nm a) es=some none:=by
 have k:=fnd H (a:=a) r;unfold getL;rw [e9z h]at k;rw [c0u r];generalize es.find? (·.key.isStr (Φ.T.nm a))=o at k
 cases k with|none=>rfl
inductive Flds (Φ:Fx) (W:Wd) (h:Heap) (x:AV) (c:Nat) (fs:List (Nat×AV)):Value->Prop
 |mk {a dx es n}:h.get? a=some (instObj (Φ.T.cls c) dx)->h.get? dx=some (dictOf es n)->bU Φ.T W fs es->(∀r,x=.obj c r->W.mu r=some dx)->Flds Φ W h x c fs (.ref a)
theorem f1k {α:Type} {o:Option Cell} {f:List (Nat×AV)->Option α} {z:α} {P:Prop} (h:(match o with|some (.obj fs)=>f fs|_=>none)=some z) (k:∀fs,o=some (.obj fs)->f fs=some z->P):P:=by
 cases o with
 |none=>exact nn h
 |some c=>exact @Cell.casesOn (λd=>c=d->(match some d with|some (.obj fs)=>f fs|_=>none)=some z->P) c (λ_ _=>nn) (λl e h=>k l (h3s some e) h) (λ_ _=>nn) rfl h
theorem uP (B:Base Φ.T w G W st s.heap) {x:AV} {v:Value} {c:Nat} {fs:List (Nat×AV)} (h1:oL x=some c) (h2:gU st x=some fs) (hx:Rep Φ.T W x v):Flds Φ W s.heap x c fs v:=
 @AV.casesOn (λx=>oL x=some c->gU st x=some fs->Rep Φ.T W x v->Flds Φ W s.heap x c fs v) x nn (λ_=>nn) (λ_=>nn) (λ_=>nn) (λ_=>nn) (λ_=>nn)
  (λc' fs' h1 h2 hx=>InstV.casesOn (motive:=λv _=>Flds Φ W s.heap (.inst c' fs') c fs v) hx λf1 f2 r=>⟨h3l h1▸B.froz _ _ f1,B.froz _ _ f2,h3l h2▸r,λr e=>nomatch e⟩)
  (λc' r h1 h2 hx=>ObjV.casesOn (motive:=λv _=>Flds Φ W s.heap (.obj c' r) c fs v) hx λf1 hm=>f1k (f:=some) h2 λfs' hc e=>(B.mu_at hm hc).rec λes n z rr=>⟨h3l h1▸B.froz _ _ f1,z,h3l e▸rr,λr e=>by cases e;exact hm⟩)
  (λ_=>nn) h1 h2 hx
theorem vD {a dx C:Addr} {es:List DictEntry} {n:Nat} (h1:s.heap.get? a=some (instObj C dx)) (h2:s.heap.get? dx=some (dictOf es n)):InstAt s.heap a (instObj C dx) C (some (dictOf es n)):=
 ⟨h1,rfl,rfl,h2⟩
theorem b5b {st:aB} {x z:AV} {a:Nat} {P:Prop} (h:tD Tt st x a=some z) (f:∀c fs,oL x=some c->gU st x=some fs->Tt.fld c a=true->rO fs a=some z->P):P:=by
 unfold tD at h;cases h1:oL x with
 |none=>rw [h1]at h;exact nn h
 |some c=>
  cases h2:gU st x with
  |none=>rw [h1,h2]at h;exact nn h
  |some fs=>
   rw [h1,h2]at h;cases h3:Tt.fld c a with
   |false=>dsimp only at h;rw [h3]at h;exact nn h
   |true=>dsimp only at h;rw [h3]at h;exact f c fs h1 h2 h3 h
theorem d0j {st:aB} {x:AV} {mm k:Nat} {P:Prop} (h:o6 Tt st x mm=some k) (f:∀c fs,oL x=some c->gU st x=some fs->kB mm fs=true->Tt.meth c mm=some k->P):P:=by
 unfold o6 at h;cases h1:oL x with
 |none=>rw [h1]at h;exact nn h
 |some c=>
  cases h2:gU st x with
  |none=>rw [h1,h2]at h;exact nn h
  |some fs=>
   rw [h1,h2]at h;cases h3:kB mm fs with
   |false=>dsimp only at h;rw [h3]at h;exact nn h
   |true=>dsimp only at h;rw [h3]at h;exact f c fs h1 h2 h3 h
theorem b8x {T:Tb} {y:Value} {v:AV} (r:Rep T W v y):handedIn y=true:=
 @AV.casesOn (λv=>Rep T W v y->handedIn y=true) v (λh=>h.none_inv▸rfl) (λ_ h=>h.bool_inv▸rfl) (λ_ h=>h.int_el rfl) (λ_ h=>h.str_el (M:=λ_ y=>handedIn y=true) λ_=>rfl) (λ_ h=>h.tup_el λ_ _ _=>rfl) (λ_ h=>h.lst_el λ_ _ _=>rfl)
  (λ_ _ h=>InstV.casesOn (motive:=λy _=>handedIn y=true) h λ_ _ _=>rfl) (λ_ _ h=>ObjV.casesOn (motive:=λy _=>handedIn y=true) h λ_ _=>rfl) (λ_ h=>h.ref_el λ_=>rfl) r
theorem b3t (H:Facts Φ Tt fn) (B:Base Φ.T w G W st s.heap) (hK:∀a o,Φ.K.lookup a=some o->W.F a=some o) {x z:AV} {v:Value} {a:Nat} {ex:Bool} (h:tD Tt st x a=some z) (hx:Rep Φ.T W x v) {Q:Value->Shared->Prop} (q:∀{r s'},Rep Φ.T W z r->cO s s'->Q r s'):
  wpAny (model pw w) A (getAttr v (Φ.T.nm a) ex) Q No s:=
 b5b h λc fs h1 h2 hf h=>by
  obtain⟨H1,hn,hcp⟩:=H.fld c a hf;cases uP B h1 h2 hx with|mk e1 e2 r _=> ?_
  obtain⟨y,g,ry⟩:=c7q H r h;obtain⟨cd,hcd,hd⟩:=any_some H1.hasD;refine get_value (λb o e=>B.froz _ _ (hK b o e)) (vD e1 e2) H1.ga ?_ (b8x ry) (q ry .toks)
  unfold findObj;rw [hcd,Option.bind_some,hn,Option.bind_some];dsimp only;rw [Option.bind_some,Option.bind_some];unfold PySem.W.ownOf;rw [if_pos hd];dsimp only;rw [lookIn_dict,g];rfl
theorem c9v {K:Frag} {x C dx:Addr} {R:Result->Shared->Prop} {name:Str} {tk:Tok} {v:Value} {es₀ es:List DictEntry} {n₀ n:Nat} (X:K.In s.heap)
  (I:InstAt s.heap x (instObj C dx) C (some (dictOf es₀ n₀))) (D:s.heap.get? dx=some (dictOf es₀ n₀)) (hp:plainOver K C=true) (ht:takerIn K C name=some none) (hh:(clsIn K C).any (·.hasDict)=true)
  (hr:es₀.any (·.refKey)=false)
  (e:Obj.putName name (PyData.keyHash w.params name) (.str name s.toks) v (dictOf es₀ n₀)=dictOf es n) (hz:es.length<=sizeLine)
  (h:∀h',h'.get? dx=some (dictOf es n)->(∀b o,b≠dx->s.heap.get? b=some o->h'.get? b=some o)->R (.ok (.ret .none)) {s with heap:=h',toks:=s.toks+1}):
  codeAny (model pw w) A (.call (.builtin "object.__setattr__") ⟨[.ref x,.str name tk,v],[]⟩) R s:=by
 refine osa_open X I hp ht λb=> ?_
 obtain⟨cd,hc,hd'⟩:=any_some hh
 have D':(s.heap.update dx (Obj.putName name (PyData.keyHash w.params name) (.str name s.toks) v)).get? dx=some (dictOf es n):=by
  rw [Heap.get?_update_self _ D (by rw [e];rfl),e]
 refine h4s (h4t (h4s (h4s (wpAny_loadPart I.at_ (h4s ((looks_clsIn X hc).here ?_))))));rw [hd'];refine h4t (a:=some dx) (h4s (h4t (h4s ?_)));refine h4s (h4s (wpAny_askSetting (h4t (h4s (wpAny_mkText (h4s (wpAny_loadPart D ?_)))))));have c:(!es₀.toArray.any (·.key.isStr name)&&es₀.toArray.any (·.refKey))=false:=by rw [<-Array.any_toList (as:=es₀.toArray) (p:=DictEntry.refKey)];exact(h3s _ hr).trans (Bool.and_false _)
 show wpAny _ _ (if aRefKeyMayBeTheName name es₀.toArray=true then _ else _) _ _ _
 rw [aRefKeyMayBeTheName_at,c];refine wpAny_updatePart D ?_;exact h4s (wpAny_lookBehind D' (pastItsLine_dict (n:=n) (h4w hz)) (h4t (h _ D' λb o hb q=>(Heap.get?_update_other _ _ (Ne.symm hb)).trans q)))
theorem d1v (H:Facts Φ Tt fn) {a:Nat} {v:AV} {y:Value} {hsh:Int} {t:Tok} (hv:Rep Φ.T W v y) {fs:List (Nat×AV)} {es:List DictEntry} (r:bU Φ.T W fs es):bU Φ.T W (xG fs a v) (putL (Φ.T.nm a) hsh (.str (Φ.T.nm a) t) y es):=
 r.ind (M:=λfs es=>bU Φ.T W (xG fs a v) (putL (Φ.T.nm a) hsh (.str (Φ.T.nm a) t) y es)) (.cons rfl hv .nil) λ{b u e t' fs es} hk hu r ih=>by
  show bU Φ.T W (match Nat.beq b a with|true=>(b,v)::fs|false=>(b,u)::xG fs a v) (if e.key.isStr (Φ.T.nm a)then⟨e.hash,e.key,y⟩::es else e::putL (Φ.T.nm a) hsh (.str (Φ.T.nm a) t) y es)
  rw [c3j H hk];cases Nat.beq b a with
  |true=>exact .cons hk hv r
  |false=>exact .cons hk hu ih
theorem c5h {name:Str} {hsh:Int} {key v:Value} (es:List DictEntry):(putL name hsh key v es).length<=es.length+1:=by
 induction es with
 |nil=>exact h3k _
 |cons e es ih=>
  show(if e.key.isStr name then(⟨e.hash,e.key,v⟩:DictEntry)::es else e::putL name hsh key v es).length<=_
  cases e.key.isStr name with
  |true=>exact h4r _
  |false=>exact h3r ih
theorem bU.length {T:Tb} {fs:List (Nat×AV)} {es:List DictEntry} (r:bU T W fs es):fs.length=es.length:=r.ind (M:=λfs es=>fs.length=es.length) rfl λ_ _ _=>h3s (· +1)
variable {X:Cx} {env:Env} {L:aN} {m:Str->Option Value}
theorem b4b (H:Facts Φ Tt fn) (I:Inv Φ.T w X G env W L st m s) (hK:∀a o,Φ.K.lookup a=some o->W.F a=some o) {c r a:Nat} {fs:List (Nat×AV)} {z:AV} {v u:Value}
  (hf:Tt.fld c a=true) (hc:aQ st r=some (.obj fs)) (hx:Rep Φ.T W (.obj c r) v) (hz:Rep Φ.T W z u) (hl:fs.length<=900) {Q:Unit->Shared->Prop} (q:∀{s'},Inv Φ.T w X G env W L (bW st r (some (.obj (xG fs a z)))) m s'->Q () s'):
  wpAny (model pw w) A (setAttr v (Φ.T.nm a) u) Q No s:=by
 obtain⟨H1,hn,hcp⟩:=H.fld c a hf;cases uP I.base (c:=c) (fs:=fs) rfl (by show(match aQ st r with|some (.obj fs)=>some fs|_=>none)=_;rw [hc]) hx with|mk e1 e2 rr hm=> ?_
 have X:Φ.K.In s.heap:=λb o e=>I.base.froz _ _ (hK b o e)
 exact set_plain X (vD e1 e2) H1.sa (c9v (s:={s with toks:=s.toks+1}) X (vD e1 e2) e2 H1.over (by unfold takerIn;rw [hn];rfl) H1.hasD (c0u rr) (putName_dict _ _ _ _ _ _) (h3j (c5h _) (h3j (h3r (rr.length▸hl)) (by decide)))
  λh' hd k=>q (I.setCell rfl rfl (hm r rfl) k ⟨_,_,hd,d1v H hz rr⟩))
theorem d4v (H:Facts Φ Tt fn) (B:Base Φ.T w G W st s.heap) (hK:∀a o,Φ.K.lookup a=some o->W.F a=some o) {x:AV} {v:Value} {mm f:Nat} {pl:Sem Bool} (h:o6 Tt st x mm=some f) (hx:Rep Φ.T W x v) {Q:Value×List Value->Shared->Prop} (q:Φ.isFn f=true->Q (.ref (Φ.fn f),[v]) s):
  wpAny (model pw w) A (getMethod v (Φ.T.nm mm) pl) Q No s:=
 d0j h λc fs h1 h2 hnf h=>by
  obtain⟨H1,hn,hF⟩:=H.meth c mm f h;cases uP B h1 h2 hx with|mk e1 e2 rr _=> ?_
  exact method_fn (λb o e=>B.froz _ _ (hK b o e)) (vD e1 e2) H1.ga H1.gt hn (H.fnTy f hF).1 (by show(lookIn _ _).map _=_;rw [lookIn_dict,c4a H rr hnf];rfl) (q hF)
end
def pZ (Φ:Fx) (W:Wd) (f:Nat) (vs:List AV) (vals:List Value):Prop:=
 (aL Φ.T W vs vals)\/(Φ.dflt f=true/\∃v x,vs=[v,.str []]/\vals=[x]/\Rep Φ.T W v x)
def a8f (Φ:Fx) (w:World) (R:RT) (D U:Nat):Prop:=
 ∀{f:Nat} {vs:List AV} {st:aB} {P:AV->aB->Prop} {W:Wd} {s:Shared} {vals:List Value} {A:Around} {Q:Result->Shared->Prop},Φ.isFn f=true->A.handled=none->A.depth<=D->A.units<=U->
  s.gens= #[]->Base Φ.T w (Gh.at W s.heap s.os) W st s.heap->(∀a o,Φ.K.lookup a=some o->W.F a=some o)->pZ Φ W f vs vals->R f vs st P->
  (∀{v x W' st' s'},Base Φ.T w (Gh.at W s.heap s.os) W' st' s'.heap->s'.gens= #[]->s'.os=s.os->Rep Φ.T W' v x->P v st'->Q (.ok (.ret x)) s')->
  codeAny (model pw w) A (.call (.ref (Φ.fn f)) ⟨vals,[]⟩) Q s
structure Cfg (Φ:Fx) (Tt:Tab) (fn:Nat->Option Fn) (w:World) (R:RT) (A:Around) (X:Cx) (G:Gh) (env:Env):Prop where
 H:Facts Φ Tt fn
 ok:EnvOk X env
 hand:A.handled=none
 units:A.units<=9700
 known:∀a o,Φ.K.lookup a=some o->G.W.F a=some o
 calls:∃D U,A.depth+1<=D/\A.units+6<=U/\a8f Φ w R D U
abbrev Gh.plus (G:Gh) (a:Addr) (o:Obj):Gh:={G with prot:=λb=>if b=a then some o else G.prot b}
section
variable (Φ:Fx) (Tt:Tab) (w:World) (R:RT) (A:Around) (X:Cx) (G:Gh) (env:Env)
abbrev CE (W:Wd) (m:Str->Option Value) (K:VK) (Q:Value->Shared->Prop):Prop:=∀{W' L' st' x v s'},W.le W'->Inv Φ.T w X G env W' L' st' m s'->Rep Φ.T W' x v->K x L' st'->Q v s'
abbrev CL (n:Nat) (W:Wd) (m:Str->Option Value) (K:LK) (Q:List Value->Shared->Prop):Prop:=∀{W' L' st' xs vs s'},vs.length=n->W.le W'->Inv Φ.T w X G env W' L' st' m s'->aL Φ.T W' xs vs->K xs L' st'->Q vs s'
abbrev CB (W:Wd) (m:Str->Option Value) (K:BK) (Q:Bool->Shared->Prop):Prop:=∀{W' L' st' b s'},W.le W'->Inv Φ.T w X G env W' L' st' m s'->K b L' st'->Q b s'
abbrev CF (W:Wd) (m:Str->Option Value) (K:LK) (Q:Value->Shared->Prop):Prop:=∀{W' L' st' l a vs n s'},W.le W'->Inv Φ.T w X (G.plus a (c5 vs n)) env W' L' st' m s'->G.prot a=none->vs.length<=sizeLine->aL Φ.T W' l vs->K l L' st'->Q (.ref a) s'
def SE (e:E) (ex:Expr):Prop:=∀{W L st m s K Q},Inv Φ.T w X G env W L st m s->aE Tt R e L st K->CE Φ w X G env W m K Q->wpAny (model pw w) A (eval ex env) Q No s
def rZ (es:Es) (l:List Expr):Prop:=∀{W L st m s K pos Q},Inv Φ.T w X G env W L st m s->m9 Tt R es L st K->CL Φ w X G env l.length W m K Q->wpAny (model pw w) A (spliced (backTo pos (starEach l env))) Q No s
def SC (c:C) (ex:Expr):Prop:=∀{W L st m s K Q},Inv Φ.T w X G env W L st m s->aC Tt R c L st K->CB Φ w X G env W m K Q->wpAny (model pw w) A (isTrue ex env (eval ex env)) Q No s
def SF (f:F) (ex:Expr):Prop:=∀{W L st m s K Q},Inv Φ.T w X G env W L st m s->aF Tt R f L st K->CF Φ w X G env W m K Q->wpAny (model pw w) A (eval ex env) Q No s
end
section
variable {Φ:Fx} {Tt:Tab} {fn:Nat->Option Fn} {w:World} {R:RT} {A:Around} {X:Cx} {G:Gh} {env:Env}
variable {W W₁:Wd} {L:aN} {st:aB} {m:Str->Option Value} {s s':Shared}
theorem Inv.gr (I:Inv Φ.T w X G env W L st m s) (g:cO s s'):Inv Φ.T w X G env W L st m s':=I.grow g.1 g.2.1 g.2.2
theorem Cfg.kn (C:Cfg Φ Tt fn w R A X G env) (I:Inv Φ.T w X G env W L st m s):∀a o,Φ.K.lookup a=some o->W.F a=some o:=λa o e=>I.base.ext.1 _ _ (C.known a o e)
theorem Cfg.kin (C:Cfg Φ Tt fn w R A X G env) (I:Inv Φ.T w X G env W L st m s):Φ.K.In s.heap:=λa o e=>I.base.froz _ _ (C.kn I a o e)
theorem Cfg.kind (C:Cfg Φ Tt fn w R A X G env):env.scope.kind=.function:=by rw [C.ok.scope];exact C.ok.kind
theorem Cfg.look (C:Cfg Φ Tt fn w R A X G env) {x:Str} {o:Option NameKind} (h:X.scope.names.lookup x=o):env.scope.names.lookup x=o:=by rw [C.ok.scope];exact h
theorem b7x {x:Str} (h:bD x wQ=false):(x==("__debug__":Str))=false:=by
 refine beq_eq_false_iff_ne.mpr λq=> ?_
 subst q;have:bD ("__debug__":Str) wQ=true:=by decide+kernel
 rw [this]at h;cases h
theorem bV {i:Nat} {k:NameKind} {x:Str} (h:cH X i k x=true):aD X.vars i=some x/\X.scope.names.lookup x=some k/\bD x wQ=false:=
 ⟨a0d (b2 (b2 h).1).1,(u3 _ _).symm.trans (rT (b2 (b2 h).1).2),bn (b2 h).2⟩
theorem oAV {o:Option AV} {f:AV->Prop} {P:Prop} (h:match o with|some b=>f b| .none=>False) (k:∀b,o=some b->f b->P):P:=
 Option.casesOn (motive:=λz=>o=z->(match z with|some b=>f b| .none=>False)->P) o (λ_ h=>h.elim) k rfl h
theorem oB {o:Option Bool} {f:Bool->Prop} {P:Prop} (h:match o with|some b=>f b| .none=>False) (k:∀b,o=some b->f b->P):P:=
 Option.casesOn (motive:=λz=>o=z->(match z with|some b=>f b| .none=>False)->P) o (λ_ h=>h.elim) k rfl h
theorem oN {o:Option Nat} {f:Nat->Prop} {P:Prop} (h:match o with|some b=>f b| .none=>False) (k:∀b,o=some b->f b->P):P:=
 Option.casesOn (motive:=λz=>o=z->(match z with|some b=>f b| .none=>False)->P) o (λ_ h=>h.elim) k rfl h
theorem b8a {o:Option aN} {f:aN->Prop} {P:Prop} (h:match o with|some b=>f b| .none=>False) (k:∀b,o=some b->f b->P):P:=
 Option.casesOn (motive:=λz=>o=z->(match z with|some b=>f b| .none=>False)->P) o (λ_ h=>h.elim) k rfl h
theorem oLs {o:Option (List AV)} {f:(List AV)->Prop} {P:Prop} (h:match o with|some b=>f b| .none=>False) (k:∀b,o=some b->f b->P):P:=
 Option.casesOn (motive:=λz=>o=z->(match z with|some b=>f b| .none=>False)->P) o (λ_ h=>h.elim) k rfl h
theorem oNs {o:Option (List Nat)} {f:(List Nat)->Prop} {P:Prop} (h:match o with|some b=>f b| .none=>False) (k:∀b,o=some b->f b->P):P:=
 Option.casesOn (motive:=λz=>o=z->(match z with|some b=>f b| .none=>False)->P) o (λ_ h=>h.elim) k rfl h
theorem oZ {o:Option Int} {f:Int->Prop} {P:Prop} (h:match o with|some b=>f b| .none=>False) (k:∀b,o=some b->f b->P):P:=
 Option.casesOn (motive:=λz=>o=z->(match z with|some b=>f b| .none=>False)->P) o (λ_ h=>h.elim) k rfl h
theorem oFs {o:Option (List (Nat×AV))} {f:(List (Nat×AV))->Prop} {P:Prop} (h:match o with|some b=>f b| .none=>False) (k:∀b,o=some b->f b->P):P:=
 Option.casesOn (motive:=λz=>o=z->(match z with|some b=>f b| .none=>False)->P) o (λ_ h=>h.elim) k rfl h
theorem oDs {o:Option (List (AV×AV))} {f:(List (AV×AV))->Prop} {P:Prop} (h:match o with|some b=>f b| .none=>False) (k:∀b,o=some b->f b->P):P:=
 Option.casesOn (motive:=λz=>o=z->(match z with|some b=>f b| .none=>False)->P) o (λ_ h=>h.elim) k rfl h
theorem oB2 {o:Option Bool} {a b:Prop} {P:Prop} (h:match o with|some true=>a|some false=>b| .none=>False) (k:o=some true->a->P) (k':o=some false->b->P):P:=
 Option.casesOn (motive:=λz=>o=z->(match z with|some true=>a|some false=>b| .none=>False)->P) o (λ_ h=>h.elim) (λt=>Bool.casesOn (motive:=λt=>o=some t->(match some t with|some true=>a|some false=>b| .none=>False)->P) t k' k) rfl h
theorem f6k {v:AV} {c:Const} {k:Nat} {pos:Pos} (h:zQ v c=true):SE Φ Tt w R A X G env (.lit v) (.Constant c k pos):=λ{_ L st m _ K Q} I h' q=>
 have no:∀{v:AV} {P:Prop},zQ v c=false->zQ v c=true->P:=λe h=>ff (e.symm.trans h)
 @AV.casesOn (λv=>zQ v c=true->K v L st->CE Φ w X G env _ m K Q->wpAny (model pw w) A (eval (.Constant c k pos) env) Q No _) v (λh h' q=>h3t h▸Constant_none (q (.refl _) I .none h')) (λb h h' q=>h3t h▸Constant_bool (q (.refl _) I .bool h'))
  (λi h h' q=>h3t h▸wpAny_Constant_int (q (.refl _) (I.gr .toks) .int h'))
  (λl h h' q=>a3h.el (M:=λc=>wpAny (model pw w) A (eval (.Constant c k pos) env) Q No _) h λ{x} h=>have e:=jN (b2 h).1;Constant_str (q (.refl _) (I.gr .toks) (e▸.str (h3j (e▸h3n (b2 h).2) (by decide))) h'))
  (λ_=>no rfl) (λ_=>no rfl) (λ_ _=>no rfl) (λ_ _=>no rfl) (λ_=>no rfl) h h' q
theorem f5x {v:AV} {i:Int} {k:Nat} {p pos:Pos} (h:d3u v i=true):SE Φ Tt w R A X G env (.lit v) (.UnaryOp .USub (.Constant (.int i) k p) pos):=
 avI.el (M:=λv=>SE Φ Tt w R A X G env (.lit v) (.UnaryOp .USub (.Constant (.int i) k p) pos)) h λ{j} h=>λ{_ _ _ _ _ _ _} I h' q=>UnaryOp_ (wpAny_Constant_int (PyProof.Rows.neg_int (q (.refl _) (I.gr (cO.toks.trans .toks)) (h3t (b2 h).1▸.int) h')))
theorem d0y {K:Frag} {T:Tb} (hK:∀a o,K.lookup a=some o->W.F a=some o) (v:AV):∀{y:Value},b9m K v y=true->Rep T W v y:=
 @AV.rec (λv=>∀{y:Value},b9m K v y=true->Rep T W v y) (λl=>∀r:List Value->Bool,r= @AV.rec_1 (λ_=>Value->Bool) (λ_=>List Value->Bool) (λ_=>Bool) (λ_=>Bool) (λ_=>false) (λ_ _=>false) (λi y=>vI y λj=>decide (i=j)) (λs y=>vS y λx=>nU s x.cps.toList&&Nat.ble s.length 1000)
  (λl r y=>vR y λa=>d3a (K.lookup a) r&&Nat.ble l.length 1000) (λ_ _ _=>false) (λ_ _ _ _=>false) (λ_ _ _=>false) (λ_ _=>false) noL (λ_ _ h r l=>e7 l λx vs=>h x&&r vs) false (λ_ _ _ _=>false) (λ_ _ _=>false) l->∀{vs},r vs=true->aL T W l vs) (λ_=>True) (λ_=>True)
  (λh=>ff h) (λ_ _ h=>ff h) (λi _ h=>vI.el (M:=λy=>Rep T W (.int i) y) h λh=>h3t h▸.int)
  (λs _ h=>vS.el (M:=λy=>Rep T W (.str s) y) h λh=>jN (b2 h).1▸.str (h3j (jN (b2 h).1▸h3n (b2 h).2) (by decide)))
  (λl ih _ h=>vR.el (M:=λy=>Rep T W (.tup l) y) h λ{a} h=>dE.el (b2 h).1 λ{o} ho h1=>(a0w.el (M:=λo=>K.lookup a=some o->Rep T W (.tup l) (.ref a)) h1 λvs n e ho=>have r:=ih _ rfl e;.tup (h3j (r.length▸h3n (b2 h).2) (by decide)) (hK _ _ ho) r) ho)
  (λ_ _ _ h=>ff h) (λ_ _ _ _ h=>ff h) (λ_ _ _ h=>ff h) (λ_ _ h=>ff h) (λ_ e _ h=>noL.el (e▸h)▸.nil) (λv l h ih r e vs k=>by
   subst e;exact e7.el (M:=λvs=>aL T W (v::l) vs) k λ{x r} k=>.cons (h (b2 k).1) (ih _ rfl (b2 k).2)) h3m (λ_ _ _ _=>h3m) (λ_ _ _=>h3m) v
theorem Cfg.glob (C:Cfg Φ Tt fn w R A X G env) {x:Str} (h:(eH (eD X.scope.names x) .globalImplicit&& !bD x wQ)=true):env.kindOf x=some .globalImplicit/\(x==("__debug__":Str))=false:=
 ⟨C.look ((u3 _ _).symm.trans (rT (b2 h).1)),b7x (bn (b2 h).2)⟩
theorem hX (C:Cfg Φ Tt fn w R A X G env) (I:Inv Φ.T w X G env W L st m s) {x:Str} {pos:Pos} {y:Value} {Q:Value->Shared->Prop} (h:dU Φ X x=some y) (q:Q y s):wpAny (model pw w) A (eval (.Name x pos) env) Q No s:=
 have k:=a3o.el h
 Name_function_global C.kind (C.glob k.1).1 (h4s (C.ok.glob▸(looks_nsIn (C.kin I) (C.H.gl _ _ k.2)).here (h4t q))) (C.glob k.1).2
theorem c7s (C:Cfg Φ Tt fn w R A X G env) (I:Inv Φ.T w X G env W L st m s) {x:Str} {pos:Pos} {y:Value} {Q:Value->Shared->Prop} (h:bAt Φ X x=some y) (q:Q y s):wpAny (model pw w) A (eval (.Name x pos) env) Q No s:=
 have k:=a3o.el h;have hb:=C.H.bl _ _ k.2
 Name_function_global C.kind (C.glob k.1).1 (h4s (C.ok.glob▸(looks_nsIn (C.kin I) hb.1).here (h4s (C.ok.blt▸(looks_nsIn (C.kin I) hb.2).here (h4t q))))) (C.glob k.1).2
theorem e5w (C:Cfg Φ Tt fn w R A X G env) {g:Nat} {v:AV} {x:Str} {pos:Pos} {y:Value} (h:dU Φ X x=some y) (hr:b9m Φ.K v y=true):SE Φ Tt w R A X G env (.glob g v) (.Name x pos):=
 λI h' q=>hX C I h (q (.refl _) I (d0y (C.kn I) v hr) h')
theorem a4k (C:Cfg Φ Tt fn w R A X G env) (I:Inv Φ.T w X G env W L st m s) {x:Str} {y:Value} {Q:Value->Shared->Prop} (hk:X.scope.names.lookup x=some .local) (hy:m x=some y) (q:Q y s):
  wpAny (model pw w) A (loadName env x) Q No s:=
 wpAny_loadName_local C.kind (C.look hk) I.ns hy q
theorem kG (C:Cfg Φ Tt fn w R A X G env) (I:Inv Φ.T w X G env W L st m s) {x:Str} {pos:Pos} {y:Value} {Q:Value->Shared->Prop} (hk:X.scope.names.lookup x=some .local) (hd:bD x wQ=false) (hy:m x=some y) (q:Q y s):
  wpAny (model pw w) A (eval (.Name x pos) env) Q No s:=
 wpAny_Name (a4k C I hk hy q) (b7x hd)
theorem d6m {o:Option Slot} {f:AV->Prop} {g:List AV->Prop} {P:Prop} (h:match o with|some (.val v)=>f v|some (.own l)=>g l|_=>False) (k:∀v,o=some (.val v)->f v->P) (k':∀l,o=some (.own l)->g l->P):P:=
 Option.casesOn (motive:=λo'=>o=o'->(match o' with|some (.val v)=>f v|some (.own l)=>g l|_=>False)->P) o (λ_ h=>h.elim) (λs=>@Slot.casesOn (λs=>o=some s->(match some s with|some (.val v)=>f v|some (.own l)=>g l|_=>False)->P) s (λ_ h=>h.elim) k k') rfl h
theorem uG {o:Option Slot} {g:List AV->Prop} {P:Prop} (h:match o with|some (.own l)=>g l|_=>False) (k':∀l,o=some (.own l)->g l->P):P:=
 Option.casesOn (motive:=λo'=>o=o'->(match o' with|some (.own l)=>g l|_=>False)->P) o (λ_ h=>h.elim) (λs=>@Slot.casesOn (λs=>o=some s->(match some s with|some (.own l)=>g l|_=>False)->P) s (λ_ h=>h.elim) (λ_ _ h=>h.elim) k') rfl h
theorem e2j (C:Cfg Φ Tt fn w R A X G env) (I:Inv Φ.T w X G env W L st m s) {i:Nat} {x:Str} {v:AV} {pos:Pos} {Q:Value->Shared->Prop} (hx:aD X.vars i=some x) (hd:bD x wQ=false) (hl:aD L i=some (.val v)) (q:∀{y},Rep Φ.T W v y->Q y s):
  wpAny (model pw w) A (eval (.Name x pos) env) Q No s:=
 (I.slot_val hx hl).rec (λ_ hk e r=>kG C I hk hd e (q r)) λ_ _ _ hk hc hF ho r=>wpAny_Name (wpAny_loadName_cell C.kind (C.look hk) hc ⟨_,I.base.froz _ _ hF,ho⟩ (q r)) (b7x hd)
theorem f5e (C:Cfg Φ Tt fn w R A X G env) {i:Nat} {x:Str} {pos:Pos} (h:d3c X i x=true):SE Φ Tt w R A X G env (.var i) (.Name x pos):=λ{_ L st m _ K Q} I h' q=>
 have hx:=a0d (b2 (b2 h).1).1;have hd:=bn (b2 h).2;have h':e6n i L st K:=h'
 d6m h' (λ_ hl h'=>e2j C I hx hd hl λr=>q (.refl _) I r h') λ_ hl h'=>
  (I.slot_own hx hl).rec λ_ _ _ hk _ _=>I.frzSlot C.ok.nodup hx hl λ_ _ _ e _ le r I'=>kG C I hk hd e (q le I' r h')
theorem d5n (C:Cfg Φ Tt fn w R A X G env) {i k:Nat} {x:Str} {pos:Pos} (h:cH X i .local x=true):SE Φ Tt w R A X G env (.share i k) (.Name x pos):=λ{_ L st m _ K Q} I h' q=>
 have hn:=bV h
 uG h' λ_ hl h'=>oN h' λ_ hr h'=>I.shareSlot C.ok.nodup hn.1 hl (fY hr) λ_ e le r I'=>kG C I hn.2.1 hn.2.2 e (q le I' r h')
theorem a0s {v:Expr} {y:Str} (hs:dG v=true):attributeBase v y env (eval v env)=eval v env:=by
 cases v with
 |Call f l ks p=>cases f<;>first|rfl|(cases l<;>first|rfl|(cases ks<;>first|rfl|exact ff hs))
 |_=>rfl
theorem e4c (C:Cfg Φ Tt fn w R A X G env) {e:E} {a:Nat} {v:Expr} {at':Str} {pos:Pos} (h:SE Φ Tt w R A X G env e v) (hs:dG v=true) (hn:bD (Φ.T.nm a) at'=true):SE Φ Tt w R A X G env (.attr e a) (.Attribute v at' pos):=by
 intro W L st m s K Q I h' q;obtain rfl:=cM hn;have he:eval (.Attribute v (Φ.T.nm a) pos) env=(do
   let o<-eval v env
   standAt pos.atName
   let r<-holding [o] (getAttr o (Φ.T.nm a) true)
   letTemporaryGo v o r
   pure r):=h3s (λz:Sem Value=>do
   let o<-z
   standAt pos.atName
   let r<-holding [o] (getAttr o (Φ.T.nm a) true)
   letTemporaryGo v o r
   pure r) (a0s hs)
 exact Attribute_any_ (h I h' λ{_ _ _ x _ _} le I' r k=>oAV k λz hz k=>b3t C.H I'.base (C.kn I') hz r λr g=>q le (I'.gr g) r k) he
theorem f4i (C:Cfg Φ Tt fn w R A X G env) {o:Op} {op:Operator} {a b:E} {l r:Expr} {pos:Pos} (ha:SE Φ Tt w R A X G env a l) (hb:SE Φ Tt w R A X G env b r) (ho:rI o op=true):SE Φ Tt w R A X G env (.bin o a b) (.BinOp l op r pos):=
 λI h' q=>wpAny_BinOp (ha I h' λle1 I1 r1 k1=>hb I1 k1 λle2 I2 r2 k2=>e7l (λr g k=>q (le1.trans le2) (I2.gr g) r k) k2 (r1.mono le2) r2 ho C.hand)
theorem f7h {e:E} {x:Expr} {pos:Pos} (h:SE Φ Tt w R A X G env e x):SE Φ Tt w R A X G env (.notE e) (.UnaryOp .Not x pos):=
 λI h' q=>UnaryOp_ (h I h' λle1 I1 r1 k1=>oB k1 λ_ hb k1=>not_of (iS I1.base hb r1 λg=>q le1 (I1.gr g) .bool k1))
theorem d4a {a b:E} {x y:Expr} {rest:List Expr} {pos:Pos} (ha:SE Φ Tt w R A X G env a x) (hb:SE Φ Tt w R A X G env b (.BoolOp .And (y::rest) pos)):SE Φ Tt w R A X G env (.andE a b) (.BoolOp .And (x::y::rest) pos):=
 λI h' q=>BoolOp_and (ha I h' λle1 I1 r1 k1=>oB2 k1 (λht k1=>iS I1.base ht r1 λg=>hb (I1.gr g) k1 λle2=>q (le1.trans le2)) λht k1=>iS I1.base ht r1 λg=>q le1 (I1.gr g) r1 k1)
theorem e8s {a b:E} {x y:Expr} {rest:List Expr} {pos:Pos} (ha:SE Φ Tt w R A X G env a x) (hb:SE Φ Tt w R A X G env b (.BoolOp .Or (y::rest) pos)):SE Φ Tt w R A X G env (.orE a b) (.BoolOp .Or (x::y::rest) pos):=
 λI h' q=>BoolOp_or (ha I h' λle1 I1 r1 k1=>oB2 k1 (λht k1=>iS I1.base ht r1 λg=>q le1 (I1.gr g) r1 k1) λht k1=>iS I1.base ht r1 λg=>hb (I1.gr g) k1 λle2=>q (le1.trans le2))
theorem b4f {op:BoolOp} {b:E} {y:Expr} {pos:Pos} (hb:SE Φ Tt w R A X G env b y):SE Φ Tt w R A X G env b (.BoolOp op [y] pos):=λI h q=>BoolOp_one (hb I h q)
theorem a8l {o:Cm} {op:CmpOp} {a b:E} {l r:Expr} {K:VK} {Q:Value->Shared->Prop} (ha:SE Φ Tt w R A X G env a l) (hb:SE Φ Tt w R A X G env b r) (ho:a4b o op=true)
  (I:Inv Φ.T w X G env W L st m s) (h':aE Tt R (.cmp o a b) L st K) (q:∀{W' L' st' t s'},W.le W'->Inv Φ.T w X G env W' L' st' m s'->K (.bool t) L' st'->Q (.bool t) s'):
  wpAny (model pw w) A (eval l env) (λva s1=>wpAny (model pw w) A (eval r env) (λvb s2=>wpAny (model pw w) A (compareOp op va vb) Q No s2) No s1) No s:=
 ha I h' λle1 I1 r1 k1=>hb I1 k1 λle2 I2 r2 k2=>oB k2 λ_ ht k2=>e8v (λg=>q (le1.trans le2) (I2.gr g) k2) I2.base ht (r1.mono le2) r2 ho
theorem f6c {o:Cm} {op:CmpOp} {a b:E} {l r:Expr} {pos:Pos} (ha:SE Φ Tt w R A X G env a l) (hb:SE Φ Tt w R A X G env b r) (ho:a4b o op=true) (hm:behindInMarks op r=false):
  SE Φ Tt w R A X G env (.cmp o a b) (.Compare l [op] [r] pos):=
 λI h' q=>wpAny_Compare1 (a8l ha hb ho I h' λle I1 k=>q le I1 .bool k) hm
theorem f4r {o:Cm} {op:CmpOp} {a b:E} {l r:Expr} {pos:Pos} (ha:SE Φ Tt w R A X G env a l) (hb:SE Φ Tt w R A X G env b r) (ho:a4b o op=true) (hm:behindInMarks op r=false):
  SC Φ Tt w R A X G env (.e (.cmp o a b)) (.Compare l [op] [r] pos):=
 λI h' q=>wpAny_isTrue_Compare1 (a8l (K:=c6u _) ha hb ho I h' λle I1 k=>wpAny_truthy_bool (q le I1 k)) hm
theorem a4w {T:Tb} {x:AV} {v:Value} (r:Rep T W x v):(v==Value.none)=x.isNone:=
 @AV.casesOn (λx=>Rep T W x v->(v==Value.none)=x.isNone) x (λh=>h.none_inv.symm▸beq_self_eq_true Value.none) (λ_ h=>h.bool_inv▸rfl) (λ_ h=>h.int_el rfl) (λ_ h=>h.str_el (M:=λ_ y=>(y==Value.none)=false) λ_=>rfl) (λ_ h=>h.tup_el λ_ _ _=>rfl) (λ_ h=>h.lst_el λ_ _ _=>rfl)
  (λ_ _ h=>InstV.casesOn (motive:=λy _=>(y==Value.none)=false) h λ_ _ _=>rfl) (λ_ _ h=>ObjV.casesOn (motive:=λy _=>(y==Value.none)=false) h λ_ _=>rfl) (λ_ h=>h.ref_el λ_=>rfl) r
theorem b0b {no:Bool} {op:CmpOp} {a:E} {l:Expr} {k:Nat} {p:Pos} {K:VK} {Q:Value->Shared->Prop} (ha:SE Φ Tt w R A X G env a l) (ho:a8g no op=true)
  (I:Inv Φ.T w X G env W L st m s) (h':aE Tt R (.isN no a) L st K) (q:∀{W' L' st' t s'},W.le W'->Inv Φ.T w X G env W' L' st' m s'->K (.bool t) L' st'->Q (.bool t) s'):
  wpAny (model pw w) A (eval l env) (λva s1=>wpAny (model pw w) A (eval (.Constant .none k p) env) (λvb s2=>wpAny (model pw w) A (compareOp op va vb) Q No s2) No s1) No s:=
 ha I h' λle1 I1 r1 k1=>Constant_none (h3t ho▸by
  cases no with
  |false=>exact is_none (a4w r1▸q le1 I1 k1)
  |true=>exact isNot_none (a4w r1▸q le1 I1 k1))
theorem b3g {no:Bool} {op:CmpOp} {k:Nat} {p:Pos} (ho:a8g no op=true):behindInMarks op (.Constant .none k p)=false:=h3t ho▸by cases no<;>rfl
theorem f7o {no:Bool} {op:CmpOp} {a:E} {l:Expr} {k:Nat} {p pos:Pos} (ha:SE Φ Tt w R A X G env a l) (ho:a8g no op=true):SE Φ Tt w R A X G env (.isN no a) (.Compare l [op] [.Constant .none k p] pos):=
 λI h' q=>wpAny_Compare1 (b0b ha ho I h' λle I1 k=>q le I1 .bool k) (b3g ho)
theorem f4t {no:Bool} {op:CmpOp} {a:E} {l:Expr} {k:Nat} {p pos:Pos} (ha:SE Φ Tt w R A X G env a l) (ho:a8g no op=true):SC Φ Tt w R A X G env (.e (.isN no a)) (.Compare l [op] [.Constant .none k p] pos):=
 λI h' q=>wpAny_isTrue_Compare1 (b0b (K:=c6u _) ha ho I h' λle I1 k=>wpAny_truthy_bool (q le I1 k)) (b3g ho)
theorem d3z {M:Bool->Prop} (t:Bool) (a:M true) (b:M false):M t:=Bool.casesOn (motive:=M) t b a
theorem f8h {c:Mx.C} {a b:E} {t x y:Expr} {pos:Pos} (hc:SC Φ Tt w R A X G env c t) (ha:SE Φ Tt w R A X G env a x) (hb:SE Φ Tt w R A X G env b y):SE Φ Tt w R A X G env (.ife c a b) (.IfExp t x y pos):=
 λI h' q=>IfExp_ (hc I h' λ{_ _ _ b _} le1 I1=>match b with
  |true=>λk1=>ha I1 k1 λle2=>q (le1.trans le2)
  |false=>λk1=>hb I1 k1 λle2=>q (le1.trans le2))
theorem b7a {x:Expr} (hp:uC x=true):isTrue x env (eval x env)=(do let v<-eval x env;standAt x.pos;holding [v] (truthy v)):=by
 cases x<;>first|exact ff hp|rfl|skip
 rename_i op x pos;cases op<;>first|exact ff hp|rfl
theorem c_e {e:E} {x:Expr} (h:SE Φ Tt w R A X G env e x) (hp:uC x=true):SC Φ Tt w R A X G env (.e e) x:=
 λI h' q=>isTrue_plain (h I h' λle1 I1 r1 k1=>oB k1 λ_ hb k1=>iS I1.base hb r1 λg=>q le1 (I1.gr g) k1) (b7a hp)
theorem f6l (C:Cfg Φ Tt fn w R A X G env) {i:Nat} {x:Str} {pos:Pos} (h:cH X i .local x=true):SC Φ Tt w R A X G env (.own i) (.Name x pos):=λ{_ L st m _ K Q} I h' q=>
 have hn:=bV h
 uG h' λ_ hl h'=>(I.slot_own hn.1 hl).rec λ_ vs _ _ e B=>isTrue_plain (kG C I hn.2.1 hn.2.2 e (wpAny_truthy_list (kZ B.o) (fit (n:=vs.toArray.size) B.z) (a2d B.r▸q (.refl _) (I.gr .toks) h'))) rfl
theorem f4z {c:Mx.C} {x:Expr} {pos:Pos} (h:SC Φ Tt w R A X G env c x):SC Φ Tt w R A X G env (.not c) (.UnaryOp .Not x pos):=
 λI h' q=>isTrue_not (h I h' q)
theorem d3b {a b:Mx.C} {x y:Expr} {rest:List Expr} {pos:Pos} (ha:SC Φ Tt w R A X G env a x) (hb:SC Φ Tt w R A X G env b (.BoolOp .And (y::rest) pos)):SC Φ Tt w R A X G env (.and a b) (.BoolOp .And (x::y::rest) pos):=
 λI h' q=>isTrue_and (ha I h' λ{_ _ _ c _} le1 I1=>match c with
  |true=>λk1=>hb I1 k1 λle2=>q (le1.trans le2)
  |false=>q le1 I1)
theorem e5c {a b:Mx.C} {x y:Expr} {rest:List Expr} {pos:Pos} (ha:SC Φ Tt w R A X G env a x) (hb:SC Φ Tt w R A X G env b (.BoolOp .Or (y::rest) pos)):SC Φ Tt w R A X G env (.or a b) (.BoolOp .Or (x::y::rest) pos):=
 λI h' q=>isTrue_or (ha I h' λ{_ _ _ c _} le1 I1=>match c with
  |true=>q le1 I1
  |false=>λk1=>hb I1 k1 λle2=>q (le1.trans le2))
theorem f2x {b:Mx.C} {y:Expr} {pos:Pos} (hb:SC Φ Tt w R A X G env b y):SC Φ Tt w R A X G env b (.BoolOp .And [y] pos):=
 λI h' q=>isTrue_and (hb I h' λ{_ _ _ c _} le1 I1=>match c with
  |true=>λk1=>isTrue_and_nil (q le1 I1 k1)
  |false=>q le1 I1)
theorem f8g {b:Mx.C} {y:Expr} {pos:Pos} (hb:SC Φ Tt w R A X G env b y):SC Φ Tt w R A X G env b (.BoolOp .Or [y] pos):=
 λI h' q=>isTrue_or (hb I h' λ{_ _ _ c _} le1 I1=>match c with
  |true=>q le1 I1
  |false=>λk1=>isTrue_or_nil (q le1 I1 k1))
end
section
variable {Φ:Fx} {Tt:Tab} {fn:Nat->Option Fn} {w:World} {R:RT} {A:Around} {X:Cx} {G:Gh} {env:Env}
variable {W W₁:Wd} {L:aN} {st:aB} {m:Str->Option Value} {s s':Shared}
theorem avL {v:AV} {f:List AV->Prop} {M:AV->Prop} (h:match v with| .lst l=>f l|_=>False) (k:∀l,f l->M (.lst l)):M v:=
 @AV.casesOn (λv=>(match v with| .lst l=>f l|_=>False)->M v) v (λh=>h.elim) (λ_ h=>h.elim) (λ_ h=>h.elim) (λ_ h=>h.elim) (λ_ h=>h.elim) k (λ_ _ h=>h.elim) (λ_ _ h=>h.elim) (λ_ h=>h.elim) h
theorem avS {v:AV} {f:List Nat->Prop} {M:AV->Prop} (h:match v with| .str l=>f l|_=>False) (k:∀l,f l->M (.str l)):M v:=
 @AV.casesOn (λv=>(match v with| .str l=>f l|_=>False)->M v) v (λh=>h.elim) (λ_ h=>h.elim) (λ_ h=>h.elim) k (λ_ h=>h.elim) (λ_ h=>h.elim) (λ_ _ h=>h.elim) (λ_ _ h=>h.elim) (λ_ h=>h.elim) h
theorem avR {v:AV} {f:Nat->Prop} {M:AV->Prop} (h:match v with| .ref r=>f r|_=>False) (k:∀r,f r->M (.ref r)):M v:=
 @AV.casesOn (λv=>(match v with| .ref r=>f r|_=>False)->M v) v (λh=>h.elim) (λ_ h=>h.elim) (λ_ h=>h.elim) (λ_ h=>h.elim) (λ_ h=>h.elim) (λ_ h=>h.elim) (λ_ _ h=>h.elim) (λ_ _ h=>h.elim) k h
theorem avO {v:AV} {f:Nat->Nat->Prop} {M:AV->Prop} (h:match v with| .obj c r=>f c r|_=>False) (k:∀c r,f c r->M (.obj c r)):M v:=
 @AV.casesOn (λv=>(match v with| .obj c r=>f c r|_=>False)->M v) v (λh=>h.elim) (λ_ h=>h.elim) (λ_ h=>h.elim) (λ_ h=>h.elim) (λ_ h=>h.elim) (λ_ h=>h.elim) (λ_ _ h=>h.elim) k (λ_ h=>h.elim) h
noncomputable def fX:List Expr->Bool
 |[]=>true
 |e::l=>bM e&&fX l
theorem e8 {e:Expr} {l:List Expr} (h:bM e=true):starEach (e::l) env=(false,eval e env)::starEach l env:=by
 cases e<;>first|rfl|exact ff h
theorem b0l (pos:Pos) {l:List Expr}:fX l=true->(backTo pos (starEach l env)).any (·.1)=false:=by
 induction l with
 |nil=>exact λ_=>rfl
 |cons e l ih=>
  intro h;rw [e8 (b2 h).1];exact ih (b2 h).2
theorem hJ:∀{es:Es} {l:List Expr},jM Φ X es l=true->fX l=true
 | .nil,_,h=>cB.el h▸rfl
 | .cons e es,l,h=>e7.el h λh=>by
  show(bM _&&fX _)=true
  rw [(b2 (b2 h).1).1,hJ (b2 h).2];rfl
theorem b9y:rZ Φ Tt w R A X G env .nil []:=λI h' q=>wpAny_items_nil (q rfl (.refl _) I .nil h')
theorem f3o {e:E} {es:Es} {x:Expr} {l:List Expr} (h:SE Φ Tt w R A X G env e x) (hs:rZ Φ Tt w R A X G env es l) (ns:bM x=true):rZ Φ Tt w R A X G env (.cons e es) (x::l):=
 λI h' q=>wpAny_items_cons (h I h' λle1 I1 r1 k1=>hs I1 k1 λhl le2 I2 r2 k2=>q (h3s (· +1) hl) (le1.trans le2) I2 (.cons (r1.mono le2) r2) k2) (e8 ns)
theorem gR {P:Heap->Prop} {f:Value} {first:List Value} {es:Es} {l:List Expr} {pos:Pos} {K:LK} {Q:Value->Shared->Prop} (I:Inv Φ.T w X G env W L st m s)
  (hk:∀h,P h->∃k,(k=Keeper.frame\/k=Keeper.machine\/k=Keeper.boundFrame)/\Looks (model pw w) h (keeperOf f) k)
  (hs:rZ Φ Tt w R A X G env es l) (hn:fX l=true) (h':m9 Tt R es L st K)
  (q:CL Φ w X G env l.length W m K (λvs s1=>P s1.heap/\wpAny (model pw w) A (call f (first++vs)) Q No s1)):wpAny (model pw w) A (callWith pos f first (backTo pos (starEach l env)) []) Q No s:=by
 have z:=hs (pos:=pos) I h' q;refine callWith_of (P:=P) (by rw [b0l pos hn];rfl) hk ?_
 cases l with
 |nil=>
  refine h4s (h4u z (λvs s1 h1=>h4s (h4t ?_)) λ_ _ e=>e)
  refine wpAny_holding ?_;exact h4s (h4t (h4s (h4t (h4t h1))))
 |cons e l=>
  rw [e8 (b2 hn).1]at z⊢;exact evalArgs_plain z
theorem b4q (C:Cfg Φ Tt fn w R A X G env) (I:Inv Φ.T w X G env W L st m s) {f:Nat} {vs:List AV} {vals:List Value} {P:AV->aB->Prop} {Q:Value->Shared->Prop} (hf:Φ.isFn f=true) (ha:pZ Φ W f vs vals) (k:R f vs st P)
  (q:∀{v x W' st' s'},Base Φ.T w (Gh.at W s.heap s.os) W' st' s'.heap->s'.gens= #[]->s'.os=s.os->Rep Φ.T W' v x->P v st'->Q x s'):wpAny (model pw w) A (call (.ref (Φ.fn f)) vals) Q No s:=by
 obtain⟨D,U,hD,hU,S⟩:=C.calls;exact wpAny_call (S hf C.hand (h4i hD) (h3j (h3x _ 6) hU) I.gens I.enter (C.kn I) ha k q)
theorem b1q (C:Cfg Φ Tt fn w R A X G env) (I:Inv Φ.T w X G env W₁ L st m s) {f:Nat} {vs:List AV} {vals:List Value} {K:VK} {Q:Value->Shared->Prop} (hf:Φ.isFn f=true) (le:W.le W₁) (ha:pZ Φ W₁ f vs vals)
  (k:R f vs st (kR L K)) (q:CE Φ w X G env W m K Q):wpAny (model pw w) A (call (.ref (Φ.fn f)) vals) Q No s:=
 b4q C I hf ha k λB hg hos r k'=>q (le.trans (I.back B hg hos).1) (I.back B hg hos).2 r k'
theorem e2l (C:Cfg Φ Tt fn w R A X G env) {f:Nat} {es:Es} {x:Str} {p pos:Pos} {l:List Expr} (hx:jJ (dU Φ X x) (Φ.fn f)=true) (hf:Φ.isFn f=true) (hs:rZ Φ Tt w R A X G env es l) (hn:fX l=true):
  SE Φ Tt w R A X G env (.call f es) (.Call (.Name x p) l [] pos):=
 λI h' q=>Call_ (hX C I (iY hx) (gR I (P:=Φ.K.In) (keeps_K (C.H.fnTy f hf).2) hs hn h' λ_ le1 I1 r1 k1=>⟨C.kin I1,b1q C I1 hf le1 (.inl r1) k1 q⟩))
theorem d6o (C:Cfg Φ Tt fn w R A X G env) {f:Nat} {es:Es} {x:Str} {p pos:Pos} {l:List Expr} (hx:jJ (dU Φ X x) (Φ.fn f)=true) (hf:Φ.isFn f=true) (hs:rZ Φ Tt w R A X G env es l) (hn:fX l=true):
  SE Φ Tt w R A X G env (.callP f es) (.Call (.Name x p) l [] pos):=
 λI h' q=>Call_ (hX C I (iY hx) (gR I (P:=Φ.K.In) (keeps_K (C.H.fnTy f hf).2) hs hn h' λ{W1 _ _ _ _ _} _ le1 I1 r1 k1=>⟨C.kin I1,b4q C I1 hf (.inl r1) k1 λ{_ _ W' _ _} B hg hos r k'=>by
  have b:=I1.back (I1.enter.gc B k'.1.2) hg hos;exact q (le1.trans b.1) b.2 (Rep.drop (W:=W') (W':=⟨W'.F,W1.mu⟩) (λ_ _ e=>e) k'.1.1 r) k'.2⟩))
theorem c2p {ob:Expr} {nm:Str} {apos pos:Pos} {l:List Expr} (hsup:dG ob=true) (hl:fZ apos pos=true) (hlen:l.length<30) (hn:fX l=true):
  eval (.Call (.Attribute ob nm apos) l [] pos) env=(do
   let ov<-eval ob env
   standAt apos.atName
   let(f,first)<-holding [ov] (getMethod ov nm (do return(<-importBound ob env).getD true))
   callWith pos f first (backTo pos (starEach l env)) []):=by
 have e1:eval (.Call (.Attribute ob nm apos) l [] pos) env=(do
   let ov<-attributeBase ob nm env (eval ob env)
   standAt apos.atName
   methodCall ob nm apos pos env ov (l.length+0) (backTo pos (starEach l env)) []):=rfl
 rw [e1,a0s hsup]
 have e3:methodCallForm (l.length+0) (backTo pos (starEach l env)) []=true:=by
  unfold methodCallForm;have:=b0l (env:=env) pos hn;rw [h4l,h4l];refine⟨⟨?_,rfl⟩,by simp;omega⟩
  rw [List.all_eq_true];intro p hp;rw [List.any_eq_false]at this;simpa using this p hp
 unfold methodCall;rw [e3];unfold calleeOf methodCallPos;simp only [if_true,Bool.not_true,Bool.false_or,b9o hl,pure_bind]
theorem gZ {ob:Expr} {nm:Str} {apos pos:Pos} {l:List Expr} {Q:Value->Shared->Prop} (hsup:dG ob=true) (hl:fZ apos pos=true) (hlen:Nat.blt l.length 30=true) (hn:fX l=true)
  (h:wpAny (model pw w) A (eval ob env) (λov s₁=>wpAny (model pw w) A (getMethod ov nm (do return(<-importBound ob env).getD true)) (λp s₂=>wpAny (model pw w) A (callWith pos p.1 p.2 (backTo pos (starEach l env)) []) Q No s₂) No s₁) No s):
  wpAny (model pw w) A (eval (.Call (.Attribute ob nm apos) l [] pos) env) Q No s:=
 MethodCall_ (pl:=do return(<-importBound ob env).getD true) h (c2p hsup hl (h3n hlen) hn)
theorem k7 {y:Expr} {P:List Value->Shared->Prop} {e:E} {K:VK} (ns:bM y=true) (h:SE Φ Tt w R A X G env e y) (I:Inv Φ.T w X G env W L st m s) (h':aE Tt R e L st K) {pos:Pos} (q:CE Φ w X G env W m K (λv s=>P [v] s)):
  wpAny (model pw w) A (spliced (backTo pos (starEach [y] env))) P No s:=by
 rw [e8 ns];exact spliced_cons (h I h' λle1 I1 r1 k1=>spliced_nil (q le1 I1 r1 k1))
theorem e0s (C:Cfg Φ Tt fn w R A X G env) {o:E} {mm:Nat} {es:Es} {ob:Expr} {nm:Str} {apos pos:Pos} {l:List Expr} (ho:SE Φ Tt w R A X G env o ob) (hsup:dG ob=true) (hnm:bD (Φ.T.nm mm) nm=true) (hl:fZ apos pos=true)
  (hlen:Nat.blt l.length 30=true) (hs:rZ Φ Tt w R A X G env es l) (hn:fX l=true):SE Φ Tt w R A X G env (.meth o mm es) (.Call (.Attribute ob nm apos) l [] pos):=by
 obtain rfl:=cM hnm;intro W L st m s K Q I h' q;refine gZ hsup hl hlen hn (ho I h' λle1 I1 r1 k1=>oN k1 λf hf k1=>d4v C.H I1.base (C.kn I1) hf r1 λhF=>gR I1 (P:=Φ.K.In) (keeps_K (C.H.fnTy f hF).2) hs hn k1 λ_ le3 I3 r3 k3=>⟨C.kin I3,b1q C I3 hF (le1.trans le3) (.inl (.cons (r1.mono le3) r3)) k3 q⟩)
theorem f6i (C:Cfg Φ Tt fn w R A X G env) {e:E} {x:Str} {p pos:Pos} {y:Expr} (hx:a1a (bAt Φ X x) "len"=true) (h:SE Φ Tt w R A X G env e y) (ns:bM y=true):SE Φ Tt w R A X G env (.len e) (.Call (.Name x p) [y] [] pos):=
 λI h' q=>Call_ (c7s C I (a5q hx) (callWith_builtin1 (k7 ns h I h' λle1 I1 r1 k1=>oN k1 λn hn k1=>d9y I1.base hn r1 λg=>q le1 (I1.gr g) .int k1) (e8 ns) rfl))
theorem f8y (C:Cfg Φ Tt fn w R A X G env) {e:E} {x:Str} {p pos:Pos} {y:Expr} (hx:a1a (bAt Φ X x) "sum"=true) (h:SE Φ Tt w R A X G env e y) (ns:bM y=true):SE Φ Tt w R A X G env (.sum e) (.Call (.Name x p) [y] [] pos):=
 λ{_ _ _ _ _ K _} I h' q=>Call_ (c7s C I (a5q hx) (callWith_builtin1 (k7 ns h I h' λ{W1 _ _ z v s1} le1 I1 r1 k1=>avL (M:=λz=>Rep Φ.T W1 z v->wpAny (model pw w) A (call (.builtin "sum") [v]) _ No s1) k1 (λl k1 r1=>oZ k1 λn hn k1=>e0e I1.base C.hand hn r1 λr g=>q le1 (I1.gr g) r k1) r1) (e8 ns) rfl))
theorem f8u {a b:E} {v sl:Expr} {pos:Pos} (ha:SE Φ Tt w R A X G env a v) (hb:SE Φ Tt w R A X G env b sl):SE Φ Tt w R A X G env (.idx a b) (.Subscript v sl pos):=
 λI h' q=>xV (ha I h' λle1 I1 r1 k1=>hb I1 k1 λle2 I2 r2 k2=>oAV k2 λz hz k2=>f1z (λr g=>q (le1.trans le2) (I2.gr g) r k2) I2.base hz (r1.mono le2) r2)
def SO (Φ:Fx) (Tt:Tab) (w:World) (R:RT) (A:Around) (X:Cx) (G:Gh) (env:Env) (e:E) (ex:Option Expr):Prop:=
 ∀{W L st m s K Q},Inv Φ.T w X G env W L st m s->aE Tt R e L st K->CE Φ w X G env W m K Q->wpAny (model pw w) A (evalPart ex env) Q No s
theorem b7i {v:AV} (h:v.isNone=true):v=.none:=@AV.casesOn (λv=>v.isNone=true->v=.none) v (λ_=>rfl) (λ_ h=>ff h) (λ_ h=>ff h) (λ_ h=>ff h) (λ_ h=>ff h) (λ_ h=>ff h) (λ_ _ h=>ff h) (λ_ _ h=>ff h) (λ_ h=>ff h) h
theorem b2q {e:E} (h:b5o e=true):e=.lit .none:=dt.el (b2 h).2 λq=>E.lit.elim (motive_1:=λe=>∀q,E.lit.elim e q AV.isNone=true->e=.lit .none) e q (λv q h=>h3s E.lit (b7i h)) q
theorem oN2 {o o':Option Nat} {f:Nat->Nat->Prop} {P:Prop} (h:match o,o' with|some i,some j=>f i j|_,_=>False) (k:∀i j,o=some i->o'=some j->f i j->P):P:=by
 cases o with
 |none=>exact h.elim
 |some i=>
  cases o' with
  |none=>exact h.elim
  |some j=>exact k i j rfl rfl h
theorem a6y {e:E} {k:Expr->Bool} {l:Option Expr} (h:qW k e l=true) (f:∀{y},k y=true->SE Φ Tt w R A X G env e y):SO Φ Tt w R A X G env e l:=by
 cases l with
 |none=>obtain rfl:=b2q h;exact λI h' q=>h4t (q (.refl _) I .none h')
 |some y=>exact f h
theorem f7z {a lo hi:E} {v:Expr} {l u:Option Expr} {p pos:Pos} (ha:SE Φ Tt w R A X G env a v) (hl:SO Φ Tt w R A X G env lo l) (hu:SO Φ Tt w R A X G env hi u):
  SE Φ Tt w R A X G env (.cut a lo hi) (.Subscript v (.Slice l u none p) pos):=
 λ{_ _ _ _ _ K _} I h' q=>xV (ha I h' λ{_ _ _ x _ _} le1 I1 r1 k1=>wpAny_Slice (hl I1 k1 λ{_ _ _ y _ _} le2 I2 r2 k2=>hu I2 k2 λ{_ _ _ z _ _} le3 I3 r3 k3=>by
  rw [evalPart_none];refine h4t ?_;exact avS (M:=λx=>Rep Φ.T _ x _->iM w A _ (.ref _) _ _) k3 (λstr k3 r1=>oN2 k3 λ_ _ e1 e2 k3=>d9g (x:=.none) (r1.mono (le2.trans le3)) e1 e2 (r2.mono le3) r3 λr g=>q (le1.trans (le2.trans le3)) (I3.gr g) r k3) r1))
end
section
variable {Φ:Fx} {Tt:Tab} {fn:Nat->Option Fn} {w:World} {R:RT} {A:Around} {X:Cx} {G:Gh} {env:Env}
variable {W W₁:Wd} {L:aN} {st:aB} {m:Str->Option Value} {s s':Shared} {T:Tb}
theorem a3v {a b:Addr} {o p:Obj} (e:(G.plus a o).prot b=some p):(b=a/\o=p)\/G.prot b=some p:=fF e (λq e=>.inl ⟨q,h3l e⟩) λ_ e=>.inr e
theorem a2b {a b:Addr} {o:Obj} (e:(G.plus a o).prot b=none):b≠a/\G.prot b=none:=fF e (λ_ e=>nomatch e) λq e=>⟨q,e⟩
theorem jW {a b:Addr} {o:Obj} (q:b≠a):(G.plus a o).prot b=G.prot b:=if_neg q
theorem Inv.aside (I:Inv T w X G env W L st m s) {a:Addr} {o:Obj} (hg:s'.gens=s.gens) (hos:s'.os=s.os) (ha:s.heap.objs.size<=a) (ho:s'.heap.get? a=some o)
  (k:∀a o,s.heap.get? a=some o->s'.heap.get? a=some o):G.prot a=none/\Inv T w X (G.plus a o) env W L st m s':=
 ⟨by
  cases q:G.prot a with
  |none=>rfl
  |some o=>exact dD (Heap.not_alive ha) (I.prot a o q).1,
  I.step (P:=(G.plus a o).prot) (hg.trans I.gens) (hos.trans I.os) (I.base.grow k) (.refl _) (λb p _ _=>⟨p,k b⟩)
  (λb p e=>(a3v e).elim (λq=>⟨q.1▸q.2▸ho,q.1▸I.newP ha,q.1▸I.new_ne ha⟩) λe=>(I.prot b p e).imp (k _ _) id) λi b z=>I.ownB z λ_ _ _ B=>(jW (dS B.o ha)).trans B.q⟩
structure Asd (X:Cx) (G:Gh) (env:Env) (W:Wd) (L:aN) (m:Str->Option Value) (s:Shared) (a:Addr) (o:Obj):Prop where
 o:s.heap.get? a=some o
 p:Pv G W a
 l:a≠env.locals
 n:∀i,¬Owns X L m i a
theorem Inv.unaside {a:Addr} {o:Obj} (I:Inv T w X (G.plus a o) env W L st m s) (np:G.prot a=none):Asd X G env W L m s a o/\Inv T w X G env W L st m s:=
 have P:=I.prot a o (if_pos rfl)
 ⟨⟨P.1,P.2.1.pr (P:=G.prot),P.2.2,λi z=>I.ownB z λ_ _ _ B=>(a2b B.q).1 rfl⟩,
  I.step (P:=G.prot) I.gens I.os I.base (.refl _) (λb p _ _=>⟨p,λ_ e=>e⟩) (λb p e=>I.prot b p ((jW λq=>dD np (q▸e)).trans e)) λi b z=>I.ownB z λ_ _ _ B=>(a2b B.q).2⟩
theorem Inv.told {W':Wd} {st':aB} {a:Addr} {o:Obj} (I:Inv T w X G env W L st m s) (A:Asd X G env W L m s a o) (np:G.prot a=none) (B:Base T w G W' st' s.heap) (le:W.le W') (hp:∀b,b≠a->Pv G W b->Pv G W' b):Inv T w X G env W' L st' m s:=
 I.step (P:=G.prot) I.gens I.os B le (λb p _ k=>⟨hp b (λq=>k.elim (λe=>A.l (q.symm.trans e)) λ⟨i,z⟩=>A.n i (q▸z)) p,λ_ e=>e⟩) (λb p e=>have z:=I.prot b p e;⟨z.1,hp b (λq=>dD np (q▸e)) z.2.1,z.2.2⟩) λi b z=>I.ownB z λ_ _ _ B=>B.q
theorem Inv.frzAside {a:Addr} {o:Obj} (I:Inv T w X (G.plus a o) env W L st m s) (np:G.prot a=none):W.le (W.frz a o)/\Inv T w X G env (W.frz a o) L st m s:=
 have u:=I.unaside np;have Le:=u.2.base.le_frz u.1.o
 ⟨Le,u.2.told u.1 np (u.2.base.freeze u.1.o u.1.p.m u.1.p.g) Le λ_ q p=>p.frz q⟩
theorem Inv.cellAside {a:Addr} {r:Nat} {c:Cell} {o:Obj} (I:Inv T w X (G.plus a o) env W L st m s) (np:G.prot a=none) (hr:aD st r=some none) (hc:bT T w W s.heap a c):
  W.le (W.cell r a)/\Inv T w X G env (W.cell r a) L (bW st r (some c)) m s:=
 have u:=I.unaside np;have Le:=u.2.base.le_cell (a:=a) hr
 ⟨Le,u.2.told u.1 np (u.2.base.cell hr hc u.1.p) Le λ_ q p=>p.cell q⟩
noncomputable abbrev f9e (s:Shared) (vs:List Value):Shared:={s with heap:=s.heap.push {cls:=.type "tuple",data:=.seq vs.toArray}}
noncomputable abbrev d3e (s:Shared) (vs:List Value):Shared:={s with heap:=s.heap.push {cls:=.type "list",data:=.seq vs.toArray}}
theorem yP {n:Nat} {l:List Value} (h:l.length=n) (hl:Nat.ble n 1000=true):l.length<=sizeLine:=by exact h3j (h▸h3n hl) (by decide)
theorem f6n {es:Es} {l:List Expr} {k:Nat} {pos:Pos} (hs:rZ Φ Tt w R A X G env es l) (hl:Nat.ble l.length 1000=true):SE Φ Tt w R A X G env (.tup es) (.Tuple l k pos):=
 λI h' q=>wpAny_Tuple (hs I h' λ{_ _ _ _ vs s1} hlen le1 I1 r1 k1=>
  have f:=I1.frz (s':=f9e s1 vs) (a:=s1.heap.objs.size) (o:=u5 vs 0) rfl rfl (h3k _) (Heap.get?_push_size _ rfl) λ_ _ e=>h4v _ e
  ⟨yP hlen hl,q (le1.trans f.1) f.2 (.tup (yP hlen hl) eZ (r1.mono f.1)) k1⟩)
theorem f7s {f:F} {ex:Expr} (h:SF Φ Tt w R A X G env f ex):SE Φ Tt w R A X G env (.frz f) ex:=
 λI h' q=>h I h' λle1 I1 np z r1 k1=>
  have f:=I1.frzAside np
  q (le1.trans f.1) f.2 (.lst z eZ (r1.mono f.1)) k1
theorem d6k {k:Nat} {f:F} {ex:Expr} (h:SF Φ Tt w R A X G env f ex):SE Φ Tt w R A X G env (.cellL k f) ex:=
 λI h' q=>h I h' λ{_ _ _ l _ vs n _} le1 I1 np z r1 k1=>oN k1 λr hr k1=>
  have f:=I1.cellAside np (fY hr) (c:=.list l) ⟨vs,n,(I1.unaside np).1.o,z,r1⟩
  q (le1.trans f.1) f.2 (.ref gW) k1
theorem tQ (I:Inv Φ.T w X G env W L st m s) {vs:List Value}:G.prot s.heap.objs.size=none/\Inv Φ.T w X (G.plus s.heap.objs.size (c5 vs 0)) env W L st m (d3e s vs):=
 I.aside (s':=d3e s vs) rfl rfl (h3k _) (Heap.get?_push_size _ rfl) λ_ _ e=>h4v _ e
theorem f0z {es:Es} {l:List Expr} {pos:Pos} (hs:rZ Φ Tt w R A X G env es l) (hl:Nat.ble l.length 1000=true):SF Φ Tt w R A X G env (.disp es) (.List l pos):=
 λI h' q=>wpAny_List (hs I h' λ{_ _ _ _ vs _} hlen le1 I1 r1 k1=>
  have f:=tQ I1 (vs:=vs)
  ⟨yP hlen hl,q (n:=0) le1 f.2 f.1 (yP hlen hl) r1 k1⟩)
theorem av2 {x y:AV} {f:List AV->List AV->Prop} {M:AV->AV->Prop} (h:match x,y with| .lst l,.lst r=>f l r|_,_=>False) (k:∀l r,f l r->M (.lst l) (.lst r)):M x y:=by
 cases x with
 |lst l=>cases y with
  |lst r=>exact k l r h
  |_=>exact h.elim
 |_=>exact h.elim
theorem f4s {a b:E} {l r:Expr} {pos:Pos} (ha:SE Φ Tt w R A X G env a l) (hb:SE Φ Tt w R A X G env b r):SF Φ Tt w R A X G env (.cat a b) (.BinOp l .Add r pos):=
 λ{_ _ _ _ _ K _} I h' q=>wpAny_BinOp (ha I h' λ{_ _ _ x _ _} le1 I1 r1 k1=>hb I1 k1 λ{W2 _ _ y _ _} le2 I2 r2 k2=>by
  refine av2 (M:=λx y=>Rep Φ.T W2 x _->Rep Φ.T W2 y _->wpAny (model pw w) A (binaryOp .Add _ _) _ No _) k2 (λl1 l2 k2 r1 r2=> ?_) (r1.mono le2) r2
  obtain⟨_,vs,n,rfl,z1,f1,q1⟩:=r1.lst_inv;obtain⟨_,vs',n',rfl,z2,f2,q2⟩:=r2.lst_inv;have hz':vs.length+vs'.length<=sizeLine:=q1.length▸q2.length▸k2.1;refine P.add_list (n:=n) (n2:=n') (items:=vs.toArray) (items2:=vs'.toArray) (I2.base.froz _ _ f1) (I2.base.froz _ _ f2) ?_ hz';rw [List.append_toArray];have f:=tQ I2 (vs:=vs++vs');exact q (n:=0) (le1.trans le2) f.2 f.1 (h3j (h3y h3o) hz') (q1.append q2) k2.2)
theorem f7m {a lo hi:E} {v:Expr} {l u:Option Expr} {p pos:Pos} (ha:SE Φ Tt w R A X G env a v) (hl:SO Φ Tt w R A X G env lo l) (hu:SO Φ Tt w R A X G env hi u):
  SF Φ Tt w R A X G env (.cut a lo hi) (.Subscript v (.Slice l u none p) pos):=
 λ{_ _ _ _ _ K _} I h' q=>xV (ha I h' λ{_ _ _ x _ _} le1 I1 r1 k1=>wpAny_Slice (hl I1 k1 λ{_ _ _ y i _} le2 I2 r2 k2=>hu I2 k2 λ{_ _ _ z j s3} le3 I3 r3 k3=>by
  rw [evalPart_none];refine h4t ?_;refine avL (M:=λx=>Rep Φ.T _ x _->iM w A _ (.ref _) _ _) k3 (λxs k3 r1=>oN2 k3 λi' j' e1 e2 k3=> ?_) (r1.mono (le2.trans le3))
  obtain⟨_,vs,n,rfl,z1,f1,q1⟩:=r1.lst_inv;have ho:=I3.base.froz _ _ f1;have I4:=I3.grow (s':={s3 with heap:=s3.heap.push {cls:=.type "slice",data:=.fields #[i,j,.none]}}) rfl rfl λ_ _ e=>h4v _ e
  refine⟨⟨"list",_,⟨_,h4v _ ho,rfl⟩,slot_list_getitem.lookup⟩,?_⟩;rw [q1.length]at e2;obtain⟨p1,p2,h1,h2,hp⟩:=c1q (vs:=vs) e1 e2 (r2.mono le3) r3;have hs:slicePick vs.toArray p1 p2 none=(Mx.dR vs i' j').toArray:=h3s List.toArray hp;have zl:(slicePick vs.toArray p1 p2 none).size<=vs.length:=slicePick_size_le vs.toArray p1 p2 none;refine wpAny_getItem_list_slice (kZ (h4v _ ho)) (Heap.IsSliceOf.new ..) h1 h2 .none (λe=>nomatch e) ?_ z1
  rw [hs]at zl⊢;have f:=tQ I4 (vs:=Mx.dR vs i' j');exact q (n:=0) (le1.trans (le2.trans le3)) f.2 f.1 (h3j zl z1) (q1.cutv i' j') k3))
theorem c9m:b7t=("join":Str):=by decide+kernel
theorem b4t:a8m=("pop":Str):=by decide+kernel
theorem e8m {sep:List Nat} {e:E} {x:Str} {k:Nat} {p apos pos:Pos} {nm:Str} {y:Expr} (hx:nU sep x.cps.toList=true) (hnm:bD b7t nm=true) (hl:fZ apos pos=true) (h:SE Φ Tt w R A X G env e y) (ns:bM y=true):
  SE Φ Tt w R A X G env (.join sep e) (.Call (.Attribute (.Constant (.str x) k p) nm apos) [y] [] pos):=by
 intro W L st m s K Q I h' q;obtain rfl:=jN hx;obtain rfl:nm=("join":Str):=(cM hnm).symm.trans c9m;refine gZ rfl hl rfl (by show(bM y&&true)=true;rw [ns];rfl) (Constant_str (GM.join (callWith_method1 (k7 ns h (I.gr .toks) h' λ{_ _ _ z _ _} le1 I1 r1 k1=> ?_) (e8 ns) rfl)))
 exact avL (M:=λz=>Rep Φ.T _ z _->wpAny (model pw w) A (call (.builtin "str.join") _) _ No _) k1 (λl k1 r1=>oNs k1 λt ht k1=>d8n I1.base ht k1.1 r1 λr g=>q le1 (I1.gr g) r k1.2) r1
theorem c3r {l:List AV} {v:AV} {vs:List Value} (r:aL T W l vs) (h:Mx.aD l.reverse 0=some v):∃y,vs[vs.length - 1]?=some y/\Rep T W v y/\0<vs.length:=
 (r.reverse.nth h).elim λy k=>
  have hlt:0<vs.length:=List.length_reverse (as:=vs)▸(List.getElem?_eq_some_iff.mp k.1).1
  ⟨y,(List.getElem?_reverse hlt).symm.trans k.1,k.2,hlt⟩
theorem a7h {a:Addr} {l:List AV} {v:AV} {vs:List Value} {n:Nat} {pos:Pos} {Q:Value->Shared->Prop} {pl:Sem Bool} (r:aL T W l vs) (h:Mx.aD l.reverse 0=some v) (ho:s.heap.get? a=some (c5 vs n)) (hz:vs.length<=sizeLine)
  (q:∀{y s'},Rep T W v y->s'.gens=s.gens->s'.os=s.os->(∀b o,b≠a->s.heap.get? b=some o->s'.heap.get? b=some o)->s'.heap.get? a=some (c5 vs.dropLast (n+1))->vs.dropLast.length<=sizeLine->aL T W l.dropLast vs.dropLast->Q y s'):
  wpAny (model pw w) A (getMethod (.ref a) ("pop":Str) pl) (λp s₂=>wpAny (model pw w) A (callWith pos p.1 p.2 (backTo pos (starEach [] env)) []) Q No s₂) No s:=by
 obtain⟨y,hy,ry,h0⟩:=c3r r h;refine getMethod_builtin ⟨_,ho,rfl⟩ PySem.F.plainAttrs_list PySem.F.slot_list_pop PySem.F.type_list_pop (λb q=>by cases q;exact⟨_,ho,rfl⟩) ?_
 refine P.pop_list (items:=vs.toArray) (n:=n) ho (List.getElem?_toArray.trans hy) ?_ hz;have hd:=List.length_dropLast (xs:=vs);refine q ry rfl rfl (λb o ne e=>(Heap.get?_update_other _ _ (Ne.symm ne)).trans e) ?_ (h3j (hd▸Nat.sub_le _ _) hz) r.dropLast
 have e:(vs.toArray.eraseIdxIfInBounds (vs.toArray.size - 1))=vs.dropLast.toArray:=by
  apply Array.toList_inj.mp
  rw [Array.eraseIdxIfInBounds,dif_pos (show vs.toArray.size - 1<vs.toArray.size from Nat.sub_lt h0 Nat.one_pos)]
  simp
 rw [Heap.get?_update_self _ ho rfl];show some (Obj.mapSeq _ _)=_
 simp only [Obj.mapSeq,e];have:((vs.dropLast.toArray.size==vs.toArray.size))=false:=beq_eq_false_iff_ne.mpr (Nat.ne_of_lt (show vs.dropLast.length<vs.length from hd▸Nat.sub_lt h0 Nat.one_pos))
 rw [this];rfl
theorem f0t (C:Cfg Φ Tt fn w R A X G env) {i:Nat} {x:Str} {p apos pos:Pos} {nm:Str} (hx:cH X i .local x=true) (hnm:bD a8m nm=true) (hl:fZ apos pos=true):SE Φ Tt w R A X G env (.popV i) (.Call (.Attribute (.Name x p) nm apos) [] [] pos):=by
 intro W L st m s K Q I h' q;have hn:=bV hx;obtain rfl:nm=("pop":Str):=(cM hnm).symm.trans b4t;exact uG h' λl hl' h'=>oAV h' λv hv h'=>(I.slot_own hn.1 hl').rec λa vs n hk e B=>
  gZ rfl hl rfl rfl (kG C I hn.2.1 hn.2.2 e (a7h B.r hv B.o B.z λry g1 o1 k1 h1 z1 r1=>q (.refl _) (I.setOwn C.ok.nodup hn.1 hl' hk e B g1 o1 k1 h1 z1 r1) ry h'))
theorem lsC {o:Option Cell} {f:List AV->Prop} {P:Prop} (h:match o with|some (.list l)=>f l|_=>False) (k:∀l,o=some (.list l)->f l->P):P:=by
 cases o with
 |none=>exact h.elim
 |some c=>exact @Cell.casesOn (λd=>c=d->(match some d with|some (.list l)=>f l|_=>False)->P) c (λl e h=>k l (h3s some e) h) (λ_ _ h=>h.elim) (λ_ _ h=>h.elim) rfl h
theorem f0f {e:E} {ob:Expr} {apos pos:Pos} {nm:Str} (h:SE Φ Tt w R A X G env e ob) (hsup:dG ob=true) (hnm:bD a8m nm=true) (hl:fZ apos pos=true):SE Φ Tt w R A X G env (.popC e) (.Call (.Attribute ob nm apos) [] [] pos):=by
 intro W L st m s K Q I h' q;obtain rfl:nm=("pop":Str):=(cM hnm).symm.trans b4t;refine gZ hsup hl rfl rfl (h I h' λ{_ _ _ x _ _} le1 I1 r1 k1=>avR (M:=λx=>Rep Φ.T _ x _->wpAny (model pw w) A _ _ No _) k1 (λr k1 r1=> ?_) r1)
 obtain⟨a,rfl,hm⟩:=r1.ref_inv;exact lsC k1 λl hc k1=>oAV k1 λv hv k1=>(I1.base.mu_at hm hc).rec λvs n ho zz rr=>
  a7h rr hv ho zz λry g2 o2 k2 h2 z2 r2=>q le1 (I1.setCell (c:=.list l.dropLast) g2 o2 hm k2 ⟨_,_,h2,z2,r2⟩) ry k1
end
section
variable {Φ:Fx} {Tt:Tab} {fn:Nat->Option Fn} {w:World} {R:RT} {A:Around} {X:Cx} {G:Gh} {env:Env}
variable {W W₁:Wd} {L:aN} {st:aB} {m:Str->Option Value} {s s':Shared} {T:Tb}
noncomputable abbrev made (s:Shared) (C:Addr):Shared:={s with heap:=(s.heap.push emptyDict).push (instObj C s.heap.objs.size)}
theorem a7b {C:Addr}:(made s C).heap.get? (s.heap.objs.size+1)=some (instObj C s.heap.objs.size):=by
 have:=Heap.get?_push_size (s.heap.push emptyDict) (o:=instObj C s.heap.objs.size) rfl
 rwa [Heap.size_push]at this
theorem b1z (A:Around) (C:Addr) (l:List Value):(A.under (.builtin "type.__call__" ⟨.ref C::l,[]⟩)).depth=A.depth+1/\(A.under (.builtin "type.__call__" ⟨.ref C::l,[]⟩)).units=A.units+1/\(A.under (.builtin "type.__call__" ⟨.ref C::l,[]⟩)).handled=A.handled:=by
 have e1:(Code.builtin "type.__call__" ⟨.ref C::l,[]⟩).weight=1:=by
  have g:(Code.builtin "type.__call__" ⟨.ref C::l,[]⟩).isGuard=false:=by
   show guardIds.contains "type.__call__"=false
   decide+kernel
  unfold Code.weight;rw [g];rfl
 have e2:(Code.builtin "type.__call__" ⟨.ref C::l,[]⟩).cUnits=1:=rfl;exact⟨h3s (A.depth+ ·) e1,h3s (A.units+ ·) e2,rfl⟩
theorem e5x (C:Cfg Φ Tt fn w R A X G env) {c:Nat} {x:Str} {p pos:Pos} (hx:jJ (dU Φ X x) (Φ.T.cls c)=true) (hp:Φ.plain c=true):SE Φ Tt w R A X G env (.new0 c) (.Call (.Name x p) [] [] pos):=by
 intro W L st m s K Q I h' q;have hc:=C.H.plain c hp;refine Call_ (hX C I (iY hx) (gR (st:=st) (R:=R) (Tt:=Tt) I (P:=Φ.K.In) (es:=.nil) (K:=λ_ L st=>K (.inst c []) L st) (keeps_K hc.1) b9y rfl h' λ{_ _ _ _ vs s1} hl le1 I1 r1 k1=>⟨C.kin I1,?_⟩))
 have Xk:=C.kin I1;obtain rfl:vs=[]:=List.length_eq_zero_iff.mp hl;obtain⟨hh,g,d,t,os⟩:=s1;have Y:=makes_of (M:=model pw w) Xk hc.2.1;have f:=I1.frz (s':=⟨hh.push emptyDict,g,d,t,os⟩) (a:=hh.objs.size) (o:=emptyDict) rfl rfl (h3k _) (Heap.get?_push_size _ rfl) λ_ _ e=>h4v _ e
 have f2:=f.2.frz (s':=made ⟨hh,g,d,t,os⟩ (Φ.T.cls c)) (a:=hh.objs.size+1) (o:=instObj (Φ.T.cls c) hh.objs.size) rfl rfl (h3y (Heap.size_push _ _)) a7b λ_ _ e=>h4v _ e
 show wpAny _ _ (call (.ref (Φ.T.cls c)) []) _ _ _
 refine wpAny_call (make_core Y (looks_findIn Xk hc.2.2) (λself=>Looks.of_pure (oi_bind self)) (.inr ⟨rfl,rfl⟩) ?_)
 have mx:((hh.push emptyDict).push (instObj (Φ.T.cls c) hh.objs.size)).get? (hh.objs.size+1)=some (instObj (Φ.T.cls c) hh.objs.size):=a7b (s:=⟨hh,g,d,t,os⟩);have t1:Looks (model pw w) ((hh.push emptyDict).push (instObj (Φ.T.cls c) hh.objs.size)) (typeOf (.ref (hh.objs.size+1))) (.ref (Φ.T.cls c)):=(Looks.ld mx).andThen .now;have t2:Looks (model pw w) ((hh.push emptyDict).push (instObj (Φ.T.cls c) hh.objs.size)) (isInstance (.ref (hh.objs.size+1)) (.type "object")) true:=t1.andThen (Y.top.keeps λb o e=>h4v _ (h4v _ e))
 refine codeAny_call_builtin oi_plain entry_oi (@check_slot (model pw w) _ _ _ "object.__init__" "object" "__init__" (.ref (hh.objs.size+1)) [] [] _ oi_kind oi_split t2 (oi_args (.ref (hh.objs.size+1))) ?_);rw [oi_run];exact h4t (And.intro rfl (q (le1.trans (f.1.trans f2.1)) f2.2 (.inst (n:=0) eZ (f2.1.1 _ _ eZ) .nil) k1))
def b0j (T:Tb) (W:Wd) (r c n:Nat):Wd:=(W.cell r n).frz (n+1) (instObj (T.cls c) n)
theorem a7f (C:Cfg Φ Tt fn w R A X G env) {c f r:Nat} {W1:Wd} {L1:aN} {st1:aB} {s1:Shared} {xs:List AV} {vals:List Value} {P:AV->aB->Prop} {Q:Value->Shared->Prop}
  (hi:keepIn Φ.K (.ref (Φ.T.cls c))=true/\makesIn Φ.K (Φ.T.cls c)=true/\findIn Φ.K (.ref (Φ.T.cls c)) "__init__"=some (some (.ref (Φ.fn f)))/\Φ.isFn f=true)
  (I1:Inv Φ.T w X G env W1 L1 st1 m s1) (hr:aD st1 r=some none) (ha:∀{W':Wd} {y:AV} {v:Value},W1.le W'->Rep Φ.T W' y v->pZ Φ W' f (y::xs) (v::vals)) (k1:R f (.obj c r::xs) (bW st1 r (some (.obj []))) P)
  (q:∀{v W' st' s'},W1.le (b0j Φ.T W1 r c s1.heap.objs.size)->Inv Φ.T w X G env (b0j Φ.T W1 r c s1.heap.objs.size) L1 (bW st1 r (some (.obj []))) m (made s1 (Φ.T.cls c))->
   Base Φ.T w (Gh.at (b0j Φ.T W1 r c s1.heap.objs.size) (made s1 (Φ.T.cls c)).heap s1.os) W' st' s'.heap->s'.gens= #[]->s'.os=s1.os->W'.F (s1.heap.objs.size+1)=some (instObj (Φ.T.cls c) s1.heap.objs.size)->W'.mu r=some s1.heap.objs.size->P v st'->v=.none/\Q (.ref (s1.heap.objs.size+1)) s'):
  wpAny (model pw w) A (call (.ref (Φ.T.cls c)) vals) Q No s1:=by
 have Xk:=C.kin I1;have Y:=makes_of (M:=model pw w) Xk hi.2.1;have f2:=I1.newCell (s':={s1 with heap:=s1.heap.push emptyDict}) (a:=s1.heap.objs.size) (r:=r) (c:=.obj []) rfl rfl (h3k _) (λ_ _ e=>h4v _ e) hr ⟨[],0,Heap.get?_push_size _ rfl,.nil⟩
 have f3:=f2.2.frz (s':=made s1 (Φ.T.cls c)) (a:=s1.heap.objs.size+1) (o:=instObj (Φ.T.cls c) s1.heap.objs.size) rfl rfl (h3y (Heap.size_push _ _)) a7b λ_ _ e=>h4v _ e
 have r3:Rep Φ.T (b0j Φ.T W1 r c s1.heap.objs.size) (.obj c r) (.ref (s1.heap.objs.size+1)):=.obj eZ (f3.1.2 _ _ gW);obtain⟨D,U,hD,hU,S⟩:=C.calls;have u:=b1z A (Φ.T.cls c) vals;refine wpAny_call (make_core Y (looks_findIn Xk hi.2.2.1) (λself=>bind_fn Xk self (C.H.fnTy f hi.2.2.2).1) (.inl rfl) (S (s:=made s1 (Φ.T.cls c)) (A:=A.under (.builtin "type.__call__" ⟨.ref (Φ.T.cls c)::vals,[]⟩)) hi.2.2.2 (u.2.2.trans C.hand) (u.1▸hD) (u.2.1▸h3j (h3z (by decide) _) hU) f3.2.gens f3.2.enter (C.kn f3.2) (ha (f2.1.trans f3.1) r3) k1 λB hg hos rv k'=>
  have e:=q (f2.1.trans f3.1) f3.2 B hg hos (B.ext.1 _ _ eZ) (B.ext.2 _ _ (f3.1.2 _ _ gW)) k'
  ⟨Rep.none_inv (e.1▸rv),e.2⟩))
theorem e5h (C:Cfg Φ Tt fn w R A X G env) {c k f:Nat} {es:Es} {x:Str} {p pos:Pos} {l:List Expr} (hx:jJ (dU Φ X x) (Φ.T.cls c)=true) (hi:Φ.init c f=true)
  (hs:(rZ Φ Tt w R A X G env es l/\fX l=true)\/(l=[]/\es=.cons (.lit (.str [])) .nil/\Φ.dflt f=true)):SE Φ Tt w R A X G env (.newO c k f es) (.Call (.Name x p) l [] pos):=by
 intro W L st m s K Q I h' q;have hi:=C.H.init c f hi;have body:∀{W1:Wd} {L1:aN} {st1:aB} {xs:List AV} {vals:List Value} {s1:Shared},W.le W1->Inv Φ.T w X G env W1 L1 st1 m s1->(∀{W':Wd} {y:AV} {v:Value},W1.le W'->Rep Φ.T W' y v->pZ Φ W' f (y::xs) (v::vals))->
   b5x R c k f K xs L1 st1->wpAny (model pw w) A (call (.ref (Φ.T.cls c)) vals) Q No s1:=by
  intro W1 L1 st1 xs vals s1 le1 I1 ha k1;exact oN k1 λr hr k1=>a7f C hi I1 (fY hr) ha k1 λle I2 B hg hos hF hm k'=>⟨k'.1,q (le1.trans (le.trans (I2.back B hg hos).1)) (I2.back B hg hos).2 (.obj hF hm) k'.2⟩
 rcases hs with⟨hs,hn⟩|⟨rfl,rfl,hd⟩
 ·exact Call_ (hX C I (iY hx) (gR I (P:=Φ.K.In) (keeps_K hi.1) hs hn h' λhl le1 I1 r1 k1=>⟨C.kin I1,body le1 I1 (λle rv=>.inl (.cons rv (r1.mono le))) k1⟩))
 ·refine Call_ (hX C I (iY hx) (gR (st:=st) (R:=R) (Tt:=Tt) I (P:=Φ.K.In) (es:=.nil) (K:=λ_ L st=>b5x R c k f K [.str []] L st) (keeps_K hi.1) b9y rfl h' λ{_ _ _ _ vs _} hl le1 I1 r1 k1=>⟨C.kin I1,?_⟩))
  obtain rfl:vs=[]:=List.length_eq_zero_iff.mp hl;exact body le1 I1 (λle rv=>.inr ⟨hd,_,_,rfl,rfl,rv⟩) k1
theorem b0a {α:Type} {x y:α} {l:List α}:∀{r:Nat},aD l r=some y->aD (l++[x]) r=some y:=by
 induction l with
 |nil=>exact λh=>nomatch h
 |cons a l ih=>exact λ{r}=>Nat.casesOn (motive:=λr=>aD (a::l) r=some y->aD (a::l++[x]) r=some y) r id λn h=>ih h
theorem sF {α:Type} {x:α} {l:List α}:aD (l++[x]) l.length=some x:=by
 induction l with
 |nil=>rfl
 |cons a l ih=>exact ih
theorem b2c {α:Type} {x y:α} {l:List α}:∀{r:Nat},aD (l++[x]) r=some y->x=y\/aD l r=some y:=by
 induction l with
 |nil=>exact λ{r}=>Nat.casesOn (motive:=λr=>aD [x] r=some y->x=y\/aD [] r=some y) r (λh=>.inl (h3l h)) λn h=>nomatch h
 |cons a l ih=>exact λ{r}=>Nat.casesOn (motive:=λr=>aD (a::l++[x]) r=some y->x=y\/aD (a::l) r=some y) r .inr λn h=>ih h
theorem a7q {c:Option Cell} {d:Cell} {r:Nat} (h:aQ st r=some d):aQ (st++[c]) r=some d:=iI (b0a (gG h))
theorem d0d {c:Option Cell}:aQ (st++[c]) st.length=c:=iI sF
theorem c9t {c d:Option Cell} (l:aB):bW (l++[c]) l.length d=l++[d]:=by
 induction l with
 |nil=>rfl
 |cons x l ih=>exact h3s (x:: ·) ih
theorem Inv.more (I:Inv T w X G env W L st m s):Inv T w X G env W L (st++[none]) m s:=
 {I with base:={I.base with
   cells:=λr c h=>(b2c (gG h)).elim (λh=>nomatch h) λh=>I.base.cells r c (iI h)
   live:=λr a h=>(I.base.live r a h).imp λ_=>a7q}}
theorem bU.shrink' {W W':Wd} (k:W.le W') {fs:List (Nat×AV)} {es:List DictEntry} (r:bU T W' fs es):(∀p∈fs,(∃y,Rep T W p.2 y)\/p.2.noRef=true)->bU T ⟨W'.F,W.mu⟩ fs es:=
 r.ind (M:=λfs es=>(∀p∈fs,(∃y,Rep T W p.2 y)\/p.2.noRef=true)->bU T ⟨W'.F,W.mu⟩ fs es) (λ_=>.nil) λe h _ ih q=>.cons e ((q _ (.head _)).elim (λ⟨_,hy⟩=>h.shrink k hy) λhn=>Rep.drop (W:=W') (W':=⟨W'.F,W.mu⟩) (λ_ _ e=>e) hn h) (ih λp hp=>q p (.tail _ hp))
theorem aL.mem {l:List AV} {vs:List Value} {v:AV} (r:aL T W l vs):v∈l->∃y,Rep T W v y:=
 r.ind (M:=λl vs=>v∈l->∃y,Rep T W v y) (λh=>nomatch h) λ{u x l vs} h _ ih hm=>(List.mem_cons.mp hm).elim (λq=>⟨x,q▸h⟩) ih
theorem d2d {W1 W':Wd} {st1:aB} {hh h':Heap} {os:OsState} {c:Nat} {cd:Obj} {fs:List (Nat×AV)} (B1:Base T w (Gh.at W1 hh os) W1 st1 hh) (le4:W1.le W') (B:Base T w (Gh.at (b0j T W1 st1.length c hh.objs.size) ((hh.push emptyDict).push (instObj (T.cls c) hh.objs.size)) os) W' (st1++[some (.obj fs)]) h')
  (hmx:W'.mu st1.length=some hh.objs.size) (hd:h'.get? hh.objs.size=some cd):Wd.le ⟨W'.F,W1.mu⟩ (Wd.frz ⟨W'.F,W1.mu⟩ hh.objs.size cd)/\Base T w (Gh.at W1 hh os) (Wd.frz ⟨W'.F,W1.mu⟩ hh.objs.size cd) st1 h':=
 have hdF:W'.F hh.objs.size=none:=B.disj _ _ hmx;have Wle:Wd.le ⟨W'.F,W1.mu⟩ (Wd.frz ⟨W'.F,W1.mu⟩ hh.objs.size cd):=Wd.le_frz λo' e=>dD hdF e
 have hs:hh.objs.size<=((hh.push emptyDict).push (instObj (T.cls c) hh.objs.size)).objs.size:=by rw [Heap.size_push,Heap.size_push];exact h3x _ 2
 ⟨Wle,⟨λa o e=>Wle.1 _ _ (le4.1 _ _ e),λ_ _ e=>e⟩,
  λa o e=>(sJ e).elim (λq=>.inr (h3y q.1.symm)) λe=>(B.newF a o e).elim (λz=>(sJ z).elim (λq=>.inr (q.1▸h4r _)) .inl) λz=>.inr (h3j hs z),
  λr a e=>.inl e,λa o e nm=>B.keep a o (h4v _ (h4v _ e)) λr q=>(iX q).elim (λz=>dS e (h3k _) z.2.symm) λz=>nm r z.2,
  λa o e=>(sJ e).elim (λq=>q.1▸q.2▸hd) (B.froz a o),λr cc e=>(B1.cells r cc e).imp λa x=>⟨x.1,((B.mu_at (le4.2 _ _ x.1) (a7q e)).shrink le4 x.2).mono Wle λ_ e=>e⟩,
  B1.live,B1.inj,λr a e=>(zA (B1.mu_alive e|>.elim λ_ ho=>dS ho (h3k _))).trans (B.disj r a (le4.2 _ _ e))⟩
theorem e4q (C:Cfg Φ Tt fn w R A X G env) {c f:Nat} {es:Es} {x:Str} {p pos:Pos} {l:List Expr} (hx:jJ (dU Φ X x) (Φ.T.cls c)=true) (hi:Φ.frozen c=some f) (hn:fX l=true) (hs:rZ Φ Tt w R A X G env es l):
  SE Φ Tt w R A X G env (.newI c f es) (.Call (.Name x p) l [] pos):=by
 intro W L st m s K Q I h' q;have hi:=C.H.frozen c f hi;refine Call_ (hX C I (iY hx) (gR I (P:=Φ.K.In) (keeps_K hi.1) hs hn h' λ{W1 L1 st1 xs vals s1} hl le1 I1 r1 k1=>⟨C.kin I1,oFs k1 λfs hfs k1=> ?_⟩))
 refine a7f (P:=λv st'=>v=.none/\st'=st1++[some (.obj fs)]) C hi I1.more (sF (x:=none)) (λle rv=>.inl (.cons rv (r1.mono le))) (c9t st1▸k1.1) λ{v W' st' s'} le I2 B hg hos hFx hmx k'=>⟨k'.1,?_⟩
 obtain⟨rfl,rfl⟩:=k';have le4:W1.le W':=le.trans B.ext;obtain⟨es',n',hd,rf⟩:=B.mu_at hmx d0d;have Bn:=d2d I1.enter le4 B hmx hd;have f:=I1.back Bn.2 hg hos;exact q (le1.trans f.1) f.2 (.inst (n:=n') (es:=es') (dx:=s1.heap.objs.size) (Bn.1.1 _ _ hFx) eZ ((rf.shrink' le4 λp hp=>(C.H.made c xs fs hfs p hp).imp r1.mem id).mono Bn.1)) k1.2
end
section
variable {Φ:Fx} {Tt:Tab} {fn:Nat->Option Fn} {w:World} {R:RT} {A:Around} {X:Cx} {G:Gh} {env:Env}
variable {W W₁:Wd} {L:aN} {st:aB} {m:Str->Option Value} {s s':Shared} {T:Tb}
theorem c4i {o:Option AV} {v:Option Value} (h:r5 T W o v):Rep T W (o.getD .none) (v.getD .none):=
 h.some (M:=λo v=>Rep T W (o.getD .none) (v.getD .none)) id .none
theorem b4j {a:Addr} {l:List (AV×AV)} {x:AV} {b:Value} {o:Option AV} (c:bT T w W s.heap a (.dict l)) (hx:Rep T W x b) (h:dget x l=some o) {Q:Value->Shared->Prop}
  (q:∀{v s'},Rep T W (o.getD .none) v->cO s s'->Q v s'):wpAny (model pw w) A (call (.builtin "dict.get") [.ref a,b]) Q No s:=by
 have ns:(a==sysModules)=false:=beq_eq_false_iff_ne.mpr c.1;obtain⟨kind,k,kvs,hk,d,e⟩:=wV c hx h;exact call_meetsIn PySem.F.slot_dict_get d.typeIs PySem.F.entry_dict_get (PySem.F.args_dict_get_2 _ _) (meets_dict_get kind a (k:=k) hk ns) ⟨_,d.mapOf,q (c4i e) .toks⟩
theorem a2c {a:Addr} {l:List (AV×AV)} (c:bT T w W s.heap a (.dict l)):s.TypeIs (.ref a) "dict"/\(∀b,Value.ref a=.ref b->∃o,s.heap.get? b=some o/\o.dict=none):=
 c.2.rec (λ_ d _=>⟨d.typeIs,d.mapOf.noDict⟩) (λ_ d _=>⟨d.typeIs,d.mapOf.noDict⟩) λ_ _ e=>⟨⟨_,e,rfl⟩,λb q=>by cases q;exact⟨_,e,rfl⟩⟩
theorem dcC {o:Option Cell} {f:List (AV×AV)->Prop} {P:Prop} (h:match o with|some (.dict l)=>f l|_=>False) (k:∀l,o=some (.dict l)->f l->P):P:=by
 cases o with
 |none=>exact h.elim
 |some c=>exact @Cell.casesOn (λd=>c=d->(match some d with|some (.dict l)=>f l|_=>False)->P) c (λ_ _ h=>h.elim) (λ_ _ h=>h.elim) (λl e h=>k l (h3s some e) h) rfl h
theorem oOA {o:Option (Option AV)} {f:AV->Prop} {g:Prop} {P:Prop} (h:match o with|some (some z)=>f z|some .none=>g| .none=>False) (k:∀z,o=some (some z)->f z->P) (k':o=some none->g->P):P:=by
 cases o with
 |none=>exact h.elim
 |some o=>cases o with
  |none=>exact k' rfl h
  |some z=>exact k z rfl h
theorem d6x:d0q=("get":Str):=by decide+kernel
theorem e4y {d k:E} {ob y:Expr} {nm:Str} {apos pos:Pos} (hd:SE Φ Tt w R A X G env d ob) (hk:SE Φ Tt w R A X G env k y) (hsup:dG ob=true) (hnm:bD d0q nm=true) (hl:fZ apos pos=true) (ns:bM y=true):
  SE Φ Tt w R A X G env (.dget d k) (.Call (.Attribute ob nm apos) [y] [] pos):=by
 intro W L st m s K Q I h' q;obtain rfl:nm=("get":Str):=(cM hnm).symm.trans d6x;refine gZ hsup hl rfl (by show(bM y&&true)=true;rw [ns];rfl) (hd I h' λ{_ _ st1 x _ _} le1 I1 r1 k1=>avR (M:=λx=>Rep Φ.T _ x _->wpAny (model pw w) A _ _ No _) k1 (λr k1 r1=> ?_) r1)
 obtain⟨a,rfl,hm⟩:=r1.ref_inv;refine dcC k1 λl0 hc k1=> ?_
 have t:=a2c (I1.base.mu_at hm hc);refine getMethod_builtin t.1 PySem.F.plainAttrs_dict PySem.F.slot_dict_get PySem.F.type_dict_get t.2 (callWith_method1 (k7 ns hk I1 k1 λ{_ _ st2 y _ _} le2 I2 r2 k2=> ?_) (e8 ns) rfl)
 exact dcC k2 λl hc2 k2=>
  have c2:=I2.base.mu_at (le2.2 _ _ hm) hc2
  oOA k2 (λz hz k2=>b4j c2 r2 hz λrv g=>q (le1.trans le2) (I2.gr g) rv k2) λhz k2=>b4j c2 r2 hz λrv g=>q (le1.trans le2) (I2.gr g) rv k2
theorem c4q {κ:Type} [DecidableEq κ] {i:κ} {y x:Value} {kvs:List (κ×Value)} (nd:i∉kvs.map (·.1)):stored ((i,y)::kvs) i x=(i,x)::kvs:=by
 unfold stored;rw [List.any_cons,h3v rfl,Bool.true_or,if_pos rfl,List.map_cons,if_pos rfl,map_store_of_not_mem kvs i x nd]
theorem c4c {κ:Type} [DecidableEq κ] {k i:κ} {y x:Value} {kvs:List (κ×Value)} (q:¬k=i):stored ((k,y)::kvs) i x=(k,y)::stored kvs i x:=by
 unfold stored;rw [List.any_cons,h3u q,Bool.false_or,List.map_cons,if_neg q];cases kvs.any λkv=>kv.1=i<;>rfl
theorem c1p {k x v y:AV} {l l':List (AV×AV)} {b:Bool} (e:iJ k x=some b) (h:dY x v ((k,y)::l)=some l'):(b=true/\(k,v)::l=l')\/(b=false/\∃l2,dY x v l=some l2/\(k,y)::l2=l'):=by
 have h:(match iJ k x with
  |some true=>some ((k,v)::l)
  |some false=>(match dY x v l with|some l'=>some ((k,y)::l')| .none=>.none)
  | .none=>.none)=some l':=h
 rw [e]at h;cases b with
 |true=>exact .inl ⟨rfl,h3l h⟩
 |false=>
  have h:(match dY x v l with|some l'=>some ((k,y)::l')| .none=>.none)=some l':=h
  cases q:dY x v l with
  |none=>rw [q]at h;exact nn h
  |some l2=>rw [q]at h;exact .inr ⟨rfl,l2,rfl,h3l h⟩
theorem zW {κ:Type} [DecidableEq κ] {key:κ->AV} {i:κ} (hk:∀k,iJ (key k) (key i)=some (decide (k=i))) {v:AV} {x:Value} (h0:dY (key i) v []=some [(key i,v)]) (hx:Rep T W v x) {l:List (AV×AV)} {kvs:List (κ×Value)} (r:bL T W key l kvs):∀{l':List (AV×AV)},(kvs.map (·.1)).Nodup->dY (key i) v l=some l'->bL T W key l' (stored kvs i x):=
 r.ind (M:=λl kvs=>∀{l':List (AV×AV)},(kvs.map (·.1)).Nodup->dY (key i) v l=some l'->bL T W key l' (stored kvs i x)) (λ_ h=>h3l (h0.symm.trans h)▸.cons hx .nil) λ{k u y l kvs} hu r ih l' nd h=>
  have nd:=List.nodup_cons.mp nd
  (c1p (hk k) h).elim (λq=>by
   obtain rfl:=h3t q.1;rw [c4q nd.1];exact q.2▸.cons hx r) λ⟨q,l2,e,z⟩=>by
   rw [c4c (of_decide_eq_false q)];exact z▸.cons hu (ih nd.2 e)
theorem d7g {i k:Str}:iJ (pJ k) (pJ i)=some (decide (k=i)):=h3s some (decide_eq_decide.mpr ⟨v6,λe=>e▸rfl⟩)
theorem u2 {K:Type} [DecidableEq K] {knd:KeyKind pw w K} {h:Heap} {a:Addr} {kvs:List (K×Value)} (d:h.DictOf knd a kvs):(kvs.map (·.1)).Nodup:=let⟨_,_,_,_,_,_,_,_,hn⟩:=d;hn
theorem d9p {l l':List (AV×AV)} {x v:AV} {M:AV->Prop} (h:dY x v l=some l') (f:∀i,dY (.int i) v l=some l'->M (.int i)) (g:∀i,dY (.str i) v l=some l'->M (.str i)):M x:=
 have no:∀{x:AV} {P:Prop},dY x v []=none->(∀y,iJ y x=none)->dY x v l=some l'->P:=λ{x P} e k=>List.casesOn (motive:=λl=>dY x v l=some l'->P) l (λh=>nn (e.symm.trans h)) λp l h=>by
  have h:(match iJ p.1 x with
   |some true=>some ((p.1,v)::l)
   |some false=>(match dY x v l with|some l'=>some ((p.1,p.2)::l')| .none=>.none)
   | .none=>.none)=some l':=h
  rw [k]at h;exact nn h
 @AV.casesOn (λx=>dY x v l=some l'->M x) x (no rfl λ_=>rfl) (λ_=>no rfl λ_=>rfl) f g (λ_=>no rfl λ_=>rfl) (λ_=>no rfl λ_=>rfl) (λ_ _=>no rfl λ_=>rfl) (λ_ _=>no rfl λ_=>rfl) (λ_=>no rfl λ_=>rfl) h
section
variable {a:Addr} {l l':List (AV×AV)} {v:AV}
theorem f2k {i:Int} (c:DctAt T w W s.heap a l) (h:dY (.int i) v l=some l'):∃kvs,s.heap.DictOf (intKind pw w) a kvs/\bL T W dQ l kvs:=
 c.rec (λkvs d r=>⟨kvs,d,r⟩) (λkvs d r=>
  have k:=r.ind (key:=pJ) (M:=λl kvs=>dY (.int i) v l=some l'->kvs=[]/\l=[]) (λ_=>⟨rfl,rfl⟩) (λ_ _ _ h=>nn h) h
  ⟨[],oH (k.1▸d),k.2▸.nil⟩) λn e z=>⟨[],qS z,e▸.nil⟩
theorem e2k {i:List Nat} (c:DctAt T w W s.heap a l) (h:dY (.str i) v l=some l'):∃kvs,s.heap.DictOf (PySem.strKind pw w) a kvs/\bL T W pJ l kvs:=
 c.rec (λkvs d r=>
  have k:=r.ind (key:=dQ) (M:=λl kvs=>dY (.str i) v l=some l'->kvs=[]/\l=[]) (λ_=>⟨rfl,rfl⟩) (λ_ _ _ h=>nn h) h
  ⟨[],oH (k.1▸d),k.2▸.nil⟩) (λkvs d r=>⟨kvs,d,r⟩) λn e z=>⟨[],qS z,e▸.nil⟩
theorem d8o {x:AV} {b c:Value} (ck:bT T w W s.heap a (.dict l)) (hx:Rep T W x b) (hv:Rep T W v c) (h:dY x v l=some l') (hl:l.length<=1000) {Q:Unit->Shared->Prop}
  (q:∀h',Heap.SameBut a s.heap h'->bT T w W h' a (.dict l')->Q () {s with heap:=h',toks:=s.toks+1}):wpAny (model pw w) A (setItem (.ref a) b c) Q No s:=
 have sz:∀{n:Nat},l.length=n->n<=sizeLine:=λe=>h3j (e▸hl) (by decide)
 d9p (M:=λx=>Rep T W x b->wpAny (model pw w) A (setItem (.ref a) b c) Q No s) h
  (λi h hx=>(f2k ck.2 h).elim λkvs k=>hx.int_el λ{t}=>wpAny_setItem_pairs (knd:=intKind pw w) (k:=i) (hsz:=sz k.2.drop) (hZ i t) k.1 λh' d' sb=>q h' sb ⟨ck.1,.ints _ d' (zW (key:=dQ) (λ_=>rfl) rfl hv k.2 (u2 k.1) h)⟩)
  (λi h hx=>(e2k ck.2 h).elim λkvs k=>hx.str_el (M:=λi b=>dY (.str i) v l=some l'->wpAny (model pw w) A (setItem (.ref a) b c) Q No s) (λ{x t} _ h=>wpAny_setItem_pairs (knd:=PySem.strKind pw w) (k:=x) (hsz:=sz k.2.drop) (mD x t) k.1 λh' d' sb=>q h' sb ⟨ck.1,.strs _ d' (zW (key:=pJ) (λ_=>d7g) rfl hv k.2 (u2 k.1) h)⟩) h) hx
end
theorem Cfg.newNe (C:Cfg Φ Tt fn w R A X G env) (I:Inv Φ.T w X G env W L st m s):s.heap.objs.size≠sysModules:=λe=>by
 obtain⟨a,o,hK,hlt⟩:=C.H.big;exact absurd (h4y hlt (Heap.lt_size (C.kin I a o hK))) (e▸h4p _)
theorem d6r (C:Cfg Φ Tt fn w R A X G env) {k:Nat} {pos:Pos}:SE Φ Tt w R A X G env (.dictD k [] .nil) (.Dict [] [] pos):=by
 intro W L st m s K Q I h' q;exact oN h' λr hr h'=>
  have f:=I.newCell (s':={s with heap:=s.heap.push emptyDict}) (a:=s.heap.objs.size) (c:=.dict []) rfl rfl (h3k _) (λ_ _ e=>h4v _ e) (fY hr) ⟨C.newNe I,.none 0 rfl (Heap.get?_push_size _ rfl)⟩
  wpAny_Dict_empty (q f.1 f.2 (.ref gW) h'.2)
end
inductive FRep (T:Tb) (W:Wd):Fl->Flow->Prop
 |nxt:FRep T W .nxt .next
 |brk:FRep T W .brk .brk
 |cont:FRep T W .cont .cont
 |ret {v x}:Rep T W v x->FRep T W (.ret v) (.ret x)
section
variable (Φ:Fx) (Tt:Tab) (w:World) (R:RT) (A:Around) (X:Cx) (G:Gh) (env:Env)
abbrev CS (W:Wd) (K:FK) (Q:Flow->Shared->Prop):Prop:=∀{W' L' st' m' fl f s'},W.le W'->Inv Φ.T w X G env W' L' st' m' s'->FRep Φ.T W' fl f->K fl L' st'->Q f s'
def SS (c:S) (x:Stmt):Prop:=∀{W L st m s K Q},Inv Φ.T w X G env W L st m s->aS Tt R c L st K->CS Φ w X G env W K Q->wpAny (model pw w) A (exec x env) Q No s
def sB (c:Ss) (x:List Stmt):Prop:=∀{W L st m s K Q},Inv Φ.T w X G env W L st m s->aZ Tt R c L st K->CS Φ w X G env W K Q->wpAny (model pw w) A (execs x env) Q No s
end
section
variable {Φ:Fx} {Tt:Tab} {fn:Nat->Option Fn} {w:World} {R:RT} {A:Around} {X:Cx} {G:Gh} {env:Env}
variable {W W₁:Wd} {L:aN} {st:aB} {m:Str->Option Value} {s s':Shared} {T:Tb}
theorem mJ {v:Expr} {t:Option Expr} {n:Nat} (h:gE v=true):swapsWith v t n env=pure false:=by
 cases v<;>first|rfl|exact ff h
theorem Cfg.pl (C:Cfg Φ Tt fn w R A X G env):(env.scope.kind==.class||(env.scope.kind==.module&&env.locals !=env.globals))=false:=by
 rw [C.kind];rfl
section
variable {i:Nat} {x:Str} {Q:Unit->Shared->Prop} (C:Cfg Φ Tt fn w R A X G env) (hx:aD X.vars i=some x) (hk:X.scope.names.lookup x=some .local)
include C hx hk
theorem l6 {v:AV} {y:Value} (I:Inv Φ.T w X G env W L st m s) (hv:Rep Φ.T W v y)
  (q:∀{m' s'},Inv Φ.T w X G env W (bW L i (.val v)) st m' s'->(∀b o,b≠env.locals->s.heap.get? b=some o->s'.heap.get? b=some o)->Q () s'):wpAny (model pw w) A (storeName env x y) Q No s:=
 wpAny_storeName_local (C.look hk) I.ns (λh' hn hs=>q (I.store C.ok.nodup (s':={s with heap:=h',toks:=s.toks+1}) rfl rfl rfl hx hk hn hs hv) λb o hb e=>(hs.2 b hb).trans e) C.pl
theorem c1k {l:List AV} {a:Addr} {vs:List Value} {n:Nat} (I:Inv Φ.T w X (G.plus a (c5 vs n)) env W L st m s) (np:G.prot a=none) (z:vs.length<=sizeLine) (hv:aL Φ.T W l vs)
  (q:∀{m' s'},Inv Φ.T w X G env W (bW L i (.own l)) st m' s'->Q () s'):wpAny (model pw w) A (storeName env x (.ref a)) Q No s:=by
 have u:=I.unaside np;exact wpAny_storeName_local (C.look hk) I.ns (λh' hn hs=>q (u.2.store C.ok.nodup (s':={s with heap:=h',toks:=s.toks+1}) rfl rfl rfl hx hk hn hs ⟨a,vs,n,rfl,⟨u.1.o,z,hv,u.1.p,u.1.l,np⟩,λj _ o=>u.1.n j o⟩)) C.pl
end
theorem d0z (C:Cfg Φ Tt fn w R A X G env) {i:Nat} {e:E} {x:Str} {p pos:Pos} {v:Expr} (hx:cH X i .local x=true) (h:SE Φ Tt w R A X G env e v) (nc:gE v=true):SS Φ Tt w R A X G env (.assign i e) (.Assign [.Name x p] v pos):=
 λI h' q=>wpAny_Assign_Name (h I h' λle1 I1 r1 k1=>l6 C (bV hx).1 (bV hx).2.1 I1 r1 λI2 _=>q le1 I2 .nxt k1) (mJ nc)
theorem f1t (C:Cfg Φ Tt fn w R A X G env) {i:Nat} {f:F} {x:Str} {p pos:Pos} {v:Expr} (hx:cH X i .local x=true) (h:SF Φ Tt w R A X G env f v) (nc:gE v=true):SS Φ Tt w R A X G env (.ownS i f) (.Assign [.Name x p] v pos):=
 λI h' q=>wpAny_Assign_Name (h I h' λle1 I1 np z r1 k1=>c1k C (bV hx).1 (bV hx).2.1 I1 np z r1 λI2=>q le1 I2 .nxt k1) (mJ nc)
theorem Cfg.inter (C:Cfg Φ Tt fn w R A X G env):interactive env=false:=by unfold interactive;rw [C.kind];rfl
theorem e9o (C:Cfg Φ Tt fn w R A X G env) {e:E} {v:Expr} {pos:Pos} (h:SE Φ Tt w R A X G env e v) (nc:gE v=true):SS Φ Tt w R A X G env (.expr e) (.Expr v pos):=
 λ{_ _ _ _ _ _ Q} I h' q=>wpAny_Expr_any (Q:=Q) (h I h' λle1 I1 r1 k1=>q le1 I1 .nxt k1) C.inter (mJ nc)
theorem a8x {vs:List Value} {v:Value}:vs.toArray.push v=(vs++[v]).toArray:=List.push_toArray ..
theorem c2y:apS=("append":Str):=by decide+kernel
theorem y3 {l:List AV} {vs:List Value} {y:Value} (r:aL T W l vs) (h:l.length<=1000000):(vs++[y]).length<=sizeLine:=by
 rw [h3o];exact h3j (h3r (r.length▸h)) (by decide)
theorem b5g {a:Addr} {vs0:List Value} {n0:Nat} {y:Expr} {pos:Pos} {pl:Sem Bool} {Q:Value->Shared->Prop} (ho0:s.heap.get? a=some (c5 vs0 n0)) (ns:bM y=true)
  (h:wpAny (model pw w) A (spliced (backTo pos (starEach [y] env))) (λvs s1=>wpAny (model pw w) A (call (.builtin "list.append") ([.ref a]++vs)) Q No s1) No s):
  wpAny (model pw w) A (getMethod (.ref a) ("append":Str) pl) (λp s₂=>wpAny (model pw w) A (callWith pos p.1 p.2 (backTo pos (starEach [y] env)) []) Q No s₂) No s:=
 Calls.getMethod_list_append ho0 rfl rfl (callWith_method1 h (e8 ns) rfl)
theorem a3q {a:Addr} {vs:List Value} {n:Nat} {v:Value} {Q:Value->Shared->Prop} (ho:s.heap.get? a=some (c5 vs n)) (hz:vs.length<=sizeLine)
  (q:∀{h'},(∀b o,b≠a->s.heap.get? b=some o->h'.get? b=some o)->h'.get? a=some (c5 (vs++[v]) (n+1))->Q .none {s with heap:=h'}):wpAny (model pw w) A (call (.builtin "list.append") [.ref a,v]) Q No s:=
 append_at (its:=vs.toArray) (n:=n) ho (λh' hs ha=>q (λb o hb e=>(hs.2 b hb).trans e) (by rw [a8x]at ha;exact ha)) hz
theorem e9r (C:Cfg Φ Tt fn w R A X G env) {i:Nat} {e:E} {x:Str} {p apos pos r:Pos} {nm:Str} {y:Expr} (hx:cH X i .local x=true) (hnm:bD apS nm=true) (hl:fZ apos pos=true) (h:SE Φ Tt w R A X G env e y) (ns:bM y=true):
  SS Φ Tt w R A X G env (.appV i e) (.Expr (.Call (.Attribute (.Name x p) nm apos) [y] [] pos) r):=by
 intro W L st m s K Q I h' q;have hn:=bV hx;obtain rfl:nm=("append":Str):=(cM hnm).symm.trans c2y;exact uG h' λl0 hl0 h'=>(I.slot_own hn.1 hl0).rec λa vs0 n0 _ e B0=>
  wpAny_Expr_any (Q:=Q) (gZ rfl hl rfl (by show(bM y&&true)=true;rw [ns];rfl) (kG C I hn.2.1 hn.2.2 e (b5g B0.o ns (k7 ns h I h' λle2 I2 r2 k2=>uG k2 λl hl2 k2=>(I2.slot_own hn.1 hl2).rec λa' vs n hk e' B=>by
   cases e.symm.trans e';exact a3q B.o B.z λk ha=>q le2 (I2.setOwn C.ok.nodup hn.1 hl2 hk e B rfl rfl k ha (y3 B.r k2.1) (B.r.append (.cons r2 .nil))) .nxt k2.2)))) C.inter rfl
theorem f0a (C:Cfg Φ Tt fn w R A X G env) {lx e:E} {ob:Expr} {apos pos r:Pos} {nm:Str} {y:Expr} (hlx:SE Φ Tt w R A X G env lx ob) (hsup:dG ob=true) (hnm:bD apS nm=true) (hl:fZ apos pos=true) (h:SE Φ Tt w R A X G env e y) (ns:bM y=true):
  SS Φ Tt w R A X G env (.appC lx e) (.Expr (.Call (.Attribute ob nm apos) [y] [] pos) r):=by
 intro W L st m s K Q I h' q;obtain rfl:nm=("append":Str):=(cM hnm).symm.trans c2y;refine wpAny_Expr_any (Q:=Q) (gZ hsup hl rfl (by show(bM y&&true)=true;rw [ns];rfl) (hlx I h' λ{_ _ st1 x _ _} le1 I1 r1 k1=>avR (M:=λx=>Rep Φ.T _ x _->wpAny (model pw w) A _ _ No _) k1 (λr k1 r1=> ?_) r1)) C.inter rfl
 obtain⟨a,rfl,hm⟩:=r1.ref_inv;refine lsC k1 λl0 hc k1=>(I1.base.mu_at hm hc).rec λvs0 n0 ho0 _ _=>b5g ho0 ns (k7 ns h I1 k1 λ{_ _ _ z _ _} le2 I2 r2 k2=> ?_)
 exact lsC k2 λl hc2 k2=>(I2.base.mu_at (le2.2 _ _ hm) hc2).rec λvs n ho hz rr=>
  a3q ho hz λk ha=>q (le1.trans le2) (I2.setCell (c:=.list (l++[z])) rfl rfl (le2.2 _ _ hm) k ⟨_,_,ha,y3 rr k2.1,rr.append (.cons r2 .nil)⟩) .nxt k2.2
theorem obC {o:Option Cell} {f:List (Nat×AV)->Prop} {P:Prop} (h:match o with|some (.obj l)=>f l|_=>False) (k:∀l,o=some (.obj l)->f l->P):P:=by
 cases o with
 |none=>exact h.elim
 |some c=>exact @Cell.casesOn (λd=>c=d->(match some d with|some (.obj l)=>f l|_=>False)->P) c (λ_ _ h=>h.elim) (λl e h=>k l (h3s some e) h) (λ_ _ h=>h.elim) rfl h
theorem obT {t:Bool} {o:Option Cell} {f:List (Nat×AV)->Prop} {P:Prop} (h:match t,o with|true,some (.obj l)=>f l|_,_=>False) (k:∀l,t=true->o=some (.obj l)->f l->P):P:=by
 cases t with
 |false=>exact h.elim
 |true=>
  cases o with
  |none=>exact h.elim
  |some c=>exact @Cell.casesOn (λd=>c=d->(match true,some d with|true,some (.obj l)=>f l|_,_=>False)->P) c (λ_ _ h=>h.elim) (λl e h=>k l rfl (h3s some e) h) (λ_ _ h=>h.elim) rfl h
theorem tT {t:Bool} {f:Prop} {P:Prop} (h:match t with|true=>f|false=>False) (k:t=true->f->P):P:=by
 cases t with
 |false=>exact h.elim
 |true=>exact k rfl h
theorem e4w (C:Cfg Φ Tt fn w R A X G env) {o e:E} {a:Nat} {v y:Expr} {at':Str} {p pos:Pos} (he:SE Φ Tt w R A X G env e y) (ho:SE Φ Tt w R A X G env o v) (hn:bD (Φ.T.nm a) at'=true) (nc:gE y=true):
  SS Φ Tt w R A X G env (.setA o a e) (.Assign [.Attribute v at' p] y pos):=by
 obtain rfl:=cM hn;intro W L st m s K Q I h' q;refine plainObj_wpAny_Assign_Attribute (he I h' λ{_ _ _ z _ _} le1 I1 r1 k1=>ho I1 k1 λ{_ _ st2 x _ _} le2 I2 r2 k2=> ?_) (mJ nc)
 exact avO (M:=λx=>Rep Φ.T _ x _->wpAny (model pw w) A _ _ No _) k2 (λc r k2 r2=>obT k2 λfs hf hc k2=>tT k2 λhb k2=>b4b C.H I2 (C.kn I2) hf hc r2 (r1.mono le2) (h3n hb) λI3=>q (le1.trans le2) I3 .nxt k2) r2
theorem d2k {c r a:Nat} {u:AV} (hu:tD Tt st (.obj c r) a=some u):Tt.fld c a=true:=b5b hu λc' _ e _ h _=>h3l e▸h
theorem e3u (C:Cfg Φ Tt fn w R A X G env) {o e:E} {a:Nat} {op:Op} {op':Operator} {v y:Expr} {at':Str} {p pos:Pos} (ho:SE Φ Tt w R A X G env o v) (he:SE Φ Tt w R A X G env e y) (hop:rI op op'=true) (hg:zL op'=true) (hn:bD (Φ.T.nm a) at'=true):
  SS Φ Tt w R A X G env (.augA o a op e) (.AugAssign (.Attribute v at' p) op' y pos):=by
 obtain rfl:=cM hn;intro W L st m s K Q I h' q;refine wpAny_AugAssign_AttributeAny (ho I h' λ{_ _ st1 x _ _} le1 I1 r1 k1=> ?_)
 exact oAV k1 λu hu k1=>b3t C.H I1.base (C.kn I1) hu r1 λru g2=>he (I1.gr g2) k1 λ{_ _ st3 z _ _} le3 I3 r3 k3=>c2f (λ{z _ _} rz g4 k4=>
  avO (M:=λx=>tD Tt _ x a=some u->Rep Φ.T _ x _->wpAny (model pw w) A _ _ No _) k4 (λc r k4 hu r1=>obC k4 λfs hc k4=>tT k4 λhb k4=>b4b C.H (I3.gr g4) (C.kn (I3.gr g4)) (d2k hu) hc (r1.mono le3) rz (h3n hb) λI5=>q (le1.trans le3) I5 .nxt k4) hu r1) k3 (ru.mono le3) r3 hop hg
theorem f2f {o:Option Slot} {g:AV->Prop} {P:Prop} (h:match o with|some (.val l)=>g l|_=>False) (k':∀l,o=some (.val l)->g l->P):P:=
 Option.casesOn (motive:=λo'=>o=o'->(match o' with|some (.val l)=>g l|_=>False)->P) o (λ_ h=>h.elim) (λs=>@Slot.casesOn (λs=>o=some s->(match some s with|some (.val l)=>g l|_=>False)->P) s (λ_ h=>h.elim) k' (λ_ _ h=>h.elim)) rfl h
theorem e7a (C:Cfg Φ Tt fn w R A X G env) {i:Nat} {e:E} {op:Op} {op':Operator} {x:Str} {y:Expr} {p pos:Pos} (hx:cH X i .local x=true) (he:SE Φ Tt w R A X G env e y) (hop:rI op op'=true) (hg:zL op'=true):
  SS Φ Tt w R A X G env (.augV i op e) (.AugAssign (.Name x p) op' y pos):=by
 intro W L st m s K Q I h' q;have hn:=bV hx;exact f2f h' λu hu h'=>(I.slot_val hn.1 hu).rec (λyv _ e r=>wpAny_AugAssign_Name (a4k C I hn.2.1 e (he I h' λle3 I3 r3 k3=>c2f (λrz g4 k4=>l6 C hn.1 hn.2.1 (I3.gr g4) rz λI5 _=>q le3 I5 .nxt k4) k3 (r.mono le3) r3 hop hg))) λ_ _ _ hc=>nomatch hn.2.1.symm.trans hc
theorem e3m {d k e:E} {v i y:Expr} {p pos:Pos} (he:SE Φ Tt w R A X G env e y) (hd:SE Φ Tt w R A X G env d v) (hk:SE Φ Tt w R A X G env k i) (nc:gE y=true):
  SS Φ Tt w R A X G env (.setI d k e) (.Assign [.Subscript v i p] y pos):=by
 intro W L st m s K Q I h' q;refine wpAny_Assign_Subscript (he I h' λ{_ _ _ z _ _} le1 I1 r1 k1=>hd I1 k1 λ{_ _ _ x _ _} le2 I2 r2 k2=>hk I2 k2 λ{_ _ st3 y _ _} le3 I3 r3 k3=> ?_) (mJ nc)
 refine avR (M:=λx=>Rep Φ.T _ x _->wpAny (model pw w) A _ _ No _) k3 (λr k3 r2=> ?_) r2
 obtain⟨a,rfl,hm⟩:=r2.ref_inv;have hm:=le3.2 _ _ hm;exact dcC k3 λl hc k3=>oDs k3 λl' hl' k3=>d8o (I3.base.mu_at hm hc) r3 (r1.mono (le2.trans le3)) hl' k3.1 λh' sb c'=>q (le1.trans (le2.trans le3)) (I3.setCell (c:=.dict l') rfl rfl hm (λb o hb e=>(sb.2 b hb).trans e) c') .nxt k3.2
theorem f7r {e:E} {y:Expr} {pos:Pos} (h:SE Φ Tt w R A X G env e y):SS Φ Tt w R A X G env (.ret e) (.Return (some y) pos):=
 λI h' q=>wpAny_Return_some (h I h' λle1 I1 r1 k1=>q le1 I1 (.ret r1) k1)
theorem f2s {pos:Pos}:SS Φ Tt w R A X G env .retN (.Return none pos):=λI h' q=>wpAny_Return_none (q (.refl _) I (.ret .none) h')
theorem f6o {pos:Pos}:SS Φ Tt w R A X G env .brk (.Break pos):=λI h' q=>wpAny_Break (q (.refl _) I .brk h')
theorem e1a {pos:Pos}:SS Φ Tt w R A X G env .cont (.Continue pos):=λI h' q=>wpAny_Continue (q (.refl _) I .cont h')
theorem f9b {c:C} {a b₂:Ss} {t:Expr} {x y:List Stmt} {pos:Pos} (hc:SC Φ Tt w R A X G env c t) (ha:sB Φ Tt w R A X G env a x) (hb:sB Φ Tt w R A X G env b₂ y):SS Φ Tt w R A X G env (.ite c a b₂) (.If t x y pos):=
 λI h' q=>wpAny_If (hc I h' λ{W1 L1 st1 b s1} le1 I1=>d3z (M:=λb=>f1m (aZ Tt R a) (aZ Tt R b₂) _ b L1 st1->if b then wpAny (model pw w) A (execs x env) _ No s1 else wpAny (model pw w) A (execs y env) _ No s1) b (λk1=>ha I1 k1 λle2=>q (le1.trans le2)) λk1=>hb I1 k1 λle2=>q (le1.trans le2))
theorem f2v:sB Φ Tt w R A X G env .nil []:=λI h' q=>h4t (q (.refl _) I .nxt h')
theorem b3u {c:S} {cs:Ss} {x:Stmt} {xs:List Stmt} (h:SS Φ Tt w R A X G env c x) (hs:sB Φ Tt w R A X G env cs xs):sB Φ Tt w R A X G env (.cons c cs) (x::xs):=by
 intro W L st m s K Q I h' q;rw [execs];exact h4s (h I h' λ{W1 L1 st1 _ fl f s1} le1 I1 r1 k1=>FRep.casesOn (motive:=λfl f _=>jB (aZ Tt R cs) K fl L1 st1->wpAny (model pw w) A (match f with| .next=>execs xs env|f=>pure f) Q No s1) r1 (λk1=>hs I1 k1 λle2=>q (le1.trans le2)) (λk1=>h4t (q le1 I1 .brk k1)) (λk1=>h4t (q le1 I1 .cont k1)) (λr k1=>h4t (q le1 I1 (.ret r) k1)) k1)
end
inductive It (T:Tb) (W:Wd) (l:List AV) (o:Obj):Prop
 |lst {ax vs n i}:W.F ax=some (c5 vs n)->aL T W l (vs.drop i)->i<=vs.length->o.cls=.type "list_iterator"->o.data=.fields #[.ref ax,.int (i:Nat) 0]->It T W l o
 |tup {ax vs n i}:W.F ax=some (u5 vs n)->aL T W l (vs.drop i)->i<=vs.length->o.cls=.type "tuple_iterator"->o.data=.fields #[.ref ax,.int (i:Nat) 0]->It T W l o
 |rng {x:Int} {k:Nat}:l=e9 x k->o={cls:=.type "range_iterator",dict:=none,data:=.fields #[rawInt x,rawInt k,rawInt 1],slots:= #[]}->It T W l o
section
variable {Φ:Fx} {Tt:Tab} {fn:Nat->Option Fn} {w:World} {R:RT} {A:Around} {X:Cx} {G:Gh} {env:Env}
variable {W W₁:Wd} {L:aN} {st:aB} {m:Str->Option Value} {s s':Shared} {T:Tb}
theorem It.mono {W':Wd} {l:List AV} {o:Obj} (k:W.le W') (h:It T W l o):It T W' l o:=h.rec (λa b c d e=>.lst (k.1 _ _ a) (b.mono k) c d e) (λa b c d e=>.tup (k.1 _ _ a) (b.mono k) c d e) .rng
theorem Inv.asd {a:Addr} {o:Obj} (I:Inv T w X G env W L st m s) (h:G.prot a=some o):Asd X G env W L m s a o:=have z:=I.prot a o h;⟨z.1,z.2.1,z.2.2,λi O=>I.ownB O λ_ _ _ B=>dD B.q h⟩
theorem Inv.at {P:Addr->Option Obj} {a:Addr} (I:Inv T w X G env W L st m s) (p:Pv G W a) (l:a≠env.locals) (n:∀i,¬Owns X L m i a) (hg:s'.gens=s.gens) (hos:s'.os=s.os) (k:∀b p,b≠a->s.heap.get? b=some p->s'.heap.get? b=some p)
  (hP:∀b p,P b=some p->(b=a/\s'.heap.get? a=some p)\/(b≠a/\G.prot b=some p)):Inv T w X {G with prot:=P} env W L st m s':=
 I.step (P:=P) (hg.trans I.gens) (hos.trans I.os) (I.base.but p k) (.refl _) (λb p q z=>⟨p,λo=>k b o λe=>z.elim (λz=>l (e.symm.trans z)) λ⟨i,z⟩=>n i (e▸z)⟩)
  (λb o e=>(hP b o e).elim (λq=>⟨q.1▸q.2,q.1▸p,q.1▸l⟩) λq=>(I.prot b o q.2).imp (k b o q.1) id) λi b z=>I.ownB z λ_ _ _ B=>by
   cases e:P b with
   |none=>rfl
   |some o=>exact(hP b o e).elim (λq=>absurd (q.1▸z) (n i)) λq=>dD B.q q.2
theorem Inv.setAside {a:Addr} {o o':Obj} (I:Inv T w X (G.plus a o) env W L st m s) (np:G.prot a=none) (hg:s'.gens=s.gens) (hos:s'.os=s.os) (k:∀b p,b≠a->s.heap.get? b=some p->s'.heap.get? b=some p) (ho:s'.heap.get? a=some o'):
  Inv T w X (G.plus a o') env W L st m s':=
 have u:=I.asd (if_pos rfl)
 I.at (P:=(G.plus a o').prot) u.p u.l u.n hg hos k λb p e=>fF e (λq e=>.inl ⟨q,ho.trans e⟩) λq e=>.inr ⟨q,(jW q).trans e⟩
theorem a8c {a b:Addr} {o p:Obj} (np:G.prot a=none) (e:G.prot b=some p):b≠a/\(G.plus a o).prot b=some p:=have q:b≠a:=λq=>dD np (q▸e);⟨q,(jW q).trans e⟩
theorem Inv.dropAside {a:Addr} {o:Obj} (I:Inv T w X (G.plus a o) env W L st m s) (np:G.prot a=none) (hg:s'.gens=s.gens) (hos:s'.os=s.os) (k:∀b p,b≠a->s.heap.get? b=some p->s'.heap.get? b=some p):
  Inv T w X G env W L st m s':=
 have u:=I.asd (if_pos rfl)
 I.at (P:=G.prot) u.p u.l u.n hg hos k λb p e=>.inr (a8c np e)
inductive NextR (T:Tb) (W:Wd) (x:AV) (l:List AV) (vs:List Value) (i:Nat):Prop
 |mk (y:Value):vs[i]?=some y->Rep T W x y->aL T W l (vs.drop (i+1))->i+1<=vs.length->NextR T W x l vs i
theorem qK {x:AV} {l:List AV} {vs:List Value} {i:Nat} (r:aL T W (x::l) (vs.drop i)):NextR T W x l vs i:=by
 rcases Nat.lt_or_ge i vs.length with h|h
 ·rw [List.drop_eq_getElem_cons h]at r;cases r with|mk hx r=>exact⟨_,List.getElem?_eq_getElem h,hx,r,h⟩
 ·rw [List.drop_eq_nil_of_le h]at r;exact nomatch r
theorem rX {vs:List Value} {i:Nat} (r:aL T W [] (vs.drop i)):vs[i]?=none:=List.getElem?_eq_none (List.drop_eq_nil_iff.mp r)
section
variable {it:Addr} {o:Obj} {Q:Option Value->Shared->Prop}
theorem b3s {x:AV} {l xl:List AV} (I:Inv T w X G env W L st m s) (hp:G.prot it=some o) (h:It T W xl o) (hl:x::l=xl)
  (q:∀{y o' s'},Rep T W x y->It T W l o'->s'.heap.get? it=some o'->(∀{P:Addr->Option Obj},(∀b p,P b=some p->(b=it/\o'=p)\/(b≠it/\G.prot b=some p))->Inv T w X {G with prot:=P} env W L st m s')->Q (some y) s'):wpAny (model pw w) A (pyNext (.ref it)) Q No s:=by
 have u:=I.asd hp;have ho:s.heap.get? it=some o:=u.o;have next:∀{o':Obj} {s':Shared},s'.gens=s.gens->s'.os=s.os->(∀b p,b≠it->s.heap.get? b=some p->s'.heap.get? b=some p)->s'.heap.get? it=some o'->∀{P:Addr->Option Obj},(∀b p,P b=some p->(b=it/\o'=p)\/(b≠it/\G.prot b=some p))->Inv T w X {G with prot:=P} env W L st m s':=
  λhg hos k ho' _ hP=>I.at u.p u.l u.n hg hos k λb p e=>(hP b p e).elim (λq=>.inl ⟨q.1,q.2▸ho'⟩) .inr
 subst hl;cases h with
 | @lst ax vs n i hF r hi hc hd=>
  obtain⟨y,hy,rx,r',hi'⟩:=qK r;exact wpAny_pyNext_list_item (l:=ax) (items:=vs.toArray) ⟨o,ho,hc,hd⟩ ⟨_,I.base.froz _ _ hF,rfl,_,rfl⟩ (List.getElem?_toArray.trans hy) λh' ⟨o',ho',hc',hd'⟩ hs=>q rx (.lst hF r' hi' hc' hd') ho' (next (s':={s with heap:=h'}) rfl rfl (λb p q e=>(hs.2 b q).trans e) ho')
 | @tup ax vs n i hF r hi hc hd=>
  obtain⟨y,hy,rx,r',hi'⟩:=qK r;exact wpAny_pyNext_tuple_item (t:=ax) (items:=vs.toArray) ⟨o,ho,hc,hd⟩ ⟨_,I.base.froz _ _ hF,rfl,_,rfl⟩ (List.getElem?_toArray.trans hy) λh' ⟨o',ho',hc',hd'⟩ hs=>q rx (.tup hF r' hi' hc' hd') ho' (next (s':={s with heap:=h'}) rfl rfl (λb p q e=>(hs.2 b q).trans e) ho')
 | @rng z k el e=>
  cases k with
  |zero=>exact nomatch el
  |succ k=>
   obtain⟨rfl,rfl⟩:=List.cons.inj el;subst e;refine wpAny_pyNext_range_item (it:=it) (x:=z) (left:=((k+1:Nat):Int)) (step:=1) ho (Int.natCast_pos.mpr (h4z k)) λh' hit hs=> ?_
   rw [show(((k+1:Nat):Int) - 1)=(k:Int) from Int.add_sub_cancel (k:Int) 1]at hit
   exact q .int (.rng rfl rfl) hit (next (s':={s with heap:=h',toks:=s.toks+1}) rfl rfl (λb p q e=>(hs.2 b q).trans e) hit)
theorem c0q {xl:List AV} (hh:A.handled=none) (I:Inv T w X G env W L st m s) (hp:G.prot it=some o) (h:It T W xl o) (hl:[]=xl) {P:Addr->Option Obj} (hP:∀b p,P b=some p->b≠it/\G.prot b=some p)
  (q:∀{s'},Inv T w X {G with prot:=P} env W L st m s'->Q none s'):wpAny (model pw w) A (pyNext (.ref it)) Q No s:=by
 have u:=I.asd hp;have ho:s.heap.get? it=some o:=u.o;have fin:∀{h':Heap},(∀b p,b≠it->s.heap.get? b=some p->h'.get? b=some p)->Q none {s with heap:=h'}:=λhs=>q (I.at (s':={s with heap:=_}) u.p u.l u.n rfl rfl hs λb p e=>.inr (hP b p e))
 subst hl;cases h with
 | @lst ax vs n i hF r hi hc hd=>exact wpAny_pyNext_list_end (l:=ax) (items:=vs.toArray) hh ⟨o,ho,hc,hd⟩ ⟨_,I.base.froz _ _ hF,rfl,_,rfl⟩ (List.getElem?_toArray.trans (rX r)) λh' hs=>fin λb p q e=>hs b p q e
 | @tup ax vs n i hF r hi hc hd=>exact wpAny_pyNext_tuple_end (t:=ax) (items:=vs.toArray) hh ⟨o,ho,hc,hd⟩ ⟨_,I.base.froz _ _ hF,rfl,_,rfl⟩ (List.getElem?_toArray.trans (rX r)) λh' hs=>fin λb p q e=>hs b p q e
 | @rng z k el e=>
  cases k with
  |succ k=>exact nomatch el
  |zero=>subst e;exact wpAny_pyNext_range_end (it:=it) (x:=z) (left:=((0:Nat):Int)) (step:=1) hh ho (Int.le_refl 0) λh' hs=>fin λb p q e=>hs b p q e
end
theorem d3h {it:Addr} {o:Obj} {l:List AV} {tg:List Nat} {one:Bool} {t:Expr} {v:Value} {Q:Unit->Shared->Prop} (ht:iO X tg one t=true) (ho:s.heap.get? it=some o) (h:It T W l o) (q:Q () s):wpAny (model pw w) A (letOwnedTupleGo t (.ref it) v) Q No s:=by
 have key:∀{a:Addr},wpAny (model pw w) A (do
   let o<-load it
   match o.cls,o.data with
   | .type n,.fields vs=>
    if ["enumerate","zip","dict_itemiterator","dict_reverseitemiterator","odict_iterator","itertools.zip_longest","itertools.pairwise"].contains n&&vs[0]?==some (rawInt a)then
     rule "for.unpacks-the-owned-tuple"
     updateField it 0 .none
   |_,_=>pure ()) Q No s:=λ{a}=>h4s (wpAny_load ho (by
  cases h with
  |lst _ _ _ hc hd=>rw [hc,hd];exact h4t q
  |tup _ _ _ hc hd=>rw [hc,hd];exact h4t q
  |rng _ e=>subst e;exact h4t q))
 have no:wpAny (model pw w) A (pure ()) Q No s:=h4t q;cases one with
 |true=>exact dM.el (M:=λt=>wpAny (model pw w) A (letOwnedTupleGo t (.ref it) v) Q No s) ht λ_=>no
 |false=>exact onT.el (M:=λt=>wpAny (model pw w) A (letOwnedTupleGo t (.ref it) v) Q No s) ht λ{es n p} _=>
   @Value.casesOn (λv=>wpAny (model pw w) A (letOwnedTupleGo (.Tuple es n p) (.ref it) v) Q No s) v no no no (λ_=>no) (λ_ _=>no) (λ_ _=>no) (λ_ _=>no) (λ_ _=>no) (λ_=>no) (λ_=>no) λ_=>key
end
section
variable {Φ:Fx} {Tt:Tab} {fn:Nat->Option Fn} {w:World} {R:RT} {A:Around} {X:Cx} {G:Gh} {env:Env}
variable {W W₁:Wd} {L:aN} {st:aB} {m:Str->Option Value} {s s':Shared} {T:Tb}
structure Tgs (env:Env) (is:List Nat) (ts:List Expr):Prop where
 n:(assignEach ts env).length=is.length
 z:(assignEach ts env).findIdx? (·.1)=none
theorem c2s:∀{is:List Nat} {ts:List Expr},a3m X is ts=true->Tgs env is ts:=λ{is}=>by
 induction is with
 |nil=>exact λh=>cB.el h▸⟨rfl,rfl⟩
 |cons i is ih=>exact λ{ts} h=>e7.el (M:=λts=>Tgs env (i::is) ts) h λ{t r} h=>dM.el (M:=λt=>Tgs env (i::is) (t::r)) (b2 h).1 λ{x p} _=>
   have k:=ih (b2 h).2
   ⟨h3s (· +1) k.n,(List.findIdx?_cons (xs:=assignEach r env)).trans (by rw [k.z];rfl)⟩
theorem sP (C:Cfg Φ Tt fn w R A X G env) {Q:Unit->Shared->Prop} {L':aN} (q:∀{m' s'},Inv Φ.T w X G env W L' st m' s'->Q () s'):∀{is:List Nat} {ts:List Expr} {vs:List AV} {xs:List Value} {L:aN} {m:Str->Option Value} {s:Shared},a3m X is ts=true->aL Φ.T W vs xs->mZ L is vs=some L'->Inv Φ.T w X G env W L st m s->
  wpAny (model pw w) A (assignInOrder ((assignEach ts env).map (·.2)) xs) Q No s:=λ{is}=>by
 induction is with
 |nil=>
  intro ts vs xs L m s ht r h I;cases vs with
  |nil=>
   obtain rfl:=cB.el ht;obtain rfl:xs=[]:=r;exact h4t (q (h3l h▸I))
  |cons=>exact nomatch h
 |cons i is ih=>
  intro ts vs xs L m s ht r h I;cases vs with
  |nil=>exact nomatch h
  |cons v vs=>exact ConsV.casesOn (motive:=λxs _=>wpAny (model pw w) A (assignInOrder ((assignEach ts env).map (·.2)) xs) Q No s) r λ{x xs} rv r=>e7.el (M:=λts=>wpAny (model pw w) A (assignInOrder ((assignEach ts env).map (·.2)) (x::xs)) Q No s) ht λ{t ts} ht=>dM.el (M:=λt=>wpAny (model pw w) A (assignInOrder ((assignEach (t::ts) env).map (·.2)) (x::xs)) Q No s) (b2 ht).1 λ{y p} hn=>
    assignInOrder_cons (wpAny_assign_Name (l6 C (bV hn).1 (bV hn).2.1 I rv λI' _=>ih (b2 ht).2 r h I'))
theorem b8r {L':aN}:∀{is:List Nat} {l:List AV} {L:aN},mZ L is l=some L'->is.length=l.length:=λ{is}=>by
 induction is with
 |nil=>intro l L h;cases l with|nil=>rfl|cons=>exact nomatch h
 |cons i is ih=>intro l L h;cases l with|nil=>exact nomatch h|cons v l=>exact h3s (· +1) (ih h)
theorem Inv.ext' (I:Inv Φ.T w X G env W L st m s) {h':Heap} (he:Heap.ExtBut s.heap.objs.size s.heap h'):Inv Φ.T w X G env W L st m {s with heap:=h'}:=
 I.grow rfl rfl λb o e=>he b o (dS e (h3k _)) e
theorem d0w {it t:Addr} {items:Array Value} (hne:t≠it) (n:Nat):∀(i:Nat) (s:Shared) (Q:List Value->Shared->Prop),s.heap.IsListIter it t i->s.heap.IsList t items->i+n<=items.size->
  (∀h',h'.IsListIter it t (i+n)->Heap.SameBut it s.heap h'->Q ((items.toList.drop i).take n) {s with heap:=h'})->wpAny (model pw w) A (draw (.ref it) n) Q No s:=by
 induction n with
 |zero=>exact λi s Q hit _ _ hQ=>h4t (List.take_zero▸hQ s.heap hit (Heap.SameBut.refl ..))
 |succ n ih=>
  intro i s Q hit ht hle hQ;have hle:i+1+n<=items.size:=h4f i n 1▸hle;have hlt:i<items.size:=h3j (h3x _ _) hle;refine h4s (wpAny_pyNext_list_item hit ht (x:=items[i]) (Array.getElem?_eq_getElem hlt) λh₁ hit₁ hs₁=> ?_)
  refine h4s (wpAny_holding (ih (i+1) _ _ hit₁ (ht.extBut hs₁.extBut hne) hle λh₂ hit₂ hs₂=>h4t ?_))
  have:=hQ h₂ (h4f i n 1▸hit₂) (hs₁.trans hs₂);rw [List.drop_eq_getElem_cons (show i<items.toList.length from hlt),List.take_succ_cons]at this
  exact this
theorem a1t {t:Addr} {items:Array Value} {Q:List Value->Shared->Prop} (hh:A.handled=none) (ht:s.heap.IsList t items)
  (hQ:∀h',Heap.ExtBut s.heap.objs.size s.heap h'->Q items.toList {s with heap:=h'}):wpAny (model pw w) A (unpackItems (.ref t) items.size none) Q No s:=by
 have hlt:t≠s.heap.objs.size:=by obtain⟨o,ho,_⟩:=ht;exact Nat.ne_of_lt (Heap.lt_size ho)
 unfold unpackItems;refine h4s ?_
 ·unfold notIterableAtAll;refine h4s (wpAny_specialOf ht.typeIs slot_list_iter.lookup ?_);refine h4t ?_;simp only [Bool.false_eq_true,if_false];refine h4s (wpAny_holding (wpAny_pyIter_list ht ?_));refine h4s (wpAny_holding (d0w hlt items.size 0 _ _ ⟨_,Heap.get?_push_size _ rfl,rfl,rfl⟩ (ht.push _) (by omega) λh₁ hit₁ hs₁=> ?_))
  have hall:List.take items.size (List.drop 0 items.toList)=items.toList:=by
   rw [List.drop_zero];exact List.take_of_length_le (by simp)
  rw [hall];rw [if_neg (by simp)]
  have ht₁:h₁.IsList t items:=(ht.push _).extBut hs₁.extBut hlt;refine h4s (wpAny_holding (wpAny_pyNext_list_end hh hit₁ ht₁ (by simp) λh₂ he₂=> ?_))
  simp only [Option.isSome_none,Bool.false_eq_true,if_false];refine h4t (hQ h₂ λb o hb e=>he₂ b o hb (hs₁.extBut b o hb (h4v _ e)))
theorem xQ {elts:List Expr} {x1} {pos:Pos} {t:Addr} {items:Array Value} {Q:Unit->Shared->Prop} (hh:A.handled=none) (ht:s.heap.IsList t items)
  (hn:(assignEach elts env).length=items.size) (hstar:(assignEach elts env).findIdx? (·.1)=none)
  (h:∀h',Heap.ExtBut s.heap.objs.size s.heap h'->wpAny (model pw w) A (assignInOrder ((assignEach elts env).map (·.2)) items.toList) Q No {s with heap:=h'}):
  wpAny (model pw w) A (assign (.Tuple elts x1 pos) env (.ref t)) Q No s:=by
 rw [PyProof.Rows.assign_Tuple];refine h4s (wpAny_standAt ?_);unfold unpack;rw [hn,hstar];exact h4s (wpAny_holding (a1t hh ht h))
theorem yY (C:Cfg Φ Tt fn w R A X G env) {is:List Nat} {ts:List Expr} {x:AV} {y:Value} {k:Nat} {p:Pos} {L':aN} {Q:Unit->Shared->Prop} (ht:a3m X is ts=true) (hy:Rep Φ.T W x y) (h:pQ L is x=some L') (I:Inv Φ.T w X G env W L st m s)
  (q:∀{m' s'},Inv Φ.T w X G env W L' st m' s'->Q () s'):wpAny (model pw w) A (assign (.Tuple ts k p) env y) Q No s:=
 have t:=c2s (env:=env) ht;have n:∀{l:List AV} {vs:List Value},aL Φ.T W l vs->mZ L is l=some L'->(assignEach ts env).length=vs.length:=λr h=>t.n.trans ((b8r h).trans r.length)
 @AV.casesOn (λx=>pQ L is x=some L'->Rep Φ.T W x y->wpAny (model pw w) A (assign (.Tuple ts k p) env y) Q No s) x nn (λ_=>nn) (λ_=>nn) (λ_=>nn)
  (λl h hy=>hy.tup_el λ{_ vs _} z hF r=>wpAny_assign_Tuple (items:=vs.toArray) C.hand ⟨_,I.base.froz _ _ hF,rfl,_,rfl⟩ (n r h) t.z λh' he=>sP C q ht r h (I.ext' he))
  (λl h hy=>hy.lst_el λ{_ vs _} z hF r=>xQ (items:=vs.toArray) C.hand ⟨_,I.base.froz _ _ hF,rfl,_,rfl⟩ (n r h) t.z λh' he=>sP C q ht r h (I.ext' he)) (λ_ _=>nn) (λ_ _=>nn) (λ_=>nn) h hy
theorem c2r {l:List AV} {tg:List Nat} {x:AV} {L':aN} (h:uT L tg false x=some L'):pQ L tg x=some L':=
 @AV.casesOn (λx=>uT L tg false x=some L'->pQ L tg x=some L') x nn (λ_=>nn) (λ_=>nn) (λ_=>nn) (λ_=>id) (λ_=>nn) (λ_ _=>nn) (λ_ _=>nn) (λ_=>nn) h
theorem a5n (C:Cfg Φ Tt fn w R A X G env) {tg:List Nat} {one:Bool} {t:Expr} {x:AV} {y:Value} {L':aN} {Q:Unit->Shared->Prop} (ht:iO X tg one t=true) (hy:Rep Φ.T W x y) (h:uT L tg one x=some L') (I:Inv Φ.T w X G env W L st m s)
  (q:∀{m' s'},Inv Φ.T w X G env W L' st m' s'->Q () s'):wpAny (model pw w) A (assign t env y) Q No s:=by
 cases one with
 |true=>exact dM.el (M:=λt=>wpAny (model pw w) A (assign t env y) Q No s) ht λ{n p} ht=>fL.el (M:=λtg=>uT L tg true x=some L'->wpAny (model pw w) A (assign (.Name n p) env y) Q No s) ht (λ{i} ht h=>wpAny_assign_Name (l6 C (bV ht).1 (bV ht).2.1 I hy λI' _=>q (h3l h▸I'))) h
 |false=>exact onT.el (M:=λt=>wpAny (model pw w) A (assign t env y) Q No s) ht λht=>yY C (b2 ht).1 hy (c2r (l:=[]) h) I q
def SI (Φ:Fx) (Tt:Tab) (w:World) (R:RT) (A:Around) (X:Cx) (G:Gh) (env:Env) (rng:Bool) (it:E) (ex:Expr):Prop:=
 ∀{W L st m s} {K:LK} {Q:Value->Shared->Prop},Inv Φ.T w X G env W L st m s->aE Tt R it L st (kIt rng K)->
  (∀{W' L' st' l a o s'},W.le W'->G.prot a=none->It Φ.T W' l o->Inv Φ.T w X (G.plus a o) env W' L' st' m s'->K l L' st'->Q (.ref a) s')->
  wpAny (model pw w) A (eval ex env) (λv s1=>wpAny (model pw w) A (pyIter v) Q No s1) No s
noncomputable abbrev itO (n:String) (a:Addr):Obj:={cls:=.type n,data:=.fields #[.ref a,.int 0 0]}
theorem jX (I:Inv Φ.T w X G env W L st m s) {o:Obj} (hf:o.isFreed=false):G.prot s.heap.objs.size=none/\Inv Φ.T w X (G.plus s.heap.objs.size o) env W L st m {s with heap:=s.heap.push o}:=
 I.aside (s':={s with heap:=s.heap.push o}) rfl rfl (h3k _) (Heap.get?_push_size _ hf) λ_ _ e=>h4v _ e
theorem e0y {it:E} {ex:Expr} (h:SE Φ Tt w R A X G env it ex):SI Φ Tt w R A X G env false it ex:=
 λ{_ _ _ _ _ K Q} I h' q=>h I h' λ{W1 L1 st1 x v s1} le1 I1 r1 k1=>oLs k1 λl hl k1=>
  @AV.casesOn (λx=>a0x st1 false x=some l->Rep Φ.T W1 x v->wpAny (model pw w) A (pyIter v) Q No s1) x nn (λ_=>nn) (λ_=>nn) (λ_=>nn)
   (λl' e r1=>r1.tup_el λ{a vs n} z hF r=>
    have f:=jX I1 (o:=itO "tuple_iterator" a) rfl
    wpAny_pyIter_tuple (items:=vs.toArray) ⟨_,I1.base.froz _ _ hF,rfl,_,rfl⟩ (q le1 f.1 (.tup (i:=0) hF (h3l e▸r) (h3w _) rfl rfl) f.2 k1))
   (λl' e r1=>r1.lst_el λ{a vs n} z hF r=>
    have f:=jX I1 (o:=itO "list_iterator" a) rfl
    wpAny_pyIter_list (items:=vs.toArray) ⟨_,I1.base.froz _ _ hF,rfl,_,rfl⟩ (q le1 f.1 (.lst (i:=0) hF (h3l e▸r) (h3w _) rfl rfl) f.2 k1)) (λ_ _=>nn) (λ_ _=>nn) (λ_=>nn) hl r1
theorem d1y (n:Int):Builtin.Range.rangeSize 0 n 1=(n.toNat:Int):=by rw [rangeSize_one];split<;>omega
theorem e8n {n:Int} {l:List AV} (h:(match decide (n.natAbs<4611686018427387904)with|true=>some (yM n)|false=>none)=some l):n.natAbs<4611686018427387904/\yM n=l:=by
 cases e:decide (n.natAbs<4611686018427387904)with
 |false=>rw [e]at h;exact nn h
 |true=>rw [e]at h;exact⟨h3t e,h3l h⟩
theorem e3e (C:Cfg Φ Tt fn w R A X G env) {it:E} {r:Str} {p pos:Pos} {y:Expr} (hr:b5y (bAt Φ X r) "range"=true) (h:SE Φ Tt w R A X G env it y) (ns:bM y=true):SI Φ Tt w R A X G env true it (.Call (.Name r p) [y] [] pos):=
 λ{_ _ _ _ _ K Q} I h' q=>Call_ (c7s C I (c0p hr) (callWith_type1 (k7 ns h I h' λ{W1 L1 st1 x v s1} le1 I1 r1 k1=>oLs k1 λl hl k1=>b7r (M:=λx=>Rep Φ.T W1 x v->wpAny (model pw w) A (call (.type "range") [v]) (λv s1=>wpAny (model pw w) A (pyIter v) Q No s1) No s1) hl (λn hl r1=>r1.int_el λ{t}=>by
  obtain⟨hn,rfl⟩:=e8n hl;refine call_range_1 ?_;have I2:=I1.grow (s':={s1 with heap:=s1.heap.push {cls:=.type "range",data:=.fields #[.int 0 s1.toks,.int n t,.int 1 (s1.toks+1)]},toks:=s1.toks+1+1}) rfl rfl λ_ _ e=>h4v _ e
  refine wpAny_pyIter_range (IsRange.new _ _ _ _ _ _ _) (small_one (by omega) (by omega) (by omega) (by omega)) ?_
  rw [d1y];have f:=jX I2 (o:={cls:=.type "range_iterator",data:=.fields #[rawInt 0,rawInt (n.toNat:Int),rawInt 1]}) rfl;exact q le1 f.1 (.rng rfl rfl) f.2 k1) r1) (e8 ns) rfl))
theorem Cfg.plus (C:Cfg Φ Tt fn w R A X G env) (a:Addr) (o:Obj):Cfg Φ Tt fn w R A X (G.plus a o) env:=⟨C.H,C.ok,C.hand,C.units,C.known,C.calls⟩
theorem b5a {y:Expr} {x:Value} (h:a8a y=true):foldedSetIterable y env x=pure x:=by
 cases y<;>first|rfl|exact ff h
theorem iQ {α:Type} {c:Sem α} {Q:α->Shared->Prop} {E:Value->Shared->Prop} (h:wpAny (model pw w) A c Q No s):wpAny (model pw w) A c Q E s:=h4u h (λ_ _ z=>z) λ_ _ e=>e.elim
@[elab_as_elim] theorem f3r {fl:Fl} {f:Flow} {M:Flow->Prop} {K:Fl->Prop} (r:FRep T W fl f) (h:K fl) (nx:K .nxt->M .next) (br:K .brk->M .brk) (ct:K .cont->M .cont) (rt:∀{v x},Rep T W v x->K (.ret v)->M (.ret x)):M f:=
 FRep.casesOn (motive:=λfl f _=>K fl->M f) r nx br ct (λr=>rt r) h
@[elab_as_elim] theorem b6h {k:aN->aB->Prop} {K:FK} {fl:Fl} {f:Flow} {M:Flow->Prop} (r:FRep T W fl f) (h:mC k K fl L st) (nx:k L st->M .next) (br:K .nxt L st->M .brk) (rt:∀{v x},Rep T W v x->K (.ret v) L st->M (.ret x)) (ct:k L st->M .cont):M f:=
 FRep.casesOn (motive:=λfl f _=>mC k K fl L st->M f) r nx br ct (λr=>rt r) h
inductive LpI (Φ:Fx) (w:World) (X:Cx) (G:Gh) (env:Env) (W:Wd) (a:Addr) (P:List AV->aN->aB->Prop) (n:Nat) (s:Shared):Prop
 |mk {W' L' st' m' l o}:W.le W'->Inv Φ.T w X (G.plus a o) env W' L' st' m' s->It Φ.T W' l o->n=l.length->P l L' st'->LpI Φ w X G env W a P n s
theorem e6q (C:Cfg Φ Tt fn w R A X G env) {tg:List Nat} {one rng:Bool} {it:E} {b:Ss} {t iter:Expr} {body:List Stmt} {pos:Pos} (ht:iO X tg one t=true) (hi:SI Φ Tt w R A X G env rng it iter) (hf:∀v,foldedSetIterable iter env v=pure v)
  (hb:∀{G':Gh},Cfg Φ Tt fn w R A X G' env->sB Φ Tt w R A X G' env b body):SS Φ Tt w R A X G env (.forL tg one rng it b) (.For t iter body [] pos):=by
 intro W L st m s K Q I h' q;refine wpAny_For (h4u (hi I h' λ{W1 _ _ l a _ _} le1 np hit I1 k1=> ?_) (λ_ _ z=>iQ z) λ_ _ e=>e.elim) hf
 refine codeAny_forLoop_any (LpI Φ w X G env W1 a (e7f tg one (aZ Tt R b) K)) (λn s3 z=> ?_) l.length (.mk (.refl _) I1 hit rfl k1)
 cases z with| @mk W3 L3 st3 m3 l3 o3 le3 I3 hit3 hn k3=> ?_
 subst hn;cases l3 with
 |nil=>exact iQ (c0q C.hand I3 (if_pos rfl) hit3 rfl (P:=G.prot) (λb p e=>a8c np e) λI4=>h4t (q (le1.trans le3) I4 .nxt k3))
 |cons x l3=>
  refine iQ (b3s I3 (if_pos rfl) hit3 rfl λ{y o' s4} ry hit4 ho4 I4=> ?_)
  have I4:Inv Φ.T w X (G.plus a o') env W3 L3 st3 m3 s4:=I4 λb p e=>fF e (λq e=>.inl ⟨q,h3l e⟩) λq e=>.inr ⟨q,(jW q).trans e⟩
  exact b8a k3 λL4 hL4 k3=>iQ (d3h ht ho4 hit4 (iQ (a5n (C.plus a o') ht ry hL4 I4 λI5=>iQ (hb (C.plus a o') I5 k3 λle6 I6 r6 k6=>
   b6h r6 k6 (λk6=>⟨l3.length,h4q _,.mk (le3.trans le6) I6 (hit4.mono le6) rfl k6⟩) (λk6=>q (le1.trans (le3.trans le6)) (I6.unaside np).2 .nxt k6) (λr k6=>q (le1.trans (le3.trans le6)) (I6.unaside np).2 (.ret r) k6) λk6=>⟨l3.length,h4q _,.mk (le3.trans le6) I6 (hit4.mono le6) rfl k6⟩))))
theorem d5k {l:List AV} {j:Nat} (h:j<l.length):aD l j=some l[j]:=(qJ l j).trans (List.getElem?_eq_getElem h)
inductive LpC (Φ:Fx) (w:World) (X:Cx) (G:Gh) (env:Env) (W:Wd) (a ax:Addr) (l:List AV) (P:List AV->aN->aB->Prop) (n:Nat) (s:Shared):Prop
 |mk {W' L' st' m' o j}:W.le W'->Inv Φ.T w X (G.plus a o) env W' L' st' m' s->o.cls=.type "list_iterator"->o.data=.fields #[.ref ax,.int (j:Nat) 0]->j<=l.length->n=l.length - j->P (l.drop j) L' st'->LpC Φ w X G env W a ax l P n s
theorem e7y (C:Cfg Φ Tt fn w R A X G env) {i:Nat} {it:E} {b:Ss} {x:Str} {p:Pos} {iter:Expr} {body:List Stmt} {pos:Pos} (hx:cH X i .local x=true) (hi:SE Φ Tt w R A X G env it iter) (hf:∀v,foldedSetIterable iter env v=pure v)
  (hb:∀{G':Gh},Cfg Φ Tt fn w R A X G' env->sB Φ Tt w R A X G' env b body):SS Φ Tt w R A X G env (.forC i it b) (.For (.Name x p) iter body [] pos):=by
 intro W L st m s K Q I h' q;have hn:=bV hx;refine wpAny_For (iQ (hi I h' λ{W1 L1 st1 z _ s1} le1 I1 r1 k1=> ?_)) hf
 refine avR (M:=λz=>Rep Φ.T _ z _->wpAny (model pw w) A _ _ No _) k1 (λr k1 r1=> ?_) r1
 obtain⟨ax,rfl,hm⟩:=r1.ref_inv;refine lsC k1 λl hc k1=>(I1.base.mu_at hm hc).rec λvs n ho hz rr=> ?_
 refine wpAny_pyIter_list (items:=vs.toArray) ⟨_,ho,rfl,_,rfl⟩ ?_;have f:=jX I1 (o:=itO "list_iterator" ax) rfl;have np:=f.1;have I2:=f.2;generalize s1.heap.objs.size=a at np I2;refine codeAny_forLoop_any (LpC Φ w X G env W1 a ax l (λd L st=>d.foldr (b0d i r l (aZ Tt R b) K) (b1i r l K) L st)) (λn s3 z=> ?_) l.length (.mk (j:=0) (.refl _) I2 rfl rfl (h3w _) rfl k1)
 cases z with| @mk W3 L3 st3 m3 o3 j le3 I3 hc3 hd3 hj hn' k3=> ?_
 subst hn';have hit:s3.heap.get? a=some o3:=(I3.unaside np).1.o
 have hcell:aQ st3 r=some (.list l):=by
  generalize l.drop j=d at k3;cases d<;>exact k3.1
 obtain⟨vs3,n3,ho3,hz3,rr3⟩:=I3.base.mu_at (le3.2 _ _ hm) hcell;rcases Nat.lt_or_ge j l.length with hlt|hge
 ·rw [List.drop_eq_getElem_cons hlt]at k3;obtain⟨y,hy,ry⟩:=rr3.nth (d5k hlt);refine wpAny_pyNext_list_item (l:=ax) (items:=vs3.toArray) ⟨o3,hit,hc3,hd3⟩ ⟨_,ho3,rfl,_,rfl⟩ (List.getElem?_toArray.trans hy) λh' ⟨o4,ho4,hc4,hd4⟩ hs=> ?_
  have I4:=I3.setAside (s':={s3 with heap:=h'}) np rfl rfl (λb p q e=>(hs.2 b q).trans e) ho4
  have on:=Nat.sub_succ_lt_self l.length j hlt;exact h4t (wpAny_assign_Name (iQ (l6 (C.plus a o4) hn.1 hn.2.1 I4 ry λI5 _=>iQ (hb (C.plus a o4) I5 k3.2 λle6 I6 r6 k6=>
   b6h r6 k6 (λk6=>⟨l.length - (j+1),on,.mk (le3.trans le6) I6 hc4 hd4 hlt rfl k6⟩) (λk6=>q (le1.trans (le3.trans le6)) (I6.unaside np).2 .nxt k6) (λr k6=>q (le1.trans (le3.trans le6)) (I6.unaside np).2 (.ret r) k6) λk6=>⟨l.length - (j+1),on,.mk (le3.trans le6) I6 hc4 hd4 hlt rfl k6⟩))))
 ·rw [List.drop_eq_nil_of_le hge]at k3;refine wpAny_pyNext_list_end (l:=ax) (items:=vs3.toArray) C.hand ⟨o3,hit,hc3,hd3⟩ ⟨_,ho3,rfl,_,rfl⟩ (List.getElem?_toArray.trans (List.getElem?_eq_none (rr3.length▸hge))) λh' hs=> ?_
  exact h4t (q (le1.trans le3) (I3.dropAside (s':={s3 with heap:=h'}) np rfl rfl λb p q e=>hs b p q e) .nxt k3.2)
inductive LpW (Φ:Fx) (w:World) (X:Cx) (G:Gh) (env:Env) (W:Wd) (P:aN->aB->Prop) (s:Shared):Prop
 |mk {W' L' st' m'}:W.le W'->Inv Φ.T w X G env W' L' st' m' s->P L' st'->LpW Φ w X G env W P s
theorem d4r {c:Mx.C} {b:Ss} {t:Expr} {body:List Stmt} {pos:Pos} (hc:SC Φ Tt w R A X G env c t) (hb:sB Φ Tt w R A X G env b body):SS Φ Tt w R A X G env (.while c b) (.While t body [] pos):=by
 intro W L st m s K Q I h' q;obtain⟨n,h'⟩:=h';refine wpAny_While (codeAny_whileLoop (λn=>LpW Φ w X G env W (Nat.rec (motive:=λ_=>aN->aB->Prop) (λ_ _=>False) (λ_=>kWh (aC Tt R c) (aZ Tt R b) K) n)) (λn s3 z=> ?_) n (.mk (.refl _) I h'))
 cases z with|mk le3 I3 k3=> ?_
 cases n with
 |zero=>exact k3.elim
 |succ n=>
  refine iQ (hc I3 k3 λ{_ _ _ t _} le4 I4 k4=> ?_)
  cases t with
  |false=>exact h4t (q (le3.trans le4) I4 .nxt k4)
  |true=>exact iQ (hb I4 k4 λle6 I6 r6 k6=>
   have le:=le3.trans (le4.trans le6)
   b6h r6 k6 (λk6=>⟨n,h4q _,.mk le I6 k6⟩) (λk6=>q le I6 .nxt k6) (λr k6=>q le I6 (.ret r) k6) λk6=>⟨n,h4q _,.mk le I6 k6⟩)
theorem d0o (C:Cfg Φ Tt fn w R A X G env) {is:List Nat} {e:E} {ts:List Expr} {k:Nat} {p pos:Pos} {y:Expr} (ht:a3m X is ts=true) (h:SE Φ Tt w R A X G env e y) (nc:gE y=true) (nt:a8s y=true):
  SS Φ Tt w R A X G env (.unpack is e) (.Assign [.Tuple ts k p] y pos):=
 λI h' q=>Assign_Tuple (h I h' λle1 I1 r1 k1=>b8a k1 λL' hL k1=>yY C ht r1 hL I1 λI2=>q le1 I2 .nxt k1) (show swapsWith y (some (.Tuple ts k p)) pos.line env=pure false from mJ nc) (by cases y<;>first|rfl|exact ff nt)
theorem f4e {b:Ss} {body:List Stmt} {h₀:ExceptHandler} {hs:List ExceptHandler} {pos:Pos} (hb:sB Φ Tt w R A X G env b body):SS Φ Tt w R A X G env (.tryB b) (.Try body (h₀::hs) [] [] pos):=
 λ{_ _ _ _ _ K Q} I h' q=>wpAny_Try_except (iQ (hb I h' λ{_ L1 st1 _ _ _ s1} le I r k=>f3r (K:=λfl=>K fl L1 st1) r k (λk=>h4t (q le I .nxt k)) (λk=>q le I .brk k) (λk=>q le I .cont k) λr k=>q le I (.ret r) k))
end
section
variable {Φ:Fx} {Tt:Tab} {fn:Nat->Option Fn} {w:World} {R:RT} {A:Around} {X:Cx} {G:Gh} {env:Env}
variable {W W₁:Wd} {L:aN} {st:aB} {m:Str->Option Value} {s s':Shared} {T:Tb}
theorem d6e {it:Addr} {o:Obj} {l:List AV} {Q:Value->Shared->Prop} (ho:s.heap.get? it=some o) (h:It T W l o) (q:Q (.ref it) s) {E:Value->Shared->Prop}:wpAny (model pw w) A (pyIter (.ref it)) Q E s:=
 h.rec (λ{ax _ _ i} _ _ _ hc hd=>wpAny_pyIter_listiter (l:=ax) (i:=i) ⟨o,ho,hc,hd⟩ q) (λ{ax _ _ i} _ _ _ hc hd=>wpAny_pyIter_tupleiter (t:=ax) (i:=i) ⟨o,ho,hc,hd⟩ q) λ_ e=>wpAny_pyIter_rangeiter (e▸ho) q
open Classical in
noncomputable def rJ (X:Cx) (G:Gh) (env:Env) (L:aN) (m:Str->Option Value) (s:Shared):Addr->Option Obj:=
 λb=>if b=env.locals\/(∃i,Owns X L m i b)\/(G.prot b).isSome then s.heap.get? b else none
open Classical in
theorem c1t:rJ X G env L m s env.locals=s.heap.get? env.locals:=if_pos (.inl rfl)
open Classical in
theorem c3n {i:Nat} {b:Addr} (z:Owns X L m i b):rJ X G env L m s b=s.heap.get? b:=if_pos (.inr (.inl ⟨i,z⟩))
open Classical in
theorem yW {b:Addr} {o:Obj} (z:G.prot b=some o):rJ X G env L m s b=s.heap.get? b:=if_pos (.inr (.inr (z▸rfl)))
open Classical in
theorem xU (I:Inv T w X G env W L st m s) {b:Addr} {o:Obj} (h:rJ X G env L m s b=some o):s.heap.get? b=some o/\Pv G W b:=
 fF h (λq e=>⟨e,q.elim (λq=>q▸I.lp) λq=>q.elim (λ⟨_,z⟩=>I.ownB z λ_ _ _ B=>B.p) λz=>(Option.isSome_iff_exists.mp z).elim λ_ hp=>(I.prot b _ hp).2.1⟩) λ_ e=>nomatch e
inductive ValS (T:Tb) (X:Cx) (env:Env) (W:Wd) (m:Str->Option Value) (x:Str):Slot->Prop
 |no:ValS T X env W m x .no
 |val {v:AV}:VaA T X env W m x v->ValS T X env W m x (.val v)
theorem ValS.slot {h:Heap} {x:Str} {sl:Slot} (z:ValS T X env W m x sl):uB T X G env W m h x sl:=z.rec h3m id
theorem b6x {L0:aN} (hs:∀i x sl,aD X.vars i=some x->aD L0 i=some sl->ValS T X env W m x sl) (i:Nat) (a:Addr):¬Owns X L0 m i a:=λz=>z.rec λx _ hx hl _=>nomatch hs i x _ hx hl
theorem Inv.inner {X':Cx} {cenv:Env} {L0:aN} {m0:Str->Option Value} (I:Inv T w X G env W L st m s) (hg:s'.gens=s.gens) (hos:s'.os=s.os) (k:∀a o,s.heap.get? a=some o->s'.heap.get? a=some o)
  (hC:s.heap.objs.size<=cenv.locals) (hn:s'.heap.Ns cenv.locals m0) (hl:L0.length=X'.vars.length) (hs:∀i x sl,aD X'.vars i=some x->aD L0 i=some sl->ValS T X' cenv W m0 x sl)
  {D:Addr} {oD:Obj} (hD:s.heap.objs.size<=D) (ho:s'.heap.get? D=some oD) (ne:D≠cenv.locals):
  Inv T w X' {G with prot:=λb=>if b=D then some oD else rJ X G env L m s b} cenv W L0 st m0 s':=
 ⟨hg.trans I.gens,hos.trans I.os,(I.base.grow k).pr,hn,(I.newP hC).pr,hl,λi x sl hx hsl=>(hs i x sl hx hsl).slot,λi j a z=>absurd z (b6x hs i a),λb p e=>
  fF e (λq e'=>by subst q;exact⟨h3l e'▸ho,(I.newP hD).pr,ne⟩) λ_ e=>have z:=xU I e;⟨k _ _ z.1,z.2.pr,dS z.1 hC⟩⟩
theorem Inv.reset {L0:aN} (I:Inv T w X G env W L st m s) (hl:L0.length=X.vars.length) (hs:∀i x sl,aD X.vars i=some x->aD L0 i=some sl->ValS T X env W m x sl):Inv T w X G env W L0 st m s:=
 {I with len:=hl,slots:=λi x sl hx hsl=>(hs i x sl hx hsl).slot,apart:=λi j a z=>absurd z (b6x hs i a)}
theorem Asd.ne {a b:Addr} {o:Obj} (A:Asd X G env W L m s a o) (k:b=env.locals\/∃i,Owns X L m i b):b≠a:=λq=>k.elim (λe=>A.l (q.symm.trans e)) λ⟨i,z⟩=>A.n i (q▸z)
theorem Inv.outer {X':Cx} {cenv:Env} {L2:aN} {st2:aB} {m2:Str->Option Value} {W2:Wd} {P:Addr->Option Obj} {a D:Addr} {o oD:Obj} {s2 s3:Shared} (I:Inv T w X (G.plus a o) env W L st m s) (np:G.prot a=none) (le:W.le W2)
  (I2:Inv T w X' {G with prot:=P} cenv W2 L2 st2 m2 s2) (hP:∀b p,b≠a->rJ X (G.plus a o) env L m s b=some p->P b=some p) (hD:P D=some oD) (hDn:s.heap.objs.size<=D)
  (hg:s3.gens=s2.gens) (hos:s3.os=s2.os) (k:∀b o,b≠cenv.locals->s2.heap.get? b=some o->s3.heap.get? b=some o):
  G.prot D=none/\Inv T w X (G.plus D oD) env W2 L st2 m s3:=
 have u:=I.unaside np
 have pD:G.prot D=none:=by
  cases q:G.prot D with
  |none=>rfl
  |some p=>exact absurd rfl (dS (u.2.prot D p q).1 hDn)
 have keep:∀{b p},P b=some p->s3.heap.get? b=some p/\Pv (G.plus a o) W2 b:=λ{b p} e=>have z:=I2.prot b p e;⟨k _ _ z.2.2 z.1,z.2.1.pr (P:=(G.plus a o).prot)⟩
 have here:∀{b p},(b=env.locals\/∃i,Owns X L m i b)->s.heap.get? b=some p->P b=some p:=λ{b p} q e=>hP b p (u.1.ne q) (q.elim (λq=>by rw [q,c1t,<-q];exact e) λ⟨_,z⟩=>(c3n z).trans e)
 ⟨pD,I.step (P:=(G.plus D oD).prot) (hg.trans I2.gens) (hos.trans I2.os) ((I2.base.but I2.lp k).pr (P:=(G.plus a o).prot)) le
  (λb p l q=>by
   cases e:s.heap.get? b with
   |none=>exact q.elim (λq=>I.ns.elim λ_ n=>n.elim λ_ n=>n.elim λ_ n=>dD (q▸e) n.1) λ⟨i,z⟩=>I.ownB z λ_ _ _ B=>dD e B.o
   |some o'=>exact have z:=keep (here q e);⟨z.2,λo h=>h▸z.1⟩)
  (λb p e=>(a3v e).elim (λq=>have z:=keep hD;⟨q.1▸q.2▸z.1,q.1▸z.2,q.1▸I.new_ne hDn⟩) λe=>
   have q:=u.2.prot b p e;have ne:b≠a:=λz=>dD np (z▸e)
   have z:=keep (hP b p ne ((yW ((jW ne).trans e)).trans q.1))
   ⟨z.1,z.2,q.2.2⟩)
  λi b z=>I.ownB z λ_ _ _ B=>(jW (dS B.o hDn)).trans (a2b B.q).2⟩
end
inductive Clos (env:Env) (names:List (Str×NameKind)) (cs:List (Str×Addr)) (c:Sem (List (Str×Addr))):Prop
 |mk (cl:List (Str×Addr)):c=pure cl->(∀x,cs.lookup x=env.cells.lookup x->cl.lookup x=env.cells.lookup x)->(∀p∈names,p.2=.free->cl.lookup p.1=env.cells.lookup p.1)->Clos env names cs c
theorem c2d {env:Env} {names:List (Str×NameKind)}:∀cs:List (Str×Addr),(∀p∈names,p.2=.free->∃c,env.cells.lookup p.1=some c)->
  Clos env names cs (forIn names cs λ(x:Str×NameKind) (cs:List (Str×Addr))=>(if(x.2==NameKind.free)=true then do
    let a<-cellOf env x.1
    pure (ForInStep.yield ((x.1,a)::cs))else pure (ForInStep.yield cs):Sem (ForInStep (List (Str×Addr))))):=by
 induction names with
 |nil=>exact λcs _=>⟨cs,rfl,λ_ h=>h,λ_ h=>(nomatch h)⟩
 |cons p names ih=>
  obtain⟨x,k⟩:=p;intro cs h;rw [List.forIn_cons];cases q:(k==NameKind.free)with
  |true=>
   obtain⟨c,hc⟩:=h _ (.head _) (beq_iff_eq.mp q);obtain⟨cl,e,h1,h2⟩:=ih ((x,c)::cs) (λp hp=>h p (.tail _ hp))
   have hx:((x,c)::cs).lookup x=env.cells.lookup x:=by rw [List.lookup_cons_self];exact hc.symm
   have:cellOf env x=pure c:=by unfold cellOf;rw [show env.cells.lookup x=some c from hc]
   refine⟨cl,?_,λy hy=>h1 y ?_,λp hp hk=>(List.mem_cons.mp hp).elim (λe=>e▸h1 _ hx) λhp=>h2 p hp hk⟩
   ·simp only [this,q,if_true,pure_bind];exact e
   ·rw [List.lookup_cons];cases z:y==x with
    |true=>exact beq_iff_eq.mp z▸hc.symm
    |false=>exact hy
  |false=>
   obtain⟨cl,e,h1,h2⟩:=ih cs (λp hp=>h p (.tail _ hp))
   refine⟨cl,?_,h1,λp hp hk=>(List.mem_cons.mp hp).elim (λe=> ?_) λhp=>h2 p hp hk⟩
   ·simp only [q,Bool.false_eq_true,if_false,pure_bind];exact e
   ·subst e;exact ff (q.symm.trans (beq_iff_eq.mpr hk))
theorem d4q {env:Env} {sc:Scope} (h:∀p∈sc.names,p.2=.free->∃c,env.cells.lookup p.1=some c):∃cl,closureFor sc env=pure cl/\∀p∈sc.names,p.2=.free->cl.lookup p.1=env.cells.lookup p.1:=by
 obtain⟨cl,e,-,h2⟩:=c2d (env:=env) (names:=sc.names) [] h;refine⟨cl,?_,h2⟩;unfold closureFor;rw [bind_pure];exact e
section
variable {Φ:Fx} {Tt:Tab} {fn:Nat->Option Fn} {w:World} {R:RT} {A:Around} {X:Cx} {G:Gh} {env:Env}
variable {W W₁:Wd} {L:aN} {st:aB} {m:Str->Option Value} {s s':Shared} {T:Tb}
theorem a9z {Rr:Result->Shared->Prop} {elt target iter:Expr} {ifs:List Expr} {scope:Scope} {pos:Pos} {it acc:Value} {env:Env} (I:Nat->Shared->Prop)
  (turn:∀n s,I n s->wpAny (model pw w) A (pyNext it) (λr s₁=>match r with
   |none=>Rr (.ok .next) s₁
   |some v=>wpAny (model pw w) A (letOwnedTupleGo target it v) (λ_ s₁'=>wpAny (model pw w) A (assign target env v) (λ_ s₂=>
     wpAny (model pw w) A (forIn ifs true λc r=>if r=true then do let ok<-isTrue c env (eval c env);pure (ForInStep.yield ok)else pure (ForInStep.yield r)) (λok s₃=>
      if ok=true then wpAny (model pw w) A (eval elt env) (λx s₄=>
       wpAny (model pw w) A (call (.builtin "list.append") [acc,x]) (λ_ s₅=>∃m,m<n/\I m s₅) No s₄) No s₃
      else∃m,m<n/\I m s₃) No s₂) No s₁') No s₁) No s)
  (n:Nat) (h:I n s):
  codeAny (model pw w) A (.compLoop (Expr.ListComp elt [⟨target,iter,ifs,0⟩] scope pos) 0 it acc env) Rr s:=by
 refine codeAny_loop rfl I (λn s hI=> ?_) n h
 show wpAny _ A ((PySem.compTurn (.ListComp elt [⟨target,iter,ifs,0⟩] scope pos) 0 it acc env).onRaise (λx=>do noteFrame x env;theTreesLotGoes x)) _ _ s
 refine wpAny_noted ?_;rw [compTurn_list];refine h4s (wpAny_standAt (h4s (h4u (turn n s hI) (λr s₁ h₁=> ?_) λ_ _ h'=>h'.elim)))
 cases r with
 |none=>exact h4t h₁
 |some v=>
  refine h4s (h4u h₁ (λ_ s₂ h₂=>h4s (h4u h₂ (λ_ s₃ h₃=>h4s (h4u h₃ (λok s₄ h₄=> ?_) λ_ _ h'=>h'.elim)) λ_ _ h'=>h'.elim)) λ_ _ h'=>h'.elim)
  cases ok with
  |false=>exact h4t ⟨rfl,h₄⟩
  |true=>
   exact h4s (h4s (h4u h₄ (λx s₅ h₅=>h4s (h4u h₅ (λ_ s₆ h₆=>h4t (h4t ⟨rfl,h₆⟩)) λ_ _ h'=>h'.elim)) λ_ _ h'=>h'.elim))
def ST (Φ:Fx) (Tt:Tab) (w:World) (R:RT) (A:Around) (X:Cx) (G:Gh) (env:Env) (c:C) (ifs:List Expr):Prop:=
 ∀{W L st m s K Q},Inv Φ.T w X G env W L st m s->aC Tt R c L st K->CB Φ w X G env W m K Q->wpAny (model pw w) A (forIn ifs true λc r=>if r=true then do let ok<-isTrue c env (eval c env);pure (ForInStep.yield ok)else pure (ForInStep.yield r)) Q No s
theorem c4u {c:Mx.C} (h:e5y c=true):c=.tt:=by cases c<;>first|rfl|exact ff h
theorem d3o {k:Expr->Bool} {c:C} {ifs:List Expr} (h:d2v k c ifs=true) (f:∀{y},k y=true->SC Φ Tt w R A X G env c y):ST Φ Tt w R A X G env c ifs:=by
 intro W L st m s K Q I h' q;cases ifs with
 |nil=>
  obtain rfl:=c4u h;exact h4t (q (.refl _) I h')
 |cons y r=>
  have h:(cB r&&k y)=true:=h;obtain rfl:=cB.el (b2 h).1;rw [List.forIn_cons,if_pos rfl];exact h4s (h4s (f (b2 h).2 I h' λle I k=>h4t (h4t (q le I k))))
theorem d2c {i:Nat} {is:List Nat} {Lc:aN} (h:fT L (i::is)=some Lc):∃v l,aD L i=some (.val v)/\fT L is=some l/\.val v::l=Lc:=by
 have h:(match aD L i with
  |some (.val v)=>(match fT L is with|some l=>some (.val v::l)| .none=>.none)
  |_=>.none)=some Lc:=h
 cases e:aD L i with
 |none=>rw [e]at h;exact nn h
 |some sl=>
  rw [e]at h;cases sl with
  |val v=>
   have h:(match fT L is with|some l=>some (.val v::l)| .none=>.none)=some Lc:=h
   cases e:fT L is with
   |none=>rw [e]at h;exact nn h
   |some l=>rw [e]at h;exact⟨v,l,rfl,rfl,h3l h⟩
  |_=>exact nn h
theorem d8x {i:Nat} {is:List Nat} {cs:List Str} (h:iN X (i::is)=some cs):∃x l,aD X.vars i=some x/\iN X is=some l/\x::l=cs:=
 (Option.bind_eq_some_iff.mp h).elim λx h=>(Option.map_eq_some_iff.mp h.2).elim λl h'=>⟨x,l,h.1,h'.1,h'.2⟩
inductive CapA (X:Cx) (L:aN):List Str->aN->Prop
 |nil:CapA X L [] []
 |cons {j:Nat} {x:Str} {v:AV} {cs:List Str} {Lc:aN}:aD X.vars j=some x->aD L j=some (.val v)->CapA X L cs Lc->CapA X L (x::cs) (.val v::Lc)
theorem e2x {caps:List Nat}:∀{Lc:aN} {cs:List Str},fT L caps=some Lc->iN X caps=some cs->CapA X L cs Lc/\cs.length=caps.length:=by
 induction caps with
 |nil=>exact λh h'=>h3l h▸h3l h'▸⟨.nil,rfl⟩
 |cons i is ih=>
  intro Lc cs h h';obtain⟨v,l,e1,e2,rfl⟩:=d2c h;obtain⟨x,l',e3,e4,rfl⟩:=d8x h';have k:=ih e2 e4;exact⟨.cons e3 e1 k.1,h3s (· +1) k.2⟩
theorem CapA.len {cs:List Str} {Lc:aN} (h:CapA X L cs Lc):Lc.length=cs.length:=h.rec rfl λ_ _ _=>h3s (· +1)
theorem e9v {tg:List Nat} {sl:Slot}:∀{i:Nat},aD (tg.map λ_=>Slot.no) i=some sl->.no=sl:=by
 induction tg with
 |nil=>exact λh=>nomatch h
 |cons a l ih=>exact λ{i}=>Nat.casesOn (motive:=λi=>aD ((a::l).map λ_=>Slot.no) i=some sl->.no=sl) i h3l λn h=>ih h
theorem CapA.slot {cs ts:List Str} {Lc:aN} {tg:List Nat} {M:Str->Slot->Prop} (h:CapA X L cs Lc) (hv:∀j x v,x∈cs->aD X.vars j=some x->aD L j=some (.val v)->M x (.val v)) (hn:∀x,M x .no):∀i x sl,aD (cs++ts) i=some x->aD (Lc++tg.map λ_=>Slot.no) i=some sl->M x sl:=by
 induction h with
 |nil=>
  intro i x sl _ h;exact e9v h▸hn x
 | @cons j y v cs Lc e1 e2 _ ih=>
  intro i x sl h1 h2;cases i with
  |zero=>exact h3l h1▸h3l h2▸hv j y v (.head _) e1 e2
  |succ i=>exact ih (λj x v hx=>hv j x v (.tail _ hx)) i x sl h1 h2
theorem CapA.name {cs:List Str} {Lc:aN} {x:Str} (h:CapA X L cs Lc):x∈cs->∃j v,aD X.vars j=some x/\aD L j=some (.val v):=by
 induction h with
 |nil=>exact λh=>nomatch h
 |cons e1 e2 _ ih=>exact λh=>(List.mem_cons.mp h).elim (λe=>⟨_,_,e▸e1,e2⟩) ih
theorem a1x {l:List Str}:a9t l=true->l.Nodup:=by
 induction l with
 |nil=>exact λ_=>List.nodup_nil
 |cons x l ih=>exact λh=>List.nodup_cons.mpr ⟨λhm=>List.any_eq_false.mp (bn (b2 h).1) x hm (dO.mpr rfl),ih (b2 h).2⟩
theorem lP {l:List (Str×NameKind)} {x:Str} {k:NameKind} (h:l.lookup x=some k):(x,k)∈l:=by
 induction l with
 |nil=>exact nomatch h
 |cons p l ih=>
  rw [List.lookup_cons]at h;cases q:x==p.1 with
  |true=>rw [q]at h;exact List.mem_cons.mpr (.inl (Prod.ext (beq_iff_eq.mp q) (h3l h).symm))
  |false=>rw [q]at h;exact .tail _ (ih h)
structure Away (X:Cx) (G:Gh) (env:Env) (W:Wd) (L:aN) (m:Str->Option Value) (c D:Addr):Prop where
 p:Pv G W c
 l:c≠env.locals
 o:∀i,¬Owns X L m i c
 q:G.prot c=none
 d:c≠D
theorem Inv.skip {c D:Addr} {o:Obj} (I:Inv T w X (G.plus D o) env W L st m s) (u:Away X G env W L m c D) (hg:s'.gens=s.gens) (hos:s'.os=s.os) (k:∀b p,b≠c->s.heap.get? b=some p->s'.heap.get? b=some p):Inv T w X (G.plus D o) env W L st m s':=
 I.at (P:=(G.plus D o).prot) (u.p.pr (P:=(G.plus D o).prot)) u.l u.o hg hos k λb p e=>.inr ⟨λq=>(a3v e).elim (λz=>u.d (q.symm.trans z.1)) λz=>dD u.q (q▸z),e⟩
abbrev Gh.pr (G:Gh) (P:Addr->Option Obj):Gh:={G with prot:=P}
inductive CpI (Φ:Fx) (w:World) (X:Cx) (G:Gh) (env:Env) (W:Wd) (a D:Addr) (S:Addr->Option Obj) (P:List AV->List AV->aB->Prop) (n:Nat) (s:Shared):Prop
 |mk {W' L' st' m' R o' acc vs n0 l}:W.le W'->Inv Φ.T w X (G.pr R) env W' L' st' m' s->(∀b p,b≠a->S b=some p->R b=some p)->R a=some o'->R D=some (c5 vs n0)->
  It Φ.T W' l o'->n=l.length->vs.length<=sizeLine->aL Φ.T W' acc vs->P l acc st'->CpI Φ w X G env W a D S P n s
structure Cst (Φ:Fx) (Tt:Tab) (fn:Nat->Option Fn) (w:World) (R:RT) (A:Around) (X:Cx) (G:Gh) (env:Env) (W:Wd) (tg:List Nat) (n:Nat) (Lc:aN) (cond:Mx.C) (elt:E) (x target:Expr) (ifs:List Expr):Prop where
 cf:∀P,Cfg Φ Tt fn w R A X (G.pr P) env
 len:(Lc++tg.map λ_=>Slot.no).length=X.vars.length
 slot:∀{W' m'},W.le W'->∀i x sl,aD X.vars i=some x->aD (Lc++tg.map λ_=>Slot.no) i=some sl->ValS Φ.T X env W' m' x sl
 tgt:iO X (tg.map (· +n)) (b9h tg) target=true
 elt:∀P,SE Φ Tt w R A X (G.pr P) env elt x
 cond:∀P,ST Φ Tt w R A X (G.pr P) env cond ifs
theorem c1j {tg:List Nat} {n:Nat} {Lc:aN} {cond:Mx.C} {elt:E} {x target:Expr} {ifs:List Expr} {a D:Addr} {S:Addr->Option Obj} {Z:List AV->aB->Prop} {Rr:Result->Shared->Prop} {k:Nat} {s4:Shared}
  (cc:Cst Φ Tt fn w R A X G env W tg n Lc cond elt x target ifs) (haD:a≠D) (hSD:∀b p,S b=some p->b≠D)
  (fin:∀{W4 L4 st4 m4 P acc vs n0 s5},W.le W4->Inv Φ.T w X (G.pr P) env W4 L4 st4 m4 s5->(∀b p,b≠a->S b=some p->P b=some p)->P D=some (c5 vs n0)->vs.length<=sizeLine->aL Φ.T W4 acc vs->Z acc st4->Rr (.ok .next) s5)
  (z:CpI Φ w X G env W a D S (λl acc st=>l.foldr (Mx.f0 tg n Lc (aC Tt R cond) (aE Tt R elt)) Z acc st) k s4):
  wpAny (model pw w) A (pyNext (.ref a)) (λr s₁=>match r with
   |none=>Rr (.ok .next) s₁
   |some v=>wpAny (model pw w) A (letOwnedTupleGo target (.ref a) v) (λ_ s₁'=>wpAny (model pw w) A (assign target env v) (λ_ s₂=>
     wpAny (model pw w) A (forIn ifs true λc r=>if r=true then do let ok<-isTrue c env (eval c env);pure (ForInStep.yield ok)else pure (ForInStep.yield r)) (λok s₃=>
      if ok=true then wpAny (model pw w) A (eval x env) (λx s₄=>
       wpAny (model pw w) A (call (.builtin "list.append") [.ref D,x]) (λ_ s₅=>∃m,m<k/\CpI Φ w X G env W a D S (λl acc st=>l.foldr (Mx.f0 tg n Lc (aC Tt R cond) (aE Tt R elt)) Z acc st) m s₅) No s₄) No s₃
      else∃m,m<k/\CpI Φ w X G env W a D S (λl acc st=>l.foldr (Mx.f0 tg n Lc (aC Tt R cond) (aE Tt R elt)) Z acc st) m s₃) No s₂) No s₁') No s₁) No s4:=by
 cases z with| @mk W4 L4 st4 m4 P o4 acc vs n0 l4 le4 I4 hP hPa hPD hit4 hn4 hz racc k4=> ?_
 subst hn4;cases l4 with
 |nil=>exact c0q (cc.cf P).hand I4 hPa hit4 rfl (P:=λb=>if b=a then none else P b) (λb p e=>fF e (λ_ e=>nomatch e) λq e=>⟨q,e⟩) λI5=>fin le4 I5 (λb p hb e=>(if_neg hb).trans (hP b p hb e)) ((if_neg haD.symm).trans hPD) hz racc k4
 |cons y l4=>
  refine b3s I4 hPa hit4 rfl λ{v o5 s5} rv hit5 ho5 I5=>d3h cc.tgt ho5 hit5 ?_
  have I5:Inv Φ.T w X ((G.pr P).plus a o5) env W4 L4 st4 m4 s5:=I5 λb p e=>fF e (λq e=>.inl ⟨q,h3l e⟩) λq e=>.inr ⟨q,e⟩
  have Cx5:=cc.cf ((G.pr P).plus a o5).prot;have hP5:∀b p,b≠a->S b=some p->((G.pr P).plus a o5).prot b=some p:=λb p hb e=>(if_neg hb).trans (hP b p hb e)
  have hPa5:((G.pr P).plus a o5).prot a=some o5:=if_pos rfl;have hPD5:((G.pr P).plus a o5).prot D=some (c5 vs n0):=(if_neg haD.symm).trans hPD;refine b8a k4 λLx hLx k4=>a5n Cx5 cc.tgt rv hLx (I5.reset cc.len (cc.slot le4)) λI7=>cc.cond _ I7 k4 λ{_ _ _ ok _} le8 I8=>d3z (M:=λok=>c3f (aE Tt R elt) _ acc ok _ _->if ok=true then _ else _) ok (λk8=> ?_) λk8=>⟨l4.length,h4q _,.mk (le4.trans le8) I8 hP5 hPa5 hPD5 (hit5.mono le8) rfl hz (racc.mono le8) k8⟩
  refine cc.elt _ I8 k8 λ{_ _ _ z q s9} le9 I9 r9 k9=>a3q (I9.prot _ _ hPD5).1 hz λ{h'} hs ha=> ?_
  have u:=I9.asd hPD5;have le:=le8.trans le9;exact⟨l4.length,h4q _,.mk (n0:=n0+1) (R:=λb=>if b=D then some (c5 (vs++[q]) (n0+1))else((G.pr P).plus a o5).prot b) (le4.trans le) (I9.at (s':={s9 with heap:=h'}) u.p u.l u.n rfl rfl hs λb p e=>fF e (λq e=>.inl ⟨q,ha.trans e⟩) λq e=>.inr ⟨q,e⟩)
   (λb p hb e=>(if_neg (hSD b p e)).trans (hP5 b p hb e)) ((if_neg haD).trans hPa5) (if_pos rfl) (hit5.mono le) rfl (y3 (racc.mono le) k9.1) ((racc.mono le).append (.cons r9 .nil)) k9.2⟩
structure CompOk (X:Cx) (caps tg:List Nat) (target:Expr) (sc:Scope) (cs ts:List Str):Prop where
 k:sc.kind=.function
 c:∀c∈cs,X.scope.names.lookup c=some .cell/\(bE X sc).lookup c=some .cell
 t:iO ⟨cs++ts,{sc with names:=bE X sc}⟩ (tg.map (· +caps.length)) (b9h tg) target=true
 d:(cs++ts).Nodup
 l:ts.length=tg.length
 n:∀p∈sc.names,p.2≠.cell
 f:∀p∈sc.names,p.2=.free->p.1∈cs
 o:∀p∈sc.names,p.2=.local->sc.names.lookup p.1=some .local
theorem qL {l:List (Str×NameKind)} {x:Str} {k:NameKind} (h:eH (eD l x) k=true):l.lookup x=some k:=(u3 _ _).symm.trans (rT h)
theorem c4j {caps tg:List Nat} {g:Comprehension} {sc:Scope} {cs ts:List Str} (h:uR X caps tg g sc cs ts=true):CompOk X caps tg g.target sc cs ts:=
 have h1:=b2 h;have h2:=b2 h1.1;have h3:=b2 h2.1;have h4:=b2 h3.1;have h5:=b2 h4.1;have h6:=b2 h5.1
 ⟨h3t (b2 h6.1).2,λc hc=>have k:=b2 (List.all_eq_true.mp h6.2 c hc);⟨qL k.1,qL k.2⟩,h5.2,a1x h4.2,h4g h3.2,
  λp hp=>of_decide_eq_false (bn (b2 (List.all_eq_true.mp h2.2 p hp)).1),
  λp hp hk=>(Bool.or_eq_true_iff.mp (b2 (List.all_eq_true.mp h2.2 p hp)).2).elim (λq=>absurd hk (of_decide_eq_false (bn q))) λq=>(List.any_eq_true.mp (b2 q).2).elim λc z=>dO.mp z.2▸z.1,
  λp hp hl=>(Bool.or_eq_true_iff.mp (List.all_eq_true.mp h1.2 p hp)).elim (λq=>absurd (h3s some hl) (of_decide_eq_false (bn q))) qL⟩
theorem c4l {sc:Scope} {x:Str} (hn:∀p∈sc.names,p.2≠.cell) (h:(bE X sc).lookup x=some .cell):∃p∈sc.names,p.1=x/\p.2=.free:=
 (List.mem_map.mp (lP h)).elim λp hp=>⟨p,hp.1,fF hp.2 (λq e=>⟨h3s Prod.fst e,beq_iff_eq.mp (b2 (b2 q).1).1⟩) λ_ e=>absurd (h3s Prod.snd e) (hn p hp.1)⟩
theorem c8s (C:Cfg Φ Tt fn w R A X G env) {sc:Scope} {cs ts:List Str} {cl:List (Str×Addr)} {a:Addr} (hk:sc.kind=.function) (nd:(cs++ts).Nodup):EnvOk ⟨cs++ts,{sc with names:=bE X sc}⟩ (compEnvC sc cl a env):=by
 refine⟨?_,hk,C.ok.glob,C.ok.blt,nd⟩;show relabel sc env=_
 unfold relabel bE;rw [C.ok.scope];refine h3s (λl=>{sc with names:=l}) (List.map_congr_left λp _=> ?_)
 have:env.kindOf p.1=X.scope.names.lookup p.1:=by show env.scope.names.lookup p.1=_;rw [C.ok.scope]
 rw [<-this]
theorem a4y (C:Cfg Φ Tt fn w R A X G env) {caps tg:List Nat} {rng:Bool} {it:E} {cond:Mx.C} {elt:E} {x target iter:Expr} {ifs:List Expr} {sc:Scope} {pos:Pos} {cs ts:List Str} (hcs:iN X caps=some cs)
  (hok:uR X caps tg ⟨target,iter,ifs,0⟩ sc cs ts=true) (hi:SI Φ Tt w R A X G env rng it iter) (hf:∀v,foldedSetIterable iter env v=pure v)
  (helt:∀{G':Gh} {cenv:Env},Cfg Φ Tt fn w R A ⟨cs++ts,{sc with names:=bE X sc}⟩ G' cenv->SE Φ Tt w R A ⟨cs++ts,{sc with names:=bE X sc}⟩ G' cenv elt x)
  (hcond:∀{G':Gh} {cenv:Env},Cfg Φ Tt fn w R A ⟨cs++ts,{sc with names:=bE X sc}⟩ G' cenv->ST Φ Tt w R A ⟨cs++ts,{sc with names:=bE X sc}⟩ G' cenv cond ifs)
  {K:LK} {use:Option (Value->Sem Unit)} {Q:Value->Shared->Prop} {pos2:Pos} (I:Inv Φ.T w X G env W L st m s) (h':aF Tt R (.comp caps tg rng it cond elt) L st K)
  (hend:∀{W4:Wd} {L1:aN} {st4:aB} {acc:List AV} {D:Addr} {vs:List Value} {n0:Nat} {s5:Shared} {Cl:Addr} {m5:Str->Option Value},W.le W4->G.prot D=none->Inv Φ.T w X (G.plus D (c5 vs n0)) env W4 L1 st4 m s5->s5.heap.Ns Cl m5->
   Away X G env W4 L1 m Cl D->vs.length<=sizeLine->aL Φ.T W4 acc vs->K acc L1 st4->compPost (model pw w) A No use Q (.ref D) Cl (.ok .next) s5):
  wpAny (model pw w) A (comprehension (.ListComp x [⟨target,iter,ifs,0⟩] sc pos) sc env pos2 (newList []) false (eval iter env) use) Q No s:=by
 refine b8a (o:=fT L caps) h' λLc hLc h'=> ?_
 obtain⟨cap,hcl⟩:=e2x hLc hcs;have ck:=c4j hok;have cells:∀{j:Nat} {x:Str} {v:AV},x∈cs->aD X.vars j=some x->aD L j=some (.val v)->∃a o y,env.cells.lookup x=some a/\W.F a=some o/\o.data=.cell (some y)/\Rep Φ.T W v y:=λhx e1 e2=>(I.slot_val e1 e2).rec (λ_ hl=>nomatch hl.symm.trans (ck.c _ hx).1) λa o y _ h1 h2 h3 r=>⟨a,o,y,h1,h2,h3,r⟩
 obtain⟨cl,hclos,hcl2⟩:=d4q (env:=env) (sc:=sc) λp hp hk=>(cap.name (ck.f p hp hk)).elim λj z=>z.elim λv z=>(cells (ck.f p hp hk) z.1 z.2).imp λa z=>z.elim λ_ z=>z.elim λ_ z=>z.1
 refine wpAny_comprehension_free (use:=use) (cl:=cl) (g:=⟨target,iter,ifs,0⟩) (gs:=[]) rfl hf hclos ck.k ck.o (h4u (hi I h' λ{W1 L1 st1 l a o s2} le1 np hit I1 k1=> ?_) (λ_ _ z=>iQ z) λ_ _ e=>e.elim)
 refine wpAny_newObj_type (wpAny_newFunctionEnv ck.n (λy hy=>nomatch hy) (λh₁ hns₁ hsb₁=> ?_) ck.k)
 dsimp only at hns₁ hsb₁⊢;generalize hH2:s2.heap.push {cls:=.type "list",dict:=none,data:=.seq ([]:List Value).toArray}=H2 at hns₁ hsb₁⊢;have hC:H2.objs.size=s2.heap.objs.size+1:=hH2▸Heap.size_push _ _;have hCge:s2.heap.objs.size<=H2.objs.size:=hC▸h4r _;have hDC:s2.heap.objs.size≠H2.objs.size:=hC▸Nat.ne_of_lt (h4q _);have old:∀b o,s2.heap.get? b=some o->h₁.get? b=some o:=λb o e=>hsb₁.extBut b o (dS e hCge) (h4v _ (hH2▸h4v _ e))
 have hD1:h₁.get? s2.heap.objs.size=some (c5 [] 0):=hsb₁.extBut _ _ hDC (h4v _ (hH2▸Heap.get?_push_size _ rfl));have ua:=I1.unaside np;have haD:a≠s2.heap.objs.size:=dS ua.1.o (h3k _);have cc:Cst Φ Tt fn w R A ⟨cs++ts,{sc with names:=bE X sc}⟩ G (compEnvC sc cl H2.objs.size env) W1 tg caps.length Lc cond elt x target ifs:=
  have cf:∀P,Cfg Φ Tt fn w R A ⟨cs++ts,{sc with names:=bE X sc}⟩ (G.pr P) (compEnvC sc cl H2.objs.size env):=λP=>⟨C.H,c8s C ck.k ck.d,C.hand,C.units,C.known,C.calls⟩
  ⟨cf,by rw [h3o,h3o,cap.len,h4j,ck.l],λ{W' m'} le=>cap.slot (M:=λx sl=>ValS Φ.T ⟨cs++ts,{sc with names:=bE X sc}⟩ (compEnvC sc cl H2.objs.size env) W' m' x sl) (λj x v hx e1 e2=>(cells hx e1 e2).elim λad z=>z.elim λob z=>z.elim λy z=>
    .val (.cell ad ob y (ck.c x hx).2 ((c4l ck.n (ck.c x hx).2).elim λp hp=>(hp.2.1▸hcl2 p hp.1 hp.2.2).trans z.1) ((le1.trans le).1 _ _ z.2.1) z.2.2.1 (z.2.2.2.mono (le1.trans le)))) λ_=>.no,ck.t,λP=>helt (cf P),λP=>hcond (cf P)⟩
 have Iin:=I1.inner (X':=⟨cs++ts,{sc with names:=bE X sc}⟩) (cenv:=compEnvC sc cl H2.objs.size env) (L0:=Lc++tg.map λ_=>Slot.no) (m0:=λx=>([]:List (Str×Value)).reverse.lookup x) (s':={s2 with heap:=h₁,toks:=s2.toks+([]:List (Str×Value)).length}) rfl rfl old hCge hns₁ cc.len (cc.slot (.refl _)) (D:=s2.heap.objs.size) (h3k _) hD1 hDC
 have loop:codeAny (model pw w) A (.compLoop (.ListComp x [⟨target,iter,ifs,0⟩] sc pos) 0 (.ref a) (.ref s2.heap.objs.size) (compEnvC sc cl H2.objs.size env))
   (compPost (model pw w) A No use Q (.ref s2.heap.objs.size) (compEnvC sc cl H2.objs.size env).locals) {s2 with heap:=h₁,toks:=s2.toks+([]:List (Str×Value)).length}:=
  a9z (CpI Φ w ⟨cs++ts,{sc with names:=bE X sc}⟩ G (compEnvC sc cl H2.objs.size env) W1 a s2.heap.objs.size (rJ X (G.plus a o) env L1 m s2) (λl acc st=>l.foldr (Mx.f0 tg caps.length Lc (aC Tt R cond) (aE Tt R elt)) (e0t L1 K) acc st))
   (λn s4 z=>c1j cc haD (λb p e=>dS (xU I1 e).1 (h3k _)) (λ{_ _ _ _ _ _ vs n0 s5} le4 I5 hP hPD hz racc k4=>
    have io:=I1.outer (s3:=s5) (D:=s2.heap.objs.size) (oD:=c5 vs n0) np le4 I5 hP hPD (h3k _) rfl rfl λb o hb e=>e
    hend (le1.trans le4) io.1 io.2 I5.ns ⟨I5.lp.pr (P:=G.prot),I1.new_ne hCge,λi z=>I1.ownB z λ_ _ _ B=>dS B.o hCge rfl,by
     show G.prot H2.objs.size=none
     cases q:G.prot H2.objs.size with
     |none=>rfl
     |some p=>exact absurd rfl (dS (ua.2.prot _ p q).1 hCge),hDC.symm⟩ hz racc k4) z) l.length
   (.mk (vs:=[]) (n0:=0) (.refl _) Iin (λb p hb e=>(if_neg (dS (xU I1 e).1 (h3k _))).trans e) ((if_neg haD).trans ((yW (if_pos rfl)).trans ua.1.o)) (if_pos rfl) hit rfl (h3w _) .nil k1)
 exact codeAny_compStart_list loop (d6e (s:={s2 with heap:=h₁,toks:=s2.toks+([]:List (Str×Value)).length}) (old _ _ ua.1.o) hit loop)
theorem f2z (C:Cfg Φ Tt fn w R A X G env) {caps tg:List Nat} {rng:Bool} {it:E} {cond:Mx.C} {elt:E} {x target iter:Expr} {ifs:List Expr} {sc:Scope} {pos:Pos} {cs ts:List Str} (hcs:iN X caps=some cs)
  (hok:uR X caps tg ⟨target,iter,ifs,0⟩ sc cs ts=true) (hi:SI Φ Tt w R A X G env rng it iter) (hf:∀v,foldedSetIterable iter env v=pure v)
  (helt:∀{G':Gh} {cenv:Env},Cfg Φ Tt fn w R A ⟨cs++ts,{sc with names:=bE X sc}⟩ G' cenv->SE Φ Tt w R A ⟨cs++ts,{sc with names:=bE X sc}⟩ G' cenv elt x)
  (hcond:∀{G':Gh} {cenv:Env},Cfg Φ Tt fn w R A ⟨cs++ts,{sc with names:=bE X sc}⟩ G' cenv->ST Φ Tt w R A ⟨cs++ts,{sc with names:=bE X sc}⟩ G' cenv cond ifs):
  SF Φ Tt w R A X G env (.comp caps tg rng it cond elt) (.ListComp x [⟨target,iter,ifs,0⟩] sc pos):=by
 intro W L st m s K Q I h' q;rw [eval_ListComp];exact a4y C hcs hok hi hf helt hcond I h' λ{_ _ _ _ D vs n0 s5 Cl m5} le pD Io hns u hz r k=>⟨m5,hns,λh' hs'=>q (n:=n0) le (Io.skip (s':={s5 with heap:=h'}) u rfl rfl λb o hb e=>hs'.extBut b o hb e) pD hz r k⟩
end
theorem a1e {α β σ:Type} {f:α->β} {B:β->σ×List α->Sem (ForInStep (σ×List α))} (hB:∀a m r,((r++[a]).length==17)=false->B (f a) (m,r)=pure (.yield (m,r++[a]))) {rest:List β} (m:σ) (l:List α):∀r:List α,r.length+l.length<17->forIn (l.map f++rest) (m,r) B=forIn rest (m,r++l) B:=by
 induction l with
 |nil=>intro r _;rw [h3q];rfl
 |cons a l ih=>
  intro r h;have e:(r++[a]).length=r.length+1:=h3o;have h:r.length+1+l.length<17:=h4f r.length l.length 1▸h;rw [List.map_cons,List.cons_append,List.forIn_cons,hB a m r (beq_eq_false_iff_ne.mpr (Nat.ne_of_lt (e▸h4y (h3x _ _) h))),pure_bind];show forIn (l.map f++rest) _ B=_
  rw [ih (r++[a]) (e▸h),h3p];rfl
theorem e8f {pairs:List (Sem Value×Sem Value)} (h:pairs.length=21):dictDisplay (pairs.map λp=>(some p.1,p.2))=(do
  let d<-subDict (pairs.take 17)
  let sub<-holding [.ref d] (subDict (pairs.drop 17))
  (holding [.ref d,.ref sub] (mergeMapping d (.ref sub) false)).onRaise λx=>do let _<-holding [.ref d,x] (runValue (.builtin "proto.let_go" {}))
  pure (.ref d)):=by
 obtain⟨a,⟨p,q⟩,b,e,ha,hb⟩:∃a p b,pairs=a++p::b/\a.length=16/\b.length=4:=⟨pairs.take 16,pairs[16],pairs.drop 17,by rw [<-List.drop_eq_getElem_cons,List.take_append_drop],by rw [List.length_take,h];rfl,by rw [List.length_drop,h]⟩
 have e1:pairs.take 17=a++[(p,q)]:=by rw [e,List.append_cons,List.take_left' (by rw [h3o,ha];rfl)]
 have e2:pairs.drop 17=b:=by rw [e,List.append_cons,List.drop_left' (by rw [h3o,ha];rfl)]
 have ne1:(a++[(p,q)]).isEmpty=false:=by cases a<;>rfl
 have ne2:b.isEmpty=false:=by cases b<;>first|rfl|cases hb
 rw [e1,e2,e,List.map_append];unfold dictDisplay;dsimp only;rw [a1e (λa m r h=>by show(if((r++[a]).length==17)=true then _ else _)=_;rw [h];rfl) none a [] (by rw [ha];decide),List.map_cons,List.forIn_cons]
 have h17:(a++[(p,q)]).length=17:=by rw [h3o,ha];rfl
 simp only [h17,beq_self_eq_true,if_true,List.nil_append,ne1,Bool.false_eq_true,if_false,bind_assoc,pure_bind]
 congr 1
 funext d
 rw [<-h3q (b.map _),a1e (λa m r h=>by show(if((r++[a]).length==17)=true then _ else _)=_;rw [h];rfl) (some d) b [] (by rw [hb];decide)]
 simp only [List.forIn_nil,List.nil_append,ne2,Bool.false_eq_true,if_false,bind_assoc,pure_bind]
section
variable {A:Around} {w:World} {s:Shared} {K:Type} [DecidableEq K] {knd:KeyKind pw w K}
theorem f3a {es:Array DictEntry} {p:DictEntry->Bool}:es.findIdx? p=es.toList.findIdx? p:=by
 obtain⟨l⟩:=es;exact List.findIdx?_toArray ..
theorem c1a {d:Addr} {kvs:List (K×Value)} {k:K} {key v:Value} {Q:Unit->Shared->Prop} (hkey:knd.is k key=true) (hm:s.heap.DictOf knd d kvs) (hsz:kvs.length<=sizeLine)
  (hQ:∀h',h'.DictOf knd d (stored kvs k v)->Heap.SameBut d s.heap h'->Q () {s with heap:=h'}):
  wpAny (model pw w) A (dictPut d (knd.hash k) key v) Q No s:=by
 obtain⟨o,es,ep,ho,hc,hd,hk,hp,hn⟩:=hm;have hes:es.size<=sizeLine:=h3j (h3y hp.length) hsz;unfold dictPut;refine h4s (wpAny_dictFind_of hkey ho hd hk ?_)
 have hidx:(es.findIdx? λe=>knd.is k e.key)=kvs.findIdx? λkv=>decide (kv.1=k):=by
  rw [<-hp.findIdx k,f3a]
 cases hi:es.findIdx? λe=>knd.is k e.key with
 |some i=>
  refine wpAny_updateDict ho hd (hQ _ ⟨_,_,ep,Heap.get?_update_self _ ho (Obj.isFreed_of_dict (Obj.data_mapDict hd _)),
   hc.mapDict _,Obj.data_mapDict hd _,hk.modify _ _,?_,?_⟩ (Heap.SameBut.update ..))
  ·rw [stored,if_pos (any_of_findIdx_some (hidx▸hi))];rw [Array.toList_modify];exact hp.modify hn (f3a.symm.trans hi) v
  ·rw [stored,if_pos (any_of_findIdx_some (hidx▸hi)),keys_map_store];exact hn
 |none=>
  have hnot:k∉kvs.map (·.1):=not_mem_of_findIdx_none (hidx▸hi)
  have hany:¬(kvs.any λkv=>decide (kv.1=k))=true:=by
   rw [List.any_eq_true];rintro⟨kv,hkv,he⟩;exact hnot (List.mem_map.mpr ⟨kv,hkv,h3t he⟩)
  refine wpAny_updateDictKeys (hz:=hes) ho hd (hQ _ ⟨_,_,ep+1,Heap.get?_update_self _ ho (Obj.isFreed_of_dict (Obj.data_mapDictKeys hd _)),
   hc.mapDictKeys _,Obj.data_mapDictKeys hd _,hk.push hkey _,?_,?_⟩ (Heap.SameBut.update ..))
  ·rw [stored,if_neg hany];rw [Array.toList_push];exact hp.append hkey (knd.hash k) v
  ·rw [stored,if_neg hany,List.map_append,List.nodup_append];exact⟨hn,List.pairwise_singleton _ _,λa ha b hb e=>hnot ((e.trans (List.mem_singleton.mp hb):a=k)▸ha)⟩
inductive MgI (knd:KeyKind pw w K) (d o:Addr) (oo:Obj) (kvs more:List (K×Value)) (n:Nat) (s:Shared) (rest:List Nat) (s':Shared):Prop
 |mk {h' i}:s'={s with heap:=h'}->rest=List.range' i (n - i)->i<=n->h'.DictOf knd d (merged kvs (more.take i))->h'.get? o=some oo->Heap.SameBut d s.heap h'->MgI knd d o oo kvs more n s rest s'
theorem b2y {d o:Addr} {kvs more:List (K×Value)} {Q:Unit->Shared->Prop} (hdo:d≠o) (hoS:(o==sysModules)=false)
  (hd:s.heap.DictOf knd d kvs) (h0:kvs≠ []) (ho:s.heap.DictOf knd o more)
  (hQ:∀h',h'.DictOf knd d (merged kvs more)->h'.DictOf knd o more->Heap.SameBut d s.heap h'->Q () {s with heap:=h'})
  (hsz:kvs.length+more.length<=sizeLine):
  wpAny (model pw w) A (mergeMapping d (.ref o) false) Q No s:=by
 obtain⟨od,esd,epd,hod,hcd,hdd,hkd,hpd,hnd⟩:=id hd;obtain⟨oo,eso,epo,hoo,hco,hdo',hko,hpo,hno⟩:=id ho;have hT:=ho.typeIs;have hlen:more.length=eso.size:=hpo.length.symm;unfold mergeMapping;refine h4s (wpAny_isInstance (T:="dict") (U:="dict") (b:=true) hT (by rw [isSubtype_type];kernel_rfl) ?_)
 rw [if_pos rfl];refine h4s (wpAny_specialOf hT PySem.F.slot_dict_iter.lookup ?_);refine h4s (h4t ?_);rw [show((some (Value.builtin "dict.__iter__"))==some (Value.builtin "dict.__iter__"))=true by decide+kernel]
 dsimp only;rw [if_neg (by rw [hoS];exact Bool.false_ne_true)]
 refine h4s (wpAny_dictEntries hod hdd ?_)
 have hne:esd.isEmpty=false:=by
  cases q:esd.isEmpty with
  |false=>rfl
  |true=>
   have z:=Array.isEmpty_iff.mp q;have:=hpd.length;rw [z]at this;exact absurd (List.length_eq_zero_iff.mp this.symm) h0
 rw [if_neg (by rw [hne];exact Bool.false_ne_true)]
 refine h4s (wpAny_dictEntries hoo hdo' ?_);refine h4s (wpAny_dictEpoch hoo hdo' ?_);refine h4s ?_;rw [List.range_eq_range'];refine wpAny_forIn_list _ (λrest _=>MgI knd d o oo kvs more eso.size s rest) _ (λx rest b s' z=> ?_) (λb s' z=> ?_) _ _ (.mk (h':=s.heap) (i:=0) rfl rfl (h3w _) hd hoo (Heap.SameBut.refl _ _))
 ·cases z with| @mk h' i e1 hr hi hd' hoo' hs'=> ?_
  subst e1
  have hlt:i<eso.size:=by
   rcases Nat.lt_or_ge i eso.size with h|h
   ·exact h
   ·rw [Nat.sub_eq_zero_of_le h]at hr;cases hr
  rw [show eso.size - i=(eso.size - (i+1))+1 by omega,List.range'_succ]at hr
  obtain⟨rfl,hrest⟩:=List.cons.inj hr;refine h4s (wpAny_dictEntries hoo' hdo' ?_);rw [Array.getElem?_eq_getElem hlt];have hkv:=List.getElem?_eq_getElem (l:=more) (i:=x) (by rw [hlen];exact hlt)
  generalize more[x]'(by rw [hlen];exact hlt)=kv at hkv
  obtain⟨k,v⟩:=kv;obtain⟨hkey,hval⟩:=hpo.get? (e:=eso[x]) (by simp [hlt]) hkv
  obtain⟨k',hkey',hhash⟩:=hko eso[x] (Array.getElem_mem hlt);obtain rfl:k'=k:=knd.inj _ _ _ hkey' hkey;dsimp only;rw [if_neg Bool.false_ne_true];rw [hhash,hval];have hmx:(merged kvs (more.take x)).length<=sizeLine:=h3j (merged_length_le kvs (more.take x)) (h3j (h3z (by rw [List.length_take];exact Nat.min_le_right _ _) _) hsz)
  refine h4s (wpAny_holding (c1a hkey hd' hmx λh'' hd'' hs''=> ?_))
  have hoo'':h''.get? o=some oo:=(hs''.2 o (Ne.symm hdo)).trans hoo';refine h4s (wpAny_dictEpoch hoo'' hdo' ?_);rw [if_neg (by simp)]
  exact h4t (.mk (i:=x+1) rfl hrest hlt (by rw [merged_take_succ kvs more x (k',v) hkv];exact hd'') hoo'' (hs'.trans hs''))
 ·cases z with| @mk h' i e1 hr hi hd' hoo' hs'=> ?_
  subst e1
  have hin:i=eso.size:=by
   rcases Nat.lt_or_ge i eso.size with h|h
   ·rw [show eso.size - i=(eso.size - (i+1))+1 by omega,List.range'_succ]at hr;exact nomatch hr
   ·exact Nat.le_antisymm hi h
  rw [hin,<-hlen,List.take_length]at hd';exact h4t (hQ h' hd' ⟨oo,eso,epo,hoo',hco,hdo',hko,hpo,hno⟩ hs')
end
section
variable {Φ:Fx} {Tt:Tab} {fn:Nat->Option Fn} {w:World} {R:RT} {A:Around} {X:Cx} {env:Env} {G:Gh}
inductive SEl (Φ:Fx) (Tt:Tab) (fn:Nat->Option Fn) (w:World) (R:RT) (A:Around) (X:Cx) (env:Env):Es->List Expr->Prop
 |nil:SEl Φ Tt fn w R A X env .nil []
 |cons {e es x l}:bM x=true->(∀{G:Gh},Cfg Φ Tt fn w R A X G env->SE Φ Tt w R A X G env e x)->SEl Φ Tt fn w R A X env es l->SEl Φ Tt fn w R A X env (.cons e es) (x::l)
theorem SEl.ses (C:Cfg Φ Tt fn w R A X G env) {es:Es} {l:List Expr} (h:SEl Φ Tt fn w R A X env es l):rZ Φ Tt w R A X G env es l:=by
 induction h with
 |nil=>exact b9y
 |cons n h _ ih=>exact f3o (h C) ih n
inductive Row (Φ:Fx) (Tt:Tab) (fn:Nat->Option Fn) (w:World) (R:RT) (A:Around) (X:Cx) (env:Env):List Int->List AV->List (Option Expr)->Es->List Expr->Prop
 |nil:Row Φ Tt fn w R A X env [] [] [] .nil []
 |cons {i x p t e v is ks keys es vals}:dU Φ X x=some (.int i t)->(∀{G:Gh},Cfg Φ Tt fn w R A X G env->SE Φ Tt w R A X G env e v)->Row Φ Tt fn w R A X env is ks keys es vals->Row Φ Tt fn w R A X env (i::is) (.int i::ks) (some (.Name x p)::keys) (.cons e es) (v::vals)
noncomputable def qQ:List AV->List Int
 |v::l=>(match v with| .int i=>i|_=>0)::qQ l
 |_=>[]
theorem a6r.el {v:AV} {j:Int} (h:a6r v j=true):v=.int j:=avI.el (M:=λv=>v=.int j) h λh=>h3t h▸rfl
theorem Row.of {es:Es} {vals:List Expr} (h:SEl Φ Tt fn w R A X env es vals):∀{ks:List AV} {keys:List (Option Expr)},b7e Φ X ks keys=true->keys.length=vals.length->Row Φ Tt fn w R A X env (qQ ks) ks keys es vals:=by
 induction h with
 |nil=>
  intro ks keys hk hl;obtain rfl:=List.length_eq_zero_iff.mp hl;cases ks with
  |nil=>exact .nil
  |cons v ks=>exact ff hk
 | @cons e es x l n h _ ih=>
  intro ks keys hk hl;cases ks with
  |nil=>exact cB.el hk▸nomatch (cB.el hk▸hl:([]:List (Option Expr)).length=l.length+1)
  |cons v ks=>exact e7.el (M:=λkeys=>keys.length=(x::l).length->Row Φ Tt fn w R A X env (qQ (v::ks)) (v::ks) keys (.cons e es) (x::l)) hk (λ{k keys} hk hl=>
    dE.el (b2 hk).1 λ{a} ea h1=>ea▸dM.el (M:=λa=>Row Φ Tt fn w R A X env (qQ (v::ks)) (v::ks) (some a::keys) (.cons e es) (x::l)) h1 λ{y p} h1=>dE.el h1 λ{u} eu h1=>
     vI.el (M:=λu=>dU Φ X y=some u->Row Φ Tt fn w R A X env (qQ (v::ks)) (v::ks) (some (.Name y p)::keys) (.cons e es) (x::l)) h1 (λ{j t} h1 eu=>a6r.el h1▸.cons eu h (ih (b2 hk).2 (Nat.succ.inj hl))) eu) hl
theorem Row.len {is:List Int} {ks:List AV} {keys:List (Option Expr)} {es:Es} {vals:List Expr} (h:Row Φ Tt fn w R A X env is ks keys es vals):ks.length=keys.length/\keys.length=vals.length/\keys.all (·.isSome)=true:=by
 induction h with
 |nil=>exact⟨rfl,rfl,rfl⟩
 |cons _ _ _ ih=>exact⟨h3s (· +1) ih.1,h3s (· +1) ih.2.1,ih.2.2⟩
noncomputable def Es.drop:Nat->Es->Es
 |0,es=>es
 |_+1,.nil=>.nil
 |n+1,.cons _ es=>Es.drop n es
theorem Row.drop {is:List Int} {ks:List AV} {keys:List (Option Expr)} {es:Es} {vals:List Expr} (h:Row Φ Tt fn w R A X env is ks keys es vals):∀n:Nat,Row Φ Tt fn w R A X env (is.drop n) (ks.drop n) (keys.drop n) (Es.drop n es) (vals.drop n):=
 h.rec (λn=>Nat.casesOn (motive:=λn=>Row Φ Tt fn w R A X env (([]:List Int).drop n) (([]:List AV).drop n) (([]:List (Option Expr)).drop n) (Es.drop n .nil) (([]:List Expr).drop n)) n .nil λ_=>.nil)
  λ{i x p t e v is ks keys es vals} a b c ih n=>Nat.casesOn (motive:=λn=>Row Φ Tt fn w R A X env ((i::is).drop n) ((AV.int i::ks).drop n) ((some (Expr.Name x p)::keys).drop n) (Es.drop n (.cons e es)) ((v::vals).drop n)) n (.cons a b c) ih
theorem a9i {kvs:List (Int×Value)} {i:Int} {v:Value} (h:i∉kvs.map (·.1)):stored kvs i v=kvs++[(i,v)]:=by
 unfold stored;rw [if_neg];rw [List.any_eq_true];rintro⟨kv,hkv,he⟩;exact h (List.mem_map.mpr ⟨kv,hkv,h3t he⟩)
theorem wS {T:Tb} {W:Wd} {l l':List (AV×AV)} {a b:List (Int×Value)} (h:bL T W dQ l a) (h':bL T W dQ l' b):bL T W dQ (l++l') (a++b):=by
 exact h.ind (key:=dQ) (M:=λl a=>bL T W dQ (l++l') (a++b)) (show bL T W dQ l' b from h') λ{k v x l kvs} hv _ ih=>(bL.cons (key:=dQ) (k:=k) hv ih:bL T W dQ ((dQ k,v)::(l++l')) ((k,x)::(kvs++b)))
def f3g (xs:List AV) (K:LK):LK:=λys L st=>K (xs++ys) L st
theorem c3z (C:Cfg Φ Tt fn w R A X G env) {pos:Pos} {d:Addr} (np:G.prot d=none) {m:Str->Option Value} {Q:PUnit->Shared->Prop} {is:List Int} {ks:List AV} {keys:List (Option Expr)} {es:Es} {vals:List Expr} (hR:Row Φ Tt fn w R A X env is ks keys es vals):
  ∀(n:Nat) {acc:List (Int×Value)} {accA:List (AV×AV)} {W:Wd} {L:aN} {st:aB} {s:Shared} {o:Obj} {K:LK},
  n<=keys.length->Inv Φ.T w X (G.plus d o) env W L st m s->o.IsDictOf (intKind pw w) acc->bL Φ.T W dQ accA acc->(acc.map (·.1)++is).Nodup->acc.length+n<=1000->m9 Tt R es L st K->
  (∀{W' L' st' o' acc' xs s'},W.le W'->Inv Φ.T w X (G.plus d o') env W' L' st' m s'->o'.IsDictOf (intKind pw w) acc'->xs.length=n->bL Φ.T W' dQ (accA++(ks.take n).zip xs) acc'->acc'.map (·.1)=acc.map (·.1)++is.take n->m9 Tt R (Es.drop n es) L' st' (f3g xs K)->Q () s')->
  wpAny (model pw w) A (forIn ((pairTrees keys vals env pos).take n) PUnit.unit λ(p:Sem Value×Sem Value) (_:PUnit)=>(do
    let kv<-p.1
    let vv<-holding [kv] p.2
    holding [kv,vv] (dictSet d kv vv)
    pure (ForInStep.yield PUnit.unit):Sem (ForInStep PUnit))) Q No s:=by
 have stop:∀{is:List Int} {ks:List AV} {es:Es} {acc:List (Int×Value)} {accA:List (AV×AV)} {W:Wd} {L:aN} {st:aB} {s:Shared} {o:Obj} {K:LK},Inv Φ.T w X (G.plus d o) env W L st m s->o.IsDictOf (intKind pw w) acc->bL Φ.T W dQ accA acc->m9 Tt R es L st K->
   (∀{W' L' st' o' acc' xs s'},W.le W'->Inv Φ.T w X (G.plus d o') env W' L' st' m s'->o'.IsDictOf (intKind pw w) acc'->xs.length=0->bL Φ.T W' dQ (accA++(ks.take 0).zip xs) acc'->acc'.map (·.1)=acc.map (·.1)++is.take 0->m9 Tt R (Es.drop 0 es) L' st' (f3g xs K)->Q () s')->Q () s:=
  λ{_ _ _ _ accA _ _ _ _ _ _} I ho hr h q=>q (xs:=[]) (.refl _) I ho rfl ((h3q accA).symm▸hr) (h3q _).symm h
 induction hR with
 |nil=>
  intro n acc accA W L st s o K hn I ho hr nd hz h q;obtain rfl:=Nat.le_zero.mp hn;exact h4t (stop I ho hr h q)
 | @cons i x p t e v is ks keys es vals hy he hR ih=>
  intro n acc accA W L st s o K hn I ho hr nd hz h q;cases n with
  |zero=>exact h4t (stop I ho hr h q)
  |succ n=>
   have e1:(pairTrees (some (.Name x p)::keys) (v::vals) env pos).take (n+1)=(eval (.Name x p) env,do let x<-eval v env;standAt pos;pure x)::(pairTrees keys vals env pos).take n:=rfl
   rw [e1,List.forIn_cons];refine h4s (h4s (hX (C.plus d o) I hy (h4s (wpAny_holding (h4s (he (C.plus d o) I h λ{W1 L1 st1 z vv s1} le1 I1 r1 k1=>h4s (wpAny_standAt (h4t ?_))))))))
   have nd1:i∉acc.map (·.1):=λhm=>(List.nodup_append.mp nd).2.2 i hm i (.head _) rfl
   have hz:acc.length+1+n<=1000:=h4f acc.length n 1▸hz;refine h4s (wpAny_holding (wpAny_dictSet_pairs (knd:=intKind pw w) (k:=i) (kvs:=acc) (hsz:=h3j (h3j (h3x _ _) (h3j (h3x _ _) hz)) (by decide)) (hZ i t) (Heap.dictOf_iff.mpr ⟨o,(I1.unaside np).1.o,ho⟩) λh' d' sb=> ?_))
   obtain⟨o',ho',hdo'⟩:=Heap.dictOf_iff.mp d';rw [a9i nd1]at hdo';have e2:(acc++[(i,vv)]).map (·.1)++is=acc.map (·.1)++i::is:=by rw [List.map_append,h3p];rfl
   exact h4t (ih n (acc:=acc++[(i,vv)]) (accA:=accA++[(.int i,z)]) (h4h hn) (I1.setAside (s':={s1 with heap:=h',toks:=s1.toks+1}) np rfl rfl (λb q ne e=>(sb.2 b ne).trans e) ho') hdo' (wS (hr.mono le1) (.cons (key:=dQ) (k:=i) r1 .nil)) (e2▸nd) (h3o (as:=acc)▸hz) k1
    λ{_ _ _ _ _ xs _} le2 I2 d2 hx r2 kk k2=>q (xs:=z::xs) (le1.trans le2) I2 d2 (h3s (· +1) hx) (h3p accA [(.int i,z)] _▸r2) (by rw [kk,List.map_append,h3p];rfl) k2)
theorem c1e (C:Cfg Φ Tt fn w R A X G env) {pos:Pos} {m:Str->Option Value} {is:List Int} {ks:List AV} {keys:List (Option Expr)} {es:Es} {vals:List Expr} (hR:Row Φ Tt fn w R A X env is ks keys es vals):∀{Q:List (Value×Value)->Shared->Prop} {W:Wd} {L:aN} {st:aB} {s:Shared} {K:LK},Inv Φ.T w X G env W L st m s->m9 Tt R es L st K->
  (∀{W' L' st' kvs xs vs s'},W.le W'->Inv Φ.T w X G env W' L' st' m s'->Carries (intKind pw w) vs kvs->bL Φ.T W' dQ (ks.zip xs) kvs->xs.length=keys.length->kvs.map (·.1)=is->K xs L' st'->Q vs s')->
  wpAny (model pw w) A (evalPairs (pairTrees keys vals env pos)) Q No s:=by
 induction hR with
 |nil=>intro Q W L st s K I h q;exact evalPairs_nil (q (kvs:=[]) (xs:=[]) (.refl _) I trivial .nil rfl rfl h)
 | @cons i x p t e v is ks keys es vals hy he hR ih=>
  intro Q W L st s K I h q;exact pairTrees_cons_walk (hX C I hy (he C I h λ{_ _ _ z vv _} le1 I1 r1 k1=>ih I1 k1 λ{_ _ _ kvs xs _ _} le2 I2 c2 r2 hx kk k2=>q (xs:=z::xs) (kvs:=(i,vv)::kvs) (le1.trans le2) I2 ⟨hZ i t,rfl,c2⟩ (.cons (key:=dQ) (k:=i) (r1.mono le2) r2) (h3s (· +1) hx) (h3s (i:: ·) kk) k2))
theorem a2n (env:Env) (pos:Pos) (n:Nat):∀(keys:List (Option Expr)) (vals:List Expr),keys.all (·.isSome)=true->keys.length=vals.length->(pairTrees keys vals env pos).drop n=pairTrees (keys.drop n) (vals.drop n) env pos:=by
 induction n with
 |zero=>exact λ_ _ _ _=>rfl
 |succ n ih=>
  intro keys vals h hl;cases keys with
  |nil=>obtain rfl:=List.length_eq_zero_iff.mp hl.symm;rfl
  |cons k keys=>
   cases vals with
   |nil=>exact nomatch hl
   |cons v vals=>
    cases k with
    |none=>exact ff h
    |some k=>exact ih keys vals h (Nat.succ.inj hl)
end
section
variable {Φ:Fx} {Tt:Tab} {fn:Nat->Option Fn} {w:World} {R:RT} {A:Around} {X:Cx} {env:Env} {G:Gh}
theorem a7y:emptyDict.IsDictOf (intKind pw w) []:=⟨#[],0,⟨rfl,rfl,rfl⟩,rfl,(λ_ he=>nomatch he.val),Pairs.nil,List.nodup_nil⟩
theorem d1k (C:Cfg Φ Tt fn w R A X G env) {k:Nat} {ks:List AV} {is:List Int} {vs:Es} {keys:List (Option Expr)} {values:List Expr} {pos:Pos} (hR:Row Φ Tt fn w R A X env is ks keys vs values) (h21:keys.length=21) (nd:is.Nodup):SE Φ Tt w R A X G env (.dictD k ks vs) (.Dict keys values pos):=by
 intro W L st m s K Q I h' q;have hl:=hR.len;have hpl:=pairTrees_length keys values env pos hl.2.2 hl.2.1;rw [arm_eval_Dict,zip_pairTrees keys values env pos hl.2.2 hl.2.1,e8f (by rw [hpl,h21])]
 refine h4s (wpAny_standAt (h4s ?_));unfold subDict;refine h4s (wpAny_alloc (h4s (wpAny_holding ?_)));rw [if_neg (by rw [List.length_take,hpl,h21];decide)]
 refine h4s (wpAny_rule ?_);have f:=jX I (o:=emptyDict) rfl;refine h4s (c3z (pos:=pos) C f.1 hR 17 (acc:=[]) (accA:=[]) (by rw [h21];decide) f.2 a7y .nil nd (by decide) h' λ{W1 L1 st1 o1 acc1 xs s1} le1 I1 d1 hx r1 kk1 k1=>h4t (h4t ?_))
 have np:=f.1;have hd1:=(I1.unaside np).1.o;have dne:=C.newNe I;generalize s.heap.objs.size=d at np I1 hd1 dne⊢;rw [a2n env pos 17 keys values hl.2.2 hl.2.1];have hR2:=hR.drop 17;have hl2:=hR2.len;have h4:(keys.drop 17).length=4:=by rw [List.length_drop,h21]
 refine h4s (wpAny_holding (wpAny_subDict (knd:=intKind pw w) (by rw [pairTrees_length _ _ _ _ hl2.2.2 hl2.2.1,h4];decide) ?_))
 have f2:=jX I1 (o:=emptyDict) rfl;have np2:=f2.1;have hne2:d≠s1.heap.objs.size:=Nat.ne_of_lt (Heap.lt_size hd1);have sysNe:s1.heap.objs.size≠sysModules:=(C.plus d o1).newNe I1;refine c1e ((C.plus d o1).plus _ _) hR2 f2.2 k1 λ{W2 L2 st2 kvs ys vals s2} le2 I2 c2 r2 hy kk2 k2=>⟨kvs,c2,Heap.dictOf_iff.mpr ⟨_,(I2.unaside np2).1.o,a7y⟩,λh3 d3 sb3=> ?_⟩
 rw [merged_nil_of_nodup kvs (by rw [kk2];exact(List.drop_sublist 17 _).nodup nd)]at d3
 obtain⟨o3,ho3,do3⟩:=Heap.dictOf_iff.mp d3;have I3:=I2.setAside (s':={s2 with heap:=h3,toks:=s2.toks+vals.length}) np2 rfl rfl (λb p q e=>(sb3.2 b q).trans e) ho3
 have I4:=(I3.unaside np2).2;have hd4:=(I4.unaside np).1.o;have la:acc1.length=17:=by rw [<-r1.drop,List.nil_append,List.length_zip,List.length_take,hx,hl.1,h21];rfl
 have lk:kvs.length=4:=by rw [<-r2.drop,List.length_zip,hy,hl2.1,h4];rfl
 have nd1:((acc1.map (·.1))++(kvs.map (·.1))).Nodup:=by
  rw [kk1,kk2];show([]++is.take 17++is.drop 17).Nodup
  rw [List.nil_append,List.take_append_drop];exact nd
 refine h4s (wpAny_onRaise (wpAny_holding (iQ (b2y (knd:=intKind pw w) (s:={s2 with heap:=h3,toks:=s2.toks+vals.length}) hne2 (beq_eq_false_iff_ne.mpr sysNe) (Heap.dictOf_iff.mpr ⟨_,hd4,d1⟩) (λe=>by rw [e]at la;cases la) d3 (λh5 d5 _ sb5=> ?_) (by rw [la,lk,sizeLine_eq];decide)))))
 rw [merged_append_of_fresh acc1 kvs (by rw [List.map_append];exact nd1)]at d5
 obtain⟨o5,ho5,do5⟩:=Heap.dictOf_iff.mp d5;have I5:=I4.setAside (s':={s2 with heap:=h5,toks:=s2.toks+vals.length}) np rfl rfl (λb p q e=>(sb5.2 b q).trans e) ho5
 refine oN k2 λr hr k2=> ?_
 have nB:bL Φ.T W2 dQ (ks.zip (xs++ys)) (acc1++kvs):=by
  have z:=wS (r1.mono le2) r2;rw [List.nil_append,<-List.zip_append (by rw [List.length_take,hl.1,h21,hx];rfl),List.take_append_drop]at z
  exact z
 have f6:=I5.cellAside np (fY hr) (c:=.dict (ks.zip (xs++ys))) ⟨dne,.ints _ d5 nB⟩;exact h4t (q (le1.trans (le2.trans f6.1)) f6.2 (.ref gW) k2.2)
end
section
variable {Φ:Fx} {Tt:Tab} {fn:Nat->Option Fn} {w:World} {R:RT} {A:Around}
theorem c1m {v:AV} {f:Int->Bool} (h:(@AV.casesOn (λ_=>Bool) v false (λ_=>false) f (λ_=>false) (λ_=>false) (λ_=>false) (λ_ _=>false) (λ_ _=>false) (λ_=>false))=true) {M:AV->Prop} (k:∀i,f i=true->M (.int i)):M v:=
 @AV.casesOn (λv=>(@AV.casesOn (λ_=>Bool) v false (λ_=>false) f (λ_=>false) (λ_=>false) (λ_=>false) (λ_ _=>false) (λ_ _=>false) (λ_=>false))=true->M v) v (λh=>ff h) (λ_ h=>ff h) k (λ_ h=>ff h) (λ_ h=>ff h) (λ_ h=>ff h) (λ_ _ h=>ff h) (λ_ _ h=>ff h) (λ_ h=>ff h) h
theorem b7v {i:Int} {l:List AV}:c1l i l=true->i∉qQ l:=by
 induction l with
 |nil=>exact λ_=>List.not_mem_nil
 |cons v l ih=>exact λh=>c1m (M:=λv=>i∉qQ (v::l)) (b2 h).1 λj e q=>(List.mem_cons.mp q).elim (of_decide_eq_false (bn e)) (ih (b2 h).2)
theorem a6m {l:List AV}:tI l=true->(qQ l).Nodup:=by
 induction l with
 |nil=>exact λ_=>List.nodup_nil
 |cons v l ih=>exact λh=>c1m (M:=λv=>(qQ (v::l)).Nodup) (b2 h).1 λj e=>List.nodup_cons.mpr ⟨b7v e,ih (b2 h).2⟩
theorem or2 {a b:Bool} {P:Prop} (h:(a||b)=true) (f:a=true->P) (g:b=true->P):P:=by
 cases a
 ·exact g h
 ·exact f rfl
theorem d7h {X:Cx} {G:Gh} {env:Env} (C:Cfg Φ Tt fn w R A X G env) {k:Nat} {ks:List AV} {vs:Es} {keys:List (Option Expr)} {values:List Expr} {pos:Pos} (hk:b7e Φ X ks keys=true) (ho:SEl Φ Tt fn w R A X env vs values)
  (hl:(Nat.beq keys.length 0||Nat.beq keys.length 21)=true) (he:Nat.beq keys.length values.length=true) (hd:tI ks=true):SE Φ Tt w R A X G env (.dictD k ks vs) (.Dict keys values pos):=by
 intro W L st m s K Q I h' q;have he:=h4g he;cases z:Nat.beq keys.length 0 with
 |false=>rw [z]at hl;exact d1k C (.of ho hk he) (h4g hl) (a6m hd) I h' q
 |true=>
  obtain rfl:=List.length_eq_zero_iff.mp (h4g z);obtain rfl:=List.length_eq_zero_iff.mp he.symm;cases ho;cases ks with
  |nil=>exact d6r C I h' q
  |cons v ks=>exact ff hk
variable (Φ Tt fn w R A)
abbrev QE (e:E):Prop:=∀{X:Cx} {G:Gh} {env:Env},Cfg Φ Tt fn w R A X G env->∀{ex:Expr},b4 Φ X e ex=true->SE Φ Tt w R A X G env e ex
abbrev wR (es:Es):Prop:=∀{X:Cx} {env:Env} {l:List Expr},jM Φ X es l=true->SEl Φ Tt fn w R A X env es l
abbrev QC (c:C):Prop:=∀{X:Cx} {G:Gh} {env:Env},Cfg Φ Tt fn w R A X G env->∀{ex:Expr},nA Φ X c ex=true->SC Φ Tt w R A X G env c ex
abbrev QF (f:F):Prop:=∀{X:Cx} {G:Gh} {env:Env},Cfg Φ Tt fn w R A X G env->∀{ex:Expr},tL Φ X f ex=true->SF Φ Tt w R A X G env f ex
variable {Φ Tt fn w R A}
def XX (Φ:Fx) (Tt:Tab) (fn:Nat->Option Fn) (w:World) (R:RT) (A:Around) (e:E):Prop:=match e with
 | .tup es=>wR Φ Tt fn w R A es
 | .frz f=>QF Φ Tt fn w R A f
 | .ife c _ _=>QC Φ Tt fn w R A c
 | .cmp o a b=>∀{X:Cx} {G:Gh} {env:Env},Cfg Φ Tt fn w R A X G env->∀{ex:Expr},b4 Φ X (.cmp o a b) ex=true->SC Φ Tt w R A X G env (.e (.cmp o a b)) ex
 | .isN no a=>∀{X:Cx} {G:Gh} {env:Env},Cfg Φ Tt fn w R A X G env->∀{ex:Expr},b4 Φ X (.isN no a) ex=true->SC Φ Tt w R A X G env (.e (.isN no a)) ex
 |_=>True
abbrev QX (Φ:Fx) (Tt:Tab) (fn:Nat->Option Fn) (w:World) (R:RT) (A:Around) (e:E):Prop:=QE Φ Tt fn w R A e/\XX Φ Tt fn w R A e
theorem f6a (v:AV):QE Φ Tt fn w R A (.lit v):=λC _ h=>or2 h (λh=>tX.el h λh=>f6k h) λh=>onU.el h λ{o y p} h=>by
 obtain rfl:=a7a.el (b2 h).1;exact tX.el (M:=λy=>SE Φ Tt w R A _ _ _ (.lit v) (.UnaryOp .USub y p)) (b2 h).2 λ{c _ _} h=>b6e.el (M:=λc=>SE Φ Tt w R A _ _ _ (.lit v) (.UnaryOp .USub (.Constant c _ _) p)) h λh=>f5x h
theorem f6h {a b:E} (ha:QE Φ Tt fn w R A a) (hb:QE Φ Tt fn w R A b):QE Φ Tt fn w R A (.andE a b):=λC _ h=>pK.el h λ{o l p} h=>by
 obtain rfl:=v0.el (b2 h).1;exact e7.el (M:=λl=>SE Φ Tt w R A _ _ _ (.andE a b) (.BoolOp .And l p)) (b2 h).2 λ{x r} h=>iC.el (M:=λr=>SE Φ Tt w R A _ _ _ (.andE a b) (.BoolOp .And (x::r) p)) (b2 h).2 (λh'=>d4a (ha C (b2 h).1) (b4f (hb C h'))) λh'=>d4a (ha C (b2 h).1) (hb C h')
theorem g2q {a b:E} (ha:QE Φ Tt fn w R A a) (hb:QE Φ Tt fn w R A b):QE Φ Tt fn w R A (.orE a b):=λC _ h=>pK.el h λ{o l p} h=>by
 obtain rfl:=a3u.el (b2 h).1;exact e7.el (M:=λl=>SE Φ Tt w R A _ _ _ (.orE a b) (.BoolOp .Or l p)) (b2 h).2 λ{x r} h=>iC.el (M:=λr=>SE Φ Tt w R A _ _ _ (.orE a b) (.BoolOp .Or (x::r) p)) (b2 h).2 (λh'=>e8s (ha C (b2 h).1) (b4f (hb C h'))) λh'=>e8s (ha C (b2 h).1) (hb C h')
theorem yR {M:Expr->Prop} {ex:Expr} {k:Expr->CmpOp->Expr->Bool} (h:(onC ex λl ops rs=>fL ops λop=>fL rs λr=>k l op r)=true) (f:∀{l op r p},k l op r=true->M (.Compare l [op] [r] p)):M ex:=
 onC.el h λ{l o r p} h=>fL.el (M:=λo=>M (.Compare l o r p)) h λ{op} h=>fL.el (M:=λr=>M (.Compare l [op] r p)) h λh=>f h
theorem f8p {o:Cm} {a b:E} (ha:QE Φ Tt fn w R A a) (hb:QE Φ Tt fn w R A b):QE Φ Tt fn w R A (.cmp o a b):=λC _ h=>yR (M:=λex=>SE Φ Tt w R A _ _ _ (.cmp o a b) ex) h λh=>
 f6c (ha C (b2 (b2 (b2 h).1).1).2) (hb C (b2 (b2 h).1).2) (b2 (b2 (b2 h).1).1).1 (bn (b2 h).2)
theorem f5b {o:Cm} {a b:E} (ha:QE Φ Tt fn w R A a) (hb:QE Φ Tt fn w R A b):QX Φ Tt fn w R A (.cmp o a b):=⟨f8p ha hb,λC _ h=>yR (M:=λex=>SC Φ Tt w R A _ _ _ (.e (.cmp o a b)) ex) h λh=>
 f4r (ha C (b2 (b2 (b2 h).1).1).2) (hb C (b2 (b2 h).1).2) (b2 (b2 (b2 h).1).1).1 (bn (b2 h).2)⟩
theorem b0s {M:Expr->Prop} {r:Expr} (h:tX r yK=true) (f:∀{k p},M (.Constant .none k p)):M r:=tX.el h λh=>yK.el h▸f
theorem f8d {no:Bool} {a:E} (ha:QE Φ Tt fn w R A a):QE Φ Tt fn w R A (.isN no a):=λC _ h=>yR (M:=λex=>SE Φ Tt w R A _ _ _ (.isN no a) ex) h λ{l op r p} h=>
 b0s (M:=λr=>SE Φ Tt w R A _ _ _ (.isN no a) (.Compare l [op] [r] p)) (b2 (b2 h).1).2 (f7o (ha C (b2 h).2) (b2 (b2 h).1).1)
theorem f6u {no:Bool} {a:E} (ha:QE Φ Tt fn w R A a):QX Φ Tt fn w R A (.isN no a):=⟨f8d ha,λC _ h=>yR (M:=λex=>SC Φ Tt w R A _ _ _ (.e (.isN no a)) ex) h λ{l op r p} h=>
 b0s (M:=λr=>SC Φ Tt w R A _ _ _ (.e (.isN no a)) (.Compare l [op] [r] p)) (b2 (b2 h).1).2 (f4t (ha C (b2 h).2) (b2 (b2 h).1).1)⟩
theorem f3n {f:Nat} {es:Es} (h:wR Φ Tt fn w R A es):QE Φ Tt fn w R A (.call f es):=λC _ q=>jT.el q λq=>e2l C (b2 (b2 q).1).1 (b2 (b2 q).1).2 ((h (b2 q).2).ses C) (hJ (b2 q).2)
theorem d8k {f:Nat} {es:Es} (h:wR Φ Tt fn w R A es):QE Φ Tt fn w R A (.callP f es):=λC _ q=>jT.el q λq=>d6o C (b2 (b2 q).1).1 (b2 (b2 q).1).2 ((h (b2 q).2).ses C) (hJ (b2 q).2)
theorem e6p {o:E} {m:Nat} {es:Es} (ho:QE Φ Tt fn w R A o) (h:wR Φ Tt fn w R A es):QE Φ Tt fn w R A (.meth o m es):=λC _ q=>lY.el q λhl q=>
 e0s C (ho C (b2 (b2 (b2 (b2 q).1).1).1).1) (b2 (b2 (b2 (b2 q).1).1).1).2 (b2 (b2 (b2 q).1).1).2 hl (b2 (b2 q).1).2 ((h (b2 q).2).ses C) (hJ (b2 q).2)
theorem e9w {c:Nat}:QE Φ Tt fn w R A (.new0 c):=λC _ q=>jT.el q λ{y l p _} q=>by
 obtain rfl:=cB.el (b2 (b2 q).1).1;exact e5x C (b2 (b2 q).1).2 (b2 q).2
theorem f2r {c f:Nat} {es:Es} (h:wR Φ Tt fn w R A es):QE Φ Tt fn w R A (.newI c f es):=λC _ q=>jT.el q λq=>dE.el (b2 (b2 q).1).2 λe q'=>
 e4q C (b2 (b2 q).1).1 (e.trans (h3s some (h4g q'))) (hJ (b2 q).2) ((h (b2 q).2).ses C)
theorem e3t {c k f:Nat} {es:Es} (h:wR Φ Tt fn w R A es):QE Φ Tt fn w R A (.newO c k f es):=λC _ q=>jT.el q λq=>
 e5h C (b2 (b2 q).1).1 (b2 (b2 q).1).2 (or2 (b2 q).2 (λq=>.inl ⟨(h q).ses C,hJ q⟩) λq=>.inr ⟨cB.el (b2 (b2 q).1).1,b7s (b2 (b2 q).1).2,(b2 q).2⟩)
theorem lJ {M:List Expr->Prop} {l:List Expr} {k:Expr->Bool} (h:fL l k=true) (f:∀{y},k y=true->M [y]):M l:=fL.el h f
theorem f7a {e:E} (h:QE Φ Tt fn w R A e):QE Φ Tt fn w R A (.len e):=λC _ q=>jT.el q λ{y l p p'} q=>lJ (M:=λl=>SE Φ Tt w R A _ _ _ (.len e) (.Call (.Name y p) l [] p')) q λq=>f6i C (b2 (b2 q).1).1 (h C (b2 q).2) (b2 (b2 q).1).2
theorem f7x {e:E} (h:QE Φ Tt fn w R A e):QE Φ Tt fn w R A (.sum e):=λC _ q=>jT.el q λ{y l p p'} q=>lJ (M:=λl=>SE Φ Tt w R A _ _ _ (.sum e) (.Call (.Name y p) l [] p')) q λq=>f8y C (b2 (b2 q).1).1 (h C (b2 q).2) (b2 (b2 q).1).2
theorem c0n {M:Expr->Prop} {ex:Expr} {k:Expr->Option Expr->Option Expr->Bool} {k':Expr->Option Expr->Option Expr->Option Expr->Bool} (h:(oV ex λv s=>a3a s λl u t=>k' v l u t)=true) (hk:∀{v l u t},k' v l u t=true->eG t=true/\k v l u=true) (f:∀{v l u p p'},k v l u=true->M (.Subscript v (.Slice l u none p) p')):M ex:=
 oV.el h λ{v s p'} h=>a3a.el (M:=λs=>M (.Subscript v s p')) h λ{l u t p} h=>by
  have z:=hk h;obtain rfl:=eG.el z.1;exact f z.2
theorem f4p {a lo hi:E} (ha:QE Φ Tt fn w R A a) (hl:QE Φ Tt fn w R A lo) (hh:QE Φ Tt fn w R A hi):QE Φ Tt fn w R A (.cut a lo hi):=λ{X} _ _ C _ q=>
 c0n (M:=λex=>SE Φ Tt w R A _ _ _ (.cut a lo hi) ex) (k:=λv l u=>b4 Φ X a v&&qW (b4 Φ X lo) lo l&&qW (b4 Φ X hi) hi u) q (λq=>⟨(b2 (b2 (b2 q).1).1).1,by rw [(b2 (b2 (b2 q).1).1).2,(b2 (b2 q).1).2,(b2 q).2];rfl⟩) λq=>
  f7z (ha C (b2 (b2 q).1).1) (a6y (b2 (b2 q).1).2 (hl C)) (a6y (b2 q).2 (hh C))
theorem f2l {k:Nat} {ks:List AV} {vs:Es} (h:wR Φ Tt fn w R A vs):QE Φ Tt fn w R A (.dictD k ks vs):=λC _ q=>onD.el q λq=>
 d7h C (b2 (b2 (b2 (b2 q).1).1).1).1 (h (b2 (b2 (b2 (b2 q).1).1).1).2) (b2 (b2 (b2 q).1).1).2 (b2 (b2 q).1).2 (b2 q).2
theorem e4k {d k:E} (hd:QE Φ Tt fn w R A d) (hk:QE Φ Tt fn w R A k):QE Φ Tt fn w R A (.dget d k):=λC _ q=>lY.el q λ{v y l p p'} hl q=>lJ (M:=λl=>SE Φ Tt w R A _ _ _ (.dget d k) (.Call (.Attribute v y p) l [] p')) q λq=>
 e4y (hd C (b2 (b2 (b2 (b2 q).1).1).1).1) (hk C (b2 (b2 q).1).2) (b2 (b2 (b2 (b2 q).1).1).1).2 (b2 (b2 (b2 q).1).1).2 hl (b2 q).2
theorem f2i {sep:List Nat} {e:E} (h:QE Φ Tt fn w R A e):QE Φ Tt fn w R A (.join sep e):=λC _ q=>lY.el q λ{v y l p p'} hl q=>lJ (M:=λl=>SE Φ Tt w R A _ _ _ (.join sep e) (.Call (.Attribute v y p) l [] p')) q λ{z} q=>
 tX.el (M:=λv=>SE Φ Tt w R A _ _ _ (.join sep e) (.Call (.Attribute v y p) [z] [] p')) (b2 (b2 (b2 q).1).1).1 λ{c n r} q'=>a3h.el (M:=λc=>SE Φ Tt w R A _ _ _ (.join sep e) (.Call (.Attribute (.Constant c n r) y p) [z] [] p')) q' λq'=>e8m q' (b2 (b2 (b2 q).1).1).2 hl (h C (b2 (b2 q).1).2) (b2 q).2
theorem e5d {i:Nat}:QE Φ Tt fn w R A (.popV i):=λC _ q=>lY.el q λ{v y l p p'} hl q=>by
 obtain rfl:=cB.el (b2 (b2 q).1).1;exact dM.el (M:=λv=>SE Φ Tt w R A _ _ _ (.popV i) (.Call (.Attribute v y p) [] [] p')) (b2 (b2 q).1).2 λq'=>f0t C q' (b2 q).2 hl
theorem e5n {e:E} (h:QE Φ Tt fn w R A e):QE Φ Tt fn w R A (.popC e):=λC _ q=>lY.el q λhl q=>by
 obtain rfl:=cB.el (b2 (b2 (b2 q).1).1).1;exact f0f (h C (b2 (b2 (b2 q).1).1).2) (b2 (b2 q).1).2 (b2 q).2 hl
theorem e8h {e:E} {es:Es} (he:QE Φ Tt fn w R A e) (hs:wR Φ Tt fn w R A es):wR Φ Tt fn w R A (.cons e es):=λh=>e7.el h λh=>.cons (b2 (b2 h).1).1 (λC=>he C (b2 (b2 h).1).2) (hs (b2 h).2)
theorem h0m {e:E} (he:QX Φ Tt fn w R A e):QC Φ Tt fn w R A (.e e):=λC _ h=>or2 (b2 h).2 (λh'=>c_e (he.1 C (b2 h).1) h') λh'=>by
 cases e with
 |cmp o a b=>exact he.2 C (b2 h).1
 |isN no a=>exact he.2 C (b2 h).1
 |_=>exact ff h'
theorem f0y {a b:C} (ha:QC Φ Tt fn w R A a) (hb:QC Φ Tt fn w R A b):QC Φ Tt fn w R A (.and a b):=λC _ h=>pK.el h λ{o l p} h=>by
 obtain rfl:=v0.el (b2 h).1;exact e7.el (M:=λl=>SC Φ Tt w R A _ _ _ (.and a b) (.BoolOp .And l p)) (b2 h).2 λ{x r} h=>iC.el (M:=λr=>SC Φ Tt w R A _ _ _ (.and a b) (.BoolOp .And (x::r) p)) (b2 h).2 (λh'=>d3b (ha C (b2 h).1) (f2x (hb C h'))) λh'=>d3b (ha C (b2 h).1) (hb C h')
theorem f5k {a b:C} (ha:QC Φ Tt fn w R A a) (hb:QC Φ Tt fn w R A b):QC Φ Tt fn w R A (.or a b):=λC _ h=>pK.el h λ{o l p} h=>by
 obtain rfl:=a3u.el (b2 h).1;exact e7.el (M:=λl=>SC Φ Tt w R A _ _ _ (.or a b) (.BoolOp .Or l p)) (b2 h).2 λ{x r} h=>iC.el (M:=λr=>SC Φ Tt w R A _ _ _ (.or a b) (.BoolOp .Or (x::r) p)) (b2 h).2 (λh'=>e5c (ha C (b2 h).1) (f8g (hb C h'))) λh'=>e5c (ha C (b2 h).1) (hb C h')
theorem e8q {a lo hi:E} (ha:QE Φ Tt fn w R A a) (hl:QE Φ Tt fn w R A lo) (hh:QE Φ Tt fn w R A hi):QF Φ Tt fn w R A (.cut a lo hi):=λ{X} _ _ C _ q=>
 c0n (M:=λex=>SF Φ Tt w R A _ _ _ (.cut a lo hi) ex) (k:=λv l u=>b4 Φ X a v&&qW (b4 Φ X lo) lo l&&qW (b4 Φ X hi) hi u) q (λq=>⟨(b2 (b2 (b2 q).1).1).1,by rw [(b2 (b2 (b2 q).1).1).2,(b2 (b2 q).1).2,(b2 q).2];rfl⟩) λq=>
  f7m (ha C (b2 (b2 q).1).1) (a6y (b2 (b2 q).1).2 (hl C)) (a6y (b2 q).2 (hh C))
theorem pY {X:Cx} {G:Gh} {env:Env} (C:Cfg Φ Tt fn w R A X G env) {rng:Bool} {it:E} {i:Expr} (h:QE Φ Tt fn w R A it) (q:a6z Φ X rng (b4 Φ X it) i=true):SI Φ Tt w R A X G env rng it i/\∀v,foldedSetIterable i env v=pure v:=by
 cases rng with
 |true=>exact jT.el q λ{y l p p'} q=>lJ (M:=λl=>SI Φ Tt w R A X G env true it (.Call (.Name y p) l [] p')/\∀v,foldedSetIterable (.Call (.Name y p) l [] p') env v=pure v) q λq=>⟨e3e C (b2 (b2 q).1).1 (h C (b2 (b2 q).1).2) (b2 q).2,λ_=>rfl⟩
 |false=>exact⟨e0y (h C (b2 q).1),λ_=>b5a (b2 q).2⟩
theorem b5c {M:Expr->Prop} {X:Cx} {caps tg:List Nat} {rng:Bool} {it:E} {cond:C} {elt:E} {ex:Expr} (h:tL Φ X (.comp caps tg rng it cond elt) ex=true)
  (f:∀{x target iter ifs sc pos cs ts},iN X caps=some cs->uR X caps tg ⟨target,iter,ifs,0⟩ sc cs ts=true->a6z Φ X rng (b4 Φ X it) iter=true->b4 Φ ⟨cs++ts,{sc with names:=bE X sc}⟩ elt x=true->d2v (nA Φ ⟨cs++ts,{sc with names:=bE X sc}⟩ cond) cond ifs=true->M (.ListComp x [⟨target,iter,ifs,0⟩] sc pos)):M ex:=
 b6y.el h λ{y gs sc p} h=>fL.el (M:=λgs=>M (.ListComp y gs sc p)) h λ{g} h=>dE.el h λ{cs} e1 h=>dE.el h λ{ts} e2 h=>by
  obtain⟨target,iter,ifs,a⟩:=g;have z:=(b2 (b2 (b2 h).1).1).1;obtain rfl:a=0:=h3t (b2 (b2 (b2 (b2 (b2 (b2 (b2 z).1).1).1).1).1).1).1;exact f e1 z (b2 (b2 (b2 h).1).1).2 (b2 (b2 h).1).2 (b2 h).2
theorem e1v {caps tg:List Nat} {rng:Bool} {it:E} {cond:C} {elt:E} (hi:QE Φ Tt fn w R A it) (hc:QC Φ Tt fn w R A cond) (he:QE Φ Tt fn w R A elt):QF Φ Tt fn w R A (.comp caps tg rng it cond elt):=λC _ q=>
 b5c (M:=λex=>SF Φ Tt w R A _ _ _ (.comp caps tg rng it cond elt) ex) q λe1 h1 h2 h3 h4=>f2z C e1 h1 (pY C hi h2).1 (pY C hi h2).2 (λC'=>he C' h3) λC'=>d3o h4 (hc C')
theorem t5:∀e,QX Φ Tt fn w R A e:=
 @E.rec (QX Φ Tt fn w R A) (wR Φ Tt fn w R A) (QC Φ Tt fn w R A) (QF Φ Tt fn w R A)
  (λv=>⟨f6a v,h3m⟩)
  (λg v=>⟨λC _ h=>dM.el h λh=>dE.el h λe h=>e5w C e h,h3m⟩)
  (λi=>⟨λC _ h=>dM.el h λh=>f5e C h,h3m⟩)
  (λi k=>⟨λC _ h=>dM.el h λh=>d5n C h,h3m⟩)
  (λe a h=>⟨λC _ q=>vX.el q λq=>e4c C (h.1 C (b2 (b2 q).1).1) (b2 (b2 q).1).2 (b2 q).2,h3m⟩)
  (λo a b ha hb=>⟨λC _ q=>onB.el q λq=>f4i C (ha.1 C (b2 (b2 q).1).2) (hb.1 C (b2 q).2) (b2 (b2 q).1).1,h3m⟩)
  (λe h=>⟨λC _ q=>onU.el q λq=>v7.el (b2 q).1▸f7h (h.1 C (b2 q).2),h3m⟩)
  (λa b ha hb=>⟨f6h ha.1 hb.1,h3m⟩)
  (λa b ha hb=>⟨g2q ha.1 hb.1,h3m⟩)
  (λo a b ha hb=>f5b ha.1 hb.1)
  (λno a ha=>f6u ha.1)
  (λc a b hc ha hb=>⟨λC _ q=>b6f.el q λq=>f8h (hc C (b2 (b2 q).1).1) (ha.1 C (b2 (b2 q).1).2) (hb.1 C (b2 q).2),hc⟩)
  (λf es h=>⟨f3n h,h3m⟩)
  (λf es h=>⟨d8k h,h3m⟩)
  (λo m es ho h=>⟨e6p ho.1 h,h3m⟩)
  (λc=>⟨e9w,h3m⟩)
  (λc f es h=>⟨f2r h,h3m⟩)
  (λc k f es h=>⟨e3t h,h3m⟩)
  (λe h=>⟨f7a h.1,h3m⟩)
  (λa b ha hb=>⟨λC _ q=>oV.el q λq=>f8u (ha.1 C (b2 (b2 q).1).1) (hb.1 C (b2 (b2 q).1).2),h3m⟩)
  (λa lo hi ha hl hh=>⟨f4p ha.1 hl.1 hh.1,h3m⟩)
  (λes h=>⟨λC _ q=>onT.el q λq=>f6n ((h (b2 q).1).ses C) (b2 q).2,h⟩)
  (λk ks vs h=>⟨f2l h,h3m⟩)
  (λd k hd hk=>⟨e4k hd.1 hk.1,h3m⟩)
  (λsep e h=>⟨f2i h.1,h3m⟩)
  (λe h=>⟨f7x h.1,h3m⟩)
  (λf h=>⟨λC _ q=>f7s (h C q),h⟩)
  (λk f h=>⟨λC _ q=>d6k (h C q),h3m⟩)
  (λi=>⟨e5d,h3m⟩)
  (λe h=>⟨e5n h.1,h3m⟩)
  (⟨λ_ _ _=>by intro W L st m s K Q I h' q;exact h'.elim,h3m⟩)
  (λh=>cB.el h▸.nil)
  (λe es he hs=>e8h he.1 hs)
  (λ_ _ h=>ff h)
  (λe he=>h0m he)
  (λi _ _ _ C _ h=>dM.el h λh=>f6l C h)
  (λc h _ _ _ C _ q=>onU.el q λq=>v7.el (b2 q).1▸f4z (h C (b2 q).2))
  (λa b ha hb=>f0y ha hb)
  (λa b ha hb=>f5k ha hb)
  (λes h _ _ _ C _ q=>onL.el q λq=>f0z ((h (b2 q).1).ses C) (b2 q).2)
  (λa b ha hb _ _ _ C _ q=>onB.el q λq=>a6x.el (b2 (b2 q).1).1▸f4s (ha.1 C (b2 (b2 q).1).2) (hb.1 C (b2 q).2))
  (λa lo hi ha hl hh=>e8q ha.1 hl.1 hh.1)
  (λcaps tg rng it cond elt hi hc he=>e1v hi.1 hc he.1)
theorem cJ (e:E):QE Φ Tt fn w R A e:=(t5 e).1
theorem a8d (c:C):QC Φ Tt fn w R A c:=(t5 (.ife c .bad .bad)).2
theorem f2t (f:F):QF Φ Tt fn w R A f:=(t5 (.frz f)).2
end
section
variable {Φ:Fx} {Tt:Tab} {fn:Nat->Option Fn} {w:World} {R:RT} {A:Around}
abbrev iW (Φ:Fx) (Tt:Tab) (fn:Nat->Option Fn) (w:World) (R:RT) (A:Around) (c:S):Prop:=∀{X:Cx} {G:Gh} {env:Env},Cfg Φ Tt fn w R A X G env->∀{x:Stmt},e4r Φ X c x=true->SS Φ Tt w R A X G env c x
abbrev QSs (Φ:Fx) (Tt:Tab) (fn:Nat->Option Fn) (w:World) (R:RT) (A:Around) (c:Ss):Prop:=∀{X:Cx} {G:Gh} {env:Env},Cfg Φ Tt fn w R A X G env->∀{x:List Stmt},jL Φ X c x=true->sB Φ Tt w R A X G env c x
theorem d0u {i:Nat} {e:E}:iW Φ Tt fn w R A (.assign i e):=λC _ h=>lR.el h λ{t v p} hn h=>dM.el (M:=λt=>SS Φ Tt w R A _ _ _ (.assign i e) (.Assign [t] v p)) (b2 h).1 λq=>d0z C q (cJ e C (b2 h).2) hn
theorem f1a {i:Nat} {f:F}:iW Φ Tt fn w R A (.ownS i f):=λC _ h=>lR.el h λ{t v p} hn h=>dM.el (M:=λt=>SS Φ Tt w R A _ _ _ (.ownS i f) (.Assign [t] v p)) (b2 h).1 λq=>f1t C q (f2t f C (b2 h).2) hn
theorem e7s {e:E}:iW Φ Tt fn w R A (.expr e):=λC _ h=>stE.el h λh=>e9o C (cJ e C (b2 h).1) (b2 h).2
theorem d9r {i:Nat} {e:E}:iW Φ Tt fn w R A (.appV i e):=λC _ h=>stE.el h λ{v p} h=>lY.el (M:=λv=>SS Φ Tt w R A _ _ _ (.appV i e) (.Expr v p)) h λ{v y l r s} hl h=>lJ (M:=λl=>SS Φ Tt w R A _ _ _ (.appV i e) (.Expr (.Call (.Attribute v y r) l [] s) p)) h λ{z} h=>
 dM.el (M:=λv=>SS Φ Tt w R A _ _ _ (.appV i e) (.Expr (.Call (.Attribute v y r) [z] [] s) p)) (b2 (b2 (b2 h).1).1).1 λq=>e9r C q (b2 (b2 (b2 h).1).1).2 hl (cJ e C (b2 (b2 h).1).2) (b2 h).2
theorem e7h {l e:E}:iW Φ Tt fn w R A (.appC l e):=λC _ h=>stE.el h λ{v p} h=>lY.el (M:=λv=>SS Φ Tt w R A _ _ _ (.appC l e) (.Expr v p)) h λ{v y l' r s} hl h=>lJ (M:=λl'=>SS Φ Tt w R A _ _ _ (.appC l e) (.Expr (.Call (.Attribute v y r) l' [] s) p)) h λ{z} h=>
 f0a C (cJ l C (b2 (b2 (b2 (b2 h).1).1).1).1) (b2 (b2 (b2 (b2 h).1).1).1).2 (b2 (b2 (b2 h).1).1).2 hl (cJ e C (b2 (b2 h).1).2) (b2 h).2
theorem e4n {o:E} {a:Nat} {e:E}:iW Φ Tt fn w R A (.setA o a e):=λC _ h=>lR.el h λ{t v p} hn h=>vX.el (M:=λt=>SS Φ Tt w R A _ _ _ (.setA o a e) (.Assign [t] v p)) h λh=>e4w C (cJ e C (b2 (b2 h).1).1) (cJ o C (b2 (b2 h).1).2) (b2 h).2 hn
theorem e6h {o:E} {a:Nat} {op:Op} {e:E}:iW Φ Tt fn w R A (.augA o a op e):=λC _ h=>stG.el h λ{t o' v p} h=>vX.el (M:=λt=>SS Φ Tt w R A _ _ _ (.augA o a op e) (.AugAssign t o' v p)) h λh=>
 e3u C (cJ o C (b2 (b2 (b2 h).1).1).2) (cJ e C (b2 (b2 h).1).2) (b2 (b2 (b2 (b2 h).1).1).1).1 (b2 (b2 (b2 (b2 h).1).1).1).2 (b2 h).2
theorem e1z {i:Nat} {op:Op} {e:E}:iW Φ Tt fn w R A (.augV i op e):=λC _ h=>stG.el h λ{t o' v p} h=>dM.el (M:=λt=>SS Φ Tt w R A _ _ _ (.augV i op e) (.AugAssign t o' v p)) (b2 (b2 (b2 h).1).1).1 λq=>
 e7a C q (cJ e C (b2 h).2) (b2 (b2 (b2 h).1).1).2 (b2 (b2 h).1).2
theorem e8z {d k e:E}:iW Φ Tt fn w R A (.setI d k e):=λC _ h=>lR.el h λ{t v p} hn h=>oV.el (M:=λt=>SS Φ Tt w R A _ _ _ (.setI d k e) (.Assign [t] v p)) h λh=>e3m (cJ e C (b2 (b2 (b2 h).1).1).1) (cJ d C (b2 (b2 (b2 h).1).1).2) (cJ k C (b2 (b2 h).1).2) hn
theorem c9d {is:List Nat} {e:E}:iW Φ Tt fn w R A (.unpack is e):=λC _ h=>lR.el h λ{t v p} hn h=>onT.el (M:=λt=>SS Φ Tt w R A _ _ _ (.unpack is e) (.Assign [t] v p)) h λh=>d0o C (b2 (b2 (b2 h).1).1).1 (cJ e C (b2 (b2 (b2 h).1).1).2) hn (b2 (b2 h).1).2
theorem f7i {e:E}:iW Φ Tt fn w R A (.ret e):=λC _ h=>a3n.el h λ{v p} h=>dE.el h λe' h=>e'▸f7r (cJ e C h)
theorem e3x:iW Φ Tt fn w R A .retN:=λC _ h=>a3n.el h λh=>eG.el h▸f2s
theorem f4h {c:C} {a b:Ss} (ha:QSs Φ Tt fn w R A a) (hb:QSs Φ Tt fn w R A b):iW Φ Tt fn w R A (.ite c a b):=λC _ h=>stI.el h λh=>f9b (a8d c C (b2 (b2 h).1).1) (ha C (b2 (b2 h).1).2) (hb C (b2 h).2)
theorem d9b {c:C} {b:Ss} (hb:QSs Φ Tt fn w R A b):iW Φ Tt fn w R A (.while c b):=λC _ h=>stW.el h λ{t x y p} h=>by
 obtain rfl:=cB.el (b2 (b2 h).1).1;exact d4r (a8d c C (b2 (b2 h).1).2) (hb C (b2 h).2)
theorem f1e {tg:List Nat} {one rng:Bool} {it:E} {b:Ss} (hb:QSs Φ Tt fn w R A b):iW Φ Tt fn w R A (.forL tg one rng it b):=λC _ h=>stF.el h λ{t i x y p} h=>by
 obtain rfl:=cB.el (b2 (b2 (b2 h).1).1).1;have s:=pY C (cJ it) (b2 (b2 h).1).2;exact e6q C (b2 (b2 (b2 h).1).1).2 s.1 s.2 λC'=>hb C' (b2 h).2
theorem e5t {i:Nat} {it:E} {b:Ss} (hb:QSs Φ Tt fn w R A b):iW Φ Tt fn w R A (.forC i it b):=λC _ h=>stF.el h λ{t it' x y p} h=>by
 obtain rfl:=cB.el (b2 (b2 (b2 (b2 h).1).1).1).1;exact dM.el (M:=λt=>SS Φ Tt w R A _ _ _ (.forC i it b) (.For t it' x [] p)) (b2 (b2 (b2 (b2 h).1).1).1).2 λq=>e7y C q (cJ it C (b2 (b2 (b2 h).1).1).2) (λ_=>b5a (b2 (b2 h).1).2) λC'=>hb C' (b2 h).2
theorem f6x {b:Ss} (hb:QSs Φ Tt fn w R A b):iW Φ Tt fn w R A (.tryB b):=λC _ h=>stT.el h λ{x hs c d p} h=>by
 obtain⟨a,r,rfl⟩:=uX.el (b2 (b2 (b2 h).1).1).1;obtain rfl:=cB.el (b2 (b2 (b2 h).1).1).2;obtain rfl:=cB.el (b2 (b2 h).1).2;exact f4e (hb C (b2 h).2)
theorem f9d:iW Φ Tt fn w R A .brk:=λC _ h=>by
 obtain⟨p,rfl⟩:=a6s.el h;exact f6o
theorem f1h:iW Φ Tt fn w R A .cont:=λC _ h=>by
 obtain⟨p,rfl⟩:=a1d.el h;exact e1a
theorem b4u:∀c,QSs Φ Tt fn w R A c:=
 @Ss.rec (iW Φ Tt fn w R A) (QSs Φ Tt fn w R A) (λ_ _=>d0u) (λ_ _=>f1a) (λ_=>e7s) (λ_ _=>d9r) (λ_ _=>e7h) (λ_ _ _=>e4n) (λ_ _ _ _=>e6h) (λ_ _ _=>e1z) (λ_ _ _=>e8z) (λ_ _=>c9d) (λ_=>f7i) e3x
  (λ_ _ _ ha hb=>f4h ha hb) (λ_ _ hb=>d9b hb) (λ_ _ _ _ _ hb=>f1e hb) (λ_ _ _ hb=>e5t hb) f9d f1h (λ_ hb=>f6x hb) (λ_ _ _=>by intro W L st m s K Q I h' q;exact h'.elim)
  (λ_ _ h=>cB.el h▸f2v) (λ_ _ hs hss _ _ _ C _ h=>a3p.el h λh=>b3u (hs C (b2 h).1) (hss C (b2 h).2))
end
theorem a0y {x:Str} {names:List (Str×NameKind)}:∀{n:Nat} {acc:List (Str×Addr)},((x,NameKind.cell)∈names\/(acc.lookup x).isSome=true)->((cellsFrom n names acc).lookup x).isSome=true:=by
 induction names with
 |nil=>exact λh=>h.elim (λh=>nomatch h) id
 |cons p r ih=>
  obtain⟨y,k⟩:=p;intro n acc h;unfold cellsFrom;split
  ·refine ih (h.elim (λh=>(List.mem_cons.mp h).elim (λe=>.inr ?_) .inl) λh=>.inr ?_)
   ·cases e;rw [List.lookup_cons_self];rfl
   ·rw [List.lookup_cons];cases x==y with
    |true=>rfl
    |false=>exact h
  ·rename_i q;exact ih (h.imp (λh=>(List.mem_cons.mp h).elim (λe=>absurd (beq_iff_eq.mpr (h3s Prod.snd e).symm) q) id) id)
section
variable {kindOf:Str->Option NameKind} {x:Str}
theorem b8t {l:List (Str×Value)}:∀{m:Str->Option Value},x∉l.map (·.1)->bindL kindOf l m x=m x:=by
 induction l with
 |nil=>exact λ_=>rfl
 |cons p l ih=>
  intro m h;have h:=not_or.mp λe=>h (List.mem_cons.mpr e)
  unfold bindL;rw [ih h.2];split
  ·exact if_neg h.1
  ·rfl
theorem b9e {l:List (Str×Value)}:∀{m:Str->Option Value},x∉l.map (·.1)->bindC kindOf l m x=m x:=by
 induction l with
 |nil=>exact λ_=>rfl
 |cons p l ih=>
  intro m h;have h:=not_or.mp λe=>h (List.mem_cons.mpr e)
  unfold bindC;rw [ih h.2];split
  ·rfl
  ·exact if_neg h.1
theorem d7s {y:Value} {names:List Str}:∀{vals:List Value} {i:Nat} {m cm:Str->Option Value},names.Nodup->aD names i=some x->vals[i]?=some y->
  (kindOf x=some .local->bindL kindOf (names.zip vals) m x=some y)/\(kindOf x≠some .local->bindC kindOf (names.zip vals) cm x=some y):=by
 induction names with
 |nil=>exact λ_ h _=>nomatch h
 |cons n names ih=>
  intro vals i m cm nd h h';have nd:=List.nodup_cons.mp nd;cases vals with
  |nil=>exact nn (List.getElem?_nil.symm.trans h')
  |cons v vals=>
   rw [List.zip_cons_cons];cases i with
   |zero=>
    obtain rfl:n=x:=h3l h;cases h3l h';have hz:n∉(names.zip vals).map (·.1):=λh=>(List.mem_map.mp h).elim λp hp=>nd.1 (hp.2▸(List.of_mem_zip hp.1).1)
    refine⟨λk=> ?_,λk=> ?_⟩
    ·unfold bindL;rw [b8t hz,if_pos k];exact if_pos rfl
    ·unfold bindC;rw [b9e hz,if_neg k];exact if_pos rfl
   |succ i=>
    unfold bindL bindC;exact ih nd.2 h h'
end
section
variable {Φ:Fx} {Tt:Tab} {fn:Nat->Option Fn} {w:World} {R:RT}
theorem d5t {sl:Slot} {n:Nat}:∀{i:Nat},aD (List.replicate n Slot.no) i=some sl->.no=sl:=by
 induction n with
 |zero=>exact λh=>nomatch h
 |succ n ih=>exact λ{i}=>Nat.casesOn (motive:=λi=>aD (List.replicate (n+1) Slot.no) i=some sl->.no=sl) i h3l λ_ h=>ih h
theorem c6w {T:Tb} {W:Wd} {k:Nat} {more:List Str} {vs:List AV} {vals:List Value} {M:Str->Slot->Prop} (hn:∀x,M x .no) (r:aL T W vs vals):∀{names:List Str},names.length=vs.length->(∀i x v y,aD names i=some x->vals[i]?=some y->Rep T W v y->M x (.val v))->
  ∀i x sl,aD (names++more) i=some x->aD (vs.map Slot.val++List.replicate k Slot.no) i=some sl->M x sl:=
 r.ind (M:=λvs vals=>∀{names:List Str},names.length=vs.length->(∀i x v y,aD names i=some x->vals[i]?=some y->Rep T W v y->M x (.val v))->∀i x sl,aD (names++more) i=some x->aD (vs.map Slot.val++List.replicate k Slot.no) i=some sl->M x sl)
  (λ_ _ _ x _ _ h=>d5t h▸hn x) λ{v y vs vals} rv _ ih names hl hv i x sl h1 h2=>by
   cases names with
   |nil=>exact nomatch hl
   |cons n names=>
    cases i with
    |zero=>exact h3l h1▸h3l h2▸hv 0 n v y rfl rfl rv
    |succ i=>exact ih (Nat.succ.inj hl) (λi=>hv (i+1)) i x sl h1 h2
theorem b7h {n:Str} {c:Addr} {l:List (Str×Addr)}:l.lookup n=some c->(n,c)∈l:=by
 induction l with
 |nil=>exact λh=>nomatch h
 |cons p l ih=>
  intro e;rw [List.lookup_cons]at e;cases q:n==p.1 with
  |true=>rw [q]at e;exact List.mem_cons.mpr (.inl (Prod.ext (beq_iff_eq.mp q) (h3l e).symm))
  |false=>rw [q]at e;exact .tail _ (ih e)
open Classical in
theorem b9j {W:Wd} {st:aB} {s s₁:Shared} {env:Env} {F:Fn} {X:Cx} {names more:List Str} {vs:List AV} {vals:List Value} {T:Tb} (B:Base T w (Gh.at W s.heap s.os) W st s.heap) (hg:s.gens= #[])
  (hv:X.vars=names++more) (nd:X.vars.Nodup) (np:F.np=names.length) (nv:F.nv=X.vars.length) (hlen:vs.length=F.np) (r:aL T W vs vals) (hsc:env.scope=X.scope)
  (hk:∀x∈names,X.scope.names.lookup x=some .local\/X.scope.names.lookup x=some .cell) (hc:∀x∈names,X.scope.names.lookup x=some .cell->(env.cells.lookup x).isSome=true)
  (x:InCallC s env.locals (bindL env.kindOf (names.zip vals) λ_=>none) env.cells (bindC env.kindOf (names.zip vals) λ_=>none) s₁):
  ∃W' m,W.le W'/\Inv T w X (Gh.at W s.heap s.os) env W' (locals F vs) st m s₁:=by
 obtain⟨h1,tk,rfl⟩:=x.toInCall.same;have keep:=x.toInCall.keep;have fresh:=x.toInCall.fresh;have big:∀{c},(∃n,env.cells.lookup n=some c)->s.heap.objs.size<=c/\c≠env.locals:=λ⟨n,e⟩=>have q:=x.above n _ (b7h e);⟨h3j fresh (Nat.le_of_lt q),Nat.ne_of_gt q⟩
 have nF:∀{a},s.heap.objs.size<=a->W.F a=none:=λ{a} h=>by
  cases e:W.F a with
  |none=>rfl
  |some o=>exact dD (Heap.not_alive h) (B.froz _ _ e)
 have nM:∀{a},s.heap.objs.size<=a->∀q,W.mu q≠some a:=λ{a} h q e=>(B.mu_alive e).elim λo ho=>dD (Heap.not_alive h) ho
 let W':Wd:=⟨λb=>if∃n,env.cells.lookup n=some b then h1.get? b else W.F b,W.mu⟩
 have fe:∀{b o} {M:Prop},W'.F b=some o->((∃n,env.cells.lookup n=some b)->h1.get? b=some o->M)->(W.F b=some o->M)->M:=λe f g=>fF e f λ_=>g
 have fn:∀{b},(¬∃n,env.cells.lookup n=some b)->W'.F b=W.F b:=λq=>if_neg q
 have le:W.le W':=⟨λa o e=>(fn λq=>dD (nF (big q).1) e).trans e,λ_ _ e=>e⟩
 have hs:∀i y sl,aD X.vars i=some y->aD (locals F vs) i=some sl->ValS T X env W' (bindL env.kindOf (names.zip vals) λ_=>none) y sl:=hv▸c6w (M:=λy sl=>ValS T X env W' (bindL env.kindOf (names.zip vals) λ_=>none) y sl) (λ_=>.no) r (np.symm.trans hlen.symm) λi y v yv hy hyv ry=>by
  have ko:env.kindOf y=X.scope.names.lookup y:=by show env.scope.names.lookup y=_;rw [hsc]
  obtain⟨b1,b2⟩:=d7s (kindOf:=env.kindOf) (m:=λ_=>none) (cm:=λ_=>none) (List.nodup_append.mp (hv▸nd)).1 hy hyv
  rcases hk y (i0 hy)with hl|hcell
  ·exact .val (.loc yv hl (b1 (ko.trans hl)) (ry.mono le))
  ·obtain⟨c,hcc⟩:=Option.isSome_iff_exists.mp (hc y (i0 hy) hcell);obtain⟨o,ho,hd⟩:=x.cell y c hcc;exact .val (.cell c o yv hcell hcc ((if_pos ⟨y,hcc⟩).trans ho) (hd.trans (h3s Data.cell (b2 λq=>nomatch hcell.symm.trans (ko.symm.trans q)))) (ry.mono le))
 exact⟨W',_,le,hg,rfl,⟨le,λa o e=>fe e (λq _=>.inr (big q).1) .inl,λ_ _ e=>.inl e,λa o e _=>keep a o e,λa o e=>fe e (λ_ e=>e) λe=>keep _ _ (B.froz _ _ e),λq c e=>(B.cells q c e).imp λa z=>⟨z.1,z.2.mono le λo=>keep _ _⟩,B.live,B.inj,
   λq a e=>(fn λz=>nM (big z).1 q e).trans (B.disj q a e)⟩,x.toInCall.ns,⟨(fn λz=>(big z).2 rfl).trans (nF fresh),nM fresh,fresh⟩,by
   show(vs.map Slot.val++List.replicate (F.nv - F.np) Slot.no).length=_
   rw [h3o,h4j,List.length_replicate,hlen,nv,Nat.add_sub_cancel' (np▸hv▸h3o (as:=names)▸h3x _ _)],
  λi y sl hy hsl=>(hs i y sl hy hsl).slot,λi j a z=>absurd z (b6x hs i a),λb p e=>nomatch e⟩
theorem b3x (H:Facts Φ Tt fn) {A:Around} {f:Nat} {F:Fn} {fd:FuncData} {body:List Stmt} {vars:List Str} {args:List Arg} {D U:Nat} {vs:List AV} {st:aB} {P:AV->aB->Prop} {W:Wd} {s:Shared} {vals:List Value} {Q:Result->Shared->Prop}
  (h:FnHd Φ f F fd body vars args) (S:a8f Φ w R D U) (hh:A.handled=none) (hD:A.depth+2<=D) (hU:A.units+9<=U) (hz:A.depth<1000/\A.units+3<=9700) (hg:s.gens= #[]) (B:Base Φ.T w (Gh.at W s.heap s.os) W st s.heap) (hK:∀a o,Φ.K.lookup a=some o->W.F a=some o) (ha:pZ Φ W f vs vals)
  (hlen:vs.length=F.np) (k:aZ Tt R F.body (locals F vs) st (c4 P))
  (hb:∀{env:Env} {G:Gh},env.scope=fd.scope->Cfg Φ Tt fn w R (A.deeper env) ⟨vars,fd.scope⟩ G env->sB Φ Tt w R (A.deeper env) ⟨vars,fd.scope⟩ G env F.body body)
  (q0:∀{v x W' st' s'},Base Φ.T w (Gh.at W s.heap s.os) W' st' s'.heap->s'.gens= #[]->s'.os=s.os->Rep Φ.T W' v x->P v st'->Q (.ok (.ret x)) s'):
  codeAny (model pw w) A (.call (.ref (Φ.fn f)) ⟨vals,[]⟩) Q s:=by
 obtain⟨oc,od,sl,ho⟩:=h.lk;obtain⟨dfl,hpar⟩:=h.par;obtain⟨more,hmore⟩:=h.more;have Kin:Φ.K.In s.heap:=λa o e=>B.froz _ _ (hK a o e)
 have hnames':∀x∈args.map (·.arg),fd.scope.names.lookup x=some .local\/fd.scope.names.lookup x=some .cell:=λx hx=>by
  obtain⟨a,ha,rfl⟩:=List.mem_map.mp hx;exact h.names a ha
 refine codeAny_call_function hz.1 (Kin _ _ ho) rfl h.co h.gen h.body (codeRec_of Kin h.code) ?_;have main:∀vals',aL Φ.T W vs vals'->(args.map (·.arg)).length=vals'.length->
   wpAny (model pw w) A.in1 (newFunctionEnv fd.scope fd.globals fd.closure ((args.map (·.arg)).zip vals') (fd.qualname++".<locals>.") (some (Φ.fn f)) fd.code none fd.builtins)
    (λenv s₂=>s₂.heap.NoLimit/\codeAny (model pw w) A (.func body env) Q s₂) (λe s'=>Q (.error e) s') s:=by
  intro vals' r hl;rw [h.clo];refine wpAny_newFunctionEnv_cells h.kind (λx hx=> ?_) λenv he s₁ x=> ?_
  ·exact(hnames' _ (List.of_mem_zip hx).1).imp id λq=>⟨q,a0y (.inl (lP q))⟩
  ·refine⟨H.limit _ λa o e=>x.toInCall.keep _ _ (Kin a o e),codeAny_func ?_⟩
   obtain⟨W',m,le,I⟩:=b9j (X:=⟨vars,fd.scope⟩) (F:=F) (env:=env) (names:=args.map (·.arg)) (more:=more) (vals:=vals') B hg hmore h.nd (by rw [h.np,h4j]) h.nv hlen r (by rw [he];rfl) hnames'
    (λy hy q=>by rw [he];exact a0y (.inl (lP q))) x
   have Cf:Cfg Φ Tt fn w R (A.deeper env) ⟨vars,fd.scope⟩ (Gh.at W s.heap s.os) env:=
    ⟨H,⟨by rw [he];rfl,h.kind,by rw [he];exact h.glob,by rw [he];exact h.blt,h.nd⟩,hh,hz.2,hK,D,U,hD,hU,S⟩
   exact iQ (hb (by rw [he];rfl) Cf I k λ{_ L2 st2 _ _ _ _} le2 I2 r2 k2=>f3r (K:=λfl=>c4 P fl L2 st2) r2 k2 (q0 I2.base I2.gens I2.os .none) False.elim False.elim λr2=>q0 I2.base I2.gens I2.os r2)
 have hdf:=h.dflt;rcases ha with r|⟨hd,v,x,rfl,rfl,rv⟩
 ·have hl:(args.map (·.arg)).length=vals.length:=by rw [<-r.length,hlen,h.np,h4j]
  by_cases q:Φ.dflt f=true
  ·rw [if_pos q]at hdf;obtain⟨p,q,tk,hpq,hpk⟩:=hdf;rw [hpq]at hl main
   match vals,hl with
   |[x,u],_=>exact(Looks.of_peek (M:=model pw w) Kin ((hpk ⟨(model pw w).prog,(model pw w).w.params⟩ x).2 u)).here (main [x,u] r rfl)
  ·rw [if_neg q]at hdf;rw [c0a hpar hdf (by have:=h.nd;rw [hmore]at this;exact(List.nodup_append.mp this).1) hl]
   exact h4t (main vals r hl)
 ·rw [if_pos hd]at hdf;obtain⟨p,q,tk,hpq,hpk⟩:=hdf;rw [hpq]at main;exact(Looks.of_peek (M:=model pw w) Kin (hpk ⟨(model pw w).prog,(model pw w).w.params⟩ x).1).here (main [x,.str ⟨#[]⟩ tk] (.cons rv (.cons (.str (x:=⟨#[]⟩) (h3w _)) .nil)) rfl)
theorem oFn {o:Option Fn} {f:Fn->Prop} {P:Prop} (h:match o with|some b=>f b| .none=>False) (k:∀b,o=some b->f b->P):P:=
 Option.casesOn (motive:=λz=>o=z->(match z with|some b=>f b| .none=>False)->P) o (λ_ h=>h.elim) k rfl h
theorem g2w {n d u:Nat} (hn:n+1<=323) (hD:d<=997 - 2*(n+1)) (hU:u<=9690 - 30*(n+1)):d+2<=997 - 2*n/\u+9<=9690 - 30*n/\d<1000/\u+3<=9700:=by omega
theorem b8q (H:Facts Φ Tt fn) (n:Nat):n<=323->a8f Φ w (aO Tt fn n) (997 - 2*n) (9690 - 30*n):=by
 induction n with
 |zero=>intro _ f vs st P W s vals A Q _ _ _ _ _ _ _ _ h;exact h.elim
 |succ n ih=>
  intro hn f vs st P W s vals A Q hf hh hD hU hg B hK ha h q0;refine oFn h λF hF h=> ?_
  obtain⟨fd,body,vars,args,hd,hc⟩:=H.fns f F hF;have z:=g2w hn hD hU;exact b3x H hd (ih (h4i hn)) hh z.1 z.2.1 z.2.2 hg B hK ha h.1 h.2 (λ_ C=>b4u _ C hc) q0
end
end Mx
namespace Mx
open PySem PySem.W PySem.Calls PyProof.Rows Mine
noncomputable def yD:List (List Nat):=[e0f,bF,lO,oX,pC,dJ,z10,z24,z23,z22,z20,z21,a2w,iA,z78,z29,z40,z34,z33,z32,z30,z51,z50,z16,z14,z15,z13,z12,z77,z11,e3b,i7,b6r,e4l,aT,z76,f0c,z44,e0x,z59,z26,z38,b9a,b8z,b7u,b7w,f2a,e7d,f1i,a9u,b8y,b6g,b7k,rF,d9u,e0l,f2w,c0e,f2n,e0i,e7r,e0m,e3o,b6c,rN,f2g,e8l,f0j,e5g,uN,e7i,e2q,f2b,e3r,e2b,e4s,a8n,e0j,e1u,lT,z28,f0s,b9l,e3d,e5a,e9f,z45,e6v,f0d,jC,c8o,e0r,e1c,z49,z48,z47,z46,z27,e9u,e2y,z60,e7z,z31,e4x,e3p,z35,z36,z37,z39,e5v,z41,z42,z43,d9o,e3w,e0q,e3c,z25].map λx=>x.cps.toList
noncomputable def e4a:List Nat:=[38,211,277,326,361,445,464,483,502,521,540,559,578,597,623,642,661,680,699,718,737,756,775,794,816,1005,1062,1090,1109,1219,1245,1264,1283,1302,1321,1361,1394,1413,1453,1479,1498,1552,1571]
noncomputable def nsL:List Nat:=[37,210,276,325,360,444,463,482,501,520,539,558,577,596,622,641,660,679,698,717,736,755,774,793,815,1004,1061,1089,1108,1218,1244,1263,1282,1301,1320,1360,1393,1412,1452,1478,1497,1551,1570]
noncomputable def fnL:List Nat:=[35,49,56,63,70,194,239,246,253,260,316,344,351,358,372,379,386,393,400,407,414,421,428,442,461,480,499,518,537,556,575,594,606,620,639,658,677,696,715,734,753,772,791,834,841,848,855,862,869,876,883,890,904,911,918,953,960,967,974,981,1016,1023,1030,1037,1052,1080,1087,1106,1118,1125,1132,1139,1146,1153,1160,1167,1174,1181,1195,1202,1216,1235,1242,1261,1280,1299,1318,1330,1337,1344,1358,1370,1377,1391,1410,1422,1429,1436,1450,1462,1476,1495,1507,1514,1521,1528,1535,1549,1568,1582,1589,1596,1603,1610,1615,1622,1627,1634,1641,1648,1655,1662,1669,1674,1681,1688,1695,1700,1707,1714,1721,1728,1735,1742,1749,1754]
noncomputable def cdL:List Nat:=[34,48,55,62,69,193,238,245,252,259,315,343,350,357,371,378,385,392,399,406,413,420,427,441,460,479,498,517,536,555,574,593,605,619,638,657,676,695,714,733,752,771,790,833,840,847,854,861,868,875,882,889,903,910,917,952,959,966,973,980,1015,1022,1029,1036,1051,1079,1086,1105,1117,1124,1131,1138,1145,1152,1159,1166,1173,1180,1194,1201,1215,1234,1241,1260,1279,1298,1317,1329,1336,1343,1357,1369,1376,1390,1409,1421,1428,1435,1449,1461,1475,1494,1506,1513,1520,1527,1534,1548,1567,1581,1588,1595,1602,1609,1614,1621,1626,1633,1640,1647,1654,1661,1668,1673,1680,1687,1694,1699,1706,1713,1720,1727,1734,1741,1748,1753]
noncomputable def uY:List (Nat×Nat):=[(1,5),(4,11),(25,43),(27,65)]
noncomputable def c3c:List Nat:=[2,3,5,6,7,8,9,10,11,12,13,14,15,16,17,18,19,20,21,22,24,26,28,29,30,31,32,33,34,35,36,37,38,39,40,41,42]
noncomputable def f5o:List (List Str):=[[aG,dJ,pC,oX,lO,bF],[dJ,pC,bF],[dJ,pC,oX,bF],[dJ,pC,oX,lO,bF],[f0l,jE,b9k,aK,bF],[aG,a2w],[aK,jE,e3f,fG],[aT,fG,e6m],[aK],[aK],[aG,aK],[aG],[aG,aK,e8t,aT],[aG,aK],[b6],[b6,a8o,b7q],[b6,a8o,b7q,jE,aK],[b6,aK,b5z],[b6,aK,b6q],[b6,aK,b6q],[b6,aK,aT],[b6,aK,b5v,aT,b7d],[b6,aK,b5v,jE,rW],[aG,b6,aK,jE,a3j],[aG,b6,aK],[aG,b6,aK],[aG,b6,aK],[aG,b6,aK,aT],[aG,b6,aK,tF,sK,tO],[aG,b6,aK],[aG,b6,aK,jV,aT],[aG,b6,aK,oW,j7,uN,jV,aT],[b6,aK,aT],[aG,b6,aK,fG,aT],[aG,b6,aK,tF],[aG,b6,aK,j7,tF],[aG,b6,aK],[aG,b6,aK,fG],[aG,b6,aK],[aG,b6,aK],[aG,b6,aK,aT],[aG,b6,aK],[aG,dJ,aT,b7u,bF,b8z,b9a],[aG,rN,b6c],[aG],[aG,xA,e9k],[aG,jF],[aG,aT],[aG,aT],[aG,aT],[aG,aT],[aG,aT],[aG,aT],[aG,aT],[aG],[aG,jF],[aG],[aG],[aG],[aG,xA,aK],[aM,b9l,c0e,b7k,b6g,b8y,a9u,aK],[jF,dJ,aT],[aM,e8r,b9k,aK,e8w,a3j],[aM,dJ,aT],[aG,aM],[aG],[aG,aM],[aG,aM,bF],[aM,lT,jF,aK],[aM,iA],[aM,aK],[aK],[aM,aK],[aM,aK],[aM,e6a],[aM,fG,e1d,e2g,lO,dJ,b7d],[aM,lO,fG,b7p],[aM,aK,c0c,rW],[aM,rW,c0c],[aM,lO,aK],[aG,aM],[aG,aM],[aG,aM],[aG,aM,bF,j7,sK,tO],[aG,aM,bF,j7],[aG,aM,bF,jV,j7],[aG,aM,bF,oW,j7,uN],[aM,b7w,jF,aK],[aM,f3z],[aM,oW,bF,dJ,rW,b8c],[aG,aM,bF,iA,b8f,c6m],[aM,bF,j7,iA],[aM],[aG,aM,bF,a2h],[aG,aM,fG,a2f],[aM,mN,a9v],[aM,a2f,bF],[aM,a2f,bF,a9v],[aG,aM,mN,aK],[aM,xA,jF],[aG,aM,bF,a2h],[aG,aM,bF,jV,e2c,tO],[aM,bF,mN,b6t],[aM],[aM,lT],[aM,lT],[aM,lT],[aG,aM,bF],[aG,b6,aK],[dP,e8d],[dP],[dP],[dP],[dP,lT,tF,fG,b7p,a3e,a2h],[dP,i7,jI],[dP,i7,jI],[dP,jI,xD,x4,rF,⟨⟨[115,112,111,116,115]⟩⟩,dJ,mN],[a2i,dP,i7,jI,xD,x4,rF,e6e,a4d,jV,oW,b8s,uN,b8c],[dP,i7,jI,xD,x4,rF,iA,b8f,a3e,a4d],[dP,i7,jI,jV,b8s,e4o,mN,tO],[dP,i7,jI,xD,x4,rF,f3l,mN,a2i],[dP,i7,jI,f0u,a2i,a4d,sK,e5s],[aK],[iA,rK],[iA,rK],[aK,rK],[aK,rK,fG],[aK],[aK,b5z],[aK,rK,dJ,oX,aT,sK,oW,fG],[aT,jE,e7g,bF,b6t,dJ],[rN,aM,iA],[f1j,f2d,c5m,a3e,a3j],[rN,bF,jE,b6r,jF],[b6,d9t,e4b],[⟨⟨[115,99,114,105,112,116]⟩⟩,⟨⟨[110,117,109,115]⟩⟩,iA,xA,dP,⟨⟨[116,114,101,101]⟩⟩,b6,aT,rN,c5m,aK,⟨⟨[102,101,119,101,114]⟩⟩]]
noncomputable def g6f:List Nat:=[187,216,225,217,218,219,220,221,222,223,224,799,1038,1574,1575]
noncomputable def b1a:List Nat:=[0,2,3]++(e4a++(nsL++(fnL++(cdL++g6f))))
noncomputable def gX (P:Params):Frag:=b1a.map λa=>(a,(t8 P a).getD emptyDict)
noncomputable def nm0 (a:Nat):Str:=@Option.casesOn (List Nat) (λ_=>Str) (aD yD a) ⟨⟨[0,a]⟩⟩ λl=>⟨⟨l⟩⟩
noncomputable def v5 (l:List DictEntry):List (Str×Value):=l.rec [] λe _ r=>dite (e.key.ctorIdx=6) (λh=>PySem.Value.str.elim e.key h λx _=>(x,e.val)::r) λ_=>r
noncomputable def c5q (P:Params):List (Str×Value):=@Option.casesOn Obj (λ_=>List (Str×Value)) ((gX P).lookup 3) [] λo=>dite (o.data.ctorIdx=3) (λh=>PySem.Data.dict.elim o.data h λes _=>v5 es.toList) λ_=>[]
noncomputable def x2 (c:Nat):Option Nat:=match c with
 |0=>some 0
 |23=>some 42
 |_=>none
noncomputable def Φ0 (P:Params):Fx where
 T:=⟨nm0,λc=>(aD e4a c).getD 0⟩
 K:=gX P
 fn:=λf=>(aD fnL f).getD 0
 plain:=λc=>eS c c3c
 frozen:=x2
 init:=λc f=>dE (kQ uY c) λg=>Nat.beq g f
 dflt:=λf=>Nat.beq f 5
 isFn:=λf=>Nat.blt f 136
 gl:=c5q P
 bl:=[(⟨⟨[108,101,110]⟩⟩,.builtin "len"),(⟨⟨[115,117,109]⟩⟩,.builtin "sum"),(⟨⟨[114,97,110,103,101]⟩⟩,.type "range")]
noncomputable def eQ (f:Nat):List Str:=(aD f5o f).getD []
noncomputable def a8h (l:List Arg):List Str->Bool:=l.rec (λ_=>true) λa _ f r=>e7 r λx r=>bD a.arg x&&f r
noncomputable def b4l (names:List (Str×NameKind)) (l:List Arg):Bool:=l.rec true λa _ r=>(eH (eD names a.arg) .local||eH (eD names a.arg) .cell)&&r
noncomputable def b4v (v:Value):Bool:=Nat.beq v.ctorIdx 0
noncomputable def fP {α:Type} (l:List α):Bool:=cB l
noncomputable def a0c (o:Option Obj) (k:FuncData->Bool):Bool:=dE o λo=>dt (o.data.ctorIdx=7) λh=>PySem.Data.func.elim o.data h k
theorem a0c.el {o:Option Obj} {k:FuncData->Bool} {M:Prop} (h:a0c o k=true) (f:∀fd oc od sl,o=some ⟨oc,od,.func fd,sl⟩->k fd=true->M):M:=
 dE.el h λ{b} e h=>dt.el h λq h=>PySem.Data.func.elim (motive:=λd=>∀q,PySem.Data.func.elim d q k=true->o=some ⟨b.cls,b.dict,d,b.slots⟩->M) b.data q (λfd _ h e=>f fd _ _ _ e h) q h e
noncomputable def a6v (p:Arguments) (k:List Arg->Bool):Bool:=fP p.posonlyargs&&eG p.vararg&&fP p.kwonlyargs&&fP p.kw_defaults&&eG p.kwarg&&k p.args
theorem fP.el {α:Type} {l:List α} (h:fP l=true):l=[]:=cB.el h
theorem a6v.el {p:Arguments} {k:List Arg->Bool} (h:a6v p k=true):k p.args=true/\∃dfl,p=⟨[],p.args,none,[],[],none,dfl⟩:=by
 obtain⟨po,args,va,ko,kd,kw,dfl⟩:=p;have h1:=b2 h;have h2:=b2 h1.1;have h3:=b2 h2.1;have h4:=b2 h3.1;have h5:=b2 h4.1;obtain rfl:po=[]:=fP.el h5.1;obtain rfl:va=none:=eG.el h5.2;obtain rfl:ko=[]:=fP.el h4.2;obtain rfl:kd=[]:=fP.el h3.2;obtain rfl:kw=none:=eG.el h2.2;exact⟨h1.2,dfl,rfl⟩
noncomputable def a1n (b:FuncBody) (k:List Stmt->Bool):Bool:=dt (b.ctorIdx=0) λh=>FuncBody.stmts.elim b h k
theorem a1n.el {b:FuncBody} {k:List Stmt->Bool} (h:a1n b k=true):∃l,b=.stmts l/\k l=true:=
 dt.el h λq=>FuncBody.stmts.elim (motive:=λb=>∀q,FuncBody.stmts.elim b q k=true->∃l,b=.stmts l/\k l=true) b q (λl _ h=>⟨l,rfl,h⟩) q
noncomputable def b9p (Φ:Fx) (f:Nat) (np nv:Nat) (vars:List Str) (dd:Bool) (k:FuncData->List Stmt->Bool):Bool:=a0c (Φ.K.lookup (Φ.fn f)) λfd=>a6v fd.params λargs=>a1n fd.body λbody=>
 fP fd.closure&&Nat.beq fd.globals mainGlobals&&Nat.beq fd.builtins builtinsNs&&codeIn Φ.K fd.code fd.qualname&&b4z fd.scope.kind&& !fd.scope.isCoroutine&& !fd.scope.isGenerator&&
  a9t vars&&a8h args vars&&Nat.beq np args.length&&Nat.beq nv vars.length&&b4l fd.scope.names args&&(dd||b4v fd.defaults)&&k fd body
noncomputable def a0a (Φ:Fx) (f:Nat) (F:Fn) (vars:List Str) (dd:Bool):Bool:=b9p Φ f F.np F.nv vars dd λfd body=>jL Φ ⟨vars,fd.scope⟩ F.body body
theorem a7s {l:List Arg}:∀{vars:List Str},a8h l vars=true->∃more,vars=l.map (·.arg)++more:=by
 induction l with
 |nil=>exact λ{v} _=>⟨v,rfl⟩
 |cons a l ih=>exact λ{v} h=>e7.el (M:=λv=>∃more,v=(a::l).map (·.arg)++more) h λ{x r} h=>(ih (b2 h).2).imp λmore e=>by rw [List.map_cons,List.cons_append,dO.mp (b2 h).1,<-e]
theorem b1x {names:List (Str×NameKind)} {l:List Arg}:b4l names l=true->∀x∈l,names.lookup x.arg=some .local\/names.lookup x.arg=some .cell:=by
 induction l with
 |nil=>exact λ_ x h=>nomatch h
 |cons a l ih=>exact λh x hx=>(List.mem_cons.mp hx).elim (λe=>e▸(Bool.or_eq_true_iff.mp (b2 h).1).imp qL qL) (ih (b2 h).2 x)
theorem b2x {v:Value} (h:b4v v=true):v=.none:=PySem.Value.none.elim (motive:=λv=>v=.none) v (h4g h) rfl
theorem d4f {Φ:Fx} {f:Nat} {F:Fn} {vars:List Str} {dd:Bool} {k:FuncData->List Stmt->Bool} (h:b9p Φ f F.np F.nv vars dd k=true) (hd:Φ.dflt f=dd)
  (hp:dd=true->∃p q tk,∀(fd:FuncData) oc od sl,Φ.K.lookup (Φ.fn f)=some ⟨oc,od,.func fd,sl⟩->fd.params.args.map (·.arg)=[p,q]/\
   ∀(S:Setting) (v:Value),peek Φ.K S (bindArgs fd ⟨[v],[]⟩)=some [(p,v),(q,.str ⟨#[]⟩ tk)]/\∀u,peek Φ.K S (bindArgs fd ⟨[v,u],[]⟩)=some [(p,v),(q,u)]):∃fd body args,FnHd Φ f F fd body vars args/\k fd body=true:=by
 refine a0c.el h λfd oc od sl hK h=> ?_
 obtain⟨h,dfl,hpar⟩:=a6v.el h;obtain⟨body,hbody,h⟩:=a1n.el h;have h14:=b2 h;have h13:=b2 h14.1;have h12:=b2 h13.1;have h11:=b2 h12.1;have h10:=b2 h11.1;have h9:=b2 h10.1;have h8:=b2 h9.1;have h7:=b2 h8.1;have h6:=b2 h7.1;have h5:=b2 h6.1;have h4:=b2 h5.1;have h3:=b2 h4.1;have h2:=b2 h3.1;have hk:fd.scope.kind=.function:=h3t h5.2;refine⟨fd,body,fd.params.args,⟨⟨oc,od,sl,hK⟩,⟨dfl,hpar⟩,hbody,fP.el h2.1,h4g h2.2,h4g h3.2,h4.2,hk,bn h6.2,bn h7.2,a1x h8.2,a7s h9.2,h4g h10.2,h4g h11.2,b1x h12.2,?_⟩,h14.2⟩;cases dd with
 |true=>
  rw [if_pos hd];obtain⟨p,q,tk,z⟩:=hp rfl;exact⟨p,q,tk,(z fd oc od sl hK).1,(z fd oc od sl hK).2⟩
 |false=>
  rw [if_neg (by rw [hd];exact Bool.false_ne_true)]
  exact b2x h13.2
noncomputable def a8y:List Fn:=fns.take 135
noncomputable def nP (Φ:Fx) (i:Nat):Bool:=(List.range' i 15).all λk=>dE (aD a8y k) λF=>a0a Φ k F (eQ k) (Nat.beq k 5)
theorem d5i {Φ:Fx} {i f:Nat} {F:Fn} (h:nP Φ i=true) (h1:i<=f) (h2:f<i+15) (e:aD a8y f=some F):a0a Φ f F (eQ f) (Nat.beq f 5)=true:=
 dE.el (List.all_eq_true.mp h f (List.mem_range'_1.mpr ⟨h1,h2⟩)) λe' q=>h3l (e'.symm.trans e)▸q
theorem h0o (P:Params):nP (Φ0 P) 0=true:=by kernel_rfl
theorem g8o (P:Params):nP (Φ0 P) 15=true:=by kernel_rfl
theorem h0p (P:Params):nP (Φ0 P) 30=true:=by kernel_rfl
theorem h2u (P:Params):nP (Φ0 P) 45=true:=by kernel_rfl
theorem g2c (P:Params):nP (Φ0 P) 60=true:=by kernel_rfl
theorem g6l (P:Params):nP (Φ0 P) 75=true:=by kernel_rfl
theorem g1r (P:Params):nP (Φ0 P) 90=true:=by kernel_rfl
theorem g7m (P:Params):nP (Φ0 P) 105=true:=by kernel_rfl
theorem g0a (P:Params):nP (Φ0 P) 120=true:=by kernel_rfl
theorem q8 {α:Type} {b:Bool} {x y z:α} {P:Prop} (h:(bif b then x else y)=z) (f:b=true->x=z->P) (g:b=false->y=z->P):P:=by
 cases b with
 |true=>exact f rfl h
 |false=>exact g rfl h
theorem c7n {x:Str} {v:Value} {l:List DictEntry}:f7 (v5 l) x=some v->∃e,l.find? (·.key.isStr x)=some e/\e.val=v:=by
 induction l with
 |nil=>exact λh=>nomatch h
 |cons e l ih=>
  intro h;rw [List.find?_cons]
  by_cases q:e.key.ctorIdx=6
  ·have h:f7 (PySem.Value.str.elim e.key q λy _=>(y,e.val)::v5 l) x=some v:=(h3s (f7 · x) (dif_pos q)).symm.trans h
   exact PySem.Value.str.elim (motive:=λk=>∀q,f7 (PySem.Value.str.elim k q λy _=>(y,e.val)::v5 l) x=some v->∃e',(match k.isStr x with|true=>some e|false=>l.find? (·.key.isStr x))=some e'/\e'.val=v) e.key q (λy t _ h=>q8 h (λq hv=>by
    obtain rfl:=dO.mp q;rw [show(Value.str y t).isStr y=true from beq_self_eq_true y]
    exact⟨e,rfl,h3l hv⟩) λq h=>by
    rw [show(Value.str y t).isStr x=false from beq_eq_false_iff_ne.mpr λz=>ff (q.symm.trans (dO.mpr z))]
    exact ih h) q h
  ·have h:f7 (v5 l) x=some v:=(h3s (f7 · x) (dif_neg q)).symm.trans h
   have:e.key.isStr x=false:=by
    cases z:e.key<;>first|rfl|exact absurd (h3s PySem.Value.ctorIdx z) q
   rw [this];exact ih h
theorem f7l (P:Params):∀x v,f7 (Φ0 P).gl x=some v->nsIn (Φ0 P).K mainGlobals x=some (some v):=by
 intro x v h;have h:f7 (c5q P) x=some v:=h;show nsIn (gX P) 3 x=_
 unfold c5q at h;unfold nsIn;cases hK:(gX P).lookup 3 with
 |none=>rw [hK]at h;exact nn h
 |some o=>
  rw [hK]at h;obtain⟨oc,od,dt,sl⟩:=o
  by_cases q:dt.ctorIdx=3
  ·have h:f7 (PySem.Data.dict.elim dt q λes _=>v5 es.toList) x=some v:=(h3s (f7 · x) (dif_pos q)).symm.trans h
   clear hK
   revert q h
   cases dt with
   |dict es n=>
    intro _ h;obtain⟨e,h1,h2⟩:=c7n h;dsimp only [Option.bind_some];rw [h1,<-h2]
   |_=>exact λq=>nomatch q
  ·exact nn ((h3s (f7 · x) (dif_neg q)).symm.trans h)
theorem bl1 (P:Params):nsIn (gX P) 3 ⟨⟨[108,101,110]⟩⟩=some none/\nsIn (gX P) builtinsNs ⟨⟨[108,101,110]⟩⟩=some (some (.builtin "len")):=⟨by kernel_rfl,by kernel_rfl⟩
theorem bl2 (P:Params):nsIn (gX P) 3 ⟨⟨[115,117,109]⟩⟩=some none/\nsIn (gX P) builtinsNs ⟨⟨[115,117,109]⟩⟩=some (some (.builtin "sum")):=⟨by kernel_rfl,by kernel_rfl⟩
theorem bl3 (P:Params):nsIn (gX P) 3 ⟨⟨[114,97,110,103,101]⟩⟩=some none/\nsIn (gX P) builtinsNs ⟨⟨[114,97,110,103,101]⟩⟩=some (some (.type "range")):=⟨by kernel_rfl,by kernel_rfl⟩
theorem f7u (P:Params):∀x v,f7 (Φ0 P).bl x=some v->nsIn (Φ0 P).K mainGlobals x=some none/\nsIn (Φ0 P).K builtinsNs x=some (some v):=by
 intro x v h;refine q8 h (λq e=>h3l e▸dO.mp q▸bl1 P) λ_ h=>q8 h (λq e=>h3l e▸dO.mp q▸bl2 P) λ_ h=>q8 h (λq e=>h3l e▸dO.mp q▸bl3 P) λ_ h=>nn h
theorem c9e {α:Type} {y:α} {l:List α}:l.Nodup->∀{i j:Nat},aD l i=some y->aD l j=some y->i=j:=by
 induction l with
 |nil=>exact λ_ _ _ h=>nomatch h
 |cons a l ih=>
  intro hd i j h1 h2;have hd:=List.nodup_cons.mp hd;cases i with
  |zero=>
   cases j with
   |zero=>rfl
   |succ j=>exact absurd (h3l h1▸i0 (l:=l) (k:=j) h2) hd.1
  |succ i=>
   cases j with
   |zero=>exact absurd (h3l h2▸i0 (l:=l) (k:=i) h1) hd.1
   |succ j=>exact h3s (· +1) (ih hd.2 h1 h2)
theorem d1j:yD.Nodup:=by decide+kernel
theorem c6q:(yD.all λa=> !decide (a.head?=some 0))=true:=by decide+kernel
theorem d4b {a:Nat} {r:List Nat} (h:aD yD a=some (0::r)):False:=of_decide_eq_false (bn (List.all_eq_true.mp c6q _ (i0 h))) rfl
theorem e5b:∀a b,nm0 a=nm0 b->a=b:=by
 intro a b h;have h:(nm0 a).cps.toList=(nm0 b).cps.toList:=h3s (λx:Str=>x.cps.toList) h
 unfold nm0 at h;cases ha:aD yD a with
 |some l=>
  cases hb:aD yD b with
  |some r=>
   rw [ha,hb]at h;have h:l=r:=h;exact c9e d1j ha (h▸hb)
  |none=>
   rw [ha,hb]at h;have h:l=[0,b]:=h;exact(d4b (h▸ha)).elim
 |none=>
  cases hb:aD yD b with
  |some r=>
   rw [ha,hb]at h;have h:[0,a]=r:=h;exact(d4b (h▸hb)).elim
  |none=>
   rw [ha,hb]at h;have h:[0,a]=[0,b]:=h;exact(List.cons.inj (List.cons.inj h).2).1
noncomputable def a9a (K:Frag) (C:Addr):Bool:=findIn K (.ref C) "__getattribute__"==some (some (.builtin "object.__getattribute__"))&&findIn K (.ref C) "__getattr__"==some none&&
 findIn K (.ref C) "__setattr__"==some (some (.builtin "object.__setattr__"))&&plainOver K C&&(clsIn K C).any (·.hasDict)&&makesIn K C
theorem uJ {α:Type} [BEq α] [LawfulBEq α] {a b:α} (h:(a==b)=true):a=b:=beq_iff_eq.mp h
theorem b0g {K:Frag} {C:Addr} (h:a9a K C=true):ClsOk K C:=
 have h1:=b2 h;have h2:=b2 h1.1;have h3:=b2 h2.1;have h4:=b2 h3.1;have h5:=b2 h4.1
 ⟨uJ h5.1,uJ h5.2,uJ h4.2,h3.2,h2.2,h1.2⟩
noncomputable def b3k (Φ:Fx) (C:Addr) (l:List Nat):Bool:=l.all λa=>findIn Φ.K (.ref C) (Φ.T.nm a)==some none&& !copiedNames.contains (Φ.T.nm a)
noncomputable def a8p (Φ:Fx) (C:Addr) (l:List (Nat×Nat)):Bool:=l.all λp=>findIn Φ.K (.ref C) (Φ.T.nm p.1)==some (some (.ref (Φ.fn p.2)))&&Φ.isFn p.2
noncomputable def d0x (Φ:Fx) (c:Nat):Bool:=dE (aD mR c) λfs=>dE (aD o0 c) λms=>((fP fs&&fP ms)||a9a Φ.K (Φ.T.cls c))&&b3k Φ (Φ.T.cls c) fs&&a8p Φ (Φ.T.cls c) ms
theorem tC {a:Nat} {l:List Nat} (h:eS a l=true):a∈l:=h3t (a5g.symm.trans h)
theorem uF {c f:Nat} {l:List (Nat×Nat)}:kQ l c=some f->(c,f)∈l:=by
 induction l with
 |nil=>exact λh=>nomatch h
 |cons p l ih=>
  intro h;have h:(match Nat.beq p.1 c with|true=>some p.2|false=>kQ l c)=some f:=h
  cases q:Nat.beq p.1 c with
  |true=>rw [q]at h;exact List.mem_cons.mpr (.inl (Prod.ext (h4g q).symm (h3l h).symm))
  |false=>rw [q]at h;exact .tail _ (ih h)
theorem b3q {α:Type} {x:α} {l:List α} (h:x∈l):fP l=false:=by cases l with|nil=>exact nomatch h|cons=>rfl
theorem b5n:mR.length=43/\o0.length=43:=⟨by decide+kernel,by decide+kernel⟩
theorem c5v (P:Params):((List.range 43).all λc=>d0x (Φ0 P) c)=true:=by kernel_rfl
theorem c1b {P:Params} {c:Nat} (h:c<43) {M:Prop} (f:∀fs ms,aD mR c=some fs->aD o0 c=some ms->((fP fs&&fP ms)||a9a (Φ0 P).K ((Φ0 P).T.cls c))=true->b3k (Φ0 P) ((Φ0 P).T.cls c) fs=true->a8p (Φ0 P) ((Φ0 P).T.cls c) ms=true->M):M:=
 dE.el (List.all_eq_true.mp (c5v P) c (List.mem_range.mpr h)) λ{fs} e1 h=>dE.el h λ{ms} e2 h=>f fs ms e1 e2 (b2 (b2 h).1).1 (b2 (b2 h).1).2 (b2 h).2
theorem e7o {P:Params} {c a:Nat} {l:List Nat} (hl:aD mR c=some l) (h:eS a l=true):ClsOk (Φ0 P).K ((Φ0 P).T.cls c)/\findIn (Φ0 P).K (.ref ((Φ0 P).T.cls c)) ((Φ0 P).T.nm a)=some none/\copiedNames.contains ((Φ0 P).T.nm a)=false:=
 c1b (b5n.1▸pN hl) λfs ms e1 e2 h1 h2 _=>by
  obtain rfl:=h3l (e1.symm.trans hl);have k:=b2 (List.all_eq_true.mp h2 a (tC h));rw [b3q (tC h)]at h1;exact⟨b0g h1,uJ k.1,bn k.2⟩
theorem d6g {P:Params} {c m f:Nat} {l:List (Nat×Nat)} (hl:aD o0 c=some l) (h:kQ l m=some f):ClsOk (Φ0 P).K ((Φ0 P).T.cls c)/\findIn (Φ0 P).K (.ref ((Φ0 P).T.cls c)) ((Φ0 P).T.nm m)=some (some (.ref ((Φ0 P).fn f)))/\(Φ0 P).isFn f=true:=
 c1b (b5n.2▸pN hl) λfs ms e1 e2 h1 _ h3=>by
  obtain rfl:=h3l (e2.symm.trans hl);have k:=b2 (List.all_eq_true.mp h3 (m,f) (uF h));rw [b3q (uF h),Bool.and_false]at h1;exact⟨b0g h1,uJ k.1,k.2⟩
noncomputable def b4a (K:Frag) (l:List Nat):Bool:=l.all λa=>typeIn K (.ref a)==some (.type "function")&&keepIn K (.ref a)
theorem b5t {K:Frag} {l:List Nat} {i a:Nat} (h:b4a K l=true) (e:aD l i=some a):typeIn K (.ref a)=some (.type "function")/\keepIn K (.ref a)=true:=
 have k:=b2 (List.all_eq_true.mp h a (i0 e));⟨uJ k.1,k.2⟩
theorem d6d (P:Params):b4a (gX P) fnL=true:=by kernel_rfl
theorem d5a:fnL.length=136:=by decide+kernel
noncomputable def a8q (Φ:Fx) (l:List Nat):Bool:=l.all λc=>keepIn Φ.K (.ref (Φ.T.cls c))&&makesIn Φ.K (Φ.T.cls c)&&findIn Φ.K (.ref (Φ.T.cls c)) "__init__"==some (some (.builtin "object.__init__"))
theorem b3b {Φ:Fx} {c:Nat} {l:List Nat} (h:a8q Φ l=true) (e:eS c l=true):keepIn Φ.K (.ref (Φ.T.cls c))=true/\makesIn Φ.K (Φ.T.cls c)=true/\findIn Φ.K (.ref (Φ.T.cls c)) "__init__"=some (some (.builtin "object.__init__")):=
 have k:=b2 (List.all_eq_true.mp h c (tC e));⟨(b2 k.1).1,(b2 k.1).2,uJ k.2⟩
theorem c7w (P:Params):a8q (Φ0 P) c3c=true:=by kernel_rfl
noncomputable def b4r (Φ:Fx) (l:List (Nat×Nat)):Bool:=l.all λp=>keepIn Φ.K (.ref (Φ.T.cls p.1))&&makesIn Φ.K (Φ.T.cls p.1)&&findIn Φ.K (.ref (Φ.T.cls p.1)) "__init__"==some (some (.ref (Φ.fn p.2)))&&Φ.isFn p.2
theorem a0z {Φ:Fx} {c f:Nat} {l:List (Nat×Nat)} (h:b4r Φ l=true) (e:(c,f)∈l):keepIn Φ.K (.ref (Φ.T.cls c))=true/\makesIn Φ.K (Φ.T.cls c)=true/\findIn Φ.K (.ref (Φ.T.cls c)) "__init__"=some (some (.ref (Φ.fn f)))/\Φ.isFn f=true:=
 have k:=b2 (List.all_eq_true.mp h (c,f) e);have k1:=b2 k.1
 ⟨(b2 k1.1).1,(b2 k1.1).2,uJ k1.2,k.2⟩
theorem b4y (P:Params):b4r (Φ0 P) ((0,0)::(23,42)::uY)=true:=by kernel_rfl
theorem e1k (P:Params):((gX P).lookup 38).isSome=true:=by kernel_rfl
theorem c6g (P:Params):(gX P).lookup 2=some (stO P 2):=by kernel_rfl
theorem c7e (P:Params):∀h:Heap,(gX P).In h->h.NoLimit:=by
 intro h k;have:=k _ _ (c6g P);refine⟨_,⟨_,_,_,this,rfl,?_,λ_=>rfl⟩,?_⟩
 ·intro e he;simp only [List.take,List.mem_toArray,List.mem_cons,List.not_mem_nil,or_false]at he;rcases he with rfl|rfl<;>exact⟨_,_,rfl⟩
 ·show nsFind _ _=none
  kernel_rfl
theorem d8q (P:Params) (f:Nat) (F:Fn) (e:aD a8y f=some F):a0a (Φ0 P) f F (eQ f) (Nat.beq f 5)=true:=
 have step:∀{i},nP (Φ0 P) i=true->i<=f->(i+15<=f->a0a (Φ0 P) f F (eQ f) (Nat.beq f 5)=true)->a0a (Φ0 P) f F (eQ f) (Nat.beq f 5)=true:=λ{i} h h1 k=>if h2:f<i+15 then d5i h h1 h2 e else k (Nat.not_lt.mp h2)
 step (h0o P) (h3w f) λh=>step (g8o P) h λh=>step (h0p P) h λh=>step (h2u P) h λh=>step (g2c P) h λh=>step (g6l P) h λh=>step (g1r P) h λh=>step (g7m P) h λh=>step (g0a P) h λh=>
  absurd (pN e) (Nat.not_lt.mpr (h3j (h3y List.length_take) (h3j (Nat.min_le_left _ _) h)))
noncomputable def e2u (P:Params):Tok:=@Option.casesOn Obj (λ_=>Tok) ((gX P).lookup 187) 0 λo=>dite (o.data.ctorIdx=2) (λh=>PySem.Data.seq.elim o.data h λvs _=>@List.casesOn Value (λ_=>Tok) vs.toList 0 λv _=>dite (v.ctorIdx=6) (λh=>PySem.Value.str.elim v h λ_ t=>t) λ_=>0) λ_=>0
noncomputable def b9r (P:Params) {α:Type} (d:α) (k:FuncData->α):α:=@Option.casesOn Obj (λ_=>α) ((gX P).lookup 194) d λo=>dite (o.data.ctorIdx=7) (λh=>PySem.Data.func.elim o.data h k) λ_=>d
theorem a2k {P:Params} {α:Type} {d:α} {k:FuncData->α} {fd:FuncData} {oc:Value} {od:Option Addr} {sl:Array (Option Value)} (h:(gX P).lookup 194=some ⟨oc,od,.func fd,sl⟩):b9r P d k=k fd:=by unfold b9r;rw [h];rfl
noncomputable def c8e (P:Params):List Str:=b9r P [] λfd=>fd.params.args.map (·.arg)
noncomputable def d3g (P:Params) (S:Setting) (l:List Value):Option (List (Str×Value)):=b9r P none λfd=>peek (gX P) S (bindArgs fd ⟨l,[]⟩)
theorem g3n (P:Params):c8e P=eQ 5:=by kernel_rfl
theorem g0d (P:Params) (S:Setting) (v:Value):d3g P S [v]=some [((eQ 5).headD ⟨#[]⟩,v),((eQ 5).tail.headD ⟨#[]⟩,.str ⟨#[]⟩ (e2u P))]:=by kernel_rfl
theorem g6n (P:Params) (S:Setting) (v u:Value):d3g P S [v,u]=some [((eQ 5).headD ⟨#[]⟩,v),((eQ 5).tail.headD ⟨#[]⟩,u)]:=by kernel_rfl
theorem f3d (P:Params):∃p q tk,∀(fd:FuncData) oc od sl,(Φ0 P).K.lookup ((Φ0 P).fn 5)=some ⟨oc,od,.func fd,sl⟩->fd.params.args.map (·.arg)=[p,q]/\
   ∀(S:Setting) (v:Value),peek (Φ0 P).K S (bindArgs fd ⟨[v],[]⟩)=some [(p,v),(q,.str ⟨#[]⟩ tk)]/\∀u,peek (Φ0 P).K S (bindArgs fd ⟨[v,u],[]⟩)=some [(p,v),(q,u)]:=by
 refine⟨(eQ 5).headD ⟨#[]⟩,(eQ 5).tail.headD ⟨#[]⟩,e2u P,λfd oc od sl h=> ?_⟩
 have h:(gX P).lookup 194=some ⟨oc,od,.func fd,sl⟩:=h;exact⟨(a2k h).symm.trans (g3n P),λS v=>⟨(a2k h).symm.trans (g0d P S v),λu=>(a2k h).symm.trans (g6n P S v u)⟩⟩
theorem e4v {l:List (Nat×AV)} {z p:Nat×AV} (hz:z.2.noRef=true) (h:p∈l++[z]):p.2∈l.map Prod.snd\/p.2.noRef=true:=(List.mem_append.mp h).imp (List.mem_map_of_mem (f:=Prod.snd)) λh=>(h3s (λq:Nat×AV=>q.2.noRef) (List.mem_singleton.mp h)).trans hz
theorem j0 {α β:Type} {l:List α} {k:α->List α->Option β} {z:β} {M:List α->Prop} (h:lc l k=some z) (f:∀a r,k a r=some z->M (a::r)):M l:=List.casesOn (motive:=λl=>lc l k=some z->M l) l nn f h
theorem d4c {α β:Type} {l:List α} {y z:β} {M:List α->Prop} (h:l0 l y=some z) (f:y=z->M []):M l:=List.casesOn (motive:=λl=>l0 l y=some z->M l) l (λh=>f (h3l h)) (λ_ _=>nn) h
theorem d5e (c:Nat) (vs:List AV) (fs:List (Nat×AV)) (h:TT.made c vs=some fs):∀p∈fs,p.2∈vs\/p.2.noRef=true:=
 q8 h (λ_ h=>j0 (M:=λvs=>∀p∈fs,p.2∈vs\/p.2.noRef=true) h λa r h=>j0 (M:=λr=>∀p∈fs,p.2∈a::r\/p.2.noRef=true) h λb r h=>j0 (M:=λr=>∀p∈fs,p.2∈a::b::r\/p.2.noRef=true) h λc r h=>j0 (M:=λr=>∀p∈fs,p.2∈a::b::c::r\/p.2.noRef=true) h λd r h=>j0 (M:=λr=>∀p∈fs,p.2∈a::b::c::d::r\/p.2.noRef=true) h λe r h=>d4c (M:=λr=>∀p∈fs,p.2∈a::b::c::d::e::r\/p.2.noRef=true) h λz=>z▸λp hp=>e4v (l:=[(5,a),(4,b),(3,c),(2,d),(1,e)]) (z:=(0,.int 0)) rfl hp) λ_ h=>q8 h (λ_ h=>j0 (M:=λvs=>∀p∈fs,p.2∈vs\/p.2.noRef=true) h λa r h=>j0 (M:=λr=>∀p∈fs,p.2∈a::r\/p.2.noRef=true) h λb r h=>j0 (M:=λr=>∀p∈fs,p.2∈a::b::r\/p.2.noRef=true) h λc r h=>j0 (M:=λr=>∀p∈fs,p.2∈a::b::c::r\/p.2.noRef=true) h λd r h=>j0 (M:=λr=>∀p∈fs,p.2∈a::b::c::d::r\/p.2.noRef=true) h λe r h=>j0 (M:=λr=>∀p∈fs,p.2∈a::b::c::d::e::r\/p.2.noRef=true) h λf r h=>d4c (M:=λr=>∀p∈fs,p.2∈a::b::c::d::e::f::r\/p.2.noRef=true) h λz=>z▸λp hp=>.inl (List.mem_map_of_mem (f:=Prod.snd) hp)) λ_ h=>nn h
theorem b8b {c f:Nat} (h:kQ uY c=some f):(c,f)∈(0,0)::(23,42)::uY:=.tail _ (.tail _ (uF h))
theorem f1g {c a:Nat} {M:Prop} (h:b9i c a=true) (f:∀l,aD mR c=some l->eS a l=true->M):M:=by
 unfold b9i at h;cases e:aD mR c with
 |none=>rw [e]at h;exact ff h
 |some l=>rw [e]at h;exact f l e h
theorem d5c {c m f:Nat} {M:Prop} (h:(match aD o0 c with|some l=>kQ l m|none=>none)=some f) (k:∀l,aD o0 c=some l->kQ l m=some f->M):M:=by
 cases e:aD o0 c with
 |none=>rw [e]at h;exact nn h
 |some l=>rw [e]at h;exact k l e h
theorem c6b {α:Type} {l:List α}:∀{i:Nat},i<l.length->∃x,aD l i=some x:=λ{i} h=>⟨l[i],(qJ l i).trans (List.getElem?_eq_getElem h)⟩
theorem f6d {P:Params} {f:Nat} (h:Nat.blt f 136=true):typeIn (gX P) (.ref ((aD fnL f).getD 0))=some (.type "function")/\keepIn (gX P) (.ref ((aD fnL f).getD 0))=true:=by
 obtain⟨a,ha⟩:=c6b (l:=fnL) (d5a▸h3n h);rw [ha];exact b5t (d6d P) ha
theorem b8d {c f:Nat} (h:x2 c=some f):(c,f)∈(0,0)::(23,42)::uY:=by
 unfold x2 at h;split at h
 ·cases h;exact .head _
 ·cases h;exact .tail _ (.head _)
 ·exact nn h
theorem f8n (P:Params):Facts (Φ0 P) TT (aD a8y):=
 ⟨λc a h=>f1g h λ_=>e7o,λc m f h=>d5c h λ_=>d6g,e5b,λf h=>f6d h,d5e,λc h=>b3b (c7w P) h,λc f h=>a0z (b4y P) (b8d h),
  λc f h=>dE.el (l:=kQ uY c) h λe q=>a0z (b4y P) (b8b (e.trans (h3s some (h4g q)))),
  λf F h=>(d4f (d8q P f F h) rfl λq=>h4g q▸f3d P).imp λfd z=>z.elim λbody z=>z.elim λargs z=>⟨body,_,args,z.1,z.2⟩,c7e P,f7l P,f7u P,(Option.isSome_iff_exists.mp (e1k P)).elim λo ho=>⟨38,o,ho,by decide⟩⟩
section
variable {Φ:Fx} {Tt:Tab} {fn:Nat->Option Fn} {w:World} {R:RT} {A:Around} {X:Cx} {G:Gh} {env:Env}
theorem c1n (C:Cfg Φ Tt fn w R A X G env) {i:Nat} {caps tg:List Nat} {rng:Bool} {it:E} {cond:Mx.C} {elt:E} {y:Str} {py spos:Pos} {v:Expr}
  (hx:cH X i .local y=true) (h:tL Φ X (.comp caps tg rng it cond elt) v=true)
  (hsw:swapsWith v (some (.Name y py)) spos.line env=pure true):
  SS Φ Tt w R A X G env (.assign i (.frz (.comp caps tg rng it cond elt))) (.Assign [.Name y py] v spos):=by
 revert hsw
 refine b5c (M:=λv=>swapsWith v (some (.Name y py)) spos.line env=pure true->SS Φ Tt w R A X G env (.assign i (.frz (.comp caps tg rng it cond elt))) (.Assign [.Name y py] v spos)) h λ{x target iter ifs sc pos cs ts} e1 h1 h2 h3 h4 hsw=> ?_
 intro W L st m s K Q I h' q;have hn:=bV hx;rw [exec_Assign_Name_used _ _ _ _ hsw];refine h4s (wpAny_standAt (h4s ?_));show wpAny _ A (do let _<-comprehension (.ListComp x [⟨target,iter,ifs,0⟩] sc pos) sc env _ (newList []) false (eval iter env) (some (assign (.Name y py) env))) _ _ s
 refine h4s (h4u (Q:=λ_ s'=>Q .next s') ?_ (λ_ _ hq=>h4t (h4t hq)) λ_ _ e=>e)
 refine a4y C e1 h1 (pY C (cJ it) h2).1 (pY C (cJ it) h2).2 (λC'=>cJ elt C' h3) (λC'=>d3o h4 (a8d cond C')) I h' λ{W4 L1 st4 acc D vs n0 s5 Cl m5} le pD Io hns u hz r k=> ?_
 have If:=Io.frzAside pD;show wpAny _ A (assign (.Name y py) env (.ref D)) _ _ _
 refine wpAny_assign_Name (wpAny_storeName_local (by show env.scope.names.lookup y=_;rw [C.ok.scope];exact hn.2.1) If.2.ns (λ{h'} hn' hs=> ?_) C.pl)
 have I6:=If.2.store C.ok.nodup (s':={s5 with heap:=h',toks:=s5.toks+1}) rfl rfl rfl hn.1 hn.2.1 hn' hs (sl:=.val (.lst acc)) (Rep.lst hz eZ (r.mono If.1))
 exact⟨m5,hns.sameBut hs u.l,λh3 hs3=>q (le.trans If.1) (I6.at (P:=G.prot) (s':={s5 with heap:=h3,toks:=s5.toks+1}) (u.p.frz u.d) u.l (λj z=>r0 hn.1 (λ_ ne=>if_neg ne) C.ok.nodup z (λ_ _ e _=>nomatch e) λ_=>u.o j) rfl rfl (λb o hb e=>hs3.extBut b o hb e) λb p e=>.inr ⟨λz=>dD u.q (z▸e),e⟩) .nxt k⟩
end
end Mx
namespace Mx
abbrev Nm:=List Nat
structure P where
 k:Nat
 s:Nm
 nf:Bool
noncomputable abbrev W (s:Nm):P:=⟨2,s,false⟩
noncomputable abbrev Sg (c:Nat):P:=⟨5,[c],false⟩
noncomputable abbrev N (s:Nm):P:=⟨1,s,false⟩
noncomputable abbrev N' (s:Nm):P:=⟨1,s,true⟩
inductive Leaf where
 |expr (x:Nm)
 |empty
 |var (w:Nat) (y:Nm) (v:Option Nm) (ds:List (Nm×Option Nm))
 |ret (x:Option Nm)
 |throw (x:Nm)
 |brk (l:Option Nm)
 |cont (l:Option Nm)
inductive First where
 |no
 |ex (x:Nm)
 |var (w:Nat) (y:Nm) (v:Option Nm) (ds:List (Nm×Option Nm))
inductive Hd where
 |wh (x:Nm)
 |fr (f:First) (a b:Option Nm)
 |each (of:Bool) (w:Nat) (y x:Nm)
 |lab (l:Nm)
mutual
inductive T where
 |leaf (l:Leaf)
 |pre (h:Hd) (t:T)
 |doW (t:T) (x:Nm)
 |if1 (x:Nm) (t:T)
 |if2 (x:Nm) (t e:T)
 |block (ts:Ts)
 |switch (x:Nm) (cs:Cs)
 |tryT (b:Ts) (c:Option (Option Nm)) (cb:Ts) (f:Bool) (fb:Ts)
inductive Ts where
 |nil
 |cons (t:T) (ts:Ts)
inductive Cs where
 |nil
 |cons (x:Option Nm) (b:Ts) (cs:Cs)
end
noncomputable def cW:Nat->Nm
 |0=>[108,101,116]
 |1=>[118,97,114]
 |_=>[99,111,110,115,116]
def uU:Nat->P
 |0=>N [108,101,116]
 |1=>W [118,97,114]
 |_=>W [99,111,110,115,116]
def jR (y:Nm):Option Nm->List P
 |none=>[N y]
 |some v=>[N y,Sg 61,N v]
noncomputable def l8:List (Nm×Option Nm)->List P
 |[]=>[]
 |(y,v)::l=>Sg 44::(jR y v++l8 l)
def jH (w:Nat) (y:Nm) (v:Option Nm) (ds:List (Nm×Option Nm)):List P:=uU w::(jR y v++l8 ds)
def i8:Option Nm->List P
 |none=>[]
 |some x=>[N x]
def a6u:Option Nm->List P
 |none=>[]
 |some x=>[N' x]
def kU:Leaf->List P
 | .expr x=>[N x,Sg 59]
 | .empty=>[Sg 59]
 | .var w y v ds=>jH w y v ds++[Sg 59]
 | .ret x=>W [114,101,116,117,114,110]::(a6u x++[Sg 59])
 | .throw x=>[W [116,104,114,111,119],N' x,Sg 59]
 | .brk l=>W [98,114,101,97,107]::(a6u l++[Sg 59])
 | .cont l=>W [99,111,110,116,105,110,117,101]::(a6u l++[Sg 59])
def j3:First->List P
 | .no=>[]
 | .ex x=>[N x]
 | .var w y v ds=>jH w y v ds
def zN:Bool->P
 |true=>N [111,102]
 |false=>W [105,110]
def pP:Hd->List P
 | .wh x=>[W [119,104,105,108,101],Sg 40,N x,Sg 41]
 | .fr f a b=>W [102,111,114]::Sg 40::(j3 f++Sg 59::(i8 a++Sg 59::(i8 b++[Sg 41])))
 | .each o w y x=>[W [102,111,114],Sg 40,uU w,N y,zN o,N x,Sg 41]
 | .lab l=>[N l,Sg 58]
def fC (x:Nm):List P:=[W [105,102],Sg 40,N x,Sg 41]
def jG:Option Nm->List P
 |some x=>[W [99,97,115,101],N x,Sg 58]
 |none=>[W [100,101,102,97,117,108,116],Sg 58]
def eR:Option Nm->List P
 |some x=>[W [99,97,116,99,104],Sg 40,N x,Sg 41]
 |none=>[W [99,97,116,99,104]]
mutual
noncomputable def tk:T->List P
 | .leaf l=>kU l
 | .pre h t=>pP h++tk t
 | .doW t x=>W [100,111]::(tk t++[W [119,104,105,108,101],Sg 40,N x,Sg 41,Sg 59])
 | .if1 x t=>fC x++tk t
 | .if2 x t e=>fC x++(tk t++W [101,108,115,101]::tk e)
 | .block ts=>Sg 123::(tks ts++[Sg 125])
 | .switch x cs=>W [115,119,105,116,99,104]::Sg 40::N x::Sg 41::Sg 123::(oJ cs++[Sg 125])
 | .tryT b c cb f fb=>W [116,114,121]::Sg 123::(tks b++Sg 125::
   ((match c with
    |none=>[]
    |some x=>eR x++Sg 123::(tks cb++[Sg 125]))++
    (match f with
    |false=>[]
    |true=>W [102,105,110,97,108,108,121]::Sg 123::(tks fb++[Sg 125]))))
noncomputable def tks:Ts->List P
 | .nil=>[]
 | .cons t ts=>tk t++tks ts
noncomputable def oJ:Cs->List P
 | .nil=>[]
 | .cons x b cs=>jG x++(tks b++oJ cs)
end
mutual
inductive Nd where
 |mk (kind:Nat) (a:Nm) (ks:Ks) (at':Nat)
inductive Ks where
 |nil
 |non (ks:Ks)
 |con (n:Nd) (ks:Ks)
end
mutual
noncomputable def Nd.av:Nd->AV
 | .mk k a ks p=>.inst 0 [(5,.int (.ofNat k)),(4,.str a),(3,.lst ks.av),(2,.int 0),(1,.int (.ofNat p)),(0,.int 0)]
noncomputable def Ks.av:Ks->List AV
 | .nil=>[]
 | .non ks=>.none::ks.av
 | .con n ks=>n.av::ks.av
end
noncomputable def gS:Option Nm->Nat->Nat
 |none,i=>i
 |some _,i=>i+1
noncomputable def fJ:Option Nm->Nat->Nat
 |none,i=>i+1
 |some _,i=>i+3
noncomputable def fS:List (Nm×Option Nm)->Nat->Nat
 |[],i=>i
 |d::l,i=>fS l (fJ d.2 (i+1))
def iD:First->Nat->Nat
 | .no,i=>i
 | .ex _,i=>i+1
 | .var _ _ v ds,i=>fS ds (fJ v (i+1))
def enL:Leaf->Nat->Nat
 | .expr _,i=>i+2
 | .empty,i=>i+1
 | .var _ _ v ds,i=>fS ds (fJ v (i+1))+1
 | .ret x,i=>gS x (i+1)+1
 | .throw _,i=>i+3
 | .brk l,i=>gS l (i+1)+1
 | .cont l,i=>gS l (i+1)+1
def nW:Hd->Nat->Nat
 | .wh _,i=>i+4
 | .fr f a b,i=>gS b (gS a (iD f (i+2)+1)+1)+1
 | .each _ _ _ _,i=>i+7
 | .lab _,i=>i+2
noncomputable def lX:Option Nm->Nat->Nat
 |some _,i=>i+3
 |none,i=>i+2
noncomputable def c8:Option Nm->Nat
 |some _=>4
 |none=>1
mutual
noncomputable def eT:T->Nat->Nat
 | .leaf l,i=>enL l i
 | .pre h t,i=>eT t (nW h i)
 | .doW t _,i=>eT t (i+1)+5
 | .if1 _ t,i=>eT t (i+4)
 | .if2 _ t e,i=>eT e (eT t (i+4)+1)
 | .block ts,i=>c7 ts (i+1)+1
 | .switch _ cs,i=>sE cs (i+5)+1
 | .tryT b c cb f fb,i=>
   let e:=match c with
    |none=>c7 b (i+2)+1
    |some x=>c7 cb (c7 b (i+2)+1+c8 x+1)+1
   match f with
    |false=>e
    |true=>c7 fb (e+2)+1
noncomputable def c7:Ts->Nat->Nat
 | .nil,i=>i
 | .cons t ts,i=>c7 ts (eT t i)
noncomputable def sE:Cs->Nat->Nat
 | .nil,i=>i
 | .cons x b cs,i=>sE cs (c7 b (lX x i))
end
def cG (b:Ts) (i:Nat):Nat:=c7 b (i+2)+1
def jK (b:Ts) (c:Option (Option Nm)) (cb:Ts) (i:Nat):Nat:=match c with
 |none=>cG b i
 |some x=>c7 cb (cG b i+c8 x+1)+1
abbrev Pos:=Nat->Nat
section
variable (p:Pos)
noncomputable def lH (x:Nm) (i:Nat):Nd:=.mk 8 x .nil (p i)
def dC:Option Nm->Nat->Ks->Ks
 |none,_,r=>.non r
 |some x,i,r=>.con (lH p x i) r
def eN (y:Nm) (v:Option Nm) (i:Nat):Nd:=.mk 42 [] (.con (lH p y i) (.non (dC p v (i+2) .nil))) (p i)
noncomputable def gV:List (Nm×Option Nm)->Nat->Ks
 |[],_=>.nil
 |(y,v)::l,i=>.con (eN p y v (i+1)) (gV l (fJ v (i+1)))
def fQ (w:Nat) (y:Nm) (v:Option Nm) (ds:List (Nm×Option Nm)) (i:Nat):Nd:=
 .mk 41 (cW w) (.con (eN p y v (i+1)) (gV p ds (fJ v (i+1)))) (p i)
noncomputable def a2l:Option Nm->Nm
 |none=>[]
 |some l=>l
def kL:Leaf->Nat->Nd
 | .expr x,i=>.mk 43 [] (.con (lH p x i) .nil) (p i)
 | .empty,i=>.mk 60 [] .nil (p i)
 | .var w y v ds,i=>fQ p w y v ds i
 | .ret x,i=>.mk 52 [] (dC p x (i+1) .nil) (p i)
 | .throw x,i=>.mk 56 [] (.con (lH p x (i+1)) .nil) (p i)
 | .brk l,i=>.mk 53 (a2l l) .nil (p i)
 | .cont l,i=>.mk 54 (a2l l) .nil (p i)
def sN:First->Nat->Ks->Ks
 | .no,_,r=>.non r
 | .ex x,i,r=>.con (.mk 43 [] (.con (lH p x i) .nil) (p i)) r
 | .var w y v ds,i,r=>.con (fQ p w y v ds i) r
def sR:Hd->Nat->Nd->Nd
 | .wh x,i,n=>.mk 45 [] (.con (lH p x (i+2)) (.con n .nil)) (p i)
 | .fr f a b,i,n=>.mk 47 [] (sN p f (i+2) (dC p a (iD f (i+2)+1) (dC p b (gS a (iD f (i+2)+1)+1) (.con n .nil)))) (p i)
 | .each o w y x,i,n=>.mk (match o with|true=>48|false=>49) [] (.con (fQ p w y none [] (i+2)) (.con (lH p x (i+5)) (.con n .nil))) (p i)
 | .lab l,i,n=>.mk 55 l (.con n .nil) (p i)
mutual
noncomputable def pl:T->Nat->Nd
 | .leaf l,i=>kL p l i
 | .pre h t,i=>sR p h i (pl t (nW h i))
 | .doW t x,i=>.mk 46 [] (.con (pl t (i+1)) (.con (lH p x (eT t (i+1)+2)) .nil)) (p i)
 | .if1 x t,i=>.mk 44 [] (.con (lH p x (i+2)) (.con (pl t (i+4)) (.non .nil))) (p i)
 | .if2 x t e,i=>.mk 44 [] (.con (lH p x (i+2)) (.con (pl t (i+4)) (.con (pl e (eT t (i+4)+1)) .nil))) (p i)
 | .block ts,i=>.mk 59 [] (aX ts (i+1)) (p i)
 | .switch x cs,i=>.mk 50 [] (.con (lH p x (i+2)) (jS cs (i+5))) (p i)
 | .tryT b c cb f fb,i=>.mk 57 [] (.con (.mk 59 [] (aX b (i+2)) (p (i+1)))
   ((match c with
    |none=>Ks.non
    |some x=>Ks.con (.mk 58 [] (dC p x (cG b i+2) (.con (.mk 59 [] (aX cb (cG b i+c8 x+1)) (p (cG b i+c8 x))) .nil)) (p (cG b i))))
    (match f with
    |false=>Ks.non .nil
    |true=>Ks.con (.mk 59 [] (aX fb (jK b c cb i+2)) (p (jK b c cb i+1))) .nil))) (p i)
noncomputable def aX:Ts->Nat->Ks
 | .nil,_=>.nil
 | .cons t ts,i=>.con (pl t i) (aX ts (eT t i))
noncomputable def jS:Cs->Nat->Ks
 | .nil,_=>.nil
 | .cons x b cs,i=>.con (.mk 51 [] (dC p x (i+1) (aX b (lX x i))) (p i)) (jS cs (c7 b (lX x i)))
end
end
noncomputable def bN:T->Bool
 | .if1 _ _=>true
 | .if2 _ _ e=>bN e
 | .pre _ t=>bN t
 |_=>false
mutual
noncomputable def aU:T->T
 | .leaf l=>.leaf l
 | .pre h t=>.pre h (aU t)
 | .doW t x=>.doW (aU t) x
 | .if1 x t=>.if1 x (aU t)
 | .if2 x t e=>.if2 x (match bN t with|true=>.block (.cons (aU t) .nil)|false=>aU t) (aU e)
 | .block ts=>.block (aY ts)
 | .switch x cs=>.switch x (kP cs)
 | .tryT b c cb f fb=>.tryT (aY b) c (aY cb) f (aY fb)
noncomputable def aY:Ts->Ts
 | .nil=>.nil
 | .cons t ts=>.cons (aU t) (aY ts)
noncomputable def kP:Cs->Cs
 | .nil=>.nil
 | .cons x b cs=>.cons x (aY b) (kP cs)
end
end Mx
namespace Mx
def En (m f:Nat) (vs:List AV) (st:aB) (P:AV->aB->Prop):Prop:=match aD fns f with
 |some F=>(match Nat.beq vs.length F.np with|true=>aZ TT (aO TT (aD fns) m) F.body (locals F vs) st (c4 P)|false=>False)
 |none=>False
theorem en {m f:Nat} {vs:List AV} {st:aB} {P:AV->aB->Prop} (h:En m f vs st P):aH (m+1) f vs st P:=by
 show(match aD fns f with|some F=>vs.length=F.np/\aZ TT (aO TT (aD fns) m) F.body (locals F vs) st (c4 P)|none=>False)
 revert h
 unfold En;cases aD fns f with
 |none=>exact id
 |some F=>
  dsimp only;cases e:Nat.beq vs.length F.np with
  |true=>exact λh=>⟨h4g e,h⟩
  |false=>exact False.elim
noncomputable def j4:AV->Nat
 | .inst _ [_,_,_,(_,.int (.ofNat q)),_,_]=>q
 |_=>0
noncomputable def c5l:AV->Nat
 | .inst _ [_,_,_,_,(_,.int (.ofNat q)),_]=>q
 |_=>0
noncomputable def frV:AV->Bool
 | .inst _ [_,_,_,_,_,(_,.bool b)]=>b
 |_=>false
def t4 {α:Type} (f:AV->α) (d:α) (A:List AV) (i:Nat):α:=match aD A i with
 |some v=>f v
 |none=>d
abbrev iP:List AV->Nat->Nat:=t4 j4 0
noncomputable abbrev bH (k:Nat) (s:Nm) (q e:Nat) (lb:Bool):AV:=.inst 23 [(5,.int (.ofNat k)),(34,.str s),(44,.int 0),(1,.int (.ofNat q)),(43,.int (.ofNat e)),(42,.bool lb)]
abbrev b5:=List (Nm×Bool)
structure PS where
 A:List AV
 rs:aB
 labs:b5
 il:Nat
 sw:Nat
 e:Nat
 ai:Bool
 i:Nat
namespace PS
variable (s:PS)
def n:PS:={s with i:=s.i+1}
def to (j:Nat):PS:={s with i:=j}
def dn:PS:={s with e:=s.e+1}
def lp:PS:={s with il:=s.il+1}
def sg:PS:={s with sw:=s.sw+1}
def no:PS:={s with ai:=false}
def lab (l:Nm) (b:Bool):PS:={s with labs:=s.labs++[(l,b)]}
abbrev p:Nat->Nat:=iP s.A
abbrev fr:Bool:=t4 frV false s.A s.i
abbrev tv (q:P):AV:=bH q.k q.s (s.p s.i) (t4 c5l 0 s.A s.i) s.fr
end PS
def TkA (A:List AV) (i:Nat) (q:P):Prop:=aD A i=some (bH q.k q.s (iP A i) (t4 c5l 0 A i) (t4 frV false A i))/\(q.nf=true->t4 frV false A i=false)
def Tk (s:PS) (q:P):Prop:=TkA s.A s.i q
noncomputable def jU (A:List AV):Nat->List P->Prop
 |_,[]=>True
 |i,q::l=>TkA A i q/\jU A (i+1) l
def aW (s:PS) (l:List P):Prop:=jU s.A s.i l
theorem jU.append {A:List AV}:∀{a b:List P} {i:Nat},jU A i (a++b)->jU A i a/\jU A (i+a.length) b
 |[],b,i,h=>⟨True.intro,h⟩
 |q::a,b,i,h=>⟨⟨h.1,(jU.append (a:=a) h.2).1⟩,by have:=(jU.append (a:=a) h.2).2;rw [Nat.add_assoc,Nat.add_comm 1]at this;exact this⟩
theorem aW.append {a b:List P} {s:PS} (h:aW s (a++b)):aW s a/\aW (s.to (s.i+a.length)) b:=jU.append h
noncomputable def kM:Bool->Int
 |true=>1
 |false=>0
def gO (l:b5):List AV:=l.map λd=>.tup [.str d.1,.int (kM d.2)]
noncomputable def eM:List (AV×AV):=[(.str [105,102],.inst 31 []),(.str [108,101,116],.inst 30 []),(.str [118,97,114],.inst 29 []),(.str [99,111,110,115,116],.inst 29 []),
 (.str [119,104,105,108,101],.inst 32 []),(.str [100,111],.inst 33 []),(.str [102,111,114],.inst 34 []),
 (.str [115,119,105,116,99,104],.inst 35 []),(.str [114,101,116,117,114,110],.inst 36 []),(.str [98,114,101,97,107],.inst 37 []),(.str [99,111,110,116,105,110,117,101],.inst 37 []),
 (.str [116,104,114,111,119],.inst 39 []),(.str [116,114,121],.inst 40 []),(.str [35,108,97,98,101,108],.inst 38 [])]
noncomputable def pfs (A:List AV) (i dp:Nat) (ai:Bool) (il sw:Nat):List (Nat×AV):=[(64,.lst A),(1,.int (.ofNat i)),(63,.obj 1 0),(62,.ref 2),(61,.ref 3),(60,.ref 4),(59,.ref 5),(31,.int (.ofNat dp)),(58,.tup [.str [],.int 0,.int 0]),(57,.bool ai),
 (56,.int 1),(55,.int (.ofNat il)),(54,.int (.ofNat sw)),(53,.ref 6),(52,.bool false),(51,.bool false),(50,.int 0),(49,.lst []),(48,.ref 7),(47,.ref 8),(46,.lst []),(45,.lst [])]
def b8o (A:List AV) (i dp:Nat) (ai:Bool) (il sw:Nat) (lb:List AV) (w:List (AV×AV)) (rs:aB):aB:=
 some (.obj [(13,.lst []),(12,.str [])])::some (.obj (pfs A i dp ai il sw))::some (.dict [(.int 2,.inst 41 []),(.int 10,.inst 41 []),(.int 3,.obj 27 9),(.int 4,.inst 28 [])])::some (.dict [])::some (.dict [])::some (.dict [])::
 some (.list lb)::some (.dict [])::some (.dict [])::some (.obj [(79,.ref 10)])::some (.dict w)::rs
def aJ (s:PS):aB:=b8o s.A s.i (s.e+1) s.ai s.il s.sw (gO s.labs) eM s.rs
noncomputable abbrev pv:AV:=.obj 25 1
theorem f9o {F:(aN->aB->Prop)->aN->aB->Prop} (I:Nat->aN->aB->Prop) (hs:∀m k L st,(∀m' L st,m'<m->I m' L st->k L st)->I m L st->F k L st) {m:Nat} {L:aN} {st:aB} (h0:I m L st):
  ∃n:Nat,Nat.rec (motive:=λ_=>aN->aB->Prop) (λ_ _=>False) (λ_ k L st=>F k L st) n L st:=by
 refine⟨m+1,?_⟩
 have key:∀n m L st,m<n->I m L st->Nat.rec (motive:=λ_=>aN->aB->Prop) (λ_ _=>False) (λ_ k L st=>F k L st) n L st:=by
  intro n
  induction n with
  |zero=>intro m L st h;exact absurd h (Nat.not_lt_zero _)
  |succ n ih=>exact λm L st h hI=>hs m _ L st (λm' L st h' hI'=>ih m' L st (Nat.lt_of_lt_of_le h' (Nat.le_of_lt_succ h)) hI') hI
 exact key (m+1) m L st (Nat.lt_succ_self _) h0
theorem d7m {α β:Type} {G:α->(β->aB->Prop)->β->aB->Prop} {base:β->aB->Prop} (I:List α->β->aB->Prop) (hb:∀L st,I [] L st->base L st)
  (hs:∀x l k L st,(∀L st,I l L st->k L st)->I (x::l) L st->G x k L st):∀{l:List α} {L:β} {st:aB},I l L st->List.foldr G base l L st
 |[],L,st,h=>hb L st h
 |x::l,L,st,h=>hs x l _ L st (λL st h=>d7m I hb hs h) h
section
variable {s:PS} {q:P} {y:Nm} {n j:Nat} {st:aB} {K:AV->aB->Prop}
theorem bY (h:Tk s q) (hk:K (s.tv q) (aJ s)):aH (n+1) tJ [pv] (aJ s) K:=by
 refine en ?_
 conv=>whnf
 rw [show dB (aJ s) (.lst s.A) (.int (.ofNat s.i))=some (s.tv q) from h.1]
 exact hk
theorem cY (hk:K (.bool (decide (Int.ofNat q.k=Int.ofNat j)&&decide (q.s=y))) st):aH (n+1) b6a [s.tv q,.int (.ofNat j),.str y] st K:=by
 refine en ?_
 conv=>whnf
 cases hd:decide (Int.ofNat q.k=Int.ofNat j)<;>rw [hd]at hk<;>exact hk
theorem b9 (h:Tk s q) (hk:K (.bool (decide (Int.ofNat q.k=5)&&decide (q.s=y))) (aJ s)):aH (n+2) wY [pv,.str y] (aJ s) K:=by
 refine en ?_
 conv=>whnf
 rw [show dB (aJ s) (.lst s.A) (.int (.ofNat s.i))=some (s.tv q) from h.1]
 exact cY (j:=5) hk
theorem bG (h:Tk s q) (hk:K (.bool (decide (Int.ofNat q.k=2)&&decide (q.s=y))) (aJ s)):aH (n+2) xO [pv,.str y] (aJ s) K:=by
 refine en ?_
 conv=>whnf
 rw [show dB (aJ s) (.lst s.A) (.int (.ofNat s.i))=some (s.tv q) from h.1]
 exact cY (j:=2) hk
theorem cL (h:Tk s q) (hk:K (.bool (decide (Int.ofNat q.k=1)&&decide (q.s=y))) (aJ s)):aH (n+2) xN [pv,.str y] (aJ s) K:=by
 refine en ?_
 conv=>whnf
 rw [show dB (aJ s) (.lst s.A) (.int (.ofNat s.i))=some (s.tv q) from h.1]
 exact cY (j:=1) hk
theorem bP (h:Tk s q) (h0:decide (Int.ofNat q.k=0)=false) (hk:K (s.tv q) (aJ s.n)):aH (n+1) a6k [pv] (aJ s) K:=by
 refine en ?_
 conv=>whnf
 rw [show dB (aJ s) (.lst s.A) (.int (.ofNat s.i))=some (s.tv q) from h.1]
 conv=>whnf
 rw [h0];exact hk
theorem oG (h:Tk s q) (h0:decide (Int.ofNat q.k=0)=false) (hj:(decide (Int.ofNat q.k=Int.ofNat j)&&decide (q.s=y))=true) (hk:K (.bool true) (aJ s.n)):aH (n+2) wG [pv,.int (.ofNat j),.str y] (aJ s) K:=by
 refine en (bY h (cY ?_));rw [hj];exact bP h h0 hk
theorem a7d (h:Tk s q) (hno:(decide (Int.ofNat q.k=Int.ofNat j)&&decide (q.s=y))=false) (hk:K (.bool false) (aJ s)):aH (n+2) wG [pv,.int (.ofNat j),.str y] (aJ s) K:=by
 refine en (bY h (cY ?_));rw [hno];exact hk
theorem a0l:(decide (Int.ofNat (P.k ⟨j,y,false⟩)=Int.ofNat j)&&decide (P.s ⟨j,y,false⟩=y))=true:=by simp
theorem hY {y:Nm} (h:Tk s ⟨5,y,false⟩) (hk:K (.bool true) (aJ s.n)):aH (n+3) lZ [pv,.str y] (aJ s) K:=en (oG (j:=5) h rfl a0l hk)
theorem j6 {y:Nm} (h:Tk s ⟨2,y,false⟩) (hk:K (.bool true) (aJ s.n)):aH (n+3) lV [pv,.str y] (aJ s) K:=en (oG (j:=2) h rfl a0l hk)
theorem eO (h:Tk s q) (hno:(decide (Int.ofNat q.k=5)&&decide (q.s=y))=false) (hk:K (.bool false) (aJ s)):aH (n+3) lZ [pv,.str y] (aJ s) K:=en (a7d (j:=5) h hno hk)
theorem lK (h:Tk s q) (hno:(decide (Int.ofNat q.k=2)&&decide (q.s=y))=false) (hk:K (.bool false) (aJ s)):aH (n+3) lV [pv,.str y] (aJ s) K:=en (a7d (j:=2) h hno hk)
theorem bS {y:Nm} (h:Tk s ⟨5,y,false⟩) (hk:K .none (aJ s.n)):aH (n+3) tV [pv,.str y] (aJ s) K:=en (oG (j:=5) h rfl a0l hk)
theorem b2p {y:Nm} (h:Tk s ⟨2,y,false⟩) (hk:K .none (aJ s.n)):aH (n+3) tU [pv,.str y] (aJ s) K:=en (oG (j:=2) h rfl a0l hk)
theorem wA {b:Bool} (h:Tk s ⟨1,y,b⟩) (hk:K (.str y) (aJ s.n)):aH (n+3) uI [pv] (aJ s) K:=en (bY h (bP h rfl hk))
theorem a3r {α:Type}:∀{l:List α} {i:Nat} {a:α},aD l i=some a->i<l.length
 |[],_,_,h=>nomatch h
 |_::l,0,_,_=>Nat.succ_pos _
 |_::l,i+1,a,h=>Nat.succ_lt_succ (a3r (l:=l) (i:=i) h)
theorem iR {j:Nat} (h:Tk (s.to (s.i+j)) q) (hk:K ((s.to (s.i+j)).tv q) (aJ s)):aH (n+1) a3b [pv,.int (.ofNat j)] (aJ s) K:=by
 refine en ?_
 conv=>whnf
 rw [show decide ((s.A.length:Int)<=Int.ofNat s.i+Int.ofNat j)=false from decide_eq_false (Int.not_le.mpr (Int.ofNat_lt.mpr (a3r h.1)))]
 conv=>whnf
 rw [show∀st,dB st (.lst s.A) (.int (Int.ofNat s.i+Int.ofNat j))=some ((s.to (s.i+j)).tv q) from λ_=>h.1]
 exact hk
theorem a5p (h:Tk s q) (h0:decide (Int.ofNat q.k=0)=false) (hk:K (.bool (s.fr||(decide (Int.ofNat q.k=5)&&(decide (q.s=[59])||decide (q.s=[125]))))) (aJ s)):aH (n+2) xS [pv] (aJ s) K:=by
 refine en (bY h ?_)
 conv=>whnf
 rw [h0]
 conv=>whnf
 cases hf:s.fr<;>rw [hf]at hk
 ·conv=>whnf
  cases hd:decide (Int.ofNat q.k=5)<;>rw [hd]at hk
  ·exact hk
  ·conv=>whnf
   cases hd:decide (q.s=[59])<;>rw [hd]at hk<;>exact hk
 ·exact hk
theorem c9 (h:Tk s (Sg 59)) (hk:K .none (aJ s.n)):aH (n+4) pA [pv] (aJ s) K:=en (hY h hk)
end
end Mx
namespace Mx
theorem nI {c:Cell}:∀{st:aB},aQ (st++[some c]) st.length=some c
 |[]=>rfl
 |_::st=>nI (st:=st)
theorem pR {α:Type} {c d:α}:∀{st:List α},bW (st++[c]) st.length d=st++[d]
 |[]=>rfl
 |x::st=>h3s (x:: ·) (pR (st:=st))
noncomputable abbrev bR (k a ks f q:AV):AV:=.inst 0 [(5,k),(4,a),(3,ks),(2,f),(1,q),(0,.int 0)]
theorem oO {a b c d e:AV} {st:aB} {P:AV->aB->Prop} {n:Nat} (h:P .none (st++[some (.obj [(5,a),(4,b),(3,c),(2,d),(1,e),(0,.int 0)])])):aH (n+1) 0 [.obj 0 st.length,a,b,c,d,e] (st++[some (.obj [])]) P:=by
 refine en ?_
 conv=>whnf
 rw [nI];conv=>whnf
 iterate 5 (rw [pR,nI];conv=>whnf)
 rw [pR]at*;exact h
section
variable {st:aB} {K:AV->aB->Prop} {n:Nat} {a b c d e:AV}
theorem gC (h:K (bR a b (.lst []) (.int 0) c) st):aH (n+2) f0n [a,b,c] st K:=en ⟨oO ⟨rfl,rfl⟩,h⟩
theorem aR (h:K (bR a b c (.int 0) d) st):aH (n+2) e0n [a,b,c,d] st K:=en ⟨oO ⟨rfl,rfl⟩,h⟩
theorem sT (h:K (bR a b c d e) st):aH (n+2) c1o [a,b,c,d,e] st K:=en ⟨oO ⟨rfl,rfl⟩,h⟩
end
noncomputable def dr:Nat->Ss->Ss
 |0,l=>l
 |n+1,.cons _ l=>dr n l
 |_,.nil=>.nil
abbrev eE (x:Nm) (q:Nat):AV:=bR (.int 8) (.str x) (.lst []) (.int 0) (.int (.ofNat q))
theorem bX (d:Nat):Int.ofNat (d+1) - 1=Int.ofNat d:=by simp
section
variable {s:PS} {q:P} {x y:Nm} {n j:Nat} {st:aB} {K:AV->aB->Prop} {v:Option Nm} {w:Nat} {ds:List (Nm×Option Nm)}
theorem yF (hd:s.e<39) (hk:K .none (aJ s.dn)):aH (n+1) sD [pv] (aJ s) K:=by
 refine en ?_
 conv=>whnf
 rw [show decide (40<Int.ofNat (s.e+1)+1)=false from h3u (Int.not_lt.mpr (Int.ofNat_le.mpr (Nat.succ_le_of_lt (Nat.succ_lt_succ hd))))]
 exact hk
theorem b7z (hk:K .none (aJ s)):aH (n+1) wU [pv] (aJ s.dn) K:=by
 refine en ?_
 conv=>whnf
 rw [bX];exact hk
theorem zZ {b:Bool} (h:Tk s ⟨1,x,b⟩) (hk:K (eE x (s.p s.i)) (aJ s.n)):aH (n+4) y1 [.inst 41 [],pv] (aJ s) K:=
 en (bY h (wA h (gC hk)))
theorem eW {b:Bool} (hd:s.e<39) (h:Tk s ⟨1,x,b⟩) (hk:K (eE x (s.p s.i)) (aJ s.n)):aH (n+5) gA [pv,.int 2] (aJ s) K:=
 en (yF hd (zZ (s:=s.dn) h (b7z (s:=s.n) hk)))
theorem c9c {b:Bool} (hd:s.e<39) (h:Tk s ⟨1,x,b⟩) (hk:K (eE x (s.p s.i)) (aJ s.n)):aH (n+5) gA [pv,.int 10] (aJ s) K:=
 en (yF hd (zZ (s:=s.dn) h (b7z (s:=s.n) hk)))
end
abbrev oK (q:P) (x:Nm):Prop:=(decide (Int.ofNat q.k=2)&&decide (q.s=x))=false
abbrev noS (q:P) (x:Nm):Prop:=(decide (Int.ofNat q.k=5)&&decide (q.s=x))=false
structure Ndl (q:P):Prop where
 a:noS q [33]
 b:noS q [58]
 c:noS q [61]
abbrev gK (y:Nm):Prop:=decide (y=[108,101,116])=false
section
variable {s:PS} {q:P} {x y:Nm} {n j:Nat} {st:aB} {K:AV->aB->Prop} {v:Option Nm} {w:Nat} {ds:List (Nm×Option Nm)}
theorem sS (hd:s.e<39) (h:aW s [Sg 40,N x,Sg 41]) (hk:K (eE x (s.p (s.i+1))) (aJ s.n.n.n)):aH (n+6) x3 [pv] (aJ s) K:=
 en (bS h.1 (eW (s:=s.n) hd h.2.1 (bS (s:=s.n.n) h.2.2.1 hk)))
theorem pL (h:Tk s.n q) (hx:noS q [91]) (hy:noS q [123]) (hk:K (.bool (decide (Int.ofNat q.k=1))) (aJ s)):aH (n+2) b2v [pv] (aJ s) K:=by
 refine en (iR (j:=1) h ?_)
 conv=>whnf
 cases hd:decide (Int.ofNat q.k=1)<;>rw [hd]at hk
 ·refine cY (s:=s.n) (j:=5) ?_;rw [show(decide (Int.ofNat q.k=Int.ofNat 5)&&decide (q.s=[91]))=false from hx]
  refine cY (s:=s.n) (j:=5) ?_;rw [show(decide (Int.ofNat q.k=Int.ofNat 5)&&decide (q.s=[123]))=false from hy]
  exact hk
 ·exact hk
theorem b4x {j:Nat} (hk:K (.lst [eE x j]) st):aH (n+1) sO [eE x j] st K:=by
 refine en ⟨2,?_⟩
 conv=>whnf
 refine⟨1,?_⟩
 conv=>whnf
 exact⟨by decide,hk⟩
theorem c2v {sl:Slot} (hd:s.e<39) (h:aW s (jR y v)) (h2:Tk (s.to (fJ v s.i)) q) (hq:Ndl q) (hk:K (eN s.p y v s.i).av (aJ (s.to (fJ v s.i)))):
  aZ TT (aO TT (aD fns) (n+6)) (dr 2 pE.body) [.val pv,.val (.str (cW w)),.val (eE y (s.p s.i)),sl,.no,.no,.no] (aJ s.n) (c4 K):=by
 cases v with
 |none=>
  refine b9 (s:=s.n) h2 ?_;rw [hq.a];exact eO (s:=s.n) h2 hq.b (eO (s:=s.n) h2 hq.c (sT hk))
 |some v=>
  exact b9 h.2.1 (eO h.2.1 rfl (hY h.2.1 (eW (s:=s.n.n) hd h.2.2.1 (sT hk))))
theorem wH (hd:s.e<39) (h:aW s (jR y v)) (hy:gK y) (h2:Tk (s.to (fJ v s.i)) q) (hq:Ndl q) (hk:K (eN s.p y v s.i).av (aJ (s.to (fJ v s.i)))):aH (n+7) b2s [pv,.str (cW w)] (aJ s) K:=by
 have h1:Tk s (N y):=by cases v<;>exact h.1
 refine en (c9c hd h1 ?_);have rest:∀sl,aZ TT (aO TT (aD fns) (n+6)) (dr 2 pE.body) [.val pv,.val (.str (cW w)),.val (eE y (s.p s.i)),sl,.no,.no,.no] (aJ s.n) (c4 K):=λsl=>c2v hd h h2 hq hk
 rcases w with _|_|w
 ·refine b4x ?_
  conv=>whnf
  rw [hy];exact rest _
 ·exact rest _
 ·refine b4x ?_
  conv=>whnf
  rw [hy];exact rest _
end
noncomputable def wC:Ss->C
 | .cons (.while c _) _=>c
 |_=>.tt
noncomputable def wB:Ss->Ss
 | .cons (.while _ b) _=>b
 |_=>.nil
noncomputable def fB:Ss->Ss
 | .cons (.forL _ _ _ _ b) _=>b
 |_=>.nil
def Wl (m:Nat) (l:Ss) (K:FK) (N:Nat):aN->aB->Prop:=
 Nat.rec (motive:=λ_=>aN->aB->Prop) (λ_ _=>False) (λ_=>kWh (aC TT (aO TT (aD fns) m) (wC l)) (aZ TT (aO TT (aD fns) m) (wB l)) (jB (aZ TT (aO TT (aD fns) m) (dr 1 l)) K)) N
theorem fR {α:Type} {l:List α} {k N:Nat} (h:l.length+k<=N):l.length<=N:=h3j (h3x _ _) h
theorem f1x {k:Nat} (h:k<1000):1+k<=1000000:=by omega
theorem dI {α:Type} {l:List α} {v:α} {k N:Nat} (h:l.length+(k+1)<=N):(l++[v]).length+k<=N:=by
 rw [h3o,h4d,h4e [v].length];exact h
section
variable {s:PS} {q:P} {x y:Nm} {n j:Nat} {st:aB} {K:AV->aB->Prop} {v:Option Nm} {w:Nat} {ds:List (Nm×Option Nm)}
theorem c2g:Ndl (Sg 44):=⟨rfl,rfl,rfl⟩
theorem b3y (hs:aW s (l8 ds)) (h2:Tk (s.to (fS ds s.i)) q) (hq:Ndl q):∃q,Tk s q/\Ndl q:=by
 cases ds with
 |nil=>exact⟨q,h2,hq⟩
 |cons d ds=>exact⟨_,hs.1,c2g⟩
theorem kH:∀{v:Option Nm} {l:List P} {s:PS},aW s (jR y v++l)->aW s (jR y v)/\aW (s.to (fJ v s.i)) l
 |none,_,_,h=>⟨⟨h.1,h3m⟩,h.2⟩
 |some _,_,_,h=>⟨⟨h.1,h.2.1,h.2.2.1,h3m⟩,h.2.2.2⟩
theorem c7t {s0:PS} {k:Nat} {b:Bool} (hd:s.e<39) (hq:Ndl q) (h44:noS q [44]) (h2:Tk s q):∀{ds:List (Nm×Option Nm)} {j:Nat} {acc:List AV},aW (s.to j) (l8 ds)->(∀d∈ds,gK d.1)->fS ds j=s.i->acc.length+ds.length<=1000000->
  (∀l,l=acc++(gV s.p ds j).av->aZ TT (aO TT (aD fns) (n+7)) (dr 3 rE.body) [.val pv,.val (.int 0),.val (s0.tv ⟨k,cW w,b⟩),.own l] (aJ s) (c4 K))->
  Wl (n+7) (dr 2 rE.body) (c4 K) (ds.length+1) [.val pv,.val (.int 0),.val (s0.tv ⟨k,cW w,b⟩),.own acc] (aJ (s.to j)):=by
 intro ds
 induction ds with
 |nil=>
  intro j acc hs hl he ha hk;obtain rfl:j=s.i:=he;exact eO h2 h44 (hk _ (h3q _).symm)
 |cons d ds ih=>
  intro j acc hs hl he ha hk;obtain⟨z,hz,hz2⟩:=b3y (s:=s.to (fJ d.2 (j+1))) (ds:=ds) (kH (s:=s.to (j+1)) hs.2).2 (show Tk (s.to (fS (d::ds) j)) q from he.symm▸h2) hq
  refine hY hs.1 (wH (s:=s.to (j+1)) hd (kH (s:=s.to (j+1)) hs.2).1 (hl _ (.head _)) hz hz2 ⟨fR ha,?_⟩);exact ih (kH (s:=s.to (j+1)) hs.2).2 (λd h=>hl d (.tail _ h)) he (dI ha) λl e=>hk l (e.trans (h3p ..))
theorem c8a:∃k,uU w=⟨k+1,cW w,false⟩:=by rcases w with _|_|w<;>exact⟨_,rfl⟩
structure bndOk (y:Nm) (ds:List (Nm×Option Nm)):Prop where
 a:gK y
 b:∀d∈ds,gK d.1
 c:ds.length<1000
theorem mA (hd:s.e<39) (h:aW s (jH w y v ds)) (hb:bndOk y ds) (h2:Tk (s.to (fS ds (fJ v (s.i+1)))) q) (hq:Ndl q) (h44:noS q [44])
  (hk:K (fQ s.p w y v ds s.i).av (aJ (s.to (fS ds (fJ v (s.i+1)))))):aH (n+8) b7f [pv,.int 0] (aJ s) K:=by
 obtain⟨k,hw⟩:=c8a (w:=w);have h1:Tk s ⟨k+1,cW w,false⟩:=hw▸h.1;obtain⟨z,hz,hz2⟩:=b3y (s:=s.to (fJ v (s.i+1))) (ds:=ds) (kH (s:=s.n) h.2).2 h2 hq;refine en (bP h1 rfl (wH (s:=s.n) (w:=w) hd (kH (s:=s.n) h.2).1 hb.a hz hz2 ⟨ds.length+1,c7t (n:=n) (K:=K) (s0:=s) (k:=k+1) (b:=false) (acc:=[(eN s.p y v (s.i+1)).av]) (s:=s.to (fS ds (fJ v (s.i+1)))) (w:=w) hd hq h44 h2 (kH (s:=s.n) h.2).2 hb.b rfl ?_ λl e=> ?_⟩))
 ·exact f1x hb.c
 ·subst e;exact sT hk
theorem jO {z:AV} {b:Bool} {p:Pos} (hk:K .none st):aH (n+1) b0y [z,(eN p y v j).av,.bool b] st K:=en ⟨by decide,hk⟩
abbrev cns (w:Nat) (v:Option Nm):Prop:=v=none->decide (cW w=[99,111,110,115,116])=false
theorem a8e {z nd:AV} {b:Bool} {sl:Slot} {p:Pos} {m:Nat} {k:aN->aB->Prop} {K:FK} {ks:AV} (hv:cns w v) (hk:k [.val z,.val (bR (.int 41) (.str (cW w)) ks (.int 0) nd),.val (.bool b),.val (eN p y v j).av] st):
  gQ [3] true (aZ TT (aO TT (aD fns) (n+1)) (fB pG.body)) K (eN p y v j).av k [.val z,.val (bR (.int 41) (.str (cW w)) ks (.int 0) nd),.val (.bool b),sl] st:=by
 refine⟨by decide,?_⟩
 cases v with
 |none=>
  conv=>whnf
  rw [hv rfl];exact jO hk
 |some v=>exact jO hk
theorem c4r {z nd:AV} {b:Bool} {p:Pos} {ks:AV} {K:FK} (hk:∀sl,K .nxt [.val z,.val (bR (.int 41) (.str (cW w)) ks (.int 0) nd),.val (.bool b),sl] st):∀{ds:List (Nm×Option Nm)} {j:Nat} {sl:Slot},(∀d∈ds,cns w d.2)->
  List.foldr (gQ [3] true (aZ TT (aO TT (aD fns) (n+1)) (fB pG.body)) K) (K .nxt) (gV p ds j).av [.val z,.val (bR (.int 41) (.str (cW w)) ks (.int 0) nd),.val (.bool b),sl] st:=by
 intro ds
 induction ds with
 |nil=>exact λ_=>hk _
 |cons d ds ih=>exact λh=>a8e (m:=0) (h d (.head _)) (ih λd q=>h d (.tail _ q))
def nN (w:Nat) (v:Option Nm) (ds:List (Nm×Option Nm)):Prop:=2<=w->v≠none/\∀d∈ds,d.2≠none
theorem c0s {v:Option Nm} (h:2<=w->v≠none):cns w v:=λe=>by
 rcases w with _|_|w
 ·rfl
 ·rfl
 ·exact absurd e (h (h4b _ _))
theorem vW {z:AV} {b:Bool} {p:Pos} (hc:nN w v ds) (hk:K .none st):aH (n+2) b1t [z,(fQ p w y v ds j).av,.bool b] st K:=
 en (a8e (n:=n) (m:=0) (c0s λq=>(hc q).1) (c4r (n:=n) (K:=jB (aZ TT (aO TT (aD fns) (n+1)) nS) (c4 K)) (λ_=>hk) λd h=>c0s λq=>(hc q).2 d h))
theorem c3t (hd:s.e<39) (h:aW s (jH w y v ds++[Sg 59])) (hb:bndOk y ds) (hc:nN w v ds) (hs:Tk (s.to (fS ds (fJ v (s.i+1)))) (Sg 59))
  (hk:K (fQ s.p w y v ds s.i).av (aJ (s.to (fS ds (fJ v (s.i+1))+1)))):aH (n+9) q6 [pv,.int 0] (aJ s) K:=
 en (mA hd (aW.append h).1 hb hs ⟨rfl,rfl,rfl⟩ rfl (c9 hs ⟨by decide,vW hc hk⟩))
end
def jZ (x:Nm):Prop:=dget (.str x) eM=some none
def b5s (x:Nm):Prop:=jZ x\/x=[108,101,116]
noncomputable def bK:T->Bool
 | .pre (.lab _) t=>bK t
 | .pre _ _=>true
 | .doW _ _=>true
 |_=>false
def c3:T->Prop
 | .leaf (.var w _ _ _)=>w=1
 |_=>True
def iE:Leaf->Nat->Nat->b5->Prop
 | .expr x,_,_,_=>b5s x
 | .var w y v ds,_,_,_=>w<=2/\bndOk y ds/\nN w v ds
 | .brk none,il,sw,_=>0<il+sw
 | .brk (some l),_,_,labs=>l≠ []/\∃b,(l,b)∈labs
 | .cont none,il,_,_=>0<il
 | .cont (some l),_,_,labs=>l≠ []/\(l,true)∈labs
 |_,_,_,_=>True
def c6n:Hd->Prop
 | .fr (.ex x) _ _=>gK x
 | .fr (.var w y v ds) _ _=>w<=2/\bndOk y ds/\nN w v ds
 | .each _ w y _=>w<=2/\gK y
 | .lab l=>jZ l/\l≠ []
 |_=>True
noncomputable def b0v:Hd->Nat->Nat
 | .lab _,il=>il
 |_,il=>il+1
def nC:Hd->T->b5->b5
 | .lab l,t,labs=>labs++[(l,bK t)]
 |_,_,labs=>labs
noncomputable def defaults:Cs->Nat
 | .nil=>0
 | .cons none _ cs=>defaults cs+1
 | .cons _ _ cs=>defaults cs
noncomputable def cU:Ts->Nat
 | .nil=>0
 | .cons _ ts=>cU ts+1
noncomputable def mW:Cs->Nat
 | .nil=>0
 | .cons _ _ cs=>mW cs+1
mutual
noncomputable def ok:T->Nat->Nat->b5->Prop
 | .leaf l,il,sw,labs=>iE l il sw labs
 | .pre h t,il,sw,labs=>c6n h/\c3 t/\ok t (b0v h il) sw (nC h t labs)
 | .doW t _,il,sw,labs=>c3 t/\ok t (il+1) sw labs
 | .if1 _ t,il,sw,labs=>c3 t/\ok t il sw labs
 | .if2 _ t e,il,sw,labs=>c3 t/\ok t il sw labs/\c3 e/\ok e il sw labs
 | .block ts,il,sw,labs=>i4 ts il sw labs
 | .switch _ cs,il,sw,labs=>qD cs il (sw+1) labs/\defaults cs<=1
 | .tryT b c cb f fb,il,sw,labs=>i4 b il sw labs/\i4 cb il sw labs/\i4 fb il sw labs/\(c=none->f=true)
noncomputable def i4:Ts->Nat->Nat->b5->Prop
 | .nil,_,_,_=>True
 | .cons t ts,il,sw,labs=>ok t il sw labs/\i4 ts il sw labs/\cU ts<1000
noncomputable def qD:Cs->Nat->Nat->b5->Prop
 | .nil,_,_,_=>True
 | .cons _ b cs,il,sw,labs=>i4 b il sw labs/\qD cs il sw labs/\mW cs<1000
end
noncomputable def a0h:Hd->List Nm
 | .lab l=>[l]
 |_=>[]
mutual
noncomputable def fI:T->List Nm
 | .leaf _=>[]
 | .pre h t=>a0h h++fI t
 | .doW t _=>fI t
 | .if1 _ t=>fI t
 | .if2 _ t e=>fI t++fI e
 | .block ts=>i9 ts
 | .switch _ cs=>xY cs
 | .tryT b _ cb _ fb=>i9 b++(i9 cb++i9 fb)
noncomputable def i9:Ts->List Nm
 | .nil=>[]
 | .cons t ts=>fI t++i9 ts
noncomputable def xY:Cs->List Nm
 | .nil=>[]
 | .cons _ b cs=>i9 b++xY cs
end
mutual
noncomputable def pO:T->Prop
 | .leaf _=>True
 | .pre _ t=>pO t
 | .doW t _=>pO t
 | .if1 _ t=>pO t
 | .if2 _ t e=>bN t=false/\pO t/\pO e
 | .block ts=>nQ ts
 | .switch _ cs=>a9m cs
 | .tryT b _ cb _ fb=>nQ b/\nQ cb/\nQ fb
noncomputable def nQ:Ts->Prop
 | .nil=>True
 | .cons t ts=>pO t/\nQ ts
noncomputable def a9m:Cs->Prop
 | .nil=>True
 | .cons _ b cs=>nQ b/\a9m cs
end
mutual
noncomputable def dT:T->Nat
 | .leaf _=>0
 | .pre _ t=>dT t+1
 | .doW t _=>dT t+1
 | .if1 _ t=>dT t+1
 | .if2 _ t e=>max (dT t) (dT e)+1
 | .block ts=>b3 ts+1
 | .switch _ cs=>j2 cs+1
 | .tryT b _ cb _ fb=>max (b3 b) (max (b3 cb) (b3 fb))+1
noncomputable def b3:Ts->Nat
 | .nil=>0
 | .cons t ts=>max (dT t) (b3 ts)
noncomputable def j2:Cs->Nat
 | .nil=>0
 | .cons _ b cs=>max (b3 b) (j2 cs)
end
noncomputable abbrev bB:Nm:=[101,108,115,101]
noncomputable abbrev fW:Nm:=[102,105,110,97,108,108,121]
noncomputable abbrev lE:Nm:=[99,97,116,99,104]
noncomputable abbrev a1u:Nm:=[99,97,115,101]
noncomputable abbrev nK:Nm:=[100,101,102,97,117,108,116]
structure fol (t:T) (q:P):Prop where
 f:oK q fW
 c:oK q lE
 e:bN t=true->oK q bB
structure startOk (q:P):Prop where
 pos:0<q.k
 brace:noS q [125]
 els:oK q bB
 fin:oK q fW
 cat:oK q lE
 cas:oK q a1u
 dfl:oK q nK
def b0x (q:P):Bool:=Nat.blt 0 q.k&&(!(decide (Int.ofNat q.k=5)&&decide (q.s=[125]))&&(Nat.beq q.k 1||(Nat.beq q.k 5||(!decide (q.s=bB)&&(!decide (q.s=fW)&&(!decide (q.s=lE)&&(!decide (q.s=a1u)&& !decide (q.s=nK))))))))
theorem a1o {k:Nat} {s w:Nm} {f:Bool} {P:Prop} (h:Nat.beq k 1=true\/Nat.beq k 5=true\/P) (g:P->decide (s=w)=false):oK ⟨k,s,f⟩ w:=by
 rcases h with h|h|h
 ·obtain rfl:=h4g h;rfl
 ·obtain rfl:=h4g h;rfl
 ·show(decide (Int.ofNat k=2)&&decide (s=w))=false
  rw [g h,Bool.and_false]
theorem startOk.of {q:P} (h:b0x q=true):startOk q:=by
 simp only [b0x,h4l,Bool.or_eq_true,Bool.not_eq_true',Nat.blt_eq]at h;exact⟨h.1,h.2.1,a1o h.2.2 (·.1),a1o h.2.2 (·.2.1),a1o h.2.2 (·.2.2.1),a1o h.2.2 (·.2.2.2.1),a1o h.2.2 (·.2.2.2.2)⟩
theorem a2r:∀t:T,∃q r,tk t=q::r/\b0x q=true
 | .leaf (.expr x)=>⟨_,_,rfl,rfl⟩
 | .leaf .empty=>⟨_,_,rfl,rfl⟩
 | .leaf (.var 0 y v ds)=>⟨_,_,rfl,rfl⟩
 | .leaf (.var 1 y v ds)=>⟨_,_,rfl,rfl⟩
 | .leaf (.var (w+2) y v ds)=>⟨_,_,rfl,rfl⟩
 | .leaf (.ret x)=>⟨_,_,rfl,rfl⟩
 | .leaf (.throw x)=>⟨_,_,rfl,rfl⟩
 | .leaf (.brk l)=>⟨_,_,rfl,rfl⟩
 | .leaf (.cont l)=>⟨_,_,rfl,rfl⟩
 | .pre (.wh x) t=>⟨_,_,rfl,rfl⟩
 | .pre (.fr f a b) t=>⟨_,_,rfl,rfl⟩
 | .pre (.each o w y x) t=>⟨_,_,rfl,rfl⟩
 | .pre (.lab l) t=>⟨_,_,rfl,rfl⟩
 | .doW t x=>⟨_,_,rfl,rfl⟩
 | .if1 x t=>⟨_,_,rfl,rfl⟩
 | .if2 x t e=>⟨_,_,rfl,rfl⟩
 | .block ts=>⟨_,_,rfl,rfl⟩
 | .switch x cs=>⟨_,_,rfl,rfl⟩
 | .tryT b c cb f fb=>⟨_,_,rfl,rfl⟩
noncomputable def fcB:Ss->Ss
 | .cons (.forC _ _ b) _=>b
 |_=>.nil
section
variable {s:PS} {q:P} {n:Nat} {st:aB} {K:AV->aB->Prop} {l:Nm} {b:Bool}
theorem d4s {c:AV} (hk:K (.bool true) st):aH (n+1) qF [c,pv] st K:=en hk
abbrev f1n (n:Nat) (s:PS) (K:AV->aB->Prop) (l:Nm) (r:b5) (sl:Slot):Prop:=
 List.foldr (b0d 2 6 (gO s.labs) (aZ TT (aO TT (aD fns) n) (fcB kX.body)) (jB (aZ TT (aO TT (aD fns) n) (dr 1 kX.body)) (c4 K))) (b1i 6 (gO s.labs) (jB (aZ TT (aO TT (aD fns) n) (dr 1 kX.body)) (c4 K))) (gO r) [.val pv,.val (.str l),sl] (aJ s)
theorem d2f (hk:K .none (aJ s)):∀{r:b5} {sl:Slot},(∀d∈r,d.1≠l)->f1n n s K l r sl:=by
 intro r
 induction r with
 |nil=>exact λ_=>⟨rfl,hk⟩
 |cons d r ih=>
  intro sl h;refine⟨rfl,?_⟩
  conv=>whnf
  rw [h3u (h _ (.head _))];exact ih λd q=>h d (.tail _ q)
theorem b8j (h:∀d∈s.labs,d.1≠l) (hk:K .none (aJ s)):aH (n+1) w0 [pv,.str l] (aJ s) K:=en (d2f hk h)
theorem c5i (hk:K (.tup [.str l,.int (kM b)]) (aJ s)):∀{r:b5} {sl:Slot},(l,b)∈r->(r.map (·.1)).Nodup->f1n n s K l r sl:=by
 intro r
 induction r with
 |nil=>exact λh=>nomatch h
 |cons d r ih=>
  intro sl h hn;have hn:(∀y∈r.map (·.1),d.1≠y)/\(r.map (·.1)).Nodup:=List.pairwise_cons.mp hn
  refine⟨rfl,?_⟩
  conv=>whnf
  rcases List.mem_cons.mp h with rfl|h
  ·rw [h3v rfl];exact hk
  ·rw [h3u (hn.1 _ (List.mem_map_of_mem (f:=(·.1)) h))]
   exact ih h hn.2
theorem yE (h:(l,b)∈s.labs) (nd:(s.labs.map (·.1)).Nodup) (hk:K (.tup [.str l,.int (kM b)]) (aJ s)):aH (n+1) w0 [pv,.str l] (aJ s) K:=en (c5i hk h nd)
end
def PS.ap (s:PS):PS:={s with e:=s.e+1,ai:=true}
def RD (m:Nat) (t:T) (s:PS):Prop:=∀ ⦃K:AV->aB->Prop⦄,K (pl s.p t s.i).av (aJ (s.to (eT t s.i)))->aH m nE [pv,.ref 10] (aJ s) K
def RP (m:Nat) (t:T) (s:PS):Prop:=∀ ⦃K:AV->aB->Prop⦄,K (pl s.p t s.i).av (aJ (s.to (eT t s.i)))->aH m gA [pv,.int 3] (aJ s) K
section
variable {s:PS} {q:P} {n m:Nat} {st:aB} {K:AV->aB->Prop} {t u:T} {x:Nm} {c f:Nat}
theorem bZ (h:Tk s (W x)) (hw:dget (.str x) eM=some (some (.inst c []))) (ho:TT.meth c 90=some qF) (hr:TT.meth c 89=some f) (hk:aH (n+1) f [.inst c [],pv] (aJ s) K):aH (n+2) nE [pv,.ref 10] (aJ s) K:=by
 refine en (bY h ?_)
 conv=>whnf
 rw [show a3z (aJ s) .isin (.str x) (.ref 10)=some true by show(match dget (.str x) eM with|some o=>some o.isSome|none=>none)=_;rw [hw];rfl]
 have hi:dB (aJ s) (.ref 10) (.str x)=some (.inst c []):=by show(match dget (.str x) eM with|some (some x)=>some x|_=>none)=_;rw [hw]
 conv=>whnf
 rw [hi]
 conv=>whnf
 rw [show o6 TT (aJ s) (.inst c []) 90=_ from ho]
 refine d4s ?_
 conv=>whnf
 rw [hi]
 conv=>whnf
 rw [show o6 TT (aJ s) (.inst c []) 89=_ from hr]
 exact hk
theorem a0j (h:RD m t s) (hk:K (pl s.p t s.i).av (aJ (s.to (eT t s.i)))):aH (m+1) y7 [.obj 27 9,pv] (aJ s) K:=en (h hk)
theorem d8j (h:RD m t s.ap) (hk:K (pl s.p t s.i).av (aJ (s.to (eT t s.i)).dn)):aH (m+2) mP [pv,.obj 27 9] (aJ s.dn) K:=en (a0j h hk)
theorem RD.part (h:RD (m+1) t s.ap) (hd:s.e<39):RP (m+4) t s:=λK hk=>en (yF hd (d8j h (b7z (s:=s.to (eT t s.i)) hk)))
theorem c3s (hd:c3 t) {p:Pos} {i:Nat} (hk:K (.bool false) st):aH (n+1) y6 [(pl p t i).av] st K:=by
 refine en ?_;cases t with
 |leaf l=>
  cases l with
  |var w y v ds=>obtain rfl:w=1:=hd;exact hk
  |_=>exact hk
 |pre h t=>
  cases h with
  |each o w y x=>cases o<;>exact hk
  |_=>exact hk
 |_=>exact hk
theorem jQ (h:RP (m+1) t s) (hn:c3 t) (hk:K (pl s.p t s.i).av (aJ (s.to (eT t s.i)))):aH (m+2) b6v [pv] (aJ s) K:=en (h (c3s hn hk))
theorem iG (h:RP (m+1) t s.lp) (hn:c3 t) (hk:K (pl s.p t s.i).av (aJ (s.to (eT t s.i)))):aH (m+3) xP [pv] (aJ s) K:=by
 refine en (jQ (s:=s.lp) h hn ?_)
 conv=>whnf
 rw [show Int.ofNat (s.lp.to (eT t s.lp.i)).il - 1=Int.ofNat s.il from bX _]
 exact hk
end
section
variable {s:PS} {q:P} {n m:Nat} {st:aB} {K:AV->aB->Prop} {t u:T} {x:Nm} {v:Option Nm}
theorem c5p {c:AV} (h:Tk s.n (Sg 59)) (hk:K (.bool false) (aJ s)):aH (n+3) m8 [c,pv] (aJ s) K:=en (pL h rfl rfl hk)
theorem c1v {c:AV} (h:Tk s.n (N x)) (hk:K (.bool true) (aJ s)):aH (n+3) m8 [c,pv] (aJ s) K:=en (pL h rfl rfl hk)
theorem a7t (h:jZ x):a3z (aJ s) .isin (.str x) (.ref 10)=some false:=by
 show(match dget (.str x) eM with|some o=>some o.isSome|none=>none)=some false
 rw [show dget (.str x) eM=some none from h];rfl
theorem a5d (hd:s.e<39) (h1:Tk s (N x)) (h2:Tk s.n (Sg 59)) (hk:K (pl s.p (.leaf (.expr x)) s.i).av (aJ s.n.n)):
  aZ TT (aO TT (aD fns) (n+6)) (dr 2 mM.body) [.val pv,.val (.ref 10),.val (s.tv (N x)),.no] (aJ s) (c4 K):=
 iR (j:=1) h2 (cY (s:=s.n) (q:=Sg 59) (j:=5) (b9 h1 (eO h1 rfl (b9 h1 (bG h1 (bG h1 (eW hd h1 (c9 (s:=s.n) h2 (aR hk)))))))))
theorem d6c (hd:s.e<39) (h:aW s (kU (.expr x))) (hx:b5s x):RD (n+7) (.leaf (.expr x)) s:=λK hk=>by
 rcases hx with hx|rfl
 ·refine en (bY h.1 ?_)
  conv=>whnf
  rw [a7t hx];exact a5d hd h.1 h.2.1 hk
 ·refine en (bY h.1 ?_);refine c5p h.2.1 ?_;exact a5d hd h.1 h.2.1 hk
theorem c9y (h:Tk s (Sg 59)):RD (n+4) (.leaf .empty) s:=λK hk=>en (bY h (b9 h (hY h (gC hk))))
theorem oT {c:AV} (hk:aH (n+1) q6 [pv,.int 0] (aJ s) K):aH (n+2) yC [c,pv] (aJ s) K:=en hk
theorem f2c {w:Nat} {y:Nm} {ds:List (Nm×Option Nm)} (hd:s.e<39) (h:aW s (jH w y v ds++[Sg 59])) (hb:bndOk y ds) (hc:nN w v ds) (hs:Tk (s.to (fS ds (fJ v (s.i+1)))) (Sg 59)):RD (n+11) (.leaf (.var w y v ds)) s:=λK hk=>by
 have h2:=c3t (n:=n) hd h hb hc hs hk;rcases w with _|_|w
 ·have hy:Tk s.n (N y):=by cases v<;>exact h.2.1
  exact en (bY h.1 (c1v hy (oT h2)))
 ·exact bZ (n:=n+9) h.1 rfl rfl rfl (oT h2)
 ·exact bZ (n:=n+9) h.1 rfl rfl rfl (oT h2)
theorem a6w (h:Tk s (N' x)):s.fr=false:=h.2 rfl
theorem d7x (h1:Tk s (W [114,101,116,117,114,110])) (h2:Tk s.n (Sg 59)):RD (n+6) (.leaf (.ret none)) s:=λK hk=>by
 refine bZ h1 rfl rfl rfl (en (bP h1 rfl (a5p h2 rfl ?_)));rw [show(s.n.fr||(decide (Int.ofNat (Sg 59).k=5)&&(decide ((Sg 59).s=[59])||decide ((Sg 59).s=[125]))))=true from Bool.or_true _]
 exact c9 h2 (aR hk)
theorem d6u (hd:s.e<39) (h1:Tk s (W [114,101,116,117,114,110])) (h2:Tk s.n (N' x)) (h3:Tk s.n.n (Sg 59)):RD (n+7) (.leaf (.ret (some x))) s:=λK hk=>by
 refine bZ h1 rfl rfl rfl (en (bP h1 rfl (a5p h2 rfl ?_)));rw [a6w h2];exact eW hd h2 (c9 h3 (aR hk))
theorem d2q (hd:s.e<39) (h:aW s (kU (.throw x))):RD (n+7) (.leaf (.throw x)) s:=λK hk=>by
 refine bZ h.1 rfl rfl rfl (en (bP h.1 rfl (bY h.2.1 ?_)))
 conv=>whnf
 rw [a6w (s:=s.n) h.2.1];exact eW hd h.2.1 (c9 h.2.2.1 (aR hk))
theorem c5u {z:AV} (h:0<s.il+s.sw) (hk:K .none (aJ s)):aH (n+1) rY [pv,.str [],z] (aJ s) K:=by
 refine en ?_;obtain⟨A,rs,labs,il,sw,e,ai,i⟩:=s;rcases il with _|il
 ·rcases sw with _|sw
  ·exact absurd h (h4p 0)
  ·exact hk
 ·exact hk
theorem d1c {z:AV} {l:Nm} {b:Bool} (hl:l≠ []) (hm:(l,b)∈s.labs) (nd:(s.labs.map (·.1)).Nodup) (hk:K .none (aJ s)):aH (n+2) rY [pv,.str l,z] (aJ s) K:=by
 refine en ?_
 conv=>whnf
 rw [h3u hl];exact yE hm nd hk
theorem d7z {z:AV} (h:0<s.il) (hk:K .none (aJ s)):aH (n+1) nV [pv,.str [],z] (aJ s) K:=by
 refine en ?_;obtain⟨A,rs,labs,il,sw,e,ai,i⟩:=s;rcases il with _|il
 ·exact absurd h (h4p 0)
 ·exact hk
theorem d9e {z:AV} {l:Nm} (hl:l≠ []) (hm:(l,true)∈s.labs) (nd:(s.labs.map (·.1)).Nodup) (hk:K .none (aJ s)):aH (n+2) nV [pv,.str l,z] (aJ s) K:=by
 refine en ?_
 conv=>whnf
 rw [h3u hl];exact yE hm nd hk
theorem d6w (h:aW s (kU (.brk none))) (ho:0<s.il+s.sw):RD (n+6) (.leaf (.brk none)) s:=λK hk=>
 bZ h.1 rfl rfl rfl (en (bP h.1 rfl (bY h.2.1 (c9 h.2.1 (c5u ho (gC hk))))))
theorem c5s (h:aW s (kU (.cont none))) (ho:0<s.il):RD (n+6) (.leaf (.cont none)) s:=λK hk=>
 bZ h.1 rfl rfl rfl (en (bP h.1 rfl (bY h.2.1 (c9 h.2.1 (d7z ho (gC hk))))))
theorem d8i {b:Bool} (h:aW s (kU (.brk (some x)))) (hl:x≠ []) (hm:(x,b)∈s.labs) (nd:(s.labs.map (·.1)).Nodup):RD (n+6) (.leaf (.brk (some x))) s:=λK hk=>by
 refine bZ h.1 rfl rfl rfl (en (bP h.1 rfl (bY h.2.1 (bY h.2.1 ?_))))
 conv=>whnf
 rw [a6w (s:=s.n) h.2.1];exact bP h.2.1 rfl (c9 h.2.2.1 (d1c hl hm nd (gC hk)))
theorem c7g (h:aW s (kU (.cont (some x)))) (hl:x≠ []) (hm:(x,true)∈s.labs) (nd:(s.labs.map (·.1)).Nodup):RD (n+6) (.leaf (.cont (some x))) s:=λK hk=>by
 refine bZ h.1 rfl rfl rfl (en (bP h.1 rfl (bY h.2.1 (bY h.2.1 ?_))))
 conv=>whnf
 rw [a6w (s:=s.n) h.2.1];exact bP h.2.1 rfl (c9 h.2.2.1 (d9e hl hm nd (gC hk)))
end
section
variable {s:PS} {q:P} {n m:Nat} {st:aB} {K:AV->aB->Prop} {t u:T} {x y:Nm} {v:Option Nm} {a b:Option Nm} {w c:Nat} {ds:List (Nm×Option Nm)} {f:First}
theorem f2q (hd:s.e<39) (hs:aW s (fC x)) (hn:c3 t) (h:RP (m+5) t s.n.n.n.n) (hq:Tk (s.to (eT t (s.i+4))) q) (he:oK q bB):RD (m+8) (.if1 x t) s:=λK hk=>
 bZ hs.1 rfl rfl rfl (en (bP hs.1 rfl (sS (s:=s.n) hd hs.2 (jQ h hn (lK (s:=s.to (eT t (s.i+4))) hq he (aR hk))))))
theorem d9l (hd:s.e<39) (hs:aW s (fC x)) (hn:c3 t) (h:RP (m+5) t s.n.n.n.n) (he:Tk (s.to (eT t (s.i+4))) (W bB)) (hn2:c3 u) (h2:RP (m+5) u (s.to (eT t (s.i+4)+1))):RD (m+8) (.if2 x t u) s:=λK hk=>
 bZ hs.1 rfl rfl rfl (en (bP hs.1 rfl (sS (s:=s.n) hd hs.2 (jQ h hn (j6 (s:=s.to (eT t (s.i+4))) he (jQ (s:=s.to (eT t (s.i+4)+1)) h2 hn2 (aR hk)))))))
theorem d0m (hd:s.e<39) (hs:aW s (pP (.wh x))) (hn:c3 t) (h:RP (m+4) t s.n.n.n.n.lp):RD (m+8) (.pre (.wh x) t) s:=λK hk=>
 bZ hs.1 rfl rfl rfl (en (bP hs.1 rfl (sS (s:=s.n) hd hs.2 (iG h hn (aR hk)))))
theorem f5z (hd:s.e<39) (hs:Tk s (W [100,111])) (hn:c3 t) (h:RP (m+4) t s.n.lp) (hc:aW (s.to (eT t (s.i+1))) [W [119,104,105,108,101],Sg 40,N x,Sg 41,Sg 59]):RD (m+8) (.doW t x) s:=λK hk=>
 bZ hs rfl rfl rfl (en (bP hs rfl (iG (s:=s.n) h hn (b2p (s:=s.to (eT t (s.i+1))) hc.1 (sS (s:=(s.to (eT t (s.i+1))).n) hd ⟨hc.2.1,hc.2.2.1,hc.2.2.2.1,h3m⟩ (hY (s:=(s.to (eT t (s.i+1))).n.n.n.n) hc.2.2.2.2.1 (aR hk)))))))
def kS (p:Pos):Option Nm->Nat->AV
 |none,_=>.none
 |some x,i=>eE x (p i)
theorem yI (hd:s.e<39) (h:aW s (i8 a)) (hc:Tk (s.to (gS a s.i)) (Sg c)) (hk:K (kS s.p a s.i) (aJ (s.to (gS a s.i)))):aH (n+6) a1p [pv,.str [c]] (aJ s) K:=by
 cases a with
 |none=>
  refine en (b9 hc ?_);rw [show(decide (Int.ofNat (Sg c).k=5)&&decide ((Sg c).s=[c]))=true by simp]
  exact hk
 |some x=>exact en (b9 h.1 (eW hd h.1 hk))
theorem pB (hd:s.e<39) (h:aW s (jH w y v ds)) (hb:bndOk y ds) (h2:Tk (s.to (fS ds (fJ v (s.i+1)))) q) (hq:Ndl q) (h44:noS q [44])
  (hk:K (fQ s.p w y v ds s.i).av (aJ (s.to (fS ds (fJ v (s.i+1)))))):aH (n+9) nT [pv] (aJ s) K:=by
 have hy:Tk s.n (N y):=by cases v<;>exact h.2.1
 rcases w with _|_|w
 ·exact en (b9 h.1 (bY (s:=s.no) h.1 (cL (s:=s.no) h.1 (pL (s:=s.no) (q:=N y) hy rfl rfl (bG (s:=s.no) h.1 (bG (s:=s.no) h.1 (cL (s:=s.no) h.1 (mA (s:=s.no) (w:=0) hd h hb h2 hq h44 hk))))))))
 ·exact en (b9 h.1 (bY (s:=s.no) h.1 (cL (s:=s.no) h.1 (bG (s:=s.no) h.1 (bG (s:=s.no) h.1 (mA (s:=s.no) (w:=1) hd h hb h2 hq h44 hk))))))
 ·exact en (b9 h.1 (bY (s:=s.no) h.1 (cL (s:=s.no) h.1 (bG (s:=s.no) h.1 (mA (s:=s.no) (w:=w+2) hd h hb h2 hq h44 hk)))))
end
section
variable {s:PS} {q:P} {n m:Nat} {st:aB} {K:AV->aB->Prop} {t u:T} {x y:Nm} {v:Option Nm} {a b:Option Nm} {w c:Nat} {ds:List (Nm×Option Nm)} {f:First}
def pV (p:Pos):First->Nat->AV
 | .no,_=>.none
 | .ex x,i=>bR (.int 43) (.str []) (.lst [eE x (p i)]) (.int 0) (.int (.ofNat (p i)))
 | .var w y v ds,i=>(fQ p w y v ds i).av
def a2s:First->Prop
 | .no=>True
 | .ex x=>gK x
 | .var w y v ds=>w<=2/\bndOk y ds/\nN w v ds
theorem c0f {p:Pos} {i:Nat} {r:Ks}:(sN p f i r).av=pV p f i::r.av:=by cases f<;>rfl
theorem jY {p:Pos} {i:Nat} {r:Ks}:(dC p a i r).av=kS p a i::r.av:=by cases a<;>rfl
theorem pS {p:Pos} {i:Nat} {m:Nd}:(sR p (.fr f a b) i m).av=bR (.int 47) (.str []) (.lst [pV p f (i+2),kS p a (iD f (i+2)+1),kS p b (gS a (iD f (i+2)+1)+1),m.av]) (.int 0) (.int (.ofNat (p i))):=by
 show bR (.int 47) (.str []) (.lst (sN p f (i+2) (dC p a (iD f (i+2)+1) (dC p b (gS a (iD f (i+2)+1)+1) (.con m .nil)))).av) (.int 0) (.int (.ofNat (p i)))=_
 rw [c0f,jY,jY];rfl
theorem d8s (hd:s.e<39) (hs:aW s (j3 f)) (hc:Tk (s.to (iD f s.i)) (Sg 59)) (hf:a2s f) (hk:K (pV s.p f s.i) (aJ (s.to (iD f s.i)))):aH (n+9) nT [pv] (aJ s) K:=by
 cases f with
 |no=>exact en (b9 hc hk)
 |ex x=>
  refine en (b9 hs.1 (bY (s:=s.no) hs.1 (cL (s:=s.no) hs.1 ?_)))
  conv=>whnf
  rw [show gK x from hf]
  refine bG (s:=s.no) hs.1 (bG (s:=s.no) hs.1 (cL (s:=s.no) hs.1 ?_))
  conv=>whnf
  rw [show gK x from hf]
  exact eW (s:=s.no) hd hs.1 (aR hk)
 |var w y v ds=>exact pB hd hs hf.2.1 hc ⟨rfl,rfl,rfl⟩ rfl hk
abbrev Pf (s:PS) (f:First):PS:=s.to (iD f (s.i+2))
abbrev Pa (s:PS) (f:First) (a:Option Nm):PS:=s.to (gS a (iD f (s.i+2)+1))
abbrev Pb (s:PS) (f:First) (a b:Option Nm):PS:=s.to (gS b (gS a (iD f (s.i+2)+1)+1))
theorem c5n {fv:AV} {z:Nat} (hd:s.e<39) (h3:Tk (Pf s f) (Sg 59)) (ha:aW (Pf s f).n (i8 a)) (h4:Tk (Pa s f a) (Sg 59)) (hb:aW (Pa s f a).n (i8 b)) (h5:Tk (Pb s f a b) (Sg 41)) (hn:c3 t) (h:RP (m+4) t (Pb s f a b).n.lp)
  (hk:K (bR (.int 47) (.str []) (.lst [fv,kS s.p a (iD f (s.i+2)+1),kS s.p b (gS a (iD f (s.i+2)+1)+1),(pl s.p t (gS b (gS a (iD f (s.i+2)+1)+1)+1)).av]) (.int 0) (.int (.ofNat z))) (aJ (s.to (eT t (gS b (gS a (iD f (s.i+2)+1)+1)+1))))):
  aZ TT (aO TT (aD fns) (m+6)) (dr 5 mO.body) [.val (.inst 34 []),.val pv,.val (.int (.ofNat z)),.val fv,.no,.no] (aJ (Pf s f)) (c4 K):=
 bS h3 (yI (s:=(Pf s f).n) hd ha h4 (bS (s:=Pa s f a) h4 (yI (s:=(Pa s f a).n) hd hb h5 (bS (s:=Pb s f a b) h5 (iG (s:=(Pb s f a b).n) h hn (aR hk))))))
theorem d9v (hd:s.e<39) (h1:Tk s (W [102,111,114])) (h2:Tk s.n (Sg 40)) (hf:aW s.n.n (j3 f)) (ho:a2s f) (h3:Tk (Pf s f) (Sg 59)) (ha:aW (Pf s f).n (i8 a)) (h4:Tk (Pa s f a) (Sg 59)) (hb:aW (Pa s f a).n (i8 b)) (h5:Tk (Pb s f a b) (Sg 41)) (hn:c3 t) (h:RP (m+7) t (Pb s f a b).n.lp):RD (m+11) (.pre (.fr f a b) t) s:=λK hk=>by
 have hk':=pS (f:=f) (a:=a) (b:=b)▸hk;refine bZ h1 rfl rfl rfl (en (bP h1 rfl (cL (s:=s.n) h2 (bS h2 (d8s (s:=s.n.n) hd hf h3 ho ?_)))));have fin:=c5n (m:=m+3) (fv:=pV s.p f (s.i+2)) (z:=s.p s.i) hd h3 ha h4 hb h5 hn h hk';cases f with
 |no=>exact cL (s:=Pf s .no) h3 (bG (s:=Pf s .no) h3 fin)
 |ex x=>exact cL (s:=Pf s (.ex x)) h3 (bG (s:=Pf s (.ex x)) h3 fin)
 |var w y v ds=>exact cL (s:=Pf s (.var w y v ds)) h3 (bG (s:=Pf s (.var w y v ds)) h3 (vW ho.2.2 fin))
end
section
variable {s:PS} {q:P} {n m:Nat} {st:aB} {K:AV->aB->Prop} {t u:T} {x y l:Nm} {v:Option Nm} {w:Nat}
noncomputable abbrev f8t (o:Bool):Int:=match o with|true=>48|false=>49
theorem yH {o:Bool} {j z:Nat} (hd:s.e<39) (hs:aW s [zN o,N x,Sg 41]) (hn:c3 t) (h:RP (m+4) t (s.to (s.i+3)).lp)
  (hk:K (bR (.int (f8t o)) (.str []) (.lst [(fQ s.p w y none [] j).av,eE x (s.p (s.i+1)),(pl s.p t (s.i+3)).av]) (.int 0) (.int (.ofNat z))) (aJ (s.to (eT t (s.i+3))))):aH (m+7) a1g [pv,(fQ s.p w y none [] j).av,.int (.ofNat z)] (aJ s) K:=by
 cases o with
 |true=>exact en (bG hs.1 (bP hs.1 rfl (jO (eW (s:=s.n) hd hs.2.1 (bS (s:=s.n.n) hs.2.2.1 (iG (s:=s.to (s.i+3)) h hn (aR hk)))))))
 |false=>exact en (bG hs.1 (bP hs.1 rfl (jO (eW (s:=s.n) hd hs.2.1 (bS (s:=s.n.n) hs.2.2.1 (iG (s:=s.to (s.i+3)) h hn (aR hk)))))))
theorem e0p (h:gK y):bndOk y []:=⟨h,(λ_ h=>nomatch h),by decide⟩
theorem d5j {o:Bool} (hd:s.e<39) (hs:aW s (pP (.each o w y x))) (hy:gK y) (hn:c3 t) (h:RP (m+6) t (s.to (s.i+7)).lp):RD (m+11) (.pre (.each o w y x) t) s:=λK hk=>by
 have hv:aW s.n.n (jH w y none []):=⟨hs.2.2.1,hs.2.2.2.1,h3m⟩;refine bZ hs.1 rfl rfl rfl (en (bP hs.1 rfl (cL (s:=s.n) hs.2.1 (bS (s:=s.n) hs.2.1 ?_))));cases o with
 |true=>
  refine pB (s:=s.n.n) (q:=zN true) hd hv (e0p hy) hs.2.2.2.2.1 ⟨rfl,rfl,rfl⟩ rfl ?_;refine cL (s:=s.to (s.i+4)) (q:=zN true) hs.2.2.2.2.1 ?_;refine yH (o:=true) (s:=s.to (s.i+4)) (y:=y) (w:=w) (j:=s.i+2) (z:=s.p s.i) hd hs.2.2.2.2 hn h ?_;exact hk
 |false=>
  refine pB (s:=s.n.n) (q:=zN false) hd hv (e0p hy) hs.2.2.2.2.1 ⟨rfl,rfl,rfl⟩ rfl ?_;refine cL (s:=s.to (s.i+4)) (q:=zN false) hs.2.2.2.2.1 ?_;refine bG (s:=s.to (s.i+4)) (q:=zN false) hs.2.2.2.2.1 ?_;refine yH (o:=false) (s:=s.to (s.i+4)) (y:=y) (w:=w) (j:=s.i+2) (z:=s.p s.i) hd hs.2.2.2.2 hn h ?_;exact hk
end
noncomputable def a2u:T->Nat
 | .pre (.lab _) t=>a2u t+1
 |_=>0
def lwB (q:P):Bool:=decide (Int.ofNat q.k=2)&&(decide ([119,104,105,108,101]=q.s)||(decide ([100,111]=q.s)||(decide ([102,111,114]=q.s)||false)))
def c7v (l:List P) (b:Bool):Bool:=match l with
 |[]=>false
 |q::r=>match decide (Int.ofNat q.k=1)with
  |true=>(match r with
   |[]=>false
   |z::_=> !b&& !(decide (Int.ofNat z.k=5)&&decide (z.s=[58])))
  |false=>(match b with|true=>lwB q|false=> !lwB q)
theorem f4u:∀t:T,a2u t=0->c7v (tk t) (bK t)=true
 | .leaf (.expr x),_=>rfl
 | .leaf .empty,_=>rfl
 | .leaf (.var 0 y none ds),_=>rfl
 | .leaf (.var 0 y (some v) ds),_=>rfl
 | .leaf (.var 1 y v ds),_=>rfl
 | .leaf (.var (w+2) y v ds),_=>rfl
 | .leaf (.ret x),_=>rfl
 | .leaf (.throw x),_=>rfl
 | .leaf (.brk l),_=>rfl
 | .leaf (.cont l),_=>rfl
 | .pre (.wh x) t,_=>rfl
 | .pre (.fr f a b) t,_=>rfl
 | .pre (.each o w y x) t,_=>rfl
 | .doW t x,_=>rfl
 | .if1 x t,_=>rfl
 | .if2 x t e,_=>rfl
 | .block ts,_=>rfl
 | .switch x cs,_=>rfl
 | .tryT b c cb f fb,_=>rfl
theorem c4g {N:Nat} {u:T} (h:a2u u=N+1):∃l v,u=.pre (.lab l) v/\a2u v=N:=by
 rcases u with _|⟨h',v⟩|_|_|_|_|_|_
 case pre=>
  rcases h' with _|_|_|l
  case lab=>exact⟨l,v,rfl,Nat.succ.inj h⟩
  all_goals exact absurd h.symm (Nat.succ_ne_zero N)
 all_goals exact absurd h.symm (Nat.succ_ne_zero N)
section
variable {s:PS} {q:P} {n m j:Nat} {st:aB} {K:AV->aB->Prop} {t u:T} {x y l:Nm} {v:Option Nm} {w:Nat}
theorem b4m {b:Bool} (h:Tk (s.to (s.i+j)) q) (hb:lwB q=b) (hk:K (.int (kM b)) (aJ s)):aZ TT (aO TT (aD fns) (n+1)) (dr 2 iK.body) [.val pv,.val (.int (.ofNat j)),.no] (aJ s) (c4 K):=by
 refine iR h ?_;subst hb;unfold lwB at hk
 conv=>whnf
 cases hd:decide (Int.ofNat q.k=2)<;>rw [hd]at hk
 ·exact hk
 ·conv=>whnf
  cases he:(decide ([119,104,105,108,101]=q.s)||(decide ([100,111]=q.s)||(decide ([102,111,114]=q.s)||false)))<;>rw [he]at hk<;>exact hk
theorem d8y (h:decide (Int.ofNat q.k=1)=true):lwB q=false:=by
 have h:=h3t h;unfold lwB;rw [h];rfl
theorem d6s {b:Bool}:∀{l:List P},c7v l b=true->aW (s.to (s.i+j)) l->K (.int (kM b)) (aJ s)->Wl (n+1) (dr 1 iK.body) (c4 K) 1 [.val pv,.val (.int (.ofNat j)),.no] (aJ s)
 |[],h,_,_=>nomatch h
 |q::r,h,hs,hk=>by
  refine iR hs.1 ?_;unfold c7v at h;dsimp only at h
  conv=>whnf
  cases e:decide (Int.ofNat q.k=1)<;>rw [e]at h
  ·exact b4m hs.1 (by cases b;exact Bool.not_eq_true' _▸h;exact h) hk
  ·cases r with
   |nil=>exact nomatch h
   |cons z r=>
    have h:=(h4l _ _▸h:_/\_);refine iR (j:=j+1) hs.2.1 (cY (s:=s.to (s.i+(j+1))) (j:=5) ?_);rw [show(decide (Int.ofNat z.k=Int.ofNat 5)&&decide (z.s=[58]))=false from Bool.not_eq_true' _▸h.2]
    exact b4m hs.1 ((d8y e).trans (Bool.not_eq_true' _▸h.1:b=false).symm) hk
theorem c9h (hk:K (.int (kM (bK t))) (aJ s)):∀{N:Nat} {u:T} {j:Nat},a2u u=N->bK u=bK t->aW (s.to (s.i+j)) (tk u)->
  Wl (n+1) (dr 1 iK.body) (c4 K) (N+1) [.val pv,.val (.int (.ofNat j)),.no] (aJ s):=by
 intro N
 induction N with
 |zero=>exact λhN hl hs=>d6s (hl▸f4u _ hN) hs hk
 |succ N ih=>
  intro u j hN hl hs;obtain⟨l,u,rfl,h⟩:=c4g hN;exact iR hs.1 (iR (j:=j+1) hs.2.1 (cY (s:=s.to (s.i+(j+1))) (j:=5) (ih (u:=u) (j:=j+2) h hl hs.2.2)))
theorem a6n (hs:aW s (tk t)) (hk:K (.int (kM (bK t))) (aJ s)):aH (n+2) a6b [pv] (aJ s) K:=en ⟨a2u t+1,c9h (n:=n) (K:=K) (t:=t) (u:=t) (j:=0) hk rfl rfl hs⟩
theorem t9 {L:b5} {b:Bool}:gO (L++[(l,b)])=gO L++[.tup [.str l,.int (kM b)]]:=List.map_append
theorem a6g (hs:aW s (pP (.lab l))) (hnot:∀d∈s.labs,d.1≠l) (hlen:s.labs.length<=1000000) (hn:c3 t) (ht:aW s.n.n (tk t)) (h:RP (m+3) t (s.n.n.lab l (bK t))) (hk:K (pl s.p (.pre (.lab l) t) s.i).av (aJ (s.to (eT t (s.i+2))))):aH (m+5) tH [.inst 38 [],pv] (aJ s) K:=by
 refine en (bP hs.1 rfl (bP (s:=s.n) hs.2.1 rfl (b8j (s:=s.n.n) hnot (a6n ht ⟨by rw [gO,h4j];exact hlen,?_⟩))))
 have e:bW (aJ s.n.n) 6 (some (.list (gO s.n.n.labs++[.tup [.str (N l).s,.int (kM (bK t))]])))=aJ (s.n.n.lab l (bK t)):=by
  show _=b8o s.A (s.i+1+1) (s.e+1) s.ai s.il s.sw (gO (s.labs++[(l,bK t)])) eM s.rs
  rw [t9];rfl
 rw [e];refine jQ h hn ?_
 conv=>whnf
 rw [show aD (gO ((s.n.n.lab l (bK t)).to (eT t (s.n.n.lab l (bK t)).i)).labs).reverse 0=some (.tup [.str l,.int (kM (bK t))]) by show aD (gO (s.labs++[(l,bK t)])).reverse 0=_;rw [t9,List.reverse_append];rfl]
 conv=>whnf
 rw [show(gO ((s.n.n.lab l (bK t)).to (eT t (s.n.n.lab l (bK t)).i)).labs).dropLast=gO s.labs by show(gO (s.labs++[(l,bK t)])).dropLast=_;rw [t9,List.dropLast_concat]]
 exact aR hk
theorem e9y (hs:aW s (pP (.lab l))) (hpl:jZ l) (hnot:∀d∈s.labs,d.1≠l) (hlen:s.labs.length<=1000000) (hn:c3 t) (ht:aW s.n.n (tk t)) (h:RP (m+3) t (s.n.n.lab l (bK t))):RD (m+6) (.pre (.lab l) t) s:=λK hk=>by
 refine en (bY hs.1 ?_)
 conv=>whnf
 rw [a7t hpl];exact iR (j:=1) hs.2.1 (cY (s:=s.n) (q:=Sg 58) (j:=5) (a6g hs hnot hlen hn ht h hk))
end
inductive RA (m:Nat):Ts->PS->Prop
 |nil {s}:RA m .nil s
 |cons {t ts s q}:Tk s q->startOk q->RP m t s->RA m ts (s.to (eT t s.i))->RA m (.cons t ts) s
section
variable {s:PS} {q:P} {n m j:Nat} {st:aB} {K:AV->aB->Prop} {t u:T} {x y l:Nm} {v:Option Nm} {w:Nat} {ts:Ts}
theorem b1j (h:0<q.k):decide (Int.ofNat q.k=0)=false:=h3u λe=>absurd (Int.ofNat.inj e) (Nat.ne_of_gt h)
theorem c3i (h:RA (m+2) ts s):∀{acc:List AV},acc.length+cU ts<=1000000->Tk (s.to (c7 ts s.i)) (Sg 125)->(∀l,l=acc++(aX s.p ts s.i).av->aZ TT (aO TT (aD fns) (m+2)) (dr 3 oU.body) [.val pv,.own l] (aJ (s.to (c7 ts s.i))) (c4 K))->
  Wl (m+2) (dr 2 oU.body) (c4 K) (cU ts+1) [.val pv,.own acc] (aJ s):=by
 induction h with
 |nil=>exact λha h2 hk=>b9 (q:=Sg 125) h2 (hk _ (h3q _).symm)
 |cons hq so ht hr ih=>
  intro acc ha h2 hk;refine b9 hq ?_;rw [so.brace];refine bY hq ?_
  conv=>whnf
  rw [b1j so.pos];exact ht ⟨fR ha,ih (dI ha) h2 λl e=>hk l (e.trans (h3p ..))⟩
theorem b2n (h1:Tk s (Sg 123)) (h:RA (m+3) ts s.n) (hc:cU ts<=1000000) (h2:Tk (s.to (c7 ts (s.i+1))) (Sg 125)) (hk:K (.lst (aX s.p ts (s.i+1)).av) (aJ (s.to (c7 ts (s.i+1)+1)))):aH (m+4) b2g [pv] (aJ s) K:=
 en (bS h1 ⟨cU ts+1,c3i (m:=m+1) (K:=K) h (acc:=[]) (by rw [h4k,h4c];exact hc) h2 λl e=>bS (s:=s.to (c7 ts (s.i+1))) h2 (e▸hk)⟩)
def RB (m:Nat) (ts:Ts) (s:PS):Prop:=∀ ⦃K:AV->aB->Prop⦄,K (Nd.mk 59 [] (aX s.p ts (s.i+1)) (s.p s.i)).av (aJ (s.to (c7 ts (s.i+1)+1)))->aH m gA [pv,.int 4] (aJ s) K
theorem b2z (h1:Tk s (Sg 123)) (h:RA (m+3) ts s.n) (hc:cU ts<=1000000) (h2:Tk (s.to (c7 ts (s.i+1))) (Sg 125)) (hk:K (Nd.mk 59 [] (aX s.p ts (s.i+1)) (s.p s.i)).av (aJ (s.to (c7 ts (s.i+1)+1)))):aH (m+5) vL [.inst 28 [],pv] (aJ s) K:=
 en (bY h1 (b2n h1 h hc h2 (aR hk)))
theorem c4d (h1:Tk s (Sg 123)) (h:RA (m+3) ts s.ap.n) (hc:cU ts<=1000000) (h2:Tk (s.to (c7 ts (s.i+1))) (Sg 125)) (hk:K (Nd.mk 59 [] (aX s.p ts (s.i+1)) (s.p s.i)).av (aJ (s.to (c7 ts (s.i+1)+1)).dn)):aH (m+6) mP [pv,.inst 28 []] (aJ s.dn) K:=
 en (b2z (s:=s.ap) h1 h hc h2 hk)
theorem RA.block (h1:Tk s (Sg 123)) (h:RA (m+3) ts s.ap.n) (hd:s.e<39) (hc:cU ts<=1000000) (h2:Tk (s.to (c7 ts (s.i+1))) (Sg 125)):RB (m+7) ts s:=λK hk=>
 en (yF hd (c4d h1 h hc h2 (b7z (s:=s.to (c7 ts (s.i+1)+1)) hk)))
theorem d2e (h1:Tk s (Sg 123)) (h:RB (m+2) ts s):RD (m+3) (.block ts) s:=λK hk=>en (bY h1 (b9 h1 (h hk)))
def eC (x:Option Nm) (ts:Ts) (i:Nat):Nat:=c7 ts (i+c8 x+1)+1
theorem b4n (hd:s.e<39) (hc:aW s (eR v)) (h:RB (m+5) ts (s.to (s.i+c8 v))) (hk:K (Nd.mk 58 [] (dC s.p v (s.i+2) (.con (.mk 59 [] (aX s.p ts (s.i+c8 v+1)) (s.p (s.i+c8 v))) .nil)) (s.p s.i)).av (aJ (s.to (eC v ts s.i)))) (hb:Tk (s.to (s.i+c8 v)) (Sg 123)):aH (m+6) b1k [pv] (aJ s) K:=by
 cases v with
 |none=>exact en (bP hc.1 rfl (eO (s:=s.n) hb rfl (h (aR hk))))
 |some x=>exact en (bP hc.1 rfl (hY (s:=s.n) hc.2.1 (bY (s:=s.n.n) hc.2.2.1 (b9 (s:=s.n.n) hc.2.2.1 (b9 (s:=s.n.n) hc.2.2.1 (wA (s:=s.n.n) hc.2.2.1 (gC (b9 (s:=s.n.n.n) hc.2.2.2.1 (bS (s:=s.n.n.n) hc.2.2.2.1 (h (aR hk)))))))))))
end
section
variable {s:PS} {q:P} {n m j:Nat} {st:aB} {K:AV->aB->Prop} {b cb fb:Ts} {v:Option Nm}
noncomputable abbrev c5r:Nm:=[116,114,121]
theorem c9k (h1:Tk s (W c5r)) (hb:RB (m+3) b s.n) (h2:Tk (s.to (cG b s.i)) (W fW)) (hf:RB (m+3) fb (s.to (cG b s.i+1))):RD (m+5) (.tryT b none cb true fb) s:=λK hk=>
 bZ h1 rfl rfl rfl (en (bP h1 rfl (hb (bG (s:=s.to (cG b s.i)) h2 (j6 (s:=s.to (cG b s.i)) h2 (hf (aR hk)))))))
theorem d2s (hd:s.e<39) (h1:Tk s (W c5r)) (hb:RB (m+6) b s.n) (hc:aW (s.to (cG b s.i)) (eR v)) (h:RB (m+5) cb (s.to (cG b s.i+c8 v))) (ho:Tk (s.to (cG b s.i+c8 v)) (Sg 123)) (h2:Tk (s.to (jK b (some v) cb s.i)) q) (hq:oK q fW):RD (m+8) (.tryT b (some v) cb false fb) s:=λK hk=>by
 have h3:Tk (s.to (cG b s.i)) (W lE):=by cases v<;>exact hc.1
 exact bZ h1 rfl rfl rfl (en (bP h1 rfl (hb (bG (s:=s.to (cG b s.i)) h3 (b4n (s:=s.to (cG b s.i)) hd hc h (lK (s:=s.to (jK b (some v) cb s.i)) h2 hq (aR hk)) ho)))))
theorem c3e (hd:s.e<39) (h1:Tk s (W c5r)) (hb:RB (m+6) b s.n) (hc:aW (s.to (cG b s.i)) (eR v)) (h:RB (m+5) cb (s.to (cG b s.i+c8 v))) (ho:Tk (s.to (cG b s.i+c8 v)) (Sg 123)) (h2:Tk (s.to (jK b (some v) cb s.i)) (W fW)) (hf:RB (m+6) fb (s.to (jK b (some v) cb s.i+1))):RD (m+8) (.tryT b (some v) cb true fb) s:=λK hk=>by
 have h3:Tk (s.to (cG b s.i)) (W lE):=by cases v<;>exact hc.1
 exact bZ h1 rfl rfl rfl (en (bP h1 rfl (hb (bG (s:=s.to (cG b s.i)) h3 (b4n (s:=s.to (cG b s.i)) hd hc h (j6 (s:=s.to (jK b (some v) cb s.i)) h2 (hf (aR hk))) ho)))))
end
section
variable {s:PS} {q:P} {n m j:Nat} {st:aB} {K:AV->aB->Prop} {ts:Ts} {x:Nm} {c:Option Nm} {cs:Cs}
def xR (q:P):Prop:=q=Sg 125\/q=W a1u\/q=W nK
theorem b7b (h:Tk s q) (he:xR q) (hk:K (.bool true) (aJ s)):aH (n+3) wD [pv] (aJ s) K:=by
 rcases he with rfl|rfl|rfl
 ·exact en (b9 h hk)
 ·exact en (b9 h (bY h (bG h hk)))
 ·exact en (b9 h (bY h (bG h (bG h hk))))
theorem c0y (h:Tk s q) (so:startOk q) (hk:K (.bool false) (aJ s)):aH (n+3) wD [pv] (aJ s) K:=by
 refine en (b9 h ?_);rw [so.brace];refine bY h ?_
 conv=>whnf
 rw [b1j so.pos];refine bG h ?_;rw [so.cas];refine bG h ?_;rw [so.dfl];exact hk
theorem a5o {a b:AV} (h:RA (m+3) ts s):∀{acc:List AV},acc.length+cU ts<=1000000->Tk (s.to (c7 ts s.i)) q->xR q->(∀l,l=acc++(aX s.p ts s.i).av->aZ TT (aO TT (aD fns) (m+3)) (dr 6 oR.body) [.val pv,.val a,.val b,.own l] (aJ (s.to (c7 ts s.i))) (c4 K))->
  Wl (m+3) (dr 5 oR.body) (c4 K) (cU ts+1) [.val pv,.val a,.val b,.own acc] (aJ s):=by
 induction h with
 |nil=>exact λha h2 he hk=>b7b h2 he (hk _ (h3q _).symm)
 |cons hq so ht hr ih=>
  intro acc ha h2 he hk;exact c0y hq so (ht ⟨fR ha,ih (dI ha) h2 he λl e=>hk l (e.trans (h3p ..))⟩)
def RCs (m:Nat) (c:Option Nm) (b:Ts) (s:PS):Prop:=∀ ⦃K:AV->aB->Prop⦄,K (Nd.mk 51 [] (dC s.p c (s.i+1) (aX s.p b (lX c s.i))) (s.p s.i)).av (aJ (s.to (c7 b (lX c s.i))))->aH m b2w [pv] (aJ s) K
theorem c2q (hd:s.e<39) (hc:aW s (jG (some x))) (h:RA (m+5) ts (s.to (s.i+3))) (ha:1+cU ts<=1000000) (h2:Tk (s.to (c7 ts (s.i+3))) q) (he:xR q):RCs (m+6) (some x) ts s:=λK hk=>
 en (bY hc.1 (j6 hc.1 (eW (s:=s.n) hd hc.2.1 (bS (s:=s.n.n) hc.2.2.1 ⟨cU ts+1,a5o (m:=m+2) (K:=K) h (acc:=[eE x (s.p (s.i+1))]) ha h2 he λl e=>aR (e▸hk)⟩))))
theorem c4b (hc:aW s (jG none)) (h:RA (m+5) ts (s.to (s.i+2))) (ha:1+cU ts<=1000000) (h2:Tk (s.to (c7 ts (s.i+2))) q) (he:xR q):RCs (m+6) none ts s:=λK hk=>
 en (bY hc.1 (lK hc.1 rfl (j6 hc.1 (bS (s:=s.n) hc.2.1 ⟨cU ts+1,a5o (m:=m+2) (K:=K) h (acc:=[.none]) ha h2 he λl e=>aR (e▸hk)⟩))))
end
inductive RS (m:Nat):Cs->Bool->PS->Prop
 |nil {b s}:RS m .nil b s
 |some {x ts cs b s}:Tk s (W a1u)->RCs m (some x) ts s->RS m cs b (s.to (c7 ts (s.i+3)))->RS m (.cons (some x) ts cs) b s
 |none {ts cs s}:Tk s (W nK)->RCs m none ts s->RS m cs true (s.to (c7 ts (s.i+2)))->RS m (.cons none ts cs) false s
section
variable {s:PS} {q:P} {n m j:Nat} {st:aB} {K:AV->aB->Prop} {ts:Ts} {x:Nm} {c:Option Nm} {cs:Cs}
theorem d7d {a:AV} {b:Bool} (h:RS (m+2) cs b s):∀{acc:List AV} {sl:Slot},acc.length+mW cs<=1000000->Tk (s.to (sE cs s.i)) (Sg 125)->(∀l b sl,l=acc++(jS s.p cs s.i).av->aZ TT (aO TT (aD fns) (m+2)) (dr 6 eL.body) [.val (.inst 35 []),.val pv,.val a,.own l,.val (.bool b),sl] (aJ (s.to (sE cs s.i))) (c4 K))->
  Wl (m+2) (dr 5 eL.body) (c4 K) (mW cs+1) [.val (.inst 35 []),.val pv,.val a,.own acc,.val (.bool b),sl] (aJ s):=by
 induction h with
 |nil=>exact λha h2 hk=>b9 (q:=Sg 125) h2 (hk _ _ _ (h3q _).symm)
 |some hq hc hr ih=>
  intro acc sl ha h2 hk;exact b9 hq (hc ⟨fR ha,ih (dI ha) h2 λl b sl e=>hk l b sl (e.trans (h3p ..))⟩)
 |none hq hc hr ih=>
  intro acc sl ha h2 hk;exact b9 hq (hc ⟨fR ha,ih (dI ha) h2 λl b sl e=>hk l b sl (e.trans (h3p ..))⟩)
theorem e4h {a:AV} {l:List AV} {b:Bool} {sl:Slot} (h:Tk s (Sg 125)) (hk:K (bR (.int 50) (.str []) (.lst l) (.int 0) a) (aJ s.n)):aZ TT (aO TT (aD fns) (n+2)) (dr 6 eL.body) [.val (.inst 35 []),.val pv,.val a,.own l,.val (.bool b),sl] (aJ s.sg) (c4 K):=by
 conv=>whnf
 rw [show Int.ofNat s.sg.sw - 1=Int.ofNat s.sw from bX _]
 exact bP h rfl (aR hk)
theorem c3d (hd:s.e<39) (hs:aW s [W [115,119,105,116,99,104],Sg 40,N x,Sg 41,Sg 123]) (h:RS (m+6) cs false (s.to (s.i+5)).sg) (ha:1+mW cs<=1000000) (h2:Tk (s.to (sE cs (s.i+5))) (Sg 125)):RD (m+8) (.switch x cs) s:=λK hk=>
 bZ hs.1 rfl rfl rfl (en (bP hs.1 rfl (sS (s:=s.n) hd ⟨hs.2.1,hs.2.2.1,hs.2.2.2.1,h3m⟩ (bS (s:=s.to (s.i+4)) hs.2.2.2.2.1 ⟨mW cs+1,d7d (m:=m+4) (K:=K) (s:=(s.to (s.i+5)).sg) h (acc:=[eE x (s.p (s.i+2))]) ha h2 λl b sl e=>e4h (s:=s.to (sE cs (s.i+5))) h2 (e▸hk)⟩))))
end
theorem c1w {y:Nm} {v:Option Nm} {i:Nat}:fJ v i=i+(jR y v).length:=by cases v<;>rfl
theorem b0q {v:Option Nm} {i:Nat}:gS v i=i+(i8 v).length:=by cases v<;>rfl
theorem a1h {v:Option Nm} {i:Nat}:lX v i=i+(jG v).length:=by cases v<;>rfl
theorem f5 {a b:List P} {i:Nat}:i+(a++b).length=i+a.length+b.length:=by rw [h3o,h4d]
theorem eU {a:P} {b:List P} {i:Nat}:i+(a::b).length=i+1+b.length:=by rw [List.length_cons,h4d,h4e 1]
theorem b4w:∀{ds:List (Nm×Option Nm)} {i:Nat},fS ds i=i+(l8 ds).length
 |[],_=>rfl
 |(y,v)::ds,i=>by
  show fS ds (fJ v (i+1))=i+(Sg 44::(jR y v++l8 ds)).length
  rw [b4w,c1w (y:=y),eU,f5]
theorem b1d {w:Nat} {y:Nm} {v:Option Nm} {ds:List (Nm×Option Nm)} {i:Nat}:fS ds (fJ v (i+1))=i+(jH w y v ds).length:=by
 rw [b4w,c1w (y:=y),jH,eU,f5]
theorem c0g {f:First} {i:Nat}:iD f i=i+(j3 f).length:=by
 cases f with
 |var w y v ds=>exact b1d
 |_=>rfl
theorem a7g {l:Leaf} {i:Nat}:enL l i=i+(kU l).length:=by
 cases l with
 |var w y v ds=>show fS ds (fJ v (i+1))+1=i+(jH w y v ds++[Sg 59]).length;rw [b1d (w:=w) (y:=y),f5];rfl
 |ret x=>cases x<;>rfl
 |brk x=>cases x<;>rfl
 |cont x=>cases x<;>rfl
 |_=>rfl
theorem b1r {h:Hd} {i:Nat}:nW h i=i+(pP h).length:=by
 cases h with
 |fr f a b=>
  show gS b (gS a (iD f (i+2)+1)+1)+1=i+(W [102,111,114]::Sg 40::(j3 f++Sg 59::(i8 a++Sg 59::(i8 b++[Sg 41])))).length
  rw [b0q,b0q,c0g,eU,eU,f5,eU,f5,eU,f5];rfl
 |_=>rfl
abbrev LT (t:T):Prop:=∀i,eT t i=i+(tk t).length
abbrev LS (t:Ts):Prop:=∀i,c7 t i=i+(tks t).length
abbrev LC (t:Cs):Prop:=∀i,sE t i=i+(oJ t).length
theorem c2t {x:Option Nm} {i:Nat}:i+c8 x=i+(eR x).length:=by cases x<;>rfl
theorem c2i {b:Ts} (h:LS b) {i:Nat}:c7 b (i+1)+1=i+(Sg 123::(tks b++[Sg 125])).length:=by rw [h,eU,f5];rfl
theorem a3w {x:Option Nm} {cb:Ts} (h:LS cb) {i:Nat}:c7 cb (i+c8 x+1)+1=i+(eR x++Sg 123::(tks cb++[Sg 125])).length:=by rw [c2i h,f5,c2t]
theorem a7l {b:Ts} {c:Option (Option Nm)} {cb:Ts} {f:Bool} {fb:Ts} (hb:LS b) (hc:LS cb) (hf:LS fb):LT (.tryT b c cb f fb):=λi=>by
 have h0:∀r:List P,c7 b (i+2)+1+r.length=i+(W [116,114,121]::Sg 123::(tks b++Sg 125::r)).length:=λr=>by rw [hb,eU,eU,f5,eU]
 have h2:∀j,c7 fb (j+2)+1=j+(W [102,105,110,97,108,108,121]::Sg 123::(tks fb++[Sg 125])).length:=λj=>by rw [eU,<-c2i hf]
 cases c with
 |none=>cases f with
  |false=>exact h0 []
  |true=>exact(h2 _).trans (h0 _)
 |some x=>cases f with
  |false=>exact(a3w hc).trans ((h3s (_+ ·) (h3s List.length (h3q _).symm)).trans (h0 _))
  |true=>exact(h2 _).trans ((h3s (· +_) (a3w hc)).trans (f5.symm.trans (h0 _)))
theorem lB:(∀t,LT t)/\(∀t,LS t)/\∀t,LC t:=by
 have h1:∀h t,LT t->LT (.pre h t):=λh t k i=>by show eT t (nW h i)=i+(pP h++tk t).length;rw [k,b1r,f5]
 have h2:∀t x,LT t->LT (.doW t x):=λt x k i=>by show eT t (i+1)+5=i+(W [100,111]::(tk t++_)).length;rw [k,eU,f5];rfl
 have h3:∀x t,LT t->LT (.if1 x t):=λx t k i=>by show eT t (i+4)=i+(fC x++tk t).length;rw [k,f5];rfl
 have h4:∀x t u,LT t->LT u->LT (.if2 x t u):=λx t u k k' i=>by show eT u (eT t (i+4)+1)=i+(fC x++(tk t++W [101,108,115,101]::tk u)).length;rw [k',k,f5,f5,eU];rfl
 have h5:∀t,LS t->LT (.block t):=λt k i=>by show c7 t (i+1)+1=i+(Sg 123::(tks t++[Sg 125])).length;rw [k,eU,f5];rfl
 have h6:∀x t,LC t->LT (.switch x t):=λx t k i=>by show sE t (i+5)+1=i+(_::Sg 40::N x::Sg 41::Sg 123::(oJ t++[Sg 125])).length;rw [k,eU,eU,eU,eU,eU,f5];rfl
 have h7:∀t ts,LT t->LS ts->LS (.cons t ts):=λt ts k k' i=>by show c7 ts (eT t i)=i+(tk t++tks ts).length;rw [k',k,f5]
 have h8:∀x t ts,LS t->LC ts->LC (.cons x t ts):=λx t ts k k' i=>by show sE ts (c7 t (lX x i))=i+(jG x++(tks t++oJ ts)).length;rw [k',k,a1h,f5,f5]
 exact⟨@T.rec LT LS LC (λ_ _=>a7g) h1 h2 h3 h4 h5 h6 (λ_ _ _ _ _=>a7l) (λ_=>rfl) h7 (λ_=>rfl) h8,
  @Ts.rec LT LS LC (λ_ _=>a7g) h1 h2 h3 h4 h5 h6 (λ_ _ _ _ _=>a7l) (λ_=>rfl) h7 (λ_=>rfl) h8,
  @Cs.rec LT LS LC (λ_ _=>a7g) h1 h2 h3 h4 h5 h6 (λ_ _ _ _ _=>a7l) (λ_=>rfl) h7 (λ_=>rfl) h8⟩
theorem b6b {s:PS} {t:T} {l:List P} (h:aW s (tk t++l)):aW s (tk t)/\aW (s.to (eT t s.i)) l:=by rw [lB.1];exact aW.append h
theorem v4 {s:PS} {t:Ts} {l:List P} (h:aW s (tks t++l)):aW s (tks t)/\aW (s.to (c7 t s.i)) l:=by rw [lB.2.1];exact aW.append h
theorem g4w {s:PS} {t:Cs} {l:List P} (h:aW s (oJ t++l)):aW s (oJ t)/\aW (s.to (sE t s.i)) l:=by rw [lB.2.2];exact aW.append h
theorem g6e {s:PS} {f:First} {l:List P} (h:aW s (j3 f++l)):aW s (j3 f)/\aW (s.to (iD f s.i)) l:=by rw [c0g];exact aW.append h
theorem f1c {s:PS} {v:Option Nm} {l:List P} (h:aW s (i8 v++l)):aW s (i8 v)/\aW (s.to (gS v s.i)) l:=by rw [b0q];exact aW.append h
theorem g0o {s:PS} {v:Option Nm} {l:List P} (h:aW s (jG v++l)):aW s (jG v)/\aW (s.to (lX v s.i)) l:=by rw [a1h];exact aW.append h
theorem h3b {s:PS} {v:Hd} {l:List P} (h:aW s (pP v++l)):aW s (pP v)/\aW (s.to (nW v s.i)) l:=by rw [b1r];exact aW.append h
theorem g4j {s:PS} {w:Nat} {y:Nm} {v:Option Nm} {ds:List (Nm×Option Nm)} {l:List P} (h:aW s (jH w y v ds++l)):aW s (jH w y v ds)/\aW (s.to (fS ds (fJ v (s.i+1)))) l:=by rw [b1d (w:=w) (y:=y)];exact aW.append h
structure Fa (q:P):Prop where
 f:oK q fW
 c:oK q lE
 e:oK q bB
theorem Fa.fol {q:P} (h:Fa q) (t:T):fol t q:=⟨h.f,h.c,λ_=>h.e⟩
structure Cond (t:T) (s:PS) (d:Nat) (q:P):Prop where
 lv:dT t<=d
 dep:s.e+2*d<=38
 ok:ok t s.il s.sw s.labs
 nd:(s.labs.map (·.1)++fI t).Nodup
 nr:pO t
 sg:aW s (tk t)
 nx:Tk (s.to (eT t s.i)) q
 fo:fol t q
 lb:s.labs.length<=s.e+1
structure CondS (t:Ts) (s:PS) (d:Nat) (q:P):Prop where
 lv:b3 t<=d
 dep:s.e+1+2*d<=38
 ok:i4 t s.il s.sw s.labs
 nd:(s.labs.map (·.1)++i9 t).Nodup
 nr:nQ t
 sg:aW s (tks t)
 nx:Tk (s.to (c7 t s.i)) q
 fo:Fa q
 lb:s.labs.length<=s.e+2
structure CondC (t:Cs) (s:PS) (d:Nat) (b:Bool):Prop where
 lv:j2 t<=d
 dep:s.e+1+2*d<=38
 ok:qD t s.il s.sw s.labs
 df:defaults t+b.toNat<=1
 nd:(s.labs.map (·.1)++xY t).Nodup
 nr:a9m t
 sg:aW s (oJ t)
 nx:Tk (s.to (sE t s.i)) (Sg 125)
 lb:s.labs.length<=s.e+2
theorem zX {e d:Nat} (h:e+2*(d+1)<=38):e+1+2*d<=38:=by omega
theorem iZ {e d:Nat} (h:e+2*d<=38):e<39:=by omega
theorem dp3 {e d:Nat} (h:e+1+2*d<=38):e<39:=by omega
theorem dp4 {e d:Nat} (h:e+2*(d+1)<=38):e+1+1+2*d<=38:=by omega
theorem sC {d n j k:Nat} (h:j+k=10):10*d+(n+j)+(k+16)=10*(d+1)+n+16:=by omega
theorem RD.cast {a b:Nat} {t:T} {s:PS} (e:a=b) (h:RD a t s):RD b t s:=e▸h
theorem nd1 {α:Type} {a b c:List α} (h:(a++(b++c)).Nodup):(a++b).Nodup:=h.sublist (List.Sublist.append_left (List.sublist_append_left _ _) _)
theorem nd2 {α:Type} {a b c:List α} (h:(a++(b++c)).Nodup):(a++c).Nodup:=h.sublist (List.Sublist.append_left (List.sublist_append_right _ _) _)
theorem nd0 {α:Type} {a b:List α} (h:(a++b).Nodup):a.Nodup:=h.sublist (List.sublist_append_left _ _)
abbrev MT (t:T):Prop:=∀{s d q},Cond t s d q->∀n,RD (10*d+n+16) t s
abbrev zJ (t:Ts):Prop:=∀{s d q},CondS t s d q->∀n,RA (10*d+n+19) t s
abbrev MCs (t:Cs):Prop:=∀{s d b},CondC t s d b->∀n,RS (10*d+n+20) t b s
theorem d7k (l:Leaf):MT (.leaf l):=λ{s d q} C n=>by
 have hd:=iZ C.dep;cases l with
 |expr x=>exact d6c (n:=10*d+n+9) hd C.sg C.ok
 |empty=>exact c9y (n:=10*d+n+12) C.sg.1
 |var w y v ds=>exact f2c (n:=10*d+n+5) hd C.sg C.ok.2.1 C.ok.2.2 (g4j (s:=s) C.sg).2.1
 |ret x=>cases x with
  |none=>exact d7x (n:=10*d+n+10) C.sg.1 C.sg.2.1
  |some x=>exact d6u (n:=10*d+n+9) hd C.sg.1 C.sg.2.1 C.sg.2.2.1
 |throw x=>exact d2q (n:=10*d+n+9) hd C.sg
 |brk l=>cases l with
  |none=>exact d6w (n:=10*d+n+10) C.sg C.ok
  |some l=>exact C.ok.2.elim λb hm=>d8i (n:=10*d+n+10) C.sg C.ok.1 hm (nd0 C.nd)
 |cont l=>cases l with
  |none=>exact c5s (n:=10*d+n+10) C.sg C.ok
  |some l=>exact c7g (n:=10*d+n+10) C.sg C.ok.1 C.ok.2 (nd0 C.nd)
theorem w3 {a b:Nat} (h:a<=b+1):a<=b+1+1:=h4w h
theorem e6z (x:Nm) (t:T) (h:MT t):MT (.if1 x t):=λ{s d q} C n=>by
 cases d with
 |zero=>exact absurd C.lv (Nat.not_succ_le_zero _)
 |succ d=>
  have k:=aW.append (a:=fC x) (b:=tk t) C.sg;have c:Cond t (s.to (s.i+4)).ap d q:=⟨h4h C.lv,zX C.dep,C.ok.2,C.nd,C.nr,k.2,C.nx,⟨C.fo.f,C.fo.c,λ_=>C.fo.e rfl⟩,w3 C.lb⟩
  exact(f2q (m:=10*d+(n+4)+14) (iZ C.dep) k.1 C.ok.1 ((h c (n+4)).part (iZ C.dep)) C.nx (C.fo.e rfl)).cast (sC (j:=4) (k:=6) rfl)
theorem e4g (x:Nm) (t u:T) (h:MT t) (h':MT u):MT (.if2 x t u):=λ{s d q} C n=>by
 cases d with
 |zero=>exact absurd C.lv (Nat.not_succ_le_zero _)
 |succ d=>
  have k:=aW.append (a:=fC x) (b:=tk t++W bB::tk u) C.sg;have k':=b6b (s:=s.to (s.i+4)) k.2;have lv:=h4h C.lv;have c:Cond t (s.to (s.i+4)).ap d (W bB):=⟨h3j (h4n _ _) lv,zX C.dep,C.ok.2.1,nd1 C.nd,C.nr.2.1,k'.1,k'.2.1,⟨rfl,rfl,λe=>by have:=C.nr.1;rw [e]at this;exact nomatch this⟩,w3 C.lb⟩
  have c':Cond u (s.to (eT t (s.i+4)+1)).ap d q:=⟨h3j (h4o _ _) lv,zX C.dep,C.ok.2.2.2,nd2 C.nd,C.nr.2.2,k'.2.2,C.nx,⟨C.fo.f,C.fo.c,C.fo.e⟩,w3 C.lb⟩;exact(d9l (m:=10*d+(n+4)+14) (iZ C.dep) k.1 C.ok.1 ((h c (n+4)).part (iZ C.dep)) k'.2.1 C.ok.2.2.1 ((h' c' (n+4)).part (iZ C.dep))).cast (sC (j:=4) (k:=6) rfl)
theorem f6y (t:T) (x:Nm) (h:MT t):MT (.doW t x):=λ{s d q} C n=>by
 cases d with
 |zero=>exact absurd C.lv (Nat.not_succ_le_zero _)
 |succ d=>
  have k:=b6b (s:=s.n) C.sg.2;have c:Cond t s.n.lp.ap d (W [119,104,105,108,101]):=⟨h4h C.lv,zX C.dep,C.ok.2,C.nd,C.nr,k.1,k.2.1,⟨rfl,rfl,λ_=>rfl⟩,w3 C.lb⟩
  exact(f5z (m:=10*d+(n+3)+15) (iZ C.dep) C.sg.1 C.ok.1 ((h c (n+3)).part (iZ C.dep)) k.2).cast (sC (j:=3) (k:=7) rfl)
theorem e6y (hd:Hd) (t:T) (h:MT t):MT (.pre hd t):=λ{s d q} C n=>by
 cases d with
 |zero=>exact absurd C.lv (Nat.not_succ_le_zero _)
 |succ d=>
  have k:=h3b (s:=s) C.sg;have fo:fol t q:=⟨C.fo.f,C.fo.c,C.fo.e⟩;have lv:=h4h C.lv;cases hd with
  |wh x=>
   have c:Cond t (s.to (s.i+4)).lp.ap d q:=⟨lv,zX C.dep,C.ok.2.2,C.nd,C.nr,k.2,C.nx,fo,w3 C.lb⟩;exact(d0m (m:=10*d+(n+3)+15) (iZ C.dep) k.1 C.ok.2.1 ((h c (n+3)).part (iZ C.dep))).cast (sC (j:=3) (k:=7) rfl)
  |fr f a b=>
   have c:Cond t (Pb s f a b).n.lp.ap d q:=⟨lv,zX C.dep,C.ok.2.2,C.nd,C.nr,k.2,C.nx,fo,w3 C.lb⟩;have k1:=g6e (s:=s.to (s.i+2)) k.1.2.2;have k2:=f1c (s:=(Pf s f).n) k1.2.2;have k3:=f1c (s:=(Pa s f a).n) k2.2.2;have ho:a2s f:=by cases f<;>first|exact h3m|exact C.ok.1
   exact(d9v (m:=10*d+(n+3)+12) (iZ C.dep) k.1.1 k.1.2.1 k1.1 ho k1.2.1 k2.1 k2.2.1 k3.1 k3.2.1 C.ok.2.1 ((h c (n+3)).part (iZ C.dep))).cast (sC (j:=3) (k:=7) rfl)
  |each o w y x=>
   have c:Cond t (s.to (s.i+7)).lp.ap d q:=⟨lv,zX C.dep,C.ok.2.2,C.nd,C.nr,k.2,C.nx,fo,w3 C.lb⟩;exact(d5j (m:=10*d+(n+2)+13) (iZ C.dep) k.1 C.ok.1.2 C.ok.2.1 ((h c (n+2)).part (iZ C.dep))).cast (sC (j:=2) (k:=8) rfl)
  |lab l=>
   have c:Cond t (s.n.n.lab l (bK t)).ap d q:=⟨lv,zX C.dep,C.ok.2.2,by show((s.labs++[(l,bK t)]).map (·.1)++fI t).Nodup;rw [List.map_append,h3p];exact C.nd,C.nr,k.2,C.nx,fo,by show(s.labs++[_]).length<=s.e+1+1;rw [h3o];exact h3r C.lb⟩
   exact(e9y (m:=10*d+(n+4)+16) k.1 C.ok.1.1 (λd hd e=>(List.nodup_append.mp C.nd).2.2 d.1 (List.mem_map_of_mem (f:=(·.1)) hd) l (.head _) e) (h3j C.lb (h3j (iZ C.dep) (by decide))) C.ok.2.1 k.2 ((h c (n+4)).part (iZ C.dep))).cast (sC (j:=4) (k:=6) rfl)
theorem uZ {ts:Ts} {il sw:Nat} {L:b5} (h:i4 ts il sw L):cU ts<=1000:=by
 cases ts with
 |nil=>exact h3w _
 |cons t ts=>exact h.2.2
theorem a2z {cs:Cs} {il sw:Nat} {L:b5} (h:qD cs il sw L):mW cs<=1000:=by
 cases cs with
 |nil=>exact h3w _
 |cons t b cs=>exact h.2.2
theorem b4o {k:Nat} (h:k<=1000):1+k<=1000000:=by omega
theorem f8i {c:Nat}:Fa (Sg c):=⟨rfl,rfl,rfl⟩
theorem a0u {ts:Ts} {s:PS} {d n:Nat} (h:zJ ts) (lv:b3 ts<=d) (dep:s.e+2*(d+1)<=38) (ok:i4 ts s.il s.sw s.labs) (nd:(s.labs.map (·.1)++i9 ts).Nodup) (nr:nQ ts) (lb:s.labs.length<=s.e+1) (s1:Tk s (Sg 123)) (s2:aW s.n (tks ts)) (s3:Tk (s.to (c7 ts (s.i+1))) (Sg 125)):RB (10*d+n+23) ts s:=
 RA.block (m:=10*d+n+16) s1 (h (s:=s.ap.n) (q:=Sg 125) ⟨lv,dp4 dep,ok,nd,nr,s2,s3,f8i,w3 (w3 lb)⟩ n) (iZ dep) (h3j (uZ ok) (by decide)) s3
theorem c9a (ts:Ts) (h:zJ ts):MT (.block ts):=λ{s d q} C n=>by
 cases d with
 |zero=>exact absurd C.lv (Nat.not_succ_le_zero _)
 |succ d=>
  have k:=v4 (s:=s.n) C.sg.2;exact(d2e (m:=10*d+(n+2)+21) C.sg.1 (a0u h (h4h C.lv) C.dep C.ok C.nd C.nr C.lb C.sg.1 k.1 k.2.1)).cast (sC (j:=2) (k:=8) rfl)
theorem g5i {s:PS} {x:Option Nm} {l:List P} (h:aW s (eR x++l)):aW s (eR x)/\aW (s.to (s.i+c8 x)) l:=by rw [c2t];exact aW.append h
theorem f7d {s:PS} {x:Option Nm} {cb:Ts} {R:List P} (h:aW s ((eR x++Sg 123::(tks cb++[Sg 125]))++R)):aW s (eR x)/\aW (s.to (s.i+c8 x)) (Sg 123::(tks cb++Sg 125::R)):=by
 rw [h3p,List.cons_append,h3p]at h;exact g5i h
theorem e5u (b:Ts) (c:Option (Option Nm)) (cb:Ts) (f:Bool) (fb:Ts) (hb:zJ b) (hc:zJ cb) (hf:zJ fb):MT (.tryT b c cb f fb):=λ{s d q} C n=>by
 cases d with
 |zero=>exact absurd C.lv (Nat.not_succ_le_zero _)
 |succ d=>
  have lv:=h4h C.lv;have lv2:=h3j (h4o (b3 b) (max (b3 cb) (b3 fb))) lv;have lf:=h3j (h4o (b3 cb) (b3 fb)) lv2;have k:=v4 (s:=s.to (s.i+2)) C.sg.2.2;have B:RB (10*d+(n+1)+23) b s.n:=a0u hb (h3j (h4n _ _) lv) C.dep C.ok.1 (nd1 C.nd) C.nr.1 C.lb C.sg.2.1 k.1 k.2.1;cases c with
  |none=>
   obtain rfl:=C.ok.2.2.2 rfl;have k2:=v4 (s:=s.to (cG b s.i+2)) k.2.2.2.2;exact(c9k (m:=10*d+(n+1)+20) C.sg.1 B k.2.2.1 (a0u hf lf C.dep C.ok.2.2.1 (nd2 (nd2 C.nd)) C.nr.2.2 C.lb k.2.2.2.1 k2.1 k2.2.1)).cast (sC (j:=1) (k:=9) rfl)
  |some x=>
   have k1:=f7d (s:=s.to (cG b s.i)) k.2.2;have k2:=v4 (s:=s.to (cG b s.i+c8 x+1)) k1.2.2;have CB:RB (10*d+n+23) cb (s.to (cG b s.i+c8 x)):=a0u hc (h3j (h4n _ _) lv2) C.dep C.ok.2.1 (nd1 (nd2 C.nd)) C.nr.2.1 C.lb k1.2.1 k2.1 k2.2.1;cases f with
   |false=>
    exact(d2s (m:=10*d+n+18) (iZ C.dep) C.sg.1 B k1.1 CB k1.2.1 C.nx C.fo.f).cast (sC (j:=0) (k:=10) rfl)
   |true=>
    have k3:=v4 (s:=s.to (jK b (some x) cb s.i+2)) k2.2.2.2.2;exact(c3e (m:=10*d+n+18) (iZ C.dep) C.sg.1 B k1.1 CB k1.2.1 k2.2.2.1 (a0u (n:=n+1) hf lf C.dep C.ok.2.2.1 (nd2 (nd2 C.nd)) C.nr.2.2 C.lb k2.2.2.2.1 k3.1 k3.2.1)).cast (sC (j:=0) (k:=10) rfl)
theorem c1d (x:Nm) (cs:Cs) (h:MCs cs):MT (.switch x cs):=λ{s d q} C n=>by
 cases d with
 |zero=>exact absurd C.lv (Nat.not_succ_le_zero _)
 |succ d=>
  have k:=g4w (s:=s.to (s.i+5)) C.sg.2.2.2.2.2;exact(c3d (m:=10*d+(n+4)+14) (iZ C.dep) ⟨C.sg.1,C.sg.2.1,C.sg.2.2.1,C.sg.2.2.2.1,C.sg.2.2.2.2.1,h3m⟩ (h (s:=(s.to (s.i+5)).sg) (b:=false) ⟨h4h C.lv,zX C.dep,C.ok.1,C.ok.2,C.nd,C.nr,k.1,k.2.1,w3 C.lb⟩ (n+4)) (b4o (a2z C.ok.1)) k.2.1).cast (sC (j:=4) (k:=6) rfl)
theorem c2l {ts:Ts} {s:PS} {q:P} (hs:aW s (tks ts)) (hq:Tk (s.to (c7 ts s.i)) q) (f:Fa q):∃q,Tk s q/\Fa q:=by
 cases ts with
 |nil=>exact⟨q,hq,f⟩
 |cons t ts=>
  obtain⟨q',r,e,h⟩:=a2r t;have hs:aW s (tk t++tks ts):=hs;rw [e]at hs;exact⟨q',hs.1,(startOk.of h).fin,(startOk.of h).cat,(startOk.of h).els⟩
theorem d7n (t:T) (ts:Ts) (h:MT t) (h':zJ ts):zJ (.cons t ts):=λ{s d q} C n=>by
 have k:=b6b (s:=s) (l:=tks ts) C.sg;obtain⟨q1,r,e,hh⟩:=a2r t;obtain⟨q2,hq2,f2⟩:=c2l (s:=s.to (eT t s.i)) k.2 C.nx C.fo;have hq:Tk s q1:=by have:=k.1;rw [e]at this;exact this.1
 have c:Cond t s.ap d q2:=⟨h3j (h4n _ _) C.lv,C.dep,C.ok.1,nd1 C.nd,C.nr.1,k.1,hq2,f2.fol t,C.lb⟩;exact .cons hq (.of hh) ((h c n).part (dp3 C.dep)) (h' (s:=s.to (eT t s.i)) (q:=q) ⟨h3j (h4o _ _) C.lv,C.dep,C.ok.2.1,nd2 C.nd,C.nr.2,k.2,C.nx,C.fo,C.lb⟩ n)
theorem d9f {cs:Cs} {s:PS} (hs:aW s (oJ cs)) (hq:Tk (s.to (sE cs s.i)) (Sg 125)):∃q,Tk s q/\xR q:=by
 cases cs with
 |nil=>exact⟨_,hq,.inl rfl⟩
 |cons x b cs=>cases x with
  |none=>exact⟨_,hs.1,.inr (.inr rfl)⟩
  |some x=>exact⟨_,hs.1,.inr (.inl rfl)⟩
theorem xR.fa {q:P} (h:xR q):Fa q:=by rcases h with rfl|rfl|rfl<;>exact⟨rfl,rfl,rfl⟩
theorem d8t (x:Option Nm) (b:Ts) (cs:Cs) (h:zJ b) (h':MCs cs):MCs (.cons x b cs):=λ{s d sn} C n=>by
 have k:=g0o (s:=s) C.sg;have k2:=v4 (s:=s.to (lX x s.i)) k.2;obtain⟨q,hq,he⟩:=d9f (s:=s.to (c7 b (lX x s.i))) k2.2 C.nx;have R:=h (s:=s.to (lX x s.i)) ⟨h3j (h4n _ _) C.lv,C.dep,C.ok.1,nd1 C.nd,C.nr.1,k2.1,hq,he.fa,C.lb⟩ n;have o:=b4o (uZ C.ok.1);have next:∀sn',defaults cs+sn'.toNat<=1->RS (10*d+n+20) cs sn' (s.to (c7 b (lX x s.i))):=λsn' df=>h' (s:=s.to (c7 b (lX x s.i))) ⟨h3j (h4o _ _) C.lv,C.dep,C.ok.2.1,df,nd2 C.nd,C.nr.2,k2.2,C.nx,C.lb⟩ n
 cases x with
 |some x=>exact .some k.1.1 (c2q (m:=10*d+n+14) (dp3 C.dep) k.1 R o hq he) (next sn C.df)
 |none=>cases sn with
  |true=>exact absurd C.df (Nat.not_le.mpr (Nat.succ_lt_succ (h4z _)))
  |false=>exact .none k.1.1 (c4b (m:=10*d+n+14) k.1 R o hq he) (next true C.df)
theorem e9i:∀t,MT t:=@T.rec MT zJ MCs d7k e6y f6y e6z e4g c9a c1d e5u (λ_ _=>.nil) d7n (λ_ _=>.nil) d8t
mutual
noncomputable def ht:Nd->Nat
 | .mk _ _ ks _=>hts ks+1
noncomputable def hts:Ks->Nat
 | .nil=>0
 | .non ks=>hts ks
 | .con n ks=>max (ht n) (hts ks)
end
mutual
noncomputable def iV:Nd->Nat
 | .mk _ _ ks _=>oE ks+1
noncomputable def oE:Ks->Nat
 | .nil=>0
 | .non ks=>oE ks+1
 | .con n ks=>iV n+oE ks
end
def oav:Option Nd->AV
 |none=>.none
 |some n=>n.av
abbrev u1:=List (Option Nd×Nat)
noncomputable def sG:u1->List AV
 |[]=>[]
 |d::s=>sG s++[.tup [oav d.1,.int (.ofNat d.2)]]
def szO:Option Nd->Nat
 |none=>1
 |some n=>iV n
noncomputable def wP:u1->Nat
 |[]=>0
 |d::s=>szO d.1+wP s
def htO:Option Nd->Nat
 |none=>0
 |some n=>ht n
noncomputable def rA (l:Nat):Ks->u1->u1
 | .nil,s=>s
 | .non ks,s=>rA l ks ((none,l)::s)
 | .con n ks,s=>rA l ks ((some n,l)::s)
noncomputable def okS:u1->Prop
 |[]=>True
 |d::s=>d.2+htO d.1<=161/\okS s
theorem yU {Q:Ks->Prop} (h0:Q .nil) (h1:∀ks,Q ks->Q (.non ks)) (h2:∀n ks,Q ks->Q (.con n ks)):∀ks,Q ks:=
 @Ks.rec (λ_=>True) Q (λ_ _ _ _ _=>h3m) h0 (λks=>h1 ks) (λn ks _=>h2 n ks)
theorem b4i:∀o,1<=szO o
 |none=>h3k _
 |some (.mk _ _ ks _)=>h3r (h3w _)
theorem a2q:∀s:u1,(sG s).length<=wP s
 |[]=>h3k _
 |d::s=>by
  rw [sG,h3o,wP,h4e];exact h4x (b4i _) (a2q s)
theorem a3k {l:Nat}:∀(ks:Ks) (s:u1),wP (rA l ks s)=oE ks+wP s:=
 yU (λs=>(h4c _).symm) (λks h s=>by rw [rA,h];exact(h4d _ 1 _).symm) λn ks h s=>by rw [rA,h];show oE ks+(iV n+wP s)=iV n+oE ks+wP s;rw [<-h4d,h4e (oE ks)]
theorem d6v {l:Nat}:∀(ks:Ks) (s:u1),okS s->l+hts ks<=161->okS (rA l ks s):=
 yU (λs h _=>h) (λks h s o k=>h _ ⟨h3j (h3x _ _) k,o⟩ k) λn ks h s o k=>
  h _ ⟨h3j (h3z (h4n _ _) _) k,o⟩ (h3j (h3z (h4o _ _) _) k)
section
variable {K:AV->aB->Prop} {n:Nat} {st:aB} {z r:AV}
theorem b2h {α:Type} {x:α} {l:List α}:jD (l++[x])=true:=by cases l<;>rfl
abbrev ChF (n:Nat) (z r:AV) (l:Nat) (K:FK) (nd:AV) (s5:Slot) (ks:Ks) (s:u1) (st:aB):Prop:=
 List.foldr (gQ [5] true (aZ TT (aO TT (aD fns) n) (cS (.appV 2 (.tup (E2 V5 (.bin .add V4 (lI 1))))) nS)) K) (K .nxt) ks.av [.val z,.val r,.own (sG s),.val nd,.val (.int (.ofNat l)),s5] st
theorem e6t {l:Nat} {nd:AV} {K:FK}:∀(ks:Ks) (s:u1) {s5:Slot},wP (rA (l+1) ks s)<=1000000->(∀s5,K .nxt [.val z,.val r,.own (sG (rA (l+1) ks s)),.val nd,.val (.int (.ofNat l)),s5] st)->ChF n z r l K nd s5 ks s st:=
 yU (λs _ _ hk=>hk _)
  (λks h s _ hs hk=>⟨h3j (a2q s) (h3j (h4b _ _) (h3j (h4b _ _) (h3j (h3y (a3k ks ((none,l+1)::s)).symm) hs))),h _ hs hk⟩)
  λm ks h s _ hs hk=>⟨h3j (a2q s) (h3j (h4b _ _) (h3j (h4b _ _) (h3j (h3y (a3k ks ((some m,l+1)::s)).symm) hs))),h _ hs hk⟩
theorem g6a {a b:Nat} (h:1+a<=b+1):a<=b:=h4h (h3j (h3y (h4e a 1)) h)
theorem h0b {a b c:Nat} (h:a+1+b<=c+1):a+b<=c:=h4h (h3j (h3y (h4f a b 1)) h)
theorem d6h (hk:K .none st):∀{N:Nat} {s:u1} {s3 s4 s5:Slot},wP s<=N->N<=1000000->okS s->Wl n (dr 1 qI.body) (c4 K) (N+1) [.val z,.val r,.own (sG s),s3,s4,s5] st:=by
 intro N
 induction N with
 |zero=>
  intro s s3 s4 s5 hs hN ho;cases s with
  |nil=>exact hk
  |cons d s=>exact absurd (h3j (b4i d.1) (h3j (h3x _ _) hs)) (by decide)
 |succ N ih=>
  intro s s3 s4 s5 hs hN ho;cases s with
  |nil=>exact hk
  |cons d s=>
   obtain⟨o,l⟩:=d
   conv=>whnf
   rw [show jD (sG ((o,l)::s))=true from b2h]
   conv=>whnf
   rw [show aD (sG ((o,l)::s)).reverse 0=some (.tup [oav o,.int (.ofNat l)]) by rw [sG,List.reverse_append];rfl]
   conv=>whnf
   rw [show(sG ((o,l)::s)).dropLast=sG s by rw [sG,List.dropLast_concat]]
   cases o with
   |none=>exact ih (g6a hs) (h4i hN) ho.2
   |some nd=>
    obtain⟨kd,a,ks,q⟩:=nd;have h1:l+(hts ks+1)<=161:=ho.1
    have h2:wP (rA (l+1) ks s)<=N:=by
     rw [a3k];exact h0b hs
    conv=>whnf
    rw [show decide (160<Int.ofNat l)=false from h3u (Int.not_lt.mpr (Int.ofNat_le.mpr (h4h (h3j (h3z (h3r (h3w _)) l) h1))))]
    exact e6t ks s (h3j h2 (h4i hN)) λs5=>ih h2 (h4i hN) (d6v ks s ho.2 (by rw [h4f];exact h1))
theorem a3x {r:Nd} (hh:ht r<=160) (hz:iV r<=1000000) (hk:K .none st):aH (n+1) a2e [z,r.av] st K:=
 en ⟨iV r+1,d6h (n:=n) (K:=K) (s:=[(some r,1)]) hk (h3k _) hz ⟨h4e 1 _▸h3r hh,h3m⟩⟩
end
section
variable {A:List AV} {rs:aB} {K:AV->aB->Prop} {n:Nat}
theorem c4z {α:Type} (l:List α):dR l 0 l.length=l:=List.take_length
noncomputable def ifs (A:List AV):List (Nat×AV):=[(64,.lst A),(1,.int 0),(63,.obj 1 0),(62,.ref 2),(61,.ref 3),(60,.ref 4),(59,.ref 5),(31,.int 0),(58,.tup [.str [],.int 0,.int 0]),(57,.bool true),
 (56,.int 0),(55,.int 0),(54,.int 0),(53,.ref 6),(52,.bool false),(51,.bool false),(50,.int 0),(49,.lst []),(48,.ref 7),(47,.ref 8),(46,.lst []),(45,.lst [])]
noncomputable def ics:List (Option Cell):=[some (.dict []),some (.dict []),some (.dict []),some (.dict []),some (.list []),some (.dict []),some (.dict [])]
def ist (A:List AV) (j k:Nat) (rs:aB):aB:=some (.obj [(13,.lst []),(12,.str [])])::some (.obj ((ifs A).take j))::(ics.take k++(List.replicate (9 - k) none++rs))
theorem a5z (hk:K .none (ist A 22 7 rs)):aH (n+1) a6l [.obj 25 1,.lst A,.obj 1 0] (ist A 0 0 rs) K:=by
 refine en ?_
 conv=>whnf
 rw [c4z];refine⟨rfl,?_⟩
 conv=>arg 7;change ist A 3 1 rs
 conv=>whnf
 refine⟨rfl,?_⟩
 conv=>arg 7;change ist A 4 2 rs
 conv=>whnf
 refine⟨rfl,?_⟩
 conv=>arg 7;change ist A 5 3 rs
 conv=>whnf
 refine⟨rfl,?_⟩
 conv=>arg 7;change ist A 6 4 rs
 conv=>whnf
 refine⟨rfl,?_⟩
 conv=>arg 7;change ist A 18 6 rs
 conv=>whnf
 refine⟨rfl,?_⟩
 conv=>arg 7;change ist A 19 7 rs
 conv=>whnf
 exact hk
abbrev pW (A:List AV) (w:List (AV×AV)) (rs:aB):aB:=b8o A 0 0 true 0 0 [] w rs
abbrev p0W (A:List AV) (rs:aB):aB:=some (.obj [(13,.lst []),(12,.str [])])::some (.obj (pfs A 0 0 true 0 0))::some (.dict [(.int 2,.inst 41 []),(.int 10,.inst 41 [])])::some (.dict [])::some (.dict [])::some (.dict [])::
 some (.list [])::some (.dict [])::some (.dict [])::none::none::rs
theorem b9z (hk:K .none (some (.obj [(13,.lst []),(12,.str [])])::some (.obj (pfs A 0 0 true 0 0))::some (.dict [(.int 2,.inst 41 []),(.int 10,.inst 41 [])])::some (.dict [])::some (.dict [])::some (.dict [])::
 some (.list [])::some (.dict [])::some (.dict [])::some (.obj [(79,.ref 10)])::some (.dict [])::rs)):aH (n+1) zH [.obj 27 9] (some (.obj [(13,.lst []),(12,.str [])])::some (.obj (pfs A 0 0 true 0 0))::some (.dict [(.int 2,.inst 41 []),(.int 10,.inst 41 [])])::some (.dict [])::some (.dict [])::some (.dict [])::
 some (.list [])::some (.dict [])::some (.dict [])::some (.obj [])::none::rs) K:=en ⟨rfl,hk⟩
theorem c9s (hk:K (.ref 10) (pW A [] rs)):aH (n+2) uK [pv] (p0W A rs) K:=en (b9z ⟨rfl,by decide,by decide,hk⟩)
theorem b0p {w:List (AV×AV)} (hk:K (.ref 10) (pW A w rs)):aH (n+1) uK [pv] (pW A w rs) K:=en hk
theorem d4m (hk:K .none (pW A (eM.take 4) rs)):aH (n+3) rB [pv] (p0W A rs) K:=en (c9s ⟨by decide,by decide,by decide,by decide,hk⟩)
theorem d4p (hk:K .none (pW A (eM.take 7) rs)):aH (n+2) rQ [pv] (pW A (eM.take 4) rs) K:=en (b0p ⟨by decide,by decide,by decide,hk⟩)
theorem d7p (hk:K .none (pW A eM rs)):aH (n+2) rH [pv] (pW A (eM.take 7) rs) K:=en (b0p ⟨by decide,by decide,by decide,by decide,by decide,by decide,by decide,hk⟩)
structure Top (t:T):Prop where
 ok:ok t 0 0 []
 nd:(fI t).Nodup
 nr:pO t
 lv:dT t<=14
 hh:∀p i,ht (pl p t i)<=160
 sz:∀p i,iV (pl p t i)<=1000000
abbrev vU (A:List AV) (i:Nat) (rs:aB):aB:=b8o A i 0 true 0 0 [] eM rs
noncomputable abbrev tN (A:List AV) (i:Nat) (rs:aB):PS:=⟨A,rs,[],0,0,0,true,i⟩
theorem d7a {i:Nat} (hk:K .none (aJ (tN A i rs))):aH (n+1) sD [pv] (vU A i rs) K:=en hk
theorem f7g {i:Nat} (hk:K .none (vU A i rs)):aH (n+1) wU [pv] (aJ (tN A i rs)) K:=en hk
theorem c3h {i:Nat} {q:P} (h:TkA A i q) (hk:K ((tN A i rs).tv q) (vU A i rs)):aH (n+1) tJ [pv] (vU A i rs) K:=by
 refine en ?_
 conv=>whnf
 rw [show dB (vU A i rs) (.lst A) (.int (.ofNat i))=some ((tN A i rs).tv q) from h.1]
 exact hk
theorem c5e (hk:K .none (some (.obj [(13,.lst []),(12,.str [])])::none::none::none::none::none::none::none::none::none::none::rs)):aH (n+1) 5 [.obj 1 0,.str []] (some (.obj [])::none::none::none::none::none::none::none::none::none::none::rs) K:=en hk
theorem c6l {m i:Nat} {t:T} (h:RD m t (tN A i rs)) (hk:K (pl (iP A) t i).av (aJ (tN A (eT t i) rs))):aH (m+2) mP [pv,.obj 27 9] (aJ (tN A i rs)) K:=en (a0j (s:=tN A i rs) h hk)
theorem b6p {t:T} {i:Nat} {q:P} (h:Top t) (hs:jU A i (tk t)) (hnx:TkA A (eT t i) q) (hf:fol t q) (hk:K (pl (iP A) t i).av (vU A (eT t i) rs)):aH (10*14+n+19) gA [pv,.int 3] (vU A i rs) K:=by
 have c:Cond t (tN A i rs) 14 q:=⟨h.lv,h3n rfl,h.ok,h.nd,h.nr,hs,hnx,hf,h3w _⟩;exact en (d7a (c6l (e9i t c n) (a3x (h.hh _ _) (h.sz _ _) (f7g hk))))
noncomputable def y4 (Q:T->Prop):Ts->Prop
 | .nil=>True
 | .cons t ts=>Q t/\y4 Q ts
theorem j8 {Q:Ts->Prop} (h0:Q .nil) (h1:∀t ts,Q ts->Q (.cons t ts)):∀ts,Q ts:=
 @Ts.rec (λ_=>True) Q (λ_=>True) (λ_=>h3m) (λ_ _ _=>h3m) (λ_ _ _=>h3m) (λ_ _ _=>h3m) (λ_ _ _ _ _=>h3m) (λ_ _=>h3m) (λ_ _ _=>h3m) (λ_ _ _ _ _ _ _ _=>h3m) h0 (λt ts _ h=>h1 t ts h) h3m λ_ _ _ _ _=>h3m
noncomputable def tB:Ss->Ss
 | .cons (.tryB b) _=>b
 |_=>.nil
theorem c7x {Z:FK}:∀(ts:Ts) {i:Nat} {acc:List AV},y4 Top ts->jU A i (tks ts)->TkA A (c7 ts i) ⟨0,[],false⟩->acc.length+cU ts<=1000000->
  (∀l,l=acc++(aX (iP A) ts i).av->Z .nxt [.val (.lst A),.val pv,.own l] (vU A (c7 ts i) rs))->
  Wl (10*14+n+19) (tB (dr 8 yN.body)) Z (cU ts+1) [.val (.lst A),.val pv,.own acc] (vU A i rs):=
 j8 (λ{i acc} h hs hq ha hk=>c3h hq (hk _ (h3q _).symm)) λt ts ih {i acc} h hs hq ha hk=>by
  have k:=b6b (s:=tN A i rs) (l:=tks ts) hs;obtain⟨q1,r,e,hh⟩:=a2r t;obtain⟨q2,hq2,f2⟩:=c2l (s:=tN A (eT t i) rs) k.2 hq ⟨rfl,rfl,rfl⟩;have h1:TkA A i q1:=by have:=k.1;rw [e]at this;exact this.1
  refine c3h h1 ?_
  conv=>whnf
  rw [b1j (startOk.of hh).pos];exact b6p h.1 k.1 hq2 (f2.fol t) ⟨fR ha,ih h.2 k.2 hq (dI ha) λl e=>hk l (e.trans (h3p ..))⟩
theorem b5r {ts:Ts} (h:y4 Top ts) (hc:cU ts<=1000) (hs:jU A 0 (tks ts)) (hnx:TkA A (tks ts).length ⟨0,[],false⟩) (hk:K (Nd.mk 40 [] (aX (iP A) ts 0) 0).av (vU A (tks ts).length rs)):
  aH (10*14+n+20) rC [.lst A] (none::none::none::none::none::none::none::none::none::none::none::rs) K:=by
 have e:c7 ts 0=(tks ts).length:=(lB.2.1 ts 0).trans (h4c _);rw [<-e]at hnx hk;refine en (c5e ⟨rfl,?_⟩);refine a5z ⟨rfl,?_⟩;refine⟨by decide,by decide,?_⟩
 refine d4m ?_;refine d4p ?_;refine d7p ?_;refine⟨cU ts+1,c7x (n:=n) (acc:=[]) ts h hs hnx (by rw [h4k,h4c];exact h3j hc (by decide)) λl e=> ?_⟩
 exact aR (e▸hk)
end
abbrev Tf:=Nm->Nm
noncomputable def r7 (f:Tf) (pad:Nm):Nm:=[10]++pad++[32,32]++f (pad++[32,32])
noncomputable def cA:List Tf->Nm->Nm
 |[],_=>[]
 |f::l,pad=>r7 f pad++cA l pad
def bI (l:List Tf) (pad:Nm):Nm:=match l with
 |[]=>[123,125]
 |f::l=>[123]++cA (f::l) pad++[10]++pad++[125]
def dF (b:Bool) (f:Tf) (pad:Nm):Nm:=match b with
 |true=>[32]++f pad
 |false=>cA [f] pad
noncomputable def nH (b:Bool) (pad:Nm):Nm:=match b with
 |true=>[32]
 |false=>[10]++pad
def dK (b:Bool) (f:Tf) (pad w:Nm):Nm:=dF b f pad++nH b pad++w
noncomputable def aV:T->Bool
 | .block _=>true
 |_=>false
noncomputable def lQ:T->Bool
 | .if1 _ _=>true
 | .if2 _ _ _=>true
 |_=>false
noncomputable def fM (before:Nm):Option Nm->Nm
 |none=>[]
 |some x=>before++x
noncomputable def eP (y:Nm):Option Nm->Nm
 |none=>y
 |some v=>y++[32,61,32]++v
noncomputable def a1v (sep:Nm):List Nm->Nm
 |[]=>[]
 |[s]=>s
 |s::l=>s++sep++a1v sep l
def yL (y:Nm) (v:Option Nm) (ds:List (Nm×Option Nm)):Nm:=a1v [44,32] (eP y v::ds.map λd=>eP d.1 d.2)
def lU (w:Nat) (y:Nm) (v:Option Nm) (ds:List (Nm×Option Nm)):Nm:=cW w++[32]++yL y v ds
def kO:Leaf->Nm
 | .expr x=>x++[59]
 | .empty=>[59]
 | .var w y v ds=>lU w y v ds++[59]
 | .ret x=>[114,101,116,117,114,110]++fM [32] x++[59]
 | .throw x=>[116,104,114,111,119,32]++x++[59]
 | .brk l=>[98,114,101,97,107]++fM [32] l++[59]
 | .cont l=>[99,111,110,116,105,110,117,101]++fM [32] l++[59]
def qC:First->Nm
 | .no=>[]
 | .ex x=>x
 | .var w y v ds=>lU w y v ds
def hdX:Hd->Nm
 | .wh x=>[119,104,105,108,101,32,40]++x++[41]
 | .fr f a b=>[102,111,114,32,40]++qC f++[59]++fM [32] a++[59]++fM [32] b++[41]
 | .each o w y x=>[102,111,114,32,40]++lU w y none []++(match o with|true=>[32,111,102,32] |false=>[32,105,110,32])++x++[41]
 | .lab l=>l++[58,32]
noncomputable def b8g:Hd->Bool
 | .lab _=>true
 |_=>false
noncomputable def mE:Option Nm->Nm
 |none=>[100,101,102,97,117,108,116,58]
 |some x=>[99,97,115,101,32]++x++[58]
noncomputable def l7:Option Nm->Nm
 |none=>[32,99,97,116,99,104,32]
 |some x=>[32,99,97,116,99,104,32]++([40]++x)++[41,32]
def c4v (b:List Tf) (c:Option (Option Nm)) (cb:List Tf) (f:Bool) (fb:List Tf) (pad:Nm):Nm:=
 [116,114,121,32]++bI b pad++(match c with|none=>[] |some x=>l7 x++bI cb pad)++(match f with|false=>[] |true=>[32,102,105,110,97,108,108,121,32]++bI fb pad)
mutual
noncomputable def bC:T->Tf
 | .leaf l=>λ_=>kO l
 | .pre h t=>λpad=>hdX h++(match b8g h with|true=>bC t pad|false=>dF (aV t) (bC t) pad)
 | .doW t x=>λpad=>[100,111]++dK (aV t) (bC t) pad ([119,104,105,108,101,32,40]++x++[41,59])
 | .if1 x t=>λpad=>[105,102,32,40]++x++[41]++dF (aV t) (bC t) pad
 | .if2 x t e=>λpad=>[105,102,32,40]++x++[41]++(match bN t with|true=>dK true (bI [bC t]) pad bB|false=>dK (aV t) (bC t) pad bB)++
   (match lQ e with|true=>[32]++bC e pad|false=>dF (aV e) (bC e) pad)
 | .block ts=>bI (aP ts)
 | .switch x cs=>λpad=>[115,119,105,116,99,104,32,40]++x++[41,32]++bI (kJ cs) pad
 | .tryT b c cb f fb=>c4v (aP b) c (aP cb) f (aP fb)
noncomputable def aP:Ts->List Tf
 | .nil=>[]
 | .cons t ts=>bC t::aP ts
noncomputable def kJ:Cs->List Tf
 | .nil=>[]
 | .cons x b cs=>(λpad=>mE x++cA (aP b) pad)::kJ cs
end
theorem l5:∀{l:List Nm},dL [] (l.map AV.str)=some l.flatten
 |[]=>rfl
 |[s]=>h3s some (h3q s).symm
 |s::s'::l=>by
  show(match dL [] ((s'::l).map AV.str)with|some r=>some (s++[]++r)|none=>none)=_
  rw [l5,h3q];rfl
theorem tS {sep:Nm}:∀{l:List Nm},dL sep (l.map AV.str)=some (a1v sep l)
 |[]=>rfl
 |[s]=>rfl
 |s::s'::l=>by
  show(match dL sep ((s'::l).map AV.str)with|some r=>some (s++sep++r)|none=>none)=_
  rw [tS];rfl
abbrev Sh (a:Nm):Prop:=a.length<=1000000
theorem pf {a b:Nm} (h:Sh (a++b)):Sh a:=h3j (h3o▸h3x _ _) h
theorem sf {a b:Nm} (h:Sh (a++b)):Sh b:=h3j (h3o▸h4b _ _) h
theorem ob {a b:Nm} (h:Sh (a++b)):a.length+b.length<=oY:=h3j (h3y List.length_append.symm) (h3j h (by decide))
theorem ad {a b:Nm} {Z:AV->Prop} (h:Sh (a++b)) (k:Z (.str (a++b))):v8 .add (.str a) (.str b) Z:=⟨ob h,k⟩
theorem oj {a:Nm} {n:Nat} (h:Sh a) (e:Nat.ble n 10=true):a.length+n<=oY:=h3j (h4x h (h3n e)) (by decide)
def iF (m:Nat) (v:AV) (f:Tf):Prop:=∀(n:Nat) ⦃pad:Nm⦄ ⦃st:aB⦄ ⦃K:AV->aB->Prop⦄,Sh (f pad)->K (.str (f pad)) st->aH (m+n) mI [v,.str pad] st K
inductive TxL (m:Nat):List AV->List Tf->Prop
 |nil:TxL m [] []
 |cons {v f l fs}:iF m v f->TxL m l fs->TxL m (v::l) (f::fs)
section
variable {p:Pos} {i n m:Nat} {st:aB} {K:AV->aB->Prop} {l:List AV} {fs:List Tf} {f:Tf} {pad:Nm}
theorem a4n:∀{fs:List Tf},(fs.map λf=>r7 f pad).flatten=cA fs pad
 |[]=>rfl
 |f::fs=>h3s (r7 f pad++ ·) a4n
abbrev itE:E:=.bin .add (.bin .add (.bin .add (lS [10]) V0) (lS [32,32])) (.call 129 (E2 V1 (.bin .add V0 (lS [32,32]))))
theorem b1w {Z:List AV->aB->Prop} (h:TxL m l fs):∀{acc:List AV},Sh (cA fs pad)->acc.length+l.length<=1000000->(∀r,r=acc++(fs.map λf=>r7 f pad).map AV.str->Z r st)->
  List.foldr (f0 [0] 1 [.val (.str pad)] (aC TT (aO TT (aD fns) (m+n)) .tt) (aE TT (aO TT (aD fns) (m+n)) itE)) Z l acc st:=by
 induction h with
 |nil=>exact λ_ _ hk=>hk _ (h3q _).symm
 | @cons v f l fs h hl ih=>
  intro acc hs hc hk;have h1:Sh (r7 f pad):=pf hs;exact(ad (pf (pf h1)) (ad (pf h1) (ad (sf (a:=[10]) (pf h1)) (h n (sf h1) (ad h1 ⟨fR hc,ih (sf hs) (dI hc) λr e=>hk r (e.trans (h3p ..))⟩)))))
theorem xF (h:TxL m l fs) (hs:Sh (cA fs pad)) (hc:l.length<=1000000) (hk:K (.str (cA fs pad)) st):aH (m+n+1) tG [.lst l,.str pad] st K:=by
 refine en (b1w (m:=m) (n:=n) h (acc:=[]) hs (by rw [h4k,h4c];exact hc) λr e=> ?_)
 subst e
 conv=>whnf
 rw [show dL [] ([]++(fs.map λf=>r7 f pad).map AV.str)=some (cA fs pad) from l5.trans (h3s some a4n)]
 exact⟨oj hs rfl,hk⟩
end
theorem iF.of {m c:Nat} {v:AV} {f:Tf} (h:∀(n:Nat) ⦃pad:Nm⦄ ⦃st:aB⦄ ⦃K:AV->aB->Prop⦄,Sh (f pad)->K (.str (f pad)) st->aH (m+n+c) mI [v,.str pad] st K):iF (m+c) v f:=
 λn pad st K hl hk=>h4f m n c▸h n hl hk
theorem iF.mono {m k:Nat} {v:AV} {f:Tf} (h:iF m v f):iF (m+k) v f:=λn pad st K hl hk=>h4d m k n▸h (k+n) hl hk
section
variable {p:Pos} {i j n m:Nat} {st:aB} {K:AV->aB->Prop} {l:List AV} {fs:List Tf} {f:Tf} {pad w x y:Nm} {t u:T} {b:Bool} {k:Int} {a ks fl q:AV} {v:Option Nm} {ds:List (Nm×Option Nm)}
noncomputable def zI:Nd->Nat
 | .mk k _ _ _=>k
theorem sL {v:Nd} (h:iF m v.av f) (hb:decide (Int.ofNat (zI v)=59)=b) (hl:Sh (dF b f pad)) (hk:K (.str (dF b f pad)) st):aH (m+n+2) a4m [v.av,.str pad] st K:=by
 obtain⟨k,a,ks,q⟩:=v;refine en ?_
 conv=>whnf
 rw [show decide (Int.ofNat k=59)=b from hb]
 cases b with
 |true=>exact h (n+1) (sf hl) (ad hl hk)
 |false=>exact xF (n:=n) (.cons h .nil) hl (h3n rfl) hk
theorem nR {v:Nd} (h:iF m v.av f) (hb:decide (Int.ofNat (zI v)=59)=b) (hl:Sh (dK b f pad w)) (hk:K (.str (dK b f pad w)) st):aH (m+n+3) uE [v.av,.str pad,.str w] st K:=by
 refine en (sL (n:=n) h hb (pf (pf hl)) ?_);obtain⟨k,a,ks,q⟩:=v
 conv=>whnf
 rw [show decide (Int.ofNat k=59)=b from hb]
 cases b with
 |true=>exact(ad (pf hl) (ad hl hk))
 |false=>exact(ad (sf (pf hl)) (ad (pf hl) (ad hl hk)))
theorem sU (h:TxL m l fs) (hl:Sh (bI fs pad)) (hc:l.length<=1000000) (hk:K (.str (bI fs pad)) st):aH (m+n+2) tZ [.lst l,.str pad] st K:=by
 cases h with
 |nil=>exact en hk
 |cons h hr=>exact en (xF (n:=n) (.cons h hr) (sf (pf (pf (pf hl)))) hc (ad (pf (pf (pf hl))) (ad (pf (pf hl)) (ad (pf hl) (ad hl hk)))))
theorem dW (hl:Sh (fM x v)) (hk:K (.str (fM x v)) st):aH (n+1) b7n [kS p v j,.str x] st K:=by
 cases v with
 |none=>exact en hk
 |some x=>exact en (ad hl hk)
theorem dZ (m:Nd):m.av.isNone=false:=by cases m;rfl
theorem a2v {Q:T->Prop} (h1:∀l,Q (.leaf l)) (h2:∀h t,Q t->Q (.pre h t)) (h3:∀t x,Q t->Q (.doW t x)) (h4:∀x t,Q t->Q (.if1 x t)) (h5:∀x t u,Q t->Q u->Q (.if2 x t u)) (h6:∀ts,Q (.block ts)) (h7:∀x cs,Q (.switch x cs)) (h8:∀b c cb f fb,Q (.tryT b c cb f fb)):∀t,Q t:=
 @T.rec Q (λ_=>True) (λ_=>True) h1 h2 h3 h4 h5 (λts _=>h6 ts) (λx cs _=>h7 x cs) (λb c cb f fb _ _ _=>h8 b c cb f fb) h3m (λ_ _ _ _=>h3m) h3m λ_ _ _ _ _=>h3m
abbrev OpR (t:T):Prop:=∀{i N:Nat} {st:aB} {K:AV->aB->Prop},dT t<N->K (.bool (bN t)) st->aH N qU [(pl p t i).av] st K
theorem o9 {N f:Nat} {vs:List AV} {st:aB} {K:AV->aB->Prop} {l:Nat} (h:l<N) (k:∀M,l<=M->En M f vs st K):aH N f vs st K:=by
 cases N with
 |zero=>exact absurd h (Nat.not_lt_zero _)
 |succ M=>exact en (k M (Nat.le_of_lt_succ h))
theorem a0i:∀t:T,OpR (p:=p) t:=a2v
 (λl i N st K h hk=>o9 h λM e=>by cases l<;>exact hk)
 (λh t ih i N st K hN hk=>o9 hN λM e=>by
  cases h with
  |fr f a b=>
   show En M qU [(sR p (.fr f a b) i (pl p t (nW (.fr f a b) i))).av] st K
   rw [pS];exact ih e hk
  |each o w y x=>cases o<;>exact ih e hk
  |_=>exact ih e hk)
 (λt x _ i N st K h hk=>o9 h λM e=>hk)
 (λx t _ i N st K h hk=>o9 h λM e=>hk)
 (λx t u _ ih i N st K h hk=>o9 h λM e=>by
  conv=>whnf
  rw [dZ];exact ih (h4y (h4o _ _) e) hk)
 (λts i N st K h hk=>o9 h λM e=>hk) (λx cs i N st K h hk=>o9 h λM e=>hk) (λb c cb f fb i N st K h hk=>o9 h λM e=>hk)
end
section
variable {p:Pos} {i j n m:Nat} {st:aB} {K:AV->aB->Prop} {l:List AV} {fs:List Tf} {f:Tf} {pad w x y:Nm} {t u:T} {a':Nm} {b:Bool} {k:Int} {a ks fl q:AV} {v:Option Nm} {ds:List (Nm×Option Nm)}
abbrev dX (d:Nm×Option Nm):Nm:=eP d.1 d.2
abbrev dcE:E:=.ife (.e (.isN false (.idx (.attr V0 3) (lI 2)))) (.attr (.idx (.attr V0 3) (lI 0)) 4) (.bin .add (.bin .add (.attr (.idx (.attr V0 3) (lI 0)) 4) (lS [32,61,32])) (.attr (.idx (.attr V0 3) (lI 2)) 4))
theorem b4g {Z:List AV->aB->Prop} {acc:List AV} (hs:Sh (eP y v)) (hc:acc.length<=1000000) (hk:Z (acc++[.str (eP y v)]) st):f0 [0] 0 [] (aC TT (aO TT (aD fns) n) .tt) (aE TT (aO TT (aD fns) n) dcE) (eN p y v j).av Z acc st:=by
 cases v with
 |none=>exact⟨hc,hk⟩
 |some v=>exact(ad (pf hs) (ad hs ⟨hc,hk⟩))
theorem d8m {Z:List AV->aB->Prop}:∀{ds:List (Nm×Option Nm)} {j:Nat} {acc:List AV},(∀d∈ds,Sh (dX d))->acc.length+ds.length<=1000000->(∀r,r=acc++(ds.map dX).map AV.str->Z r st)->
  List.foldr (f0 [0] 0 [] (aC TT (aO TT (aD fns) n) .tt) (aE TT (aO TT (aD fns) n) dcE)) Z (gV p ds j).av acc st:=by
 intro ds
 induction ds with
 |nil=>exact λ_ _ hk=>hk _ (h3q _).symm
 |cons d ds ih=>exact λhs hc hk=>b4g (hs _ (.head _)) (fR hc) (ih (λd h=>hs d (.tail _ h)) (dI hc) λr e=>hk r (e.trans (h3p ..)))
theorem xH {sep s:Nm}:∀{l:List Nm},s∈l->Sh (a1v sep l)->Sh s
 |[s'],h,hs=>List.mem_singleton.mp h▸hs
 |s'::s''::l,h,hs=>by
  rcases List.mem_cons.mp h with rfl|h
  ·exact pf (pf hs)
  ·exact xH h (sf hs)
theorem e4p {k:Nat} (h:k<1000):0+(k+1)<=1000000:=by rw [h4c];exact h3j h (by decide)
theorem pI {w:Nat} (hl:Sh (lU w y v ds)) (hc:ds.length<1000) (hk:K (.str (lU w y v ds)) st):aH (n+1) b2t [(fQ p w y v ds j).av] st K:=by
 have hd:∀d∈(y,v)::ds,Sh (dX d):=λd h=>xH (List.mem_map_of_mem (f:=dX) h) (sf hl)
 have hz:=e4p hc;refine en (ad (pf hl) (b4g (acc:=[]) (hd _ (.head _)) (by decide) (d8m (λd h=>hd d (.tail _ h)) (dI hz) λr e=> ?_)))
 subst e
 conv=>whnf
 rw [show dL [44,32] ([]++[.str (eP y v)]++(ds.map dX).map AV.str)=some (yL y v ds) from tS (l:=eP y v::ds.map dX)]
 exact⟨oj (sf hl) rfl,ob hl,hk⟩
theorem sV {q:Int} (h:TxL m l fs) (hc:l.length<=1000000):iF (m+3) (bR (.int 59) (.str a') (.lst l) (.int 0) (.int q)) (bI fs):=.of λn pad st K hl hk=>en (sU h hl hc hk)
theorem d7t {l:Leaf} {il sw:Nat} {L:b5} (ho:iE l il sw L):iF (m+6) (kL p l i).av (λ_=>kO l):=.of (m:=m) (c:=6) λn pad st K hl hk=>by
 cases l with
 |expr x=>exact en (ad hl hk)
 |empty=>exact en hk
 |var w y v ds=>exact en (pI (pf hl) ho.2.1.c (ad hl hk))
 |ret x=>
  show aH _ mI [bR (.int 52) (.str []) (.lst (dC p x (i+1) .nil).av) (.int 0) (.int (.ofNat (p i))),.str pad] st K
  rw [jY];exact en (dW (p:=p) (v:=x) (j:=i+1) (sf (pf hl)) (ad (pf hl) (ad hl hk)))
 |throw x=>exact en (ad (pf hl) (ad hl hk))
 |brk l=>cases l with
  |none=>exact en (ad (pf hl) (ad hl hk))
  |some l=>
   refine en ?_
   conv=>whnf
   rw [show decide (a2l (some l)=[])=false from h3u ho.1]
   exact(ad (sf (pf hl)) (ad (pf hl) (ad hl hk)))
 |cont l=>cases l with
  |none=>exact en (ad (pf hl) (ad hl hk))
  |some l=>
   refine en ?_
   conv=>whnf
   rw [show decide (a2l (some l)=[])=false from h3u ho.1]
   exact(ad (sf (pf hl)) (ad (pf hl) (ad hl hk)))
theorem jP (t:T) (i:Nat):decide (Int.ofNat (zI (pl p t i))=59)=aV t:=by
 rcases t with l|⟨h,t⟩|_|_|_|_|_|_
 ·cases l<;>rfl
 ·rcases h with _|_|⟨o,_⟩|_
  case each=>cases o<;>rfl
  all_goals rfl
 all_goals rfl
theorem b8l (t:T) (i:Nat):decide (Int.ofNat (zI (pl p t i))=44)=lQ t:=by
 rcases t with l|⟨h,t⟩|_|_|_|_|_|_
 ·cases l<;>rfl
 ·rcases h with _|_|⟨o,_⟩|_
  case each=>cases o<;>rfl
  all_goals rfl
 all_goals rfl
def fK (p:Pos) (m:Nat) (t:T):Prop:=∀j,iF m (pl p t j).av (bC t)
theorem pX (h:fK p m t) (hl:Sh (dF (aV t) (bC t) pad)) (hk:K (.str (dF (aV t) (bC t) pad)) st):aH (m+n+2) a4m [(pl p t j).av,.str pad] st K:=sL (h j) (jP t j) hl hk
theorem f2p (h:fK p m t) (hl:Sh (dK (aV t) (bC t) pad w)) (hk:K (.str (dK (aV t) (bC t) pad w)) st):aH (m+n+3) uE [(pl p t j).av,.str pad,.str w] st K:=nR (h j) (jP t j) hl hk
theorem c6x (h:fK p m t):fK p (m+3) (.pre (.wh x) t):=λi=>.of λn pad st K hl hk=>en (ad (pf (pf hl)) (ad (pf hl) (pX h (sf hl) (ad hl hk))))
theorem e1r (h:fK p m t):fK p (m+3) (.if1 x t):=λi=>.of λn pad st K hl hk=>en (ad (pf (pf hl)) (ad (pf hl) (pX h (sf hl) (ad hl hk))))
theorem f5a (h:fK p m t):fK p (m+4) (.doW t x):=λi=>.of λn pad st K hl hk=>en (ad (pf (sf (sf hl))) (ad (sf (sf hl)) (f2p h (sf hl) (ad hl hk))))
theorem e9t (h:fK p m t):fK p (m+1) (.pre (.lab x) t):=λi=>.of λn pad st K hl hk=>en (ad (pf hl) (h _ n (sf hl) (ad hl hk)))
theorem d5d {o:Bool} {w:Nat} (h:fK p m t):fK p (m+3) (.pre (.each o w y x) t):=λi=>.of λn pad st K hl hk=>by
 cases o<;>exact en (pI (sf (pf (pf (pf (pf hl))))) (by decide) (ad (pf (pf (pf (pf hl)))) (ad (pf (pf (pf hl))) (ad (pf (pf hl)) (ad (pf hl) (pX h (sf hl) (ad hl hk)))))))
end
section
variable {p:Pos} {i j n m:Nat} {st:aB} {K:AV->aB->Prop} {l:List AV} {fs:List Tf} {f:First} {pad w x y:Nm} {t u:T} {a b:Option Nm} {v:Option Nm} {ds:List (Nm×Option Nm)}
theorem f7e {l m n:Nat} (k:Nat) (h:l<=m):l<m+n+(k+1):=Nat.lt_succ_of_le (h3j h (h3j (h3x _ _) (h3x _ _)))
theorem f0g (h:fK p m t) (hf:∀w y v ds,f=.var w y v ds->ds.length<1000):fK p (m+3) (.pre (.fr f a b) t):=λi=>.of λn pad st K hl hk=>by
 show aH _ mI [(sR p (.fr f a b) i (pl p t (nW (.fr f a b) i))).av,.str pad] st K
 rw [pS];have h5:=pf (pf hl);have h3:=pf (pf h5);have h1:=pf (pf h3);cases f with
 |no=>exact en (ad h1 (ad (pf h3) (dW (sf h3) (ad h3 (ad (pf h5) (dW (sf h5) (ad h5 (ad (pf hl) (pX h (sf hl) (ad hl hk))))))))))
 |ex x=>exact en (ad h1 (ad (pf h3) (dW (sf h3) (ad h3 (ad (pf h5) (dW (sf h5) (ad h5 (ad (pf hl) (pX h (sf hl) (ad hl hk))))))))))
 |var w y v ds=>exact en (pI (sf h1) (hf _ _ _ _ rfl) (ad h1 (ad (pf h3) (dW (sf h3) (ad h3 (ad (pf h5) (dW (sf h5) (ad h5 (ad (pf hl) (pX h (sf hl) (ad hl hk)))))))))))
def iH (u:T) (pad X:Nm):Nm:=X++(match lQ u with|true=>[32]++bC u pad|false=>dF (aV u) (bC u) pad)
abbrev elS:Ss:=cS (.ret (.ife (cC .eq (.attr (.idx V3 (lI 2)) 5) (gI 15 44)) (.bin .add (.bin .add V4 (lS [32])) (.call 129 (E2 (.idx V3 (lI 2)) V1))) (.bin .add V4 (.call 125 (E2 (.idx V3 (lI 2)) V1))))) nS
theorem c1s {z d c c' e:AV} {X:Nm} {s6 s7:Slot} {Z:FK} {g:Nd} (h:iF m g.av (bC u)) (hb:decide (Int.ofNat (zI g)=59)=aV u) (hi:decide (Int.ofNat (zI g)=44)=lQ u) (hl:Sh (iH u pad X)) (hk:∀L,Z (.ret (.str (iH u pad X))) L st):
  aZ TT (aO TT (aD fns) (m+n+2)) elS [.val z,.val (.str pad),.val d,.val (.lst [c,c',g.av]),.val (.str X),.val e,s6,s7] st Z:=by
 unfold iH at hl hk
 conv=>whnf
 have hg:∀{o:Option AV},tD TT st g.av 5=o->(some (.int (.ofNat (zI g))):Option AV)=o:=λe=>e▸by cases g;rfl
 rw [<-hg rfl]
 conv=>whnf
 rw [hi];cases e:lQ u with
 |true=>
  simp only [e]at hl hk;rw [<-h3p]at hl;simp only [<-h3p X]at hk;exact ad (pf hl) (h (n+2) (sf hl) (ad hl (hk _)))
 |false=>
  simp only [e]at hl hk;exact sL h hb (sf hl) (ad hl (hk _))
theorem f1s (h:fK p m t) (hu:fK p m u) (hm:dT t<=m):fK p (m+7) (.if2 x t u):=λi=>iF.of (m:=m+3) (c:=4) λn pad st K hl hk=>by
 have hl:Sh (iH u pad ([105,102,32,40]++x++[41]++(match bN t with|true=>dK true (bI [bC t]) pad bB|false=>dK (aV t) (bC t) pad bB))):=hl
 have h1:=pf hl;refine en (ad (pf (pf h1)) (ad (pf h1) ?_))
 conv=>whnf
 rw [dZ];refine a0i t (f7e 2 (h3j hm (h3x _ 3))) ?_;have e:K (.str (iH u pad ([105,102,32,40]++x++[41]++(match bN t with|true=>dK true (bI [bC t]) pad bB|false=>dK (aV t) (bC t) pad bB)))) st:=hk
 cases o:bN t with
 |true=>
  rw [o]at h1 hl e;exact aR (nR (m:=m+3) (n:=n) (v:=.mk 59 [] (.con (pl p t (i+4)) .nil) 0) (sV (a':=[]) (q:=0) (.cons (h _) .nil) (h3n rfl)) rfl (sf h1) (ad h1 (c1s (m:=m+3) (n:=n+1) (hu _).mono (jP u _) (b8l u _) hl λ_=>e)))
 |false=>
  rw [o]at h1 hl e;exact nR (m:=m+3) (n:=n) (h _).mono (jP t _) (sf h1) (ad h1 (c1s (m:=m+3) (n:=n+1) (hu _).mono (jP u _) (b8l u _) hl λ_=>e))
theorem a4c {α:Type} {a:α} {l:List α}:dR (a::l) 1 (a::l).length=l:=h3s (List.drop 1) (List.take_length (l:=a::l))
theorem c0z {l':List AV} (e:l'=l) (h:TxL m l fs) (hl:Sh (bI fs pad)) (hc:l.length<=1000000) (hk:K (.str (bI fs pad)) st):aH (m+n+2) tZ [.lst l',.str pad] st K:=e▸sU h hl hc hk
theorem a5k {l':List AV} (e:l'=l) (h:TxL m l fs) (hs:Sh (cA fs pad)) (hc:l.length<=1000000) (hk:K (.str (cA fs pad)) st):aH (m+n+1) tG [.lst l',.str pad] st K:=e▸xF h hs hc hk
theorem c0t {cs:Cs} (h:TxL m (jS p cs (i+5)).av (kJ cs)) (hc:(jS p cs (i+5)).av.length<=1000000):iF (m+3) (pl p (.switch x cs) i).av (bC (.switch x cs)):=.of λn pad st K hl hk=>en (ad (pf (pf hl)) (ad (pf hl) (c0z a4c h (sf hl) hc (ad hl hk))))
theorem d9j {q:Nat} {ks:Ks} (h:TxL m ks.av fs) (hc:ks.av.length<=1000000):iF (m+3) (Nd.mk 51 [] (dC p v j ks) q).av (λpad=>mE v++cA fs pad):=.of λn pad st K hl hk=>by
 cases v with
 |none=>exact en (a5k (n:=n+1) a4c h (sf hl) hc (ad hl hk))
 |some x=>exact en (ad (pf (pf hl)) (ad (pf hl) (a5k (n:=n+1) a4c h (sf hl) hc (ad hl hk))))
theorem a3 {a b c:Nm}:a++(b++c)=a++b++c:=(h3p ..).symm
abbrev trS:Ss:=cS (.ret (.ife (.e (.isN false (.idx V3 (lI 2)))) V4 (.bin .add (.bin .add V4 (lS [32,102,105,110,97,108,108,121,32])) (.call 129 (E2 (.idx V3 (lI 2)) V1))))) nS
def gM (f:Bool) (fs:List Tf) (pad:Nm):Nm:=match f with
 |false=>[]
 |true=>[32,102,105,110,97,108,108,121,32]++bI fs pad
def a9o (f:Bool) (g:Nd):AV:=match f with
 |false=>.none
 |true=>g.av
theorem a4e {f:Bool} {z d c c':AV} {X:Nm} {s5 s6 s7:Slot} {Z:FK} {g:Nd} (h:iF m g.av (bI fs)) (hl:Sh (X++gM f fs pad)) (hk:∀L,Z (.ret (.str (X++gM f fs pad))) L st):
  aZ TT (aO TT (aD fns) (m+n)) trS [.val z,.val (.str pad),.val d,.val (.lst [c,c',a9o f g]),.val (.str X),s5,s6,s7] st Z:=by
 cases f with
 |false=>exact h3q X▸hk _
 |true=>
  rw [show X++gM true fs pad=X++[32,102,105,110,97,108,108,121,32]++bI fs pad from a3]at hl hk
  conv=>whnf
  rw [show(a9o true g).isNone=false from dZ g]
  exact ad (pf hl) (h n (sf hl) (ad hl (hk _)))
abbrev blN (p:Pos) (ts:Ts) (j q:Nat):Nd:=.mk 59 [] (aX p ts j) (p q)
abbrev ctN (p:Pos) (x:Option Nm) (cb:Ts) (j:Nat):Nd:=.mk 58 [] (dC p x (j+2) (.con (blN p cb (j+c8 x+1) (j+c8 x)) .nil)) (p j)
theorem b3n {B CB FB:Ts} {f:Bool}:(pl p (.tryT B none CB f FB) i).av=bR (.int 57) (.str []) (.lst [(blN p B (i+2) (i+1)).av,.none,a9o f (blN p FB (jK B none CB i+2) (jK B none CB i+1))]) (.int 0) (.int (.ofNat (p i))):=by cases f<;>rfl
theorem b3r {B CB FB:Ts} {x:Option Nm} {f:Bool}:(pl p (.tryT B (some x) CB f FB) i).av=bR (.int 57) (.str []) (.lst [(blN p B (i+2) (i+1)).av,(ctN p x CB (cG B i)).av,a9o f (blN p FB (jK B (some x) CB i+2) (jK B (some x) CB i+1))]) (.int 0) (.int (.ofNat (p i))):=by cases f<;>rfl
theorem e1x {B CB FB:Ts} {c:Option (Option Nm)} {f:Bool} (hb:∀i,TxL m (aX p B i).av (aP B)/\(aX p B i).av.length<=1000000) (hc:∀i,TxL m (aX p CB i).av (aP CB)/\(aX p CB i).av.length<=1000000) (hf:∀i,TxL m (aX p FB i).av (aP FB)/\(aX p FB i).av.length<=1000000):
  iF (m+5) (pl p (.tryT B c CB f FB) i).av (bC (.tryT B c CB f FB)):=iF.of (m:=m+3) (c:=2) λn pad st K hl hk=>by
 have tb:∀{j q},iF (m+3) (blN p B j q).av (bI (aP B)):=sV (hb _).1 (hb _).2
 have tf:∀{j q},iF (m+3) (blN p FB j q).av (bI (aP FB)):=sV (hf _).1 (hf _).2
 cases c with
 |none=>
  have hl:Sh ([116,114,121,32]++bI (aP B) pad++[]++gM f (aP FB) pad):=hl;have hk:K (.str ([116,114,121,32]++bI (aP B) pad++[]++gM f (aP FB) pad)) st:=hk;rw [h3q]at hl hk;rw [b3n];exact en (tb (n+1) (sf (pf hl)) (ad (pf hl) (a4e (n:=n+1) tf hl λ_=>hk)))
 |some x=>
  have tc:∀{j q},iF (m+3) (blN p CB j q).av (bI (aP CB)):=sV (hc _).1 (hc _).2
  have hl:Sh ([116,114,121,32]++bI (aP B) pad++(l7 x++bI (aP CB) pad)++gM f (aP FB) pad):=hl;have hk:K (.str ([116,114,121,32]++bI (aP B) pad++(l7 x++bI (aP CB) pad)++gM f (aP FB) pad)) st:=hk;rw [a3]at hl hk;rw [b3r];have h1:=pf hl;have h2:=pf h1;refine en (tb (n+1) (sf (pf h2)) (ad (pf h2) ?_));cases x with
  |none=>exact dW (p:=p) (v:=none) (j:=0) (h3w _) (ad (a:=[32,99,97,116,99,104,32]) (b:=[]) (sf h2) (ad (a:=[32,99,97,116,99,104,32]) (b:=[]) (sf h2) (ad h2 (tc (n+1) (sf h1) (ad h1 (a4e (n:=n+1) tf hl λ_=>hk))))))
  |some x=>exact dW (p:=p) (v:=some x) (j:=cG B i+2) (sf (pf (sf h2))) (ad (pf (sf h2)) (ad (sf h2) (ad h2 (tc (n+1) (sf h1) (ad h1 (a4e (n:=n+1) tf hl λ_=>hk))))))
end
section
variable {p:Pos}
abbrev XT (p:Pos) (t:T):Prop:=∀{d il sw:Nat} {L:b5},ok t il sw L->dT t<=d->fK p (8*d+6) t
abbrev XTs (p:Pos) (ts:Ts):Prop:=∀{d il sw:Nat} {L:b5},i4 ts il sw L->b3 ts<=d->∀i,TxL (8*d+6) (aX p ts i).av (aP ts)
abbrev XCs (p:Pos) (cs:Cs):Prop:=∀{d il sw:Nat} {L:b5},qD cs il sw L->j2 cs<=d->∀i,TxL (8*d+9) (jS p cs i).av (kJ cs)
theorem a3t:∀(ts:Ts) {i:Nat},(aX p ts i).av.length=cU ts:=j8 rfl λt ts h i=>h3s (· +1) h
theorem d3q {Q:Cs->Prop} (h0:Q .nil) (h1:∀x b cs,Q cs->Q (.cons x b cs)):∀cs,Q cs:=
 @Cs.rec (λ_=>True) (λ_=>True) Q (λ_=>h3m) (λ_ _ _=>h3m) (λ_ _ _=>h3m) (λ_ _ _=>h3m) (λ_ _ _ _ _=>h3m) (λ_ _=>h3m) (λ_ _ _=>h3m) (λ_ _ _ _ _ _ _ _=>h3m) h3m (λ_ _ _ _=>h3m) h0 λx b cs _ h=>h1 x b cs h
theorem b3z:∀(cs:Cs) {i:Nat},(jS p cs i).av.length=mW cs:=d3q rfl λx b cs h i=>h3s (· +1) h
theorem t6 {ts:Ts} {il sw i:Nat} {L:b5} (h:i4 ts il sw L):(aX p ts i).av.length<=1000000:=a3t ts▸h3j (uZ h) (by decide)
theorem e9a {cs:Cs} {il sw i:Nat} {L:b5} (h:qD cs il sw L):(jS p cs i).av.length<=1000000:=b3z cs▸h3j (a2z h) (by decide)
theorem o7 {l d:Nat} {Q:Nat->Prop} (h:l+1<=d) (k:∀e,l<=e->Q (e+1)):Q d:=by
 cases d with
 |zero=>exact absurd h (Nat.not_succ_le_zero _)
 |succ d=>exact k d (h4h h)
theorem f3q (h:Hd) (t:T) (ih:XT p t):XT p (.pre h t):=λ{d il sw L} o e=>o7 (Q:=λd=>fK p (8*d+6) (.pre h t)) e λd e i=>by
 have k:fK p (8*d+6) t:=ih o.2.2 e;cases h with
 |wh x=>exact(c6x k i).mono (k:=5)
 |fr f a b=>exact(f0g k (λw y v ds z=>by subst z;exact o.1.2.1.c) i).mono (k:=5)
 |each b w y x=>exact(d5d k i).mono (k:=5)
 |lab l=>exact(e9t k i).mono (k:=7)
theorem eX {a b c:Nat} (h:max a b<=c):a<=c/\b<=c:=Nat.max_le.mp h
theorem f5p {l d:Nat} (h:l<=d):l<=8*d+6:=by omega
theorem f3p (b:Ts) (c:Option (Option Nm)) (cb:Ts) (f:Bool) (fb:Ts) (hb:XTs p b) (hc:XTs p cb) (hf:XTs p fb):XT p (.tryT b c cb f fb):=λ{d il sw L} o e=>o7 (Q:=λd=>fK p (8*d+6) (.tryT b c cb f fb)) e λd e i=>
 have e1:=eX e;have e2:=eX e1.2
 (e1x (λi=>⟨hb o.1 e1.1 i,t6 o.1⟩) (λi=>⟨hc o.2.1 e2.1 i,t6 o.2.1⟩) (λi=>⟨hf o.2.2.1 e2.2 i,t6 o.2.2.1⟩)).mono (k:=3)
theorem txT:∀t,XT p t:=@T.rec (XT p) (XTs p) (XCs p) (λl {d il sw L} o e i=>d7t o) f3q
 (λt x ih {d il sw L} o e=>o7 (Q:=λd=>fK p (8*d+6) (.doW t x)) e λd e i=>(f5a (ih o.2 e) i).mono (k:=4))
 (λx t ih {d il sw L} o e=>o7 (Q:=λd=>fK p (8*d+6) (.if1 x t)) e λd e i=>(e1r (ih o.2 e) i).mono (k:=5))
 (λx t u ih ih' {d il sw L} o e=>o7 (Q:=λd=>fK p (8*d+6) (.if2 x t u)) e λd e i=>(f1s (ih o.2.1 (eX e).1) (ih' o.2.2.2 (eX e).2) (f5p (eX e).1) i).mono (k:=1))
 (λts ih {d il sw L} o e=>o7 (Q:=λd=>fK p (8*d+6) (.block ts)) e λd e i=>(sV (ih o e _) (t6 o)).mono (k:=5))
 (λx cs ih {d il sw L} o e=>o7 (Q:=λd=>fK p (8*d+6) (.switch x cs)) e λd e i=>(c0t (ih o.1 e _) (e9a o.1)).mono (k:=2))
 f3p (λ_ _ _=>.nil) (λt ts h h' {d il sw L} o e i=>.cons (h o.1 (eX e).1 i) (h' o.2.1 (eX e).2 _))
 (λ_ _ _=>.nil) (λx b cs h h' {d il sw L} o e i=>.cons (d9j (h o.1 (eX e).1 _) (t6 o.1)) (h' o.2.1 (eX e).2 _))
end
noncomputable def b3h:List (AV×AV):=[(.int 8,.inst 42 []),(.int 40,.inst 5 []),(.int 59,.inst 6 []),(.int 60,.inst 7 []),(.int 41,.inst 8 []),(.int 43,.inst 9 []),(.int 44,.inst 10 []),(.int 45,.inst 11 []),(.int 46,.inst 12 []),(.int 47,.inst 13 []),(.int 48,.inst 14 []),(.int 49,.inst 14 []),
 (.int 50,.inst 15 []),(.int 51,.inst 16 []),(.int 52,.inst 17 []),(.int 53,.inst 18 []),(.int 54,.inst 18 []),(.int 55,.inst 19 []),(.int 56,.inst 20 []),(.int 57,.inst 21 []),(.int 58,.inst 22 [])]
structure QS where
 c:Nat->Option Cell
 rs:aB
 d:Nat
 k:Nat
def QS.kn (s:QS):QS:={s with k:=s.k+1}
def QS.dn (s:QS):QS:={s with d:=s.d+1}
def b7 (s:QS):aB:=
 s.c 0::s.c 1::s.c 2::s.c 3::s.c 4::s.c 5::s.c 6::s.c 7::s.c 8::s.c 9::s.c 10::s.c 11::some (.obj [(33,.ref 14),(32,.int (.ofNat s.d)),(31,.int (.ofNat s.k)),(30,.inst 3 [])])::s.c 13::some (.dict b3h)::s.rs
noncomputable abbrev cK:AV:=.obj 4 12
structure Rm (D:Nat) (s:QS):Prop where
 d:s.d+D<=1000
 k:s.k+D<=200
theorem rm1 {a b c:Nat} (h:a+(b+1)<=c):a+b<=c:=h4i h
theorem rm2 {a b c:Nat} (h:a+(b+1)<=c):a+1+b<=c:=by rw [h4f];exact h
theorem Rm.lt {D:Nat} {s:QS} (h:Rm (D+1) s):s.k<200:=h4m (Nat.lt_add_of_pos_right (h4z D)) h.k
theorem Rm.dle {D:Nat} {s:QS} (h:Rm D s):s.d<=1000:=h3j (h3x _ _) h.d
theorem Rm.kn {D:Nat} {s:QS} (h:Rm (D+1) s):Rm D s.kn:=⟨rm1 h.d,rm2 h.k⟩
theorem Rm.dn {D:Nat} {s:QS} (h:Rm (D+1) s):Rm D s.dn:=⟨rm2 h.d,rm1 h.k⟩
theorem Rm.le {D:Nat} {s:QS} (h:Rm (D+1) s):Rm D s:=⟨rm1 h.d,rm1 h.k⟩
section
variable {n m D:Nat} {s:QS} {K:AV->aB->Prop} {x:Nm} {l:List AV} {fs:List Tf} {f:Tf}
theorem bJ {kd fn sh:Nat} {a ks fl q:AV} (hs:dget (.int (.ofNat kd)) b3h=some (some (.inst sh []))) (hf:o6 TT [] (.inst sh []) 34=some fn) (hd:s.k<200)
  (h:∀{K':AV->aB->Prop},K' (.str x) (b7 s.kn)->aH n fn [.inst sh [],cK,bR (.int (.ofNat kd)) a ks fl q] (b7 s.kn) K') (hk:K (.str x) (b7 s)):aH (n+1) cD [cK,bR (.int (.ofNat kd)) a ks fl q] (b7 s) K:=by
 refine en ?_
 conv=>whnf
 rw [hs]
 conv=>whnf
 rw [show decide (200<Int.ofNat s.k+1)=false from h3u (Int.not_lt.mpr (Int.ofNat_le.mpr hd))]
 conv=>whnf
 rw [show∀st,o6 TT st (.inst sh []) 34=some fn from λ_=>hf]
 refine h ?_
 conv=>whnf
 rw [show Int.ofNat s.kn.k - 1=Int.ofNat s.k from bX _]
 exact hk
theorem dA {q:Nat} (hd:s.k<200) (hk:K (.str x) (b7 s)):aH (n+2) cD [cK,eE x q] (b7 s) K:=bJ (kd:=8) (x:=x) rfl rfl hd (λhk=>en hk) hk
theorem b0c {s:Nm}:∀{n:Nat},nB s n++s=s++nB s n
 |0=>(h3q s).symm
 |n+1=>by rw [nB,h3p,b0c]
abbrev pd (d:Nat):Nm:=nB [32,32] d
theorem a8u:∀d,(pd d).length=d+d
 |0=>rfl
 |d+1=>by show(pd d).length+1+1=_;rw [a8u d,h4f d 1];rfl
theorem uS (d:Nat):pd (d+1)=pd d++[32,32]:=b0c.symm
theorem f5t {d:Nat} (h:d<=1000):1+(d+d)<=oY:=h3j (h3z (h4x h h) 1) (by decide)
theorem u4 (hd:s.d<=1000) (hk:K (.str ([10]++pd s.d)) (b7 s)):aH (n+1) b3a [cK] (b7 s) K:=
 en ⟨⟨by decide,Int.natCast_nonneg _,Int.ofNat_le.mpr (h3j hd (by decide))⟩,(h3j (h3y (h3s (1+ ·) (a8u s.d))) (f5t hd):1+(pd s.d).length<=oY),hk⟩
def i5 (m D:Nat) (v:AV) (f:Tf):Prop:=∀(n:Nat) ⦃s:QS⦄ ⦃K:AV->aB->Prop⦄,Rm D s->Sh (f (pd s.d))->K (.str (f (pd s.d))) (b7 s)->aH (m+n) cD [cK,v] (b7 s) K
inductive PtL (m D:Nat):List AV->List Tf->Prop
 |nil:PtL m D [] []
 |cons {v f l fs}:i5 m D v f->PtL m D l fs->PtL m D (v::l) (f::fs)
noncomputable def r8 (d:Nat):List Tf->List Nm
 |[]=>[]
 |f::fs=>([10]++pd d)::f (pd d)::[]::r8 d fs
theorem a5b {d:Nat}:∀{fs:List Tf},(r8 (d+1) fs).flatten=cA fs (pd d)
 |[]=>rfl
 |f::fs=>by
  show([10]++pd (d+1))++(f (pd (d+1))++(r8 (d+1) fs).flatten)=([10]++pd d++[32,32]++f (pd d++[32,32]))++cA fs (pd d)
  rw [a5b,uS,a3,a3]
theorem c6y {d:Nat} (h:PtL m D l fs):(r8 d fs).length=3*l.length:=by
 induction h with
 |nil=>rfl
 |cons _ _ ih=>exact h3s (· +3) ih
theorem d5u {Z:FK} {c:List AV} {sl:Slot} (h:PtL m D l fs) (hd:Rm D s.dn):∀{acc:List AV} {sl:Slot},Sh (cA fs (pd s.d))->acc.length+(r8 s.dn.d fs).length<=1000000->(∀r sl,r=acc++(r8 s.dn.d fs).map AV.str->Z .nxt [.val cK,.val (.lst c),.val (.str []),.own r,sl] (b7 s.dn))->
  List.foldr (gQ [4] true (aZ TT (aO TT (aD fns) (m+n+1)) (fB (dr 2 w4.body))) Z) (Z .nxt) l [.val cK,.val (.lst c),.val (.str []),.own acc,sl] (b7 s.dn):=by
 induction h with
 |nil=>exact λ_ _ hk=>hk _ _ (h3q _).symm
 | @cons v f l fs h hl ih=>
  intro acc sl hs hc hk;have h1:Sh (f (pd s.dn.d)):=(uS s.d).symm▸sf (pf hs);exact u4 hd.dle ⟨fR hc,h (n+1) hd h1 ⟨fR (dI hc),fR (dI (dI hc)),ih (sf hs) (dI (dI (dI hc))) λr sl e=>hk r sl (e.trans (by rw [h3p,h3p,h3p];rfl))⟩⟩
theorem qG (h:PtL m D l fs) (hr:Rm (D+1) s) (hl:Sh (cA fs (pd s.d))) (hc:l.length<=1000) (hk:K (.str (cA fs (pd s.d))) (b7 s)):aH (m+n+2) w1 [cK,.lst l,.str []] (b7 s) K:=by
 refine en (d5u (n:=n) h hr.dn (acc:=[]) (sl:=.no) hl ?_ λr sl e=> ?_)
 ·rw [h4k,h4c,c6y h];exact h3j (Nat.mul_le_mul_left 3 hc) (by decide)
 ·subst e
  conv=>whnf
  rw [show dL [] ([]++(r8 s.dn.d fs).map AV.str)=some (cA fs (pd s.d)) from l5.trans (h3s some a5b)]
  refine⟨oj hl rfl,?_⟩
  conv=>whnf
  rw [show Int.ofNat s.dn.d - 1=Int.ofNat s.d from bX _]
  exact hk
theorem a9y {pad:Nm}:bI (f::fs) pad=[123]++cA (f::fs) pad++([10]++pad)++[125]:=h3s (· ++[125]) (h3p _ [10] pad)
theorem a5j (h:PtL m D l fs) (hr:Rm (D+1) s) (hl:Sh (bI fs (pd s.d))) (hc:l.length<=1000) (hk:K (.str (bI fs (pd s.d))) (b7 s)):aH (m+n+3) b0e [cK,.lst l,.str []] (b7 s) K:=by
 cases h with
 |nil=>exact en hk
 |cons h hs=>
  rw [a9y]at hl hk;exact en (qG (n:=n) (.cons h hs) hr (sf (pf (pf hl))) hc (ad (pf (pf hl)) (u4 hr.dle (ad (pf hl) (ad hl hk)))))
theorem kK {a fl q:AV} (h:PtL m D l fs) (hr:Rm (D+1) s) (hl:Sh (bI fs (pd s.d))) (hc:l.length<=1000) (hk:K (.str (bI fs (pd s.d))) (b7 s)):aH (m+n+4) zM [cK,bR (.int 59) a (.lst l) fl q] (b7 s) K:=
 en (a5j (n:=n) h hr hl hc hk)
theorem i5.of {c:Nat} {v:AV} {f:Tf} (h:∀(n:Nat) ⦃s:QS⦄ ⦃K:AV->aB->Prop⦄,Rm D s->Sh (f (pd s.d))->K (.str (f (pd s.d))) (b7 s)->aH (m+n+c) cD [cK,v] (b7 s) K):i5 (m+c) D v f:=
 λn s K hr hl hk=>h4f m n c▸h n hr hl hk
theorem i5.mono {k:Nat} {v:AV} (h:i5 m D v f):i5 (m+k) D v f:=λn s K hr hl hk=>h4d m k n▸h (k+n) hr hl hk
theorem i5.rm {v:AV} (h:i5 m D v f):i5 m (D+1) v f:=λn s K hr=>h n hr.le
theorem b1h {a:Nm} {q:Int} (h:PtL m D l fs) (hc:l.length<=1000):i5 (m+6) (D+2) (bR (.int 59) (.str a) (.lst l) (.int 0) (.int q)) (bI fs):=.of λn s K hr hl hk=>
 bJ (kd:=59) rfl rfl hr.lt (λhk=>en (kK (s:=s.kn) (n:=n) h hr.kn hl hc hk)) hk
end
section
variable {p:Pos} {i j n m N D:Nat} {s:QS} {st:aB} {K:AV->aB->Prop} {x y:Nm} {v:Option Nm} {ds:List (Nm×Option Nm)} {w:Nat} {b:Bool}
theorem Wl.go {m:Nat} {l:Ss} {K:FK} {N:Nat} {L L':aN} {st st':aB} (h:∀k:aN->aB->Prop,k L' st'->kWh (aC TT (aO TT (aD fns) m) (wC l)) (aZ TT (aO TT (aD fns) m) (wB l)) (jB (aZ TT (aO TT (aD fns) m) (dr 1 l)) K) k L st) (i:Wl m l K N L' st'):Wl m l K (N+1) L st:=h _ i
abbrev OpW (n:Nat) (st:aB) (K:AV->aB->Prop) (p:Pos) (t:T):Prop:=∀{i N:Nat},dT t<=N->(∀L,c4 K (.ret (.bool (bN t))) L st)->Wl n lD.body (c4 K) (N+1) [.val (pl p t i).av] st
theorem d3x {Q:Nat->Prop} {l N:Nat} (h:l+1<=N) (k:∀M,l<=M->Q (M+1)):Q N:=by
 cases N with
 |zero=>exact absurd h (Nat.not_succ_le_zero _)
 |succ M=>exact k M (h4h h)
theorem f3k:∀t:T,OpW n st K p t:=a2v
 (λl i N _ hk=>by cases l<;>exact hk [])
 (λh t ih i N hN hk=>d3x (Q:=λN=>Wl n lD.body (c4 K) (N+1) [.val (pl p (.pre h t) i).av] st) hN λM e=>by
  cases h with
  |fr f a b=>
   show Wl n lD.body (c4 K) (M+1+1) [.val (sR p (.fr f a b) i (pl p t (nW (.fr f a b) i))).av] st
   rw [pS];exact Wl.go (λk h=>h) (ih (i:=nW (.fr f a b) i) e hk)
  |each o w y x=>cases o<;>exact Wl.go (λk h=>h) (ih (i:=i+7) e hk)
  |wh x=>exact Wl.go (λk h=>h) (ih (i:=i+4) e hk)
  |lab x=>exact Wl.go (λk h=>h) (ih (i:=i+2) e hk))
 (λt x _ i N h hk=>hk []) (λx t _ i N h hk=>hk [])
 (λx t u _ ih i N hN hk=>d3x (Q:=λN=>Wl n lD.body (c4 K) (N+1) [.val (pl p (.if2 x t u) i).av] st) hN λM e=>by
  refine Wl.go (λk h=> ?_) (ih (i:=eT t (i+4)+1) (h3j (h4o _ _) e) hk)
  conv=>whnf
  rw [dZ];exact h)
 (λts i N h hk=>hk []) (λx cs i N h hk=>hk []) (λb c cb f fb i N h hk=>hk [])
theorem b3f {t:T} (hk:K (.bool (bN t)) st):aH (n+1) uO [(pl p t j).av] st K:=en ⟨dT t+1,f3k (n:=n) (K:=K) t (h3k _) λ_=>hk⟩
theorem b6u {q:Nat} (hk:K (.bool false) st):aH (n+1) a9f [eE x q] st K:=en hk
theorem yG {q:Nat} (hd:s.k<200) (hk:K (.str x) (b7 s)):aH (n+3) a9k [cK,eE x q] (b7 s) K:=en (dA hd (b6u hk))
theorem gH (hd:s.k<200) (hl:Sh (fM x v)) (hk:K (.str (fM x v)) (b7 s)):aH (n+3) tW [cK,kS p v j,.str x] (b7 s) K:=by
 cases v with
 |none=>exact en hk
 |some y=>exact en (dA hd (ad hl hk))
theorem d5b (hd:s.k<200) (hl:Sh (eP y v)) (hk:K (.str (eP y v)) (b7 s)):aH (n+4) b1y [cK,(eN p y v j).av,.bool b] (b7 s) K:=by
 cases v with
 |none=>
  have hl:Sh (y++[]):=(h3q y).symm▸hl;refine en (dA hd ⟨by decide,gH (p:=p) (v:=none) (j:=0) hd (h3w _) (ad hl ?_)⟩)
  rw [show y++fM [58,32] none=y from h3q y]
  exact hk
 |some v=>
  have h1:Sh (y++[]):=(h3q y).symm▸pf (pf hl);refine en (dA hd ⟨by decide,gH (p:=p) (v:=none) (j:=0) hd (h3w _) (ad h1 ?_)⟩)
  rw [show y++fM [58,32] none=y from h3q y]
  cases b with
  |true=>exact ad (pf hl) (yG hd (ad hl hk))
  |false=>exact ad (pf hl) (dA hd (ad hl hk))
noncomputable def mdV (d:Nat×Nm):AV:=.tup [.int (.ofNat d.1),.str d.2]
abbrev mdS:Ss:=cS (.ite (.e (.bin .band (.attr V0 2) V2)) (cS (.appV 1 V3) nS) .nil) nS
theorem c8d {a b e g:AV} {Z:FK} (hk:∀s2 s3,Z .nxt [.val (bR a b e (.int 0) g),.own [],s2,s3] st):∀{l:List (Nat×Nm)} {s2 s3:Slot},
  List.foldr (gQ [2,3] false (aZ TT (aO TT (aD fns) n) mdS) Z) (Z .nxt) (l.map mdV) [.val (bR a b e (.int 0) g),.own [],s2,s3] st:=by
 intro l
 induction l with
 |nil=>exact hk _ _
 |cons x l ih=>
  intro s2 s3;refine⟨⟨by decide,Int.natCast_nonneg _⟩,?_⟩
  conv=>whnf
  rw [show decide (((Nat.land (0:Int).toNat (Int.ofNat x.1).toNat:Nat):Int)=0)=true by
   rw [show Nat.land (0:Int).toNat (Int.ofNat x.1).toNat=0 from Nat.zero_and _];rfl]
  exact ih
noncomputable def f9q:List (Nat×Nm):=[(4194304,[100,101,99,108,97,114,101,32]),(65536,[112,117,98,108,105,99,32]),(32768,[112,114,111,116,101,99,116,101,100,32]),(16384,[112,114,105,118,97,116,101,32]),(262144,[115,116,97,116,105,99,32]),(524288,[97,98,115,116,114,97,99,116,32]),(1048576,[111,118,101,114,114,105,100,101,32]),(131072,[114,101,97,100,111,110,108,121,32])]
theorem d7u {a b e g:AV} (hk:K (.str []) st):aH (n+1) a4a [bR a b e (.int 0) g] st K:=
 en (c8d (n:=n) (l:=f9q) (Z:=jB (aZ TT (aO TT (aD fns) n) (cS (.ret (.join [] V1)) nS)) (c4 K)) λ_ _=>⟨by decide,hk⟩)
abbrev vtS:Ss:=cS (.appV 3 (.call 21 (E3 V0 V4 V2))) nS
theorem b3j {Z:FK} {c:AV} {sl:Slot} {acc:List AV} {k:aN->aB->Prop} (hd:s.k<200) (hl:Sh (eP y v)) (hc:acc.length<=1000000) (hk:k [.val cK,.val c,.val (.bool b),.own (acc++[.str (eP y v)]),.val (eN p y v j).av] (b7 s)):
  gQ [4] true (aZ TT (aO TT (aD fns) (n+4)) vtS) Z (eN p y v j).av k [.val cK,.val c,.val (.bool b),.own acc,sl] (b7 s):=d5b hd hl ⟨hc,hk⟩
theorem d4w {Z:FK} {c:AV} (hd:s.k<200):∀{ds:List (Nm×Option Nm)} {j:Nat} {acc:List AV} {sl:Slot},(∀d∈ds,Sh (dX d))->acc.length+ds.length<=1000000->(∀r sl,r=acc++(ds.map dX).map AV.str->Z .nxt [.val cK,.val c,.val (.bool b),.own r,sl] (b7 s))->
  List.foldr (gQ [4] true (aZ TT (aO TT (aD fns) (n+4)) vtS) Z) (Z .nxt) (gV p ds j).av [.val cK,.val c,.val (.bool b),.own acc,sl] (b7 s):=by
 intro ds
 induction ds with
 |nil=>exact λ_ _ hk=>hk _ _ (h3q _).symm
 |cons d ds ih=>exact λhs hc hk=>b3j hd (hs _ (.head _)) (fR hc) (ih (λd h=>hs d (.tail _ h)) (dI hc) λr sl e=>hk r sl (e.trans (h3p ..)))
theorem a0e (hd:s.k<200) (hl:Sh (lU w y v ds)) (hc:ds.length<1000) (hk:K (.str (lU w y v ds)) (b7 s)):aH (n+5) b8w [cK,(fQ p w y v ds j).av,.bool b] (b7 s) K:=by
 have he:∀d∈(y,v)::ds,Sh (dX d):=λd h=>xH (List.mem_map_of_mem (f:=dX) h) (sf hl)
 have hz:=e4p hc;refine en (b3j (n:=n) (acc:=[]) hd (he _ (.head _)) (by decide) (d4w (n:=n) hd (Z:=jB (aZ TT (aO TT (aD fns) (n+4)) (dr 2 a0o.body)) (c4 K)) (λd h=>he d (.tail _ h)) (dI hz) λr sl e=> ?_))
 subst e;refine d7u (ad (a:=[]) (pf (pf hl)) (ad (a:=[]++cW w) (pf hl) ?_))
 conv=>whnf
 rw [show dL [44,32] ([]++[.str (eP y v)]++(ds.map dX).map AV.str)=some (yL y v ds) from tS (l:=eP y v::ds.map dX)]
 exact⟨oj (sf hl) rfl,ob hl,hk⟩
end
noncomputable def qZ:List Nm:=[[102],[111,102],[116,121,112,101],[108,101,116],[103,101,116],[97,115,121,110,99],[122],[97],[108,97],[108,98],[108,99],[108,100],[108,101],[108,102],[108,103],[108,104],[108,105],[108,106],[108,107],[108,108],[108,109],[108,110],[108,111],[108,112],[108,113],[108,114],[108,115],[108,116],[108,117],[108,118],[108,119],[108,120],[108,121]]
def gd (x:Nm):Prop:=x∈qZ
theorem lG {P:Nm->Bool} (h:qZ.all P=true) {x:Nm} (hx:gd x):P x=true:=List.all_eq_true.mp h x hx
def cR:Option Nm->Prop
 |none=>True
 |some x=>gd x
def j5 (y:Nm) (v:Option Nm) (ds:List (Nm×Option Nm)):Prop:=gd y/\cR v/\∀d∈ds,gd d.1/\cR d.2
def kN:Leaf->Prop
 | .expr x=>gd x
 | .empty=>True
 | .var _ y v ds=>j5 y v ds
 | .ret x=>cR x
 | .throw x=>gd x
 | .brk l=>cR l
 | .cont l=>cR l
def hdG:Hd->Prop
 | .wh x=>gd x
 | .fr f a b=>(match f with| .no=>True| .ex x=>gd x| .var _ y v ds=>j5 y v ds)/\cR a/\cR b
 | .each _ _ y x=>gd y/\gd x
 | .lab l=>gd l
def f0b:Option (Option Nm)->Prop
 |some x=>cR x
 |none=>True
mutual
noncomputable def iT:T->Prop
 | .leaf l=>kN l
 | .pre h t=>hdG h/\iT t
 | .doW t x=>iT t/\gd x
 | .if1 x t=>gd x/\iT t
 | .if2 x t e=>gd x/\iT t/\iT e
 | .block ts=>gL ts
 | .switch x cs=>gd x/\wI cs
 | .tryT b c cb _ fb=>gL b/\f0b c/\gL cb/\gL fb
noncomputable def gL:Ts->Prop
 | .nil=>True
 | .cons t ts=>iT t/\gL ts
noncomputable def wI:Cs->Prop
 | .nil=>True
 | .cons x b cs=>cR x/\gL b/\wI cs
end
def b8n (x:Nm):Bool:= !decide (dR x 0 1=[123])&&(!decide (dR x 0 4=[108,101,116,91])&&(!decide (dR x 0 [102,117,110,99,116,105,111,110].length=[102,117,110,99,116,105,111,110])&& !decide (dR x 0 [99,108,97,115,115].length=[99,108,97,115,115])))
structure Pc (p:Pos) (m D:Nat) (t:T):Prop where
 v:∀j,i5 m D (pl p t j).av (bC t)
 b:∀ts,t=.block ts->∀j,PtL m D (aX p ts j).av (aP ts)/\(aX p ts j).av.length<=1000
section
variable {p:Pos} {i j n m N D:Nat} {s:QS} {st:aB} {K:AV->aB->Prop} {x y:Nm} {v:Option Nm} {ds:List (Nm×Option Nm)} {w:Nat} {b:Bool} {f:Tf} {t u:T}
theorem u9 {b:Bool} (h:(!b)=true):b=false:=by cases b<;>first|rfl|exact nomatch h
theorem d1a (hx:gd x) (hk:K (.bool false) st):aH (n+1) a6o [.str x] st K:=by
 have h:b8n x=true:=lG (P:=b8n) (by decide+kernel) hx
 simp only [b8n,h4l]at h;refine en ?_
 conv=>whnf
 rw [u9 h.1]
 conv=>whnf
 rw [u9 h.2.1]
 conv=>whnf
 rw [u9 h.2.2.1]
 conv=>whnf
 rw [u9 h.2.2.2];exact hk
theorem a4q {v:AV} (hk:K (.bool false) st):aH (n+1) zK [.inst 3 [],v] st K:=en hk
theorem d6a {v:Nd} (h:i5 m D v.av f) (hb:decide (Int.ofNat (zI v)=59)=false) (hr:Rm (D+1) s) (hl:Sh (cA [f] (pd s.d))) (hk:K (.str (cA [f] (pd s.d))) (b7 s)):aH (m+n+3) hH [cK,v.av,.bool false] (b7 s) K:=by
 obtain⟨k,a,ks,q⟩:=v;refine en ?_
 conv=>whnf
 rw [show decide (Int.ofNat k=59)=false from hb]
 exact a4q (qG (n:=n) (.cons h .nil) hr hl (h3n rfl) hk)
def sbO (o:Bool) (f:Tf) (pad:Nm):Nm:=match o with
 |true=>[32]++bI [f] pad
 |false=>cA [f] pad
theorem d5m {v:Nd} {o:Bool} (h:i5 m D v.av f) (hb:decide (Int.ofNat (zI v)=59)=false) (ho:∀{n:Nat} {K:AV->aB->Prop},K (.bool o) (b7 s)->aH (n+1) uO [v.av] (b7 s) K) (hr:Rm (D+1) s)
  (hl:Sh (sbO o f (pd s.d))) (hk:K (.str (sbO o f (pd s.d))) (b7 s)):aH (m+n+3) hH [cK,v.av,.bool true] (b7 s) K:=by
 obtain⟨k,a,ks,q⟩:=v;refine en ?_
 conv=>whnf
 rw [show decide (Int.ofNat k=59)=false from hb]
 refine ho ?_;cases o with
 |true=>
  have e:[32]++bI [f] (pd s.d)=[32,123]++cA [f] (pd s.d)++([10]++pd s.d)++[125]:=by rw [a9y];rfl
  have hl:Sh ([32]++bI [f] (pd s.d)):=hl;have hk:K (.str ([32]++bI [f] (pd s.d))) (b7 s):=hk;rw [e]at hl hk;exact qG (n:=n) (.cons h .nil) hr (sf (pf (pf hl))) (h3n rfl) (ad (pf (pf hl)) (u4 hr.dle (ad (pf hl) (ad hl hk))))
 |false=>exact a4q (qG (n:=n) (.cons h .nil) hr hl (h3n rfl) hk)
theorem b3o {a fl q:AV} {l:List AV} {fs:List Tf} (h:PtL m D l fs) (hr:Rm (D+1) s) (hl:Sh ([32]++bI fs (pd s.d))) (hc:l.length<=1000) (hk:K (.str ([32]++bI fs (pd s.d))) (b7 s)):aH (m+n+5) hH [cK,bR (.int 59) a (.lst l) fl q,.bool b] (b7 s) K:=
 en (kK (n:=n) h hr (sf hl) hc (ad hl hk))
theorem c0j (t:T):(∃ts,t=.block ts)\/aV t=false:=by
 rcases t with _|_|_|_|_|ts|_|_
 case block=>exact .inl ⟨ts,rfl⟩
 all_goals exact .inr rfl
theorem j9 (h:Pc p m D t) (hr:Rm (D+1) s) (hl:Sh (dF (aV t) (bC t) (pd s.d))) (hk:K (.str (dF (aV t) (bC t) (pd s.d))) (b7 s)):aH (m+n+5) hH [cK,(pl p t j).av,.bool false] (b7 s) K:=by
 rcases c0j t with⟨ts,rfl⟩|e
 ·exact b3o (n:=n) (h.b ts rfl _).1 hr hl (h.b ts rfl _).2 hk
 ·rw [e]at hl hk;exact d6a (n:=n+2) (h.v j) ((jP t j).trans e) hr hl hk
def sbC (t:T) (pad:Nm):Nm:=match bN t with
 |true=>[32]++bI [bC t] pad
 |false=>dF (aV t) (bC t) pad
theorem c6a (h:Pc p m D t) (hr:Rm (D+1) s) (hl:Sh (sbC t (pd s.d))) (hk:K (.str (sbC t (pd s.d))) (b7 s)):aH (m+n+5) hH [cK,(pl p t j).av,.bool true] (b7 s) K:=by
 rcases c0j t with⟨ts,rfl⟩|e
 ·exact b3o (n:=n) (h.b ts rfl _).1 hr hl (h.b ts rfl _).2 hk
 ·unfold sbC at hl hk;rw [e]at hl hk;exact d5m (n:=n+2) (h.v j) ((jP t j).trans e) (λk=>b3f k) hr hl hk
theorem d2b (hr:s.d<=1000) (hk:K (.str (nH (aV t) (pd s.d))) (b7 s)):aH (n+2) vV [cK,(pl p t j).av,.bool false] (b7 s) K:=by
 have e:=jP (p:=p) t j;generalize pl p t j=v at e⊢;obtain⟨k,a,ks,q⟩:=v;refine en ?_
 conv=>whnf
 rw [show decide (Int.ofNat k=59)=aV t from e]
 cases hb:aV t with
 |true=>rw [hb]at hk;exact hk
 |false=>rw [hb]at hk;exact u4 hr hk
theorem b6w (hr:s.d<=1000) (hk:K (.str (nH (aV t||bN t) (pd s.d))) (b7 s)):aH (n+2) vV [cK,(pl p t j).av,.bool true] (b7 s) K:=by
 have e:=jP (p:=p) t j;have ho:∀{n:Nat} {K:AV->aB->Prop},K (.bool (bN t)) (b7 s)->aH (n+1) uO [(pl p t j).av] (b7 s) K:=λk=>b3f k
 generalize pl p t j=v at e ho⊢;obtain⟨k,a,ks,q⟩:=v;refine en ?_
 conv=>whnf
 rw [show decide (Int.ofNat k=59)=aV t from e]
 cases hb:aV t with
 |true=>rw [hb]at hk;exact hk
 |false=>
  rw [hb]at hk;refine ho ?_;cases o:bN t with
  |true=>rw [o]at hk;exact hk
  |false=>rw [o]at hk;exact u4 hr hk
theorem d0g {q:Nat} (hd:s.k<200) (hx:decide (dR x 0 3=[108,101,116])=false) (hk:K (.str x) (b7 s)):aH (n+4) a8b [cK,eE x q] (b7 s) K:=by
 refine en (yG hd ?_)
 conv=>whnf
 rw [hx];exact hk
end
section
variable {p:Pos} {i j n m N D:Nat} {s:QS} {st:aB} {K:AV->aB->Prop} {x y:Nm} {v:Option Nm} {ds:List (Nm×Option Nm)} {w:Nat} {b:Bool} {f:Tf} {t u:T}
abbrev yX (p:Pos) (m D:Nat) (t:T):Prop:=∀j,i5 m D (pl p t j).av (bC t)
theorem d4t {l:Leaf} {il sw:Nat} {L:b5} (ho:iE l il sw L) (hg:kN l):yX p (m+7) (D+2) (.leaf l):=λi=>.of λn s K hr hl hk=>by
 have hd:=hr.kn.lt;cases l with
 |expr x=>exact bJ (kd:=43) (x:=x++[59]) rfl rfl hr.lt (λhk=>en (dA hd (d1a hg (ad hl hk)))) hk
 |empty=>exact bJ (kd:=60) (x:=[59]) rfl rfl hr.lt (λhk=>en hk) hk
 |var w y v ds=>exact bJ (kd:=41) (x:=lU w y v ds++[59]) rfl rfl hr.lt (λhk=>en (a0e (s:=s.kn) hd (pf hl) ho.2.1.c (ad hl hk))) hk
 |ret x=>
  show aH _ cD [cK,bR (.int 52) (.str []) (.lst (dC p x (i+1) .nil).av) (.int 0) (.int (.ofNat (p i)))] (b7 s) K
  rw [jY];exact bJ (kd:=52) (x:=kO (.ret x)) rfl rfl hr.lt (λhk=>en (gH (p:=p) (v:=x) (j:=i+1) hd (sf (pf hl)) (ad (pf hl) (ad hl hk)))) hk
 |throw x=>exact bJ (kd:=56) (x:=kO (.throw x)) rfl rfl hr.lt (λhk=>en (dA hd (ad (pf hl) (ad hl hk)))) hk
 |brk l=>cases l with
  |none=>exact bJ (kd:=53) (x:=kO (.brk none)) rfl rfl hr.lt (λhk=>en (ad hl hk)) hk
  |some l=>exact bJ (kd:=53) (x:=kO (.brk (some l))) rfl rfl hr.lt (λhk=>by
    refine en ?_
    conv=>whnf
    rw [show decide (a2l (some l)=[])=false from h3u ho.1]
    exact ad (sf (pf hl)) (ad (pf hl) (ad hl hk))) hk
 |cont l=>cases l with
  |none=>exact bJ (kd:=54) (x:=kO (.cont none)) rfl rfl hr.lt (λhk=>en (ad hl hk)) hk
  |some l=>exact bJ (kd:=54) (x:=kO (.cont (some l))) rfl rfl hr.lt (λhk=>by
    refine en ?_
    conv=>whnf
    rw [show decide (a2l (some l)=[])=false from h3u ho.1]
    exact ad (sf (pf hl)) (ad (pf hl) (ad hl hk))) hk
theorem d1h (h:Pc p m D t):yX p (m+7) (D+2) (.pre (.wh x) t):=λi=>.of λn s K hr hl hk=>
 bJ (kd:=45) rfl rfl hr.lt (λhk=>en (dA hr.kn.lt (ad (pf (pf hl)) (ad (pf hl) (j9 (s:=s.kn) h hr.kn (sf hl) (ad hl hk)))))) hk
theorem e3g (h:Pc p m D t):yX p (m+7) (D+2) (.if1 x t):=λi=>.of λn s K hr hl hk=>
 bJ (kd:=44) rfl rfl hr.lt (λhk=>en (dA hr.kn.lt (ad (pf (pf hl)) (ad (pf hl) (j9 (s:=s.kn) h hr.kn (sf hl) (ad hl hk)))))) hk
theorem e0h (h:Pc p m D t):yX p (m+2) (D+2) (.pre (.lab x) t):=λi=>.of λn s K hr hl hk=>
 bJ (kd:=55) rfl rfl hr.lt (λhk=>en (ad (pf hl) (h.v _ n hr.kn.le (sf hl) (ad hl hk)))) hk
theorem d7c {o:Bool} (h:Pc p m D t):yX p (m+7) (D+2) (.pre (.each o w y x) t):=λi=>.of λn s K hr hl hk=>by
 have h4:=pf (pf hl);cases o with
 |true=>exact bJ (kd:=48) rfl rfl hr.lt (λhk=>en (a0e (s:=s.kn) hr.kn.lt (sf (pf (pf h4))) (h3n rfl) (ad (pf (pf h4)) (ad (pf h4) (dA hr.kn.lt (ad h4 (ad (pf hl) (j9 (s:=s.kn) h hr.kn (sf hl) (ad hl hk))))))))) hk
 |false=>exact bJ (kd:=49) rfl rfl hr.lt (λhk=>en (a0e (s:=s.kn) hr.kn.lt (sf (pf (pf h4))) (h3n rfl) (ad (pf (pf h4)) (ad (pf h4) (dA hr.kn.lt (ad h4 (ad (pf hl) (j9 (s:=s.kn) h hr.kn (sf hl) (ad hl hk))))))))) hk
theorem f6f {a b c d e g:Nm}:a++(b++c++(d++e++g))=a++b++c++d++e++g:=by simp only [h3p]
theorem f4x (h:Pc p m D t):yX p (m+7) (D+2) (.doW t x):=λi=>.of λn s K hr hl hk=>by
 refine bJ (kd:=46) rfl rfl hr.lt (λ{K} hk=> ?_) hk
 have hl:Sh ([100,111]++(dF (aV t) (bC t) (pd s.d)++nH (aV t) (pd s.d)++([119,104,105,108,101,32,40]++x++[41,59]))):=hl;have hk:K (.str ([100,111]++(dF (aV t) (bC t) (pd s.d)++nH (aV t) (pd s.d)++([119,104,105,108,101,32,40]++x++[41,59])))) (b7 s.kn):=hk;rw [f6f]at hl hk;have h4:=pf (pf (pf hl));exact en (j9 (s:=s.kn) h hr.kn (sf (pf h4)) (ad (pf h4) (d2b (s:=s.kn) hr.kn.dle (ad h4 (ad (pf (pf hl)) (dA hr.kn.lt (ad (pf hl) (ad hl hk))))))))
end
section
variable {p:Pos} {i j n m N D:Nat} {s:QS} {st:aB} {K:AV->aB->Prop} {x y:Nm} {v:Option Nm} {ds:List (Nm×Option Nm)} {w:Nat} {b:Bool} {f:Tf} {t u:T} {l:List AV} {fs:List Tf} {F:First} {a₁ a₂:Option Nm}
theorem e0g {l f a b t:Nm}:l++f++[59]++a++[59]++b++[41]++t=l++f++([59]++a++[59]++b++[41])++t:=by simp only [h3p]
theorem e7t (h:Pc p m D t) (hf:∀w y v ds,F=.var w y v ds->ds.length<1000) (hx:∀x,F=.ex x->decide (dR x 0 3=[108,101,116])=false):yX p (m+7) (D+2) (.pre (.fr F a₁ a₂) t):=λi=>.of λn s K hr hl hk=>by
 show aH _ cD [cK,(sR p (.fr F a₁ a₂) i (pl p t (nW (.fr F a₁ a₂) i))).av] (b7 s) K
 rw [pS];refine bJ (kd:=47) rfl rfl hr.lt (λ{K} hk=> ?_) hk
 have hl:Sh ([102,111,114,32,40]++qC F++[59]++fM [32] a₁++[59]++fM [32] a₂++[41]++dF (aV t) (bC t) (pd s.d)):=hl;have hk:K (.str ([102,111,114,32,40]++qC F++[59]++fM [32] a₁++[59]++fM [32] a₂++[41]++dF (aV t) (bC t) (pd s.d))) (b7 s.kn):=hk;rw [e0g]at hl hk;have hd:=hr.kn.lt;have h1:=pf hl;have h2:=sf h1;have h3:=pf (pf h2);cases F with
 |no=>exact en (gH (s:=s.kn) hd (sf (pf h3)) (ad (pf h3) (ad h3 (gH (s:=s.kn) hd (sf (pf h2)) (ad (pf h2) (ad h2 (ad h1 (j9 (s:=s.kn) h hr.kn (sf hl) (ad hl hk)))))))))
 |ex x=>exact en (d0g (s:=s.kn) hd (hx _ rfl) (ad (pf h1) (gH (s:=s.kn) hd (sf (pf h3)) (ad (pf h3) (ad h3 (gH (s:=s.kn) hd (sf (pf h2)) (ad (pf h2) (ad h2 (ad h1 (j9 (s:=s.kn) h hr.kn (sf hl) (ad hl hk)))))))))))
 |var w y v ds=>exact en (a0e (s:=s.kn) hd (sf (pf h1)) (hf _ _ _ _ rfl) (ad (pf h1) (gH (s:=s.kn) hd (sf (pf h3)) (ad (pf h3) (ad h3 (gH (s:=s.kn) hd (sf (pf h2)) (ad (pf h2) (ad h2 (ad h1 (j9 (s:=s.kn) h hr.kn (sf hl) (ad hl hk)))))))))))
theorem f7w {x pad:Nm}:bC (.if2 x t u) pad=iH u pad ([105,102,32,40]++x++[41]++(sbC t pad++nH (aV t||bN t) pad++bB)):=by
 show iH u pad ([105,102,32,40]++x++[41]++(match bN t with|true=>dK true (bI [bC t]) pad bB|false=>dK (aV t) (bC t) pad bB))=_
 unfold sbC;cases o:bN t with
 |true=>rw [Bool.or_true];rfl
 |false=>rw [Bool.or_false];rfl
abbrev elP:Ss:=cS (.ite (cC .eq (.attr V5 5) (gI 15 44)) (cS (.ret (.bin .add (.bin .add V3 (lS [32])) (.meth V1 34 (E1 V5)))) nS) .nil) (cS (.ret (.bin .add V3 (.call 18 (E3 V1 V5 (.lit (.bool false)))))) nS)
theorem d7w {z c c':AV} {X:Nm} {Z:FK} {j:Nat} (h:Pc p m D u) (hr:Rm (D+1) s) (hl:Sh (iH u (pd s.d) X)) (hk:∀L,Z (.ret (.str (iH u (pd s.d) X))) L (b7 s)):
  aZ TT (aO TT (aD fns) (m+n+5)) elP [.val z,.val cK,.val c,.val (.str X),.val c',.val (pl p u j).av] (b7 s) Z:=by
 unfold iH at hl hk;have hi:=b8l (p:=p) u j;have hv:=h.v j;have hs:∀{n:Nat} {K:AV->aB->Prop},Sh (dF (aV u) (bC u) (pd s.d))->K (.str (dF (aV u) (bC u) (pd s.d))) (b7 s)->aH (m+n+5) hH [cK,(pl p u j).av,.bool false] (b7 s) K:=λh1 h2=>j9 h hr h1 h2
 generalize pl p u j=g at hi hv hs⊢;obtain⟨k,a,ks,q⟩:=g
 conv=>whnf
 rw [show decide (Int.ofNat k=44)=lQ u from hi]
 cases e:lQ u with
 |true=>
  simp only [e]at hl hk;rw [<-h3p]at hl;simp only [<-h3p X]at hk;exact ad (pf hl) (hv (n+5) hr.le (sf hl) (ad hl (hk _)))
 |false=>
  simp only [e]at hl hk;exact hs (sf hl) (ad hl (hk _))
theorem e1s (h:Pc p m D t) (hu:Pc p m D u):yX p (m+7) (D+2) (.if2 x t u):=λi=>.of λn s K hr hl hk=>by
 refine bJ (kd:=44) rfl rfl hr.lt (λ{K} hk=> ?_) hk
 rw [f7w]at hl hk;have h0:Sh ([105,102,32,40]++x++[41]++(sbC t (pd s.d)++nH (aV t||bN t) (pd s.d)++bB)):=pf hl
 have h1:=pf h0;have h2:=sf h0;refine en (dA hr.kn.lt (ad (pf h1) (ad h1 ?_)))
 conv=>whnf
 rw [dZ];exact c6a (s:=s.kn) h hr.kn (pf (pf h2)) (b6w (s:=s.kn) hr.kn.dle (ad (pf h2) (ad h2 (ad h0 (d7w (s:=s.kn) hu hr.kn hl λ_=>hk)))))
end
section
variable {p:Pos} {i j n m N D:Nat} {s:QS} {st:aB} {K:AV->aB->Prop} {x y:Nm} {v:Option Nm} {ds:List (Nm×Option Nm)} {w:Nat} {b:Bool} {f:Tf} {t u:T} {l:List AV} {fs:List Tf}
theorem PtL.mono {k:Nat} (h:PtL m D l fs):PtL (m+k) D l fs:=by
 induction h with
 |nil=>exact .nil
 |cons h _ ih=>exact .cons h.mono ih
theorem b9d {l':List AV} (e:l'=l) (h:PtL m D l fs) (hr:Rm (D+1) s) (hl:Sh (bI fs (pd s.d))) (hc:l.length<=1000) (hk:K (.str (bI fs (pd s.d))) (b7 s)):aH (m+n+3) b0e [cK,.lst l',.str []] (b7 s) K:=e▸a5j h hr hl hc hk
theorem a7k {l':List AV} (e:l'=l) (h:PtL m D l fs) (hr:Rm (D+1) s) (hl:Sh (cA fs (pd s.d))) (hc:l.length<=1000) (hk:K (.str (cA fs (pd s.d))) (b7 s)):aH (m+n+2) w1 [cK,.lst l',.str []] (b7 s) K:=e▸qG h hr hl hc hk
theorem c1r {cs:Cs} (h:PtL m D (jS p cs (i+5)).av (kJ cs)) (hc:(jS p cs (i+5)).av.length<=1000):i5 (m+5) (D+2) (pl p (.switch x cs) i).av (bC (.switch x cs)):=.of λn s K hr hl hk=>
 bJ (kd:=50) rfl rfl hr.lt (λhk=>en (dA hr.kn.lt (ad (pf (pf hl)) (ad (pf hl) (b9d (s:=s.kn) a4c h hr.kn (sf hl) hc (ad hl hk)))))) hk
theorem d6t {q:Nat} {ks:Ks} (h:PtL m D ks.av fs) (hc:ks.av.length<=1000):i5 (m+4) (D+2) (Nd.mk 51 [] (dC p v j ks) q).av (λpad=>mE v++cA fs pad):=.of λn s K hr hl hk=>by
 cases v with
 |none=>exact bJ (kd:=51) rfl rfl hr.lt (λhk=>en (a7k (s:=s.kn) a4c h hr.kn (sf hl) hc (ad hl hk))) hk
 |some x=>exact bJ (kd:=51) rfl rfl hr.lt (λhk=>en (dA hr.kn.lt (ad (pf (pf hl)) (ad (pf hl) (a7k (s:=s.kn) a4c h hr.kn (sf hl) hc (ad hl hk)))))) hk
noncomputable def a1b:Option Nm->Nm
 |none=>[99,97,116,99,104,32]
 |some x=>[99,97,116,99,104,32,40]++x++[41,32]
theorem c7o {ts:Ts} (h:PtL m D (aX p ts (j+c8 v+1)).av (aP ts)) (hc:(aX p ts (j+c8 v+1)).av.length<=1000):i5 (m+6) (D+2) (ctN p v ts j).av (λpad=>a1b v++bI (aP ts) pad):=.of λn s K hr hl hk=>by
 cases v with
 |none=>exact bJ (kd:=58) rfl rfl hr.lt (λhk=>en (kK (s:=s.kn) h hr.kn (sf hl) hc (ad hl hk))) hk
 |some x=>exact bJ (kd:=58) rfl rfl hr.lt (λhk=>en (dA hr.kn.lt (ad (pf (pf hl)) (ad (pf hl) (kK (s:=s.kn) h hr.kn (sf hl) hc (ad hl hk)))))) hk
theorem a5v {g:Nd} (h:i5 m D g.av f) (hr:Rm D s) (hl:Sh (x++f (pd s.d))) (hk:K (.str (x++f (pd s.d))) (b7 s)):aH (m+n+1) tW [cK,g.av,.str x] (b7 s) K:=by
 refine en ?_
 conv=>whnf
 rw [dZ];exact h n hr (sf hl) (ad hl hk)
noncomputable abbrev g8s:Nm:=[32,102,105,110,97,108,108,121,32]
theorem c1f {f:Bool} {g:Nd} (h:i5 m D g.av (bI fs)) (hr:Rm D s) (hl:Sh (gM f fs (pd s.d))) (hk:K (.str (gM f fs (pd s.d))) (b7 s)):aH (m+n+1) tW [cK,a9o f g,.str g8s] (b7 s) K:=by
 cases f with
 |false=>exact en hk
 |true=>exact a5v h hr hl hk
theorem e3j {B CB FB:Ts} {c:Option (Option Nm)} {f:Bool} (hb:∀i,PtL m D (aX p B i).av (aP B)/\(aX p B i).av.length<=1000) (hc:∀i,PtL m D (aX p CB i).av (aP CB)/\(aX p CB i).av.length<=1000) (hf:∀i,PtL m D (aX p FB i).av (aP FB)/\(aX p FB i).av.length<=1000):
  i5 (m+12) (D+3) (pl p (.tryT B c CB f FB) i).av (bC (.tryT B c CB f FB)):=i5.of (m:=m+6) (c:=6) λn s K hr hl hk=>by
 have tf:∀{j q},i5 (m+6) (D+2) (blN p FB j q).av (bI (aP FB)):=b1h (hf _).1 (hf _).2
 cases c with
 |none=>
  rw [b3n];refine bJ (kd:=57) rfl rfl hr.lt (λ{K} hk=> ?_) hk
  have hl:Sh ([116,114,121,32]++bI (aP B) (pd s.d)++[]++gM f (aP FB) (pd s.d)):=hl;have hk:K (.str ([116,114,121,32]++bI (aP B) (pd s.d)++[]++gM f (aP FB) (pd s.d))) (b7 s.kn):=hk;have h1:=pf (pf hl);exact en (kK (s:=s.kn) (m:=m+6) (n:=n) (hb _).1.mono hr.kn.le (sf h1) (hb _).2 (ad h1 (gH (p:=p) (v:=none) (j:=0) hr.kn.lt (h3w _) (ad (pf hl) (c1f (s:=s.kn) (n:=n+3) tf hr.kn (sf hl) (ad hl hk))))))
 |some x=>
  have tc:=c7o (m:=m) (D:=D) (p:=p) (v:=x) (j:=cG B i) (hc _).1 (hc _).2;rw [b3r];refine bJ (kd:=57) rfl rfl hr.lt (λ{K} hk=> ?_) hk
  have e:l7 x++bI (aP CB) (pd s.d)=[32]++(a1b x++bI (aP CB) (pd s.d)):=by cases x<;>rfl
  have hl:Sh ([116,114,121,32]++bI (aP B) (pd s.d)++(l7 x++bI (aP CB) (pd s.d))++gM f (aP FB) (pd s.d)):=hl;have hk:K (.str ([116,114,121,32]++bI (aP B) (pd s.d)++(l7 x++bI (aP CB) (pd s.d))++gM f (aP FB) (pd s.d))) (b7 s.kn):=hk;rw [e]at hl hk;have h1:=pf (pf hl);exact en (kK (s:=s.kn) (m:=m+6) (n:=n) (hb _).1.mono hr.kn.le (sf h1) (hb _).2 (ad h1 (a5v (s:=s.kn) (n:=n+3) tc hr.kn (sf (pf hl)) (ad (pf hl) (c1f (s:=s.kn) (n:=n+3) tf hr.kn (sf hl) (ad hl hk))))))
end
section
variable {p:Pos}
theorem PtL.rm {m D:Nat} {l:List AV} {fs:List Tf} (h:PtL m D l fs):PtL m (D+1) l fs:=by
 induction h with
 |nil=>exact .nil
 |cons h _ ih=>exact .cons h.rm ih
abbrev YT (p:Pos) (t:T):Prop:=∀{d il sw:Nat} {L:b5},ok t il sw L->iT t->dT t<=d->Pc p (12*d+7) (4*d+2) t
abbrev YTs (p:Pos) (ts:Ts):Prop:=∀{d il sw:Nat} {L:b5},i4 ts il sw L->gL ts->b3 ts<=d->∀i,PtL (12*d+7) (4*d+2) (aX p ts i).av (aP ts)
abbrev YCs (p:Pos) (cs:Cs):Prop:=∀{d il sw:Nat} {L:b5},qD cs il sw L->wI cs->j2 cs<=d->∀i,PtL (12*d+11) (4*d+4) (jS p cs i).av (kJ cs)
theorem v9 {ts:Ts} {il sw i:Nat} {L:b5} (h:i4 ts il sw L):(aX p ts i).av.length<=1000:=a3t ts▸uZ h
theorem f9c {cs:Cs} {il sw i:Nat} {L:b5} (h:qD cs il sw L):(jS p cs i).av.length<=1000:=b3z cs▸a2z h
theorem Pc.of {m D:Nat} {t:T} (h:yX p m D t) (hb:∀ts,t≠.block ts:=by exact λ_=>nofun):Pc p m D t:=⟨h,λts e=>absurd e (hb ts)⟩
theorem g2r {x:Nm} (hx:gd x) (h:gK x):decide (dR x 0 3=[108,101,116])=false:=by
 have:=lG (P:=λx=>decide (x=[108,101,116])|| !decide (dR x 0 3=[108,101,116])) (by decide+kernel) hx
 rw [show decide (x=[108,101,116])=false from h]at this
 exact u9 this
theorem e2n (h:Hd) (t:T) (ih:YT p t):YT p (.pre h t):=λ{d il sw L} o g e=>o7 (Q:=λd=>Pc p (12*d+7) (4*d+2) (.pre h t)) e λd e=>.of (λi=>by
 have k:Pc p (12*d+7) (4*d+2) t:=ih o.2.2 g.2 e;cases h with
 |wh x=>exact((d1h k i).mono (k:=5)).rm.rm
 |fr f a b=>exact((e7t (F:=f) k (λw y v ds z=>by subst z;exact o.1.2.1.c) (λx z=>by subst z;exact g2r g.1.1 o.1) i).mono (k:=5)).rm.rm
 |each b w y x=>exact((d7c k i).mono (k:=5)).rm.rm
 |lab l=>exact((e0h k i).mono (k:=10)).rm.rm) nofun
theorem f3c (b:Ts) (c:Option (Option Nm)) (cb:Ts) (f:Bool) (fb:Ts) (hb:YTs p b) (hc:YTs p cb) (hf:YTs p fb):YT p (.tryT b c cb f fb):=λ{d il sw L} o g e=>o7 (Q:=λd=>Pc p (12*d+7) (4*d+2) (.tryT b c cb f fb)) e λd e=>.of (λi=>
 have e1:=eX e;have e2:=eX e1.2
 (e3j (λi=>⟨hb o.1 g.1 e1.1 i,v9 o.1⟩) (λi=>⟨hc o.2.1 g.2.2.1 e2.1 i,v9 o.2.1⟩) (λi=>⟨hf o.2.2.1 g.2.2.2 e2.2 i,v9 o.2.2.1⟩)).rm) nofun
theorem c5x (ts:Ts) (ih:YTs p ts):YT p (.block ts):=λ{d il sw L} o g e=>o7 (Q:=λd=>Pc p (12*d+7) (4*d+2) (.block ts)) e λd e=>
 ⟨λi=>((b1h (ih o g e _) (v9 o)).mono (k:=6)).rm.rm,λts' z j=>by
  injection z with z
  subst z;exact⟨((ih o g e j).mono (k:=12)).rm.rm.rm.rm,v9 o⟩⟩
theorem ptT:∀t,YT p t:=@T.rec (YT p) (YTs p) (YCs p) (λl {d il sw L} o g e=>.of (d4t (m:=12*d) (D:=4*d) o g) nofun) e2n
 (λt x ih {d il sw L} o g e=>o7 (Q:=λd=>Pc p (12*d+7) (4*d+2) (.doW t x)) e λd e=>.of (λi=>((f4x (ih o.2 g.1 e) i).mono (k:=5)).rm.rm) nofun)
 (λx t ih {d il sw L} o g e=>o7 (Q:=λd=>Pc p (12*d+7) (4*d+2) (.if1 x t)) e λd e=>.of (λi=>((e3g (ih o.2 g.2 e) i).mono (k:=5)).rm.rm) nofun)
 (λx t u ih ih' {d il sw L} o g e=>o7 (Q:=λd=>Pc p (12*d+7) (4*d+2) (.if2 x t u)) e λd e=>.of (λi=>((e1s (ih o.2.1 g.2.1 (eX e).1) (ih' o.2.2.2 g.2.2 (eX e).2) i).mono (k:=5)).rm.rm) nofun)
 c5x
 (λx cs ih {d il sw L} o g e=>o7 (Q:=λd=>Pc p (12*d+7) (4*d+2) (.switch x cs)) e λd e=>.of (λi=>(c1r (ih o.1 g.2 e _) (f9c o.1)).mono (k:=3)) nofun)
 f3c (λ_ _ _ _=>.nil) (λt ts h h' {d il sw L} o g e i=>.cons ((h o.1 g.1 (eX e).1).v i) (h' o.2.1 g.2 (eX e).2 _))
 (λ_ _ _ _=>.nil) (λx b cs h h' {d il sw L} o g e i=>.cons (d6t (h o.1 g.2.1 (eX e).1 _) (v9 o.1)) (h' o.2.1 g.2.2 (eX e).2 _))
end
inductive Lx where
 |nl
 |sp
 |sg (c:Nat)
 |wd (s:Nm)
noncomputable def Lx.tx:Lx->Nm
 | .nl=>[10]
 | .sp=>[32]
 | .sg c=>[c]
 | .wd s=>s
noncomputable def fD:List Lx->Nm
 |[]=>[]
 |x::l=>x.tx++fD l
theorem w9:∀{a b:List Lx},fD (a++b)=fD a++fD b
 |[],b=>rfl
 |x::a,b=>by simp only [List.cons_append,fD,w9 (a:=a),h3p]
noncomputable abbrev nG:Nm:=[97,98,99,100,101,102,103,104,105,106,107,108,109,110,111,112,113,114,115,116,117,118,119,120,121,122]
def mS (c:Nat):Bool:=eS c nG
noncomputable def kwL:List Nm:=[[105,102],[101,108,115,101],[119,104,105,108,101],[100,111],[102,111,114],[105,110],[115,119,105,116,99,104],[99,97,115,101],[100,101,102,97,117,108,116],[114,101,116,117,114,110],[98,114,101,97,107],[99,111,110,116,105,110,117,101],[116,104,114,111,119],[116,114,121],[99,97,116,99,104],[102,105,110,97,108,108,121],[118,97,114],[99,111,110,115,116]]
noncomputable def kwB (w:Nm):Bool:=match kwL with|[]=>false|_=>memB w kwL
where memB (w:Nm):List Nm->Bool
 |[]=>false
 |y::l=>decide (y=w)||memB w l
def lW (w:Nm):Nat:=match kwB w with|true=>2|false=>1
def c4t:List Lx->Prop
 | .wd _::_=>False
 |_=>True
noncomputable def wM:List Lx->Prop
 |[]=>True
 | .nl::l=>wM l
 | .sp::l=>wM l
 | .sg c::l=>mS c=false/\c≠10/\c≠32/\wM l
 | .wd s::l=>s≠ []/\(∀c∈s,mS c=true)/\c4t l/\wM l
noncomputable def mG:List Lx->Nat->Bool->List AV
 |[],q,f=>[bH 0 [] q q f]
 | .nl::l,q,f=>mG l (q+1) true
 | .sp::l,q,f=>mG l (q+1) f
 | .sg c::l,q,f=>bH 5 [c] q (q+1) f::mG l (q+1) false
 | .wd s::l,q,f=>bH (lW s) s q (q+s.length) f::mG l (q+s.length) false
def At (S:Nm) (q:Nat) (r:Nm):Prop:=∃pre,S=pre++r/\pre.length=q
section
variable {S r s:Nm} {q c n:Nat} {K:AV->aB->Prop} {st:aB}
theorem b4s {α:Type}:∀{a b:List α} {x:α},aD (a++x::b) a.length=some x
 |[],b,x=>rfl
 |_::a,b,x=>b4s (a:=a)
theorem At.nth (h:At S q (c::r)):aD S q=some c:=by obtain⟨pre,rfl,rfl⟩:=h;exact b4s
theorem At.app (h:At S q (s++r)):At S (q+s.length) r:=by obtain⟨pre,rfl,rfl⟩:=h;exact⟨pre++s,(h3p ..).symm,h3o⟩
theorem At.lt (h:At S q (c::r)):decide (Int.ofNat q<(S.length:Int))=true:=h3v (Int.ofNat_lt.mpr (a3r h.nth))
theorem At.ge (h:At S q []):decide (Int.ofNat q<(S.length:Int))=false:=by
 obtain⟨pre,rfl,rfl⟩:=h;exact h3u (Int.not_lt.mpr (Int.ofNat_le.mpr (h3y (h3s List.length (h3q pre)))))
theorem At.cut (h:At S q (s++r)):dR S q (q+s.length)=s:=by
 obtain⟨pre,rfl,rfl⟩:=h;unfold dR;rw [<-h3p,List.take_left' h3o,List.drop_left' rfl]
theorem At.le (h:At S q r):q<=S.length:=by obtain⟨pre,rfl,rfl⟩:=h;exact h3o▸h3x _ _
theorem tP {a b c d e f:AV} {st:aB} {P:AV->aB->Prop} (h:P .none (st++[some (.obj [(5,a),(34,b),(44,c),(1,d),(43,e),(42,f)])])):aH (n+1) 42 [.obj 23 st.length,a,b,c,d,e,f] (st++[some (.obj [])]) P:=by
 refine en ?_
 conv=>whnf
 rw [nI];conv=>whnf
 iterate 5 (rw [pR,nI];conv=>whnf)
 rw [pR]at*;exact h
theorem eA {s:Nm} {i c:Nat} (h:Mx.aD s i=some c) (st:aB):dB st (.str s) (.int (.ofNat i))=some (.str [c]):=by
 show(match Mx.aD s i with|some c=>some (AV.str [c])|none=>none)=_
 rw [h]
theorem i3 {x y z:AV} {K:VK} {L:aN} (h:dB st x y=some z) (k:K z L st):b6j x K y L st:=by unfold b6j;rw [h];exact k
noncomputable def g4r:Ss->Ss
 | .cons (.ite _ a _) _=>a
 |_=>.nil
def tkB:Ss:=wB (dr 3 mU.body)
def tkW:Ss:=g4r (dr 4 tkB)
abbrev okN (r:Nm):Prop:=r=[]\/∃c t,r=c::t/\mS c=false
theorem d9d {Z:FK} {a b c e:Slot} (hr:okN r):∀{s:Nm} {q:Nat},At S q (s++r)->(∀c∈s,mS c=true)->jB (aZ TT (aO TT (aD fns) n) (dr 1 tkW)) Z .nxt [.val (.str S),a,b,.val (.int (.ofNat (q+s.length))),c,e] st->
  Wl n tkW Z (s.length+1) [.val (.str S),a,b,.val (.int (.ofNat q)),c,e] st:=by
 intro s
 induction s with
 |nil=>
  intro q h hs hk;rcases hr with rfl|⟨c',t,rfl,hc⟩
  ·conv=>whnf
   rw [At.ge h];exact hk
  ·conv=>whnf
   rw [At.lt h];refine i3 (eA h.nth _) ?_
   conv=>whnf
   rw [show eS c' nG=mS c' from rfl,hc]
   exact hk
 |cons x s ih=>
  intro q h hs hk;refine Wl.go (λk hk=> ?_) (ih (At.app (s:=[x]) h) (λc m=>hs c (.tail _ m)) (by rw [h4f,h4d];exact hk))
  conv=>whnf
  rw [At.lt h];refine i3 (eA h.nth _) ?_
  conv=>whnf
  rw [show eS x nG=mS x from rfl,hs x (.head _)]
  exact hk
theorem f6b (w:Nm):lW w=match kwB.memB w kwL with|true=>2|false=>1:=rfl
theorem c4m {Z:FK} {out:List AV} {f:Bool} {q k:Nat} {s:Nm} (h:At S q (s++r)) (ho:out.length<=1000000) (hk:Z .nxt [.val (.str S),.own (out++[bH k s q (q+s.length) f]),.val (.bool false),.val (.int (.ofNat (q+s.length))),.val (.int (.ofNat q)),.val (.int (.ofNat k))] st):
  aZ TT (aO TT (aD fns) (n+1)) (dr 5 tkB) [.val (.str S),.own out,.val (.bool f),.val (.int (.ofNat (q+s.length))),.val (.int (.ofNat q)),.val (.int (.ofNat k))] st Z:=by
 have hc:dR S q (q+s.length)=s:=h.cut
 conv=>whnf
 rw [hc];refine⟨tP ⟨rfl,rfl⟩,?_⟩;exact⟨ho,hk⟩
theorem a6t {a b:Nat} (h:a≠b):decide (([a]:Nm)=[b])=false:=h3u λe=>h (List.cons.inj e).1
abbrev wO (n:Nat) (S:Nm) (K:AV->aB->Prop) (st:aB) (ls:List Lx):Prop:=∀{q:Nat} {out:List AV} {f:Bool} {s4 s5:Slot},At S q (fD ls)->wM ls->out.length<=q->(∀r,r=out++mG ls q f->K (.lst r) st)->
  Wl (n+1) (dr 3 mU.body) (c4 K) (ls.length+1) [.val (.str S),.own out,.val (.bool f),.val (.int (.ofNat q)),s4,s5] st
theorem e2f (hS:S.length<=900000):wO n S K st []:=λ{q out f s4 s5} h hw ho hk=>by
 conv=>whnf
 rw [At.ge h];refine⟨tP ⟨rfl,rfl⟩,?_⟩;exact⟨h3j ho (h3j h.le (h3j hS (by decide))),hk _ rfl⟩
theorem f5n {ls:List Lx} (ih:wO n S K st ls):wO n S K st (.nl::ls):=λ{q out f s4 s5} h hw ho hk=>by
 refine Wl.go (λk kk=> ?_) (ih (q:=q+1) (out:=out) (f:=true) (s4:=.val (.int (.ofNat q))) (s5:=s5) (At.app (s:=[10]) h) hw (h4w ho) hk)
 conv=>whnf
 rw [At.lt h];refine i3 (eA h.nth _) ?_;cases f with
 |true=>exact kk
 |false=>exact i3 (eA h.nth _) kk
theorem f6g {ls:List Lx} (ih:wO n S K st ls):wO n S K st (.sp::ls):=λ{q out f s4 s5} h hw ho hk=>by
 refine Wl.go (λk kk=> ?_) (ih (q:=q+1) (out:=out) (f:=f) (s4:=.val (.int (.ofNat q))) (s5:=s5) (At.app (s:=[32]) h) hw (h4w ho) hk)
 conv=>whnf
 rw [At.lt h];refine i3 (eA h.nth _) ?_;refine i3 (eA h.nth _) ?_;cases f with
 |true=>exact kk
 |false=>exact i3 (eA h.nth _) kk
theorem f6w {c:Nat} {ls:List Lx} (hS:S.length<=900000) (ih:wO n S K st ls):wO n S K st (.sg c::ls):=λ{q out f s4 s5} h hw ho hk=>by
 refine Wl.go (λk kk=> ?_) (ih (q:=q+1) (out:=out++[bH 5 [c] q (q+1) f]) (f:=false) (s4:=.val (.int (.ofNat q))) (s5:=.val (.int 5)) (At.app (s:=[c]) h) hw.2.2.2 (by rw [h3o];exact h3r ho) λr e=>hk r (e.trans (h3p ..)))
 conv=>whnf
 rw [At.lt h];refine i3 (eA h.nth _) ?_
 conv=>whnf
 rw [a6t hw.2.1];refine i3 (eA h.nth _) ?_
 conv=>whnf
 rw [a6t hw.2.2.1];refine i3 (eA h.nth _) ?_
 conv=>whnf
 rw [show eS c nG=mS c from rfl,hw.1]
 exact c4m (s:=[c]) h (h3j ho (h3j h.le (h3j hS (by decide)))) kk
theorem f7b {b:List Lx} (hw:wM b) (hn:c4t b):okN (fD b):=by
 cases b with
 |nil=>exact .inl rfl
 |cons x b=>
  cases x with
  |nl=>exact .inr ⟨_,_,rfl,rfl⟩
  |sp=>exact .inr ⟨_,_,rfl,rfl⟩
  |sg c=>exact .inr ⟨_,_,rfl,hw.1⟩
  |wd s=>exact hn.elim
theorem d4o {Z:FK} {s:Nm} {out:List AV} {f:Bool} (h:At S q (s++r)) (hk:Z .nxt [.val (.str S),.own out,.val (.bool f),.val (.int (.ofNat (q+s.length))),.val (.int (.ofNat q)),.val (.int (.ofNat (lW s)))] st):
  jB (aZ TT (aO TT (aD fns) n) (dr 1 tkW)) Z .nxt [.val (.str S),.own out,.val (.bool f),.val (.int (.ofNat (q+s.length))),.val (.int (.ofNat q)),.val (.int 5)] st:=by
 conv=>whnf
 rw [h.cut];have e:=f6b s
 change (match kwB.memB s kwL with|true=>_|false=>_)
 cases hb:kwB.memB s kwL with
 |true=>rw [hb]at e;rw [e]at hk;exact hk
 |false=>rw [hb]at e;rw [e]at hk;exact hk
theorem f5l {s:Nm} {ls:List Lx} (hS:S.length<=900000) (ih:wO n S K st ls):wO n S K st (.wd s::ls):=λ{q out f s4 s5} h hw ho hk=>by
 refine Wl.go (λk kk=> ?_) (ih (q:=q+s.length) (out:=out++[bH (lW s) s q (q+s.length) f]) (f:=false) (s4:=.val (.int (.ofNat q))) (s5:=.val (.int (.ofNat (lW s)))) (At.app (s:=s) h) hw.2.2.2 (by rw [h3o];exact h4x ho (List.length_pos_iff.mpr hw.1)) λr e=>hk r (e.trans (h3p ..)))
 cases s with
 |nil=>exact absurd rfl hw.1
 |cons c s=>
  have hc:=hw.2.1 c (.head _);have hx:At S q (c::(s++fD ls)):=h
  conv=>whnf
  rw [At.lt hx];refine i3 (eA hx.nth _) ?_
  conv=>whnf
  rw [a6t (λe:c=10=>by subst e;cases hc)]
  refine i3 (eA hx.nth _) ?_
  conv=>whnf
  rw [a6t (λe:c=32=>by subst e;cases hc)]
  refine i3 (eA hx.nth _) ?_
  conv=>whnf
  rw [show eS c nG=mS c from rfl,hc]
  refine⟨s.length+1,d9d (n:=n+1) (f7b hw.2.2.2 hw.2.2.1) (q:=q+1) (s:=s) (At.app (s:=[c]) hx) (λc m=>hw.2.1 c (.tail _ m)) ?_⟩
  rw [h4f q 1,h4d q];exact d4o (s:=c::s) (r:=fD ls) h (c4m (s:=c::s) (r:=fD ls) h (h3j ho (h3j h.le (h3j hS (by decide)))) kk)
theorem t7 (hS:S.length<=900000):∀ls,wO n S K st ls
 |[]=>e2f hS
 | .nl::ls=>f5n (t7 hS ls)
 | .sp::ls=>f6g (t7 hS ls)
 | .sg _::ls=>f6w hS (t7 hS ls)
 | .wd _::ls=>f5l hS (t7 hS ls)
theorem a7x {ls:List Lx} (hw:wM ls) (hl:(fD ls).length<=900000) (hk:K (.lst (mG ls 0 false)) st):aH (n+2) a8t [.str (fD ls)] st K:=
 en ⟨ls.length+1,t7 (n:=n) (K:=K) hl ls (out:=[]) ⟨[],rfl,rfl⟩ hw (h3w _) λr e=>e▸hk⟩
end
noncomputable def Mt:List Lx->Bool->List P->Prop
 |[],_,ps=>ps=[]
 | .nl::l,_,ps=>Mt l true ps
 | .sp::l,f,ps=>Mt l f ps
 | .sg c::l,f,ps=>match ps with
  |p::ps=>p.k=5/\p.s=[c]/\(p.nf=true->f=false)/\Mt l false ps
  |[]=>False
 | .wd s::l,f,ps=>match ps with
  |p::ps=>p.k=lW s/\p.s=s/\(p.nf=true->f=false)/\Mt l false ps
  |[]=>False
theorem Mt.app:∀{a b:List Lx} {f:Bool} {ps qs:List P},Mt a f ps->(∀f,Mt b f qs)->Mt (a++b) f (ps++qs)
 |[],b,f,ps,qs,h,h'=>by subst h;exact h' f
 | .nl::a,b,f,ps,qs,h,h'=>Mt.app (a:=a) h h'
 | .sp::a,b,f,ps,qs,h,h'=>Mt.app (a:=a) h h'
 | .sg c::a,b,f,p::ps,qs,h,h'=>⟨h.1,h.2.1,h.2.2.1,Mt.app (a:=a) h.2.2.2 h'⟩
 | .wd s::a,b,f,p::ps,qs,h,h'=>⟨h.1,h.2.1,h.2.2.1,Mt.app (a:=a) h.2.2.2 h'⟩
 | .sg c::a,b,f,[],qs,h,h'=>h.elim
 | .wd s::a,b,f,[],qs,h,h'=>h.elim
noncomputable def wf:Bool->List Lx->Prop
 |_,[]=>True
 |_,.nl::l=>wf false l
 |_,.sp::l=>wf false l
 |_,.sg c::l=>mS c=false/\c≠10/\c≠32/\wf false l
 |b,.wd s::l=>b=false/\s≠ []/\(∀c∈s,mS c=true)/\wf true l
noncomputable def rL:Bool->List Lx->Bool
 |b,[]=>b
 |_,.nl::l=>rL false l
 |_,.sp::l=>rL false l
 |_,.sg _::l=>rL false l
 |_,.wd _::l=>rL true l
theorem wf.app:∀{a b:List Lx} {q:Bool},wf q a->wf (rL q a) b->wf q (a++b)/\rL q (a++b)=rL (rL q a) b
 |[],b,q,_,h=>⟨h,rfl⟩
 | .nl::a,b,q,h,h'=>wf.app (a:=a) (b:=b) (q:=false) h h'
 | .sp::a,b,q,h,h'=>wf.app (a:=a) (b:=b) (q:=false) h h'
 | .sg c::a,b,q,h,h'=>⟨⟨h.1,h.2.1,h.2.2.1,(wf.app (a:=a) (b:=b) (q:=false) h.2.2.2 h').1⟩,(wf.app (a:=a) (b:=b) (q:=false) h.2.2.2 h').2⟩
 | .wd s::a,b,q,h,h'=>⟨⟨h.1,h.2.1,h.2.2.1,(wf.app (a:=a) (b:=b) (q:=true) h.2.2.2 h').1⟩,(wf.app (a:=a) (b:=b) (q:=true) h.2.2.2 h').2⟩
theorem wf.wfL:∀{l:List Lx} {q:Bool},wf q l->wM l/\(q=true->c4t l)
 |[],q,_=>⟨h3m,λ_=>h3m⟩
 | .nl::l,q,h=>⟨(wf.wfL (l:=l) (q:=false) h).1,λ_=>h3m⟩
 | .sp::l,q,h=>⟨(wf.wfL (l:=l) (q:=false) h).1,λ_=>h3m⟩
 | .sg c::l,q,h=>⟨⟨h.1,h.2.1,h.2.2.1,(wf.wfL (l:=l) (q:=false) h.2.2.2).1⟩,λ_=>h3m⟩
 | .wd s::l,q,h=>⟨⟨h.2.1,h.2.2.1,(wf.wfL (l:=l) (q:=true) h.2.2.2).2 rfl,(wf.wfL (l:=l) (q:=true) h.2.2.2).1⟩,λe=>by rw [e]at h;cases h.1⟩
def aI (b b':Bool) (ps:List P) (s:Nm):Prop:=∃l,fD l=s/\(∀f,Mt l f ps)/\wf b l/\rL b l=b'
theorem aI.app {b b' b'':Bool} {ps qs:List P} {s t:Nm} (h:aI b b' ps s) (h':aI b' b'' qs t):aI b b'' (ps++qs) (s++t):=by
 obtain⟨l,h1,h2,h3,h4⟩:=h;obtain⟨l',g1,g2,g3,g4⟩:=h';subst h4;exact⟨l++l',by rw [w9,h1,g1],λf=>(h2 f).app g2,(wf.app h3 g3).1,(wf.app h3 g3).2.trans g4⟩
theorem aI.nil {b:Bool}:aI b b [] []:=⟨[],rfl,λ_=>rfl,h3m,rfl⟩
theorem aI.sp {b:Bool}:aI b false [] [32]:=⟨[.sp],rfl,λ_=>rfl,h3m,rfl⟩
theorem d4k:∀d:Nat,aI false false [] (pd d)
 |0=>.nil
 |d+1=>(aI.sp.app aI.sp).app (d4k d)
theorem aI.nl {b:Bool}:aI b false [] [10]:=⟨[.nl],rfl,λ_=>rfl,h3m,rfl⟩
theorem a9n {b:Bool} {d:Nat}:aI b false [] ([10]++pd d):=aI.nl.app (d4k d)
def x8 (s:Nm):Bool:=s.all mS&& !s.isEmpty
theorem gY {s:Nm} (h:x8 s=true):s≠ []/\∀c∈s,mS c=true:=by
 simp only [x8,h4l,List.all_eq_true,Bool.not_eq_true',List.isEmpty_eq_false_iff]at h;exact⟨h.2,h.1⟩
theorem aI.nm {x:Nm} (h:gd x):aI false true [N x] x:=by
 have h1:=lG (P:=x8) rfl h
 have h2:lW x=1:=by
  have:=lG (P:=λx=> !kwB x) rfl h
  simp only [Bool.not_eq_true']at this;rw [lW,this]
 exact⟨[.wd x],by simp [fD,Lx.tx],λf=>⟨h2.symm,rfl,(λh=>by cases h),rfl⟩,⟨rfl,(gY h1).1,(gY h1).2,h3m⟩,rfl⟩
theorem aI.kw {s:Nm} (h1:x8 s=true) (h2:lW s=2):aI false true [W s] s:=
 ⟨[.wd s],by simp [fD,Lx.tx],λf=>⟨h2.symm,rfl,(λh=>by cases h),rfl⟩,⟨rfl,(gY h1).1,(gY h1).2,h3m⟩,rfl⟩
theorem aI.sg {b:Bool} {c:Nat} (h:(!mS c&&(c !=10&&c !=32))=true):aI b false [Sg c] [c]:=by
 simp only [h4l,Bool.not_eq_true',bne_iff_ne]at h;exact⟨[.sg c],rfl,λf=>⟨rfl,rfl,(λh=>by cases h),rfl⟩,⟨h.1,h.2.1,h.2.2,h3m⟩,rfl⟩
theorem aI.kwNm {s x:Nm} (h1:x8 s=true) (h2:lW s=2) (h:gd x):aI false true [W s,N' x] (s++[32]++x):=by
 have g1:=lG (P:=x8) rfl h
 have g2:lW x=1:=by
  have:=lG (P:=λx=> !kwB x) rfl h
  simp only [Bool.not_eq_true']at this;rw [lW,this]
 exact⟨[.wd s,.sp,.wd x],by simp [fD,Lx.tx],λf=>⟨h2.symm,rfl,(λh=>by cases h),g2.symm,rfl,λ_=>rfl,rfl⟩,⟨rfl,(gY h1).1,(gY h1).2,rfl,(gY g1).1,(gY g1).2,h3m⟩,rfl⟩
theorem aI.cast {b b':Bool} {ps qs:List P} {s t:Nm} (h:aI b b' ps s) (hp:ps=qs) (hs:s=t):aI b b' qs t:=by subst hp hs;exact h
theorem d7j:∀w,aI false true [uU w] (cW w)
 |0=>aI.nm (List.elem_iff.mp rfl)
 |1=>aI.kw rfl rfl
 |_+2=>aI.kw rfl rfl
theorem b4c {y:Nm} {v:Option Nm} (hy:gd y) (hv:cR v):aI false true (jR y v) (eP y v):=by
 cases v with
 |none=>exact aI.nm hy
 |some v=>exact((aI.nm hy).app ((aI.sp.app (aI.sg (c:=61) rfl)).app aI.sp)).app (aI.nm hv)
theorem a8i:∀{ds:List (Nm×Option Nm)} {y:Nm} {v:Option Nm},j5 y v ds->aI false true (jR y v++l8 ds) (yL y v ds)
 |[],y,v,h=>(b4c h.1 h.2.1).cast (h3q _).symm rfl
 |(y',v')::ds,y,v,h=>by
  have h':j5 y' v' ds:=⟨(h.2.2 _ (.head _)).1,(h.2.2 _ (.head _)).2,λd hd=>h.2.2 d (.tail _ hd)⟩
  exact((b4c h.1 h.2.1).app (((aI.sg (c:=44) rfl).app aI.sp).app (a8i h'))).cast rfl (h3p ..).symm
theorem a9l {w:Nat} {y:Nm} {v:Option Nm} {ds:List (Nm×Option Nm)} (h:j5 y v ds):aI false true (jH w y v ds) (lU w y v ds):=
 (((d7j w).app aI.sp).app (a8i h)).cast rfl rfl
theorem d5r {l:Leaf} (h:kN l):aI false false (kU l) (kO l):=by
 cases l with
 |expr x=>exact(aI.nm h).app (aI.sg (c:=59) rfl)
 |empty=>exact aI.sg (c:=59) rfl
 |var w y v ds=>exact(a9l h).app (aI.sg (c:=59) rfl)
 |ret x=>
  cases x with
  |none=>exact(aI.kw (s:=[114,101,116,117,114,110]) rfl rfl).app (aI.sg (c:=59) rfl)
  |some x=>exact((aI.kwNm (s:=[114,101,116,117,114,110]) rfl rfl h).app (aI.sg (c:=59) rfl)).cast rfl rfl
 |throw x=>exact((aI.kwNm (s:=[116,104,114,111,119]) rfl rfl h).app (aI.sg (c:=59) rfl)).cast rfl rfl
 |brk l=>
  cases l with
  |none=>exact(aI.kw (s:=[98,114,101,97,107]) rfl rfl).app (aI.sg (c:=59) rfl)
  |some l=>exact((aI.kwNm (s:=[98,114,101,97,107]) rfl rfl h).app (aI.sg (c:=59) rfl)).cast rfl rfl
 |cont l=>
  cases l with
  |none=>exact(aI.kw (s:=[99,111,110,116,105,110,117,101]) rfl rfl).app (aI.sg (c:=59) rfl)
  |some l=>exact((aI.kwNm (s:=[99,111,110,116,105,110,117,101]) rfl rfl h).app (aI.sg (c:=59) rfl)).cast rfl rfl
theorem c4e {x:Option Nm} {c:Nat} (h:cR x) (hc:(!mS c&&(c !=10&&c !=32))=true):aI false false (i8 x++[Sg c]) (fM [32] x++[c]):=by
 cases x with
 |none=>exact aI.sg hc
 |some x=>exact(aI.sp.app (aI.nm h)).app (aI.sg hc)
theorem d0e {f:First} {c:Nat} (h:match f with| .no=>True| .ex x=>gd x| .var _ y v ds=>j5 y v ds) (hc:(!mS c&&(c !=10&&c !=32))=true):aI false false (j3 f++[Sg c]) (qC f++[c]):=by
 cases f with
 |no=>exact aI.sg hc
 |ex x=>exact(aI.nm h).app (aI.sg hc)
 |var w y v ds=>exact(a9l h).app (aI.sg hc)
theorem f4v (o:Bool):aI true false [zN o] (match o with|true=>[32,111,102,32] |false=>[32,105,110,32]):=by
 cases o with
 |true=>exact(aI.sp.app (aI.nm (x:=[111,102]) (List.elem_iff.mp rfl))).app aI.sp
 |false=>exact(aI.sp.app (aI.kw (s:=[105,110]) rfl rfl)).app aI.sp
theorem d4z {w:Nat} {y:Nm} (h:gd y):aI false true [uU w,N y] (lU w y none []):=(a9l (v:=none) (ds:=[]) ⟨h,h3m,(λd hd=>nomatch hd)⟩).cast rfl rfl
theorem f8o {h:Hd} (hg:hdG h):aI false false (pP h) (hdX h):=by
 cases h with
 |wh x=>exact((((aI.kw (s:=[119,104,105,108,101]) rfl rfl).app aI.sp).app (aI.sg (c:=40) rfl)).app (aI.nm hg)).app (aI.sg (c:=41) rfl)
 |fr f a b=>
  exact((((((aI.kw (s:=[102,111,114]) rfl rfl).app aI.sp).app (aI.sg (c:=40) rfl)).app (d0e (c:=59) hg.1 rfl)).app (c4e (c:=59) hg.2.1 rfl)).app (c4e (c:=41) hg.2.2 rfl)).cast
   (by show _=W [102,111,114]::Sg 40::(j3 f++Sg 59::(i8 a++Sg 59::(i8 b++[Sg 41])));simp only [h3p,List.cons_append,List.nil_append,h3q])
   (by show _=[102,111,114,32,40]++qC f++[59]++fM [32] a++[59]++fM [32] b++[41];simp only [h3p,List.cons_append,List.nil_append])
 |each o w y x=>
  exact((((((aI.kw (s:=[102,111,114]) rfl rfl).app aI.sp).app (aI.sg (c:=40) rfl)).app (d4z (w:=w) hg.1)).app (f4v o)).app (aI.nm hg.2)).app (aI.sg (c:=41) rfl)
 |lab l=>exact(aI.nm hg).app ((aI.sg (c:=58) rfl).app aI.sp)
theorem a3f {b:Bool} {ps:List P} {f:Tf} {d:Nat} (h:∀d,aI false false ps (f (pd d))):aI b false ps (r7 f (pd d)):=
 ((a9n (d:=d+1)).app (h (d+1))).cast rfl (by rw [uS];rfl)
theorem tR {b bl:Bool} {ps:List P} {f:Tf} {d:Nat} (h:∀d,aI false false ps (f (pd d))):aI b false ps (dF bl f (pd d)):=by
 cases bl with
 |true=>exact aI.sp.app (h d)
 |false=>exact(a3f (d:=d) h).cast rfl (h3q _).symm
theorem c4o {bl:Bool} {d:Nat}:aI false false [] (nH bl (pd d)):=by
 cases bl with
 |true=>exact aI.sp
 |false=>exact a9n
theorem sX {b:Bool} {ps:List P} {fs:List Tf} {d:Nat} (h:aI false false ps (cA fs (pd d))) (h0:fs=[]->ps=[]):aI b false (Sg 123::(ps++[Sg 125])) (bI fs (pd d)):=by
 cases fs with
 |nil=>
  rw [h0 rfl];exact(aI.sg (c:=123) rfl).app (aI.sg (c:=125) rfl)
 |cons f fs=>
  exact(((aI.sg (c:=123) rfl).app h).app ((a9n (d:=d)).app (aI.sg (c:=125) rfl))).cast (by simp) (by rw [a9y];simp only [h3p])
theorem d6b {x:Option Nm} (h:cR x):aI false false (jG x) (mE x):=by
 cases x with
 |none=>exact(aI.kw (s:=nK) rfl rfl).app (aI.sg (c:=58) rfl)
 |some x=>exact(((aI.kw (s:=a1u) rfl rfl).app aI.sp).app (aI.nm h)).app (aI.sg (c:=58) rfl)
theorem c5o {x:Option Nm} (h:cR x):aI false false (eR x) (a1b x):=by
 cases x with
 |none=>exact(aI.kw (s:=lE) rfl rfl).app aI.sp
 |some x=>exact((((aI.kw (s:=lE) rfl rfl).app aI.sp).app (aI.sg (c:=40) rfl)).app (aI.nm h)).app ((aI.sg (c:=41) rfl).app aI.sp)
theorem d2x {x:Nm} (h:gd x):aI false false (fC x) ([105,102,32,40]++x++[41]):=
 ((((aI.kw (s:=[105,102]) rfl rfl).app aI.sp).app (aI.sg (c:=40) rfl)).app (aI.nm h)).app (aI.sg (c:=41) rfl)
theorem rD {ts:Ts} (h:aP ts=[]):tks ts=[]:=by cases ts with|nil=>rfl|cons=>cases h
theorem c6c {cs:Cs} (h:kJ cs=[]):oJ cs=[]:=by cases cs with|nil=>rfl|cons=>cases h
theorem aI.app0 {b b' b'':Bool} {ps:List P} {s t:Nm} (h:aI b b' ps s) (h':aI b' b'' [] t):aI b b'' ps (s++t):=(h.app h').cast (h3q ps) rfl
def b5d (c:Option (Option Nm)) (cb:Ts):List P:=match c with
 |none=>[]
 |some x=>eR x++Sg 123::(tks cb++[Sg 125])
def d3t (f:Bool) (fb:Ts):List P:=match f with
 |false=>[]
 |true=>W [102,105,110,97,108,108,121]::Sg 123::(tks fb++[Sg 125])
theorem qH {b cb fb:Ts} {c:Option (Option Nm)} {f:Bool}:tk (.tryT b c cb f fb)=W [116,114,121]::((Sg 123::(tks b++[Sg 125]))++(b5d c cb++d3t f fb)):=
 h3s (λz=>W [116,114,121]::Sg 123::z) (h3p (tks b) [Sg 125] _).symm
abbrev w8 (t:T):Prop:=pO t->iT t->∀d,aI false false (tk t) (bC t (pd d))
abbrev b9q (ts:Ts):Prop:=nQ ts->gL ts->∀d,aI false false (tks ts) (cA (aP ts) (pd d))
abbrev LxC (cs:Cs):Prop:=a9m cs->wI cs->∀d,aI false false (oJ cs) (cA (kJ cs) (pd d))
theorem e7w (h:Hd) (t:T) (ih:w8 t):w8 (.pre h t):=λhn hg d=>by
 have k:=f8o hg.1;cases h with
 |lab l=>exact k.app (ih hn hg.2 d)
 |_=>exact k.app (tR (bl:=aV t) (d:=d) (ih hn hg.2))
theorem c1c {s x:Nm} (h1:x8 s=true) (h2:lW s=2) (h:gd x):aI false true [W s,Sg 40,N x] (s++[32]++[40]++x):=(((aI.kw h1 h2).app0 aI.sp).app (aI.sg (c:=40) rfl)).app (aI.nm h)
theorem f5q (t:T) (x:Nm) (ih:w8 t):w8 (.doW t x):=λhn hg d=>
 ((aI.kw (s:=[100,111]) rfl rfl).app ((((tR (b:=true) (bl:=aV t) (d:=d) (ih hn hg.1)).app0 (c4o (bl:=aV t) (d:=d)))).app ((c1c (s:=[119,104,105,108,101]) rfl rfl hg.2).app ((aI.sg (c:=41) rfl).app (aI.sg (c:=59) rfl))))).cast rfl rfl
theorem f1b (x:Nm) (t u:T) (ih:w8 t) (ih':w8 u):w8 (.if2 x t u):=λhn hg d=>by
 have h1:=(d2x hg.1).app (((tR (b:=false) (bl:=aV t) (d:=d) (ih hn.2.1 hg.2.1)).app0 (c4o (bl:=aV t) (d:=d))).app (aI.kw (s:=bB) rfl rfl))
 have e:bC (.if2 x t u) (pd d)=iH u (pd d) ([105,102,32,40]++x++[41]++dK (aV t) (bC t) (pd d) bB):=by
  show iH u (pd d) ([105,102,32,40]++x++[41]++(match bN t with|true=>dK true (bI [bC t]) (pd d) bB|false=>dK (aV t) (bC t) (pd d) bB))=_
  rw [hn.1]
 have ep:tk (.if2 x t u)=fC x++(tk t++[W bB])++tk u:=by show fC x++(tk t++([W bB]++tk u))=_;rw [h3p,h3p]
 rw [e,ep];unfold iH;cases hi:lQ u with
 |true=>exact h1.app (aI.sp.app (ih' hn.2.2 hg.2.2 d))
 |false=>exact h1.app (tR (bl:=aV u) (d:=d) (ih' hn.2.2 hg.2.2))
theorem f3j (b:Ts) (c:Option (Option Nm)) (cb:Ts) (f:Bool) (fb:Ts) (hb:b9q b) (hc:b9q cb) (hf:b9q fb):w8 (.tryT b c cb f fb):=λhn hg d=>by
 have h1:=((aI.kw (s:=[116,114,121]) rfl rfl).app0 aI.sp).app (sX (b:=false) (hb hn.1 hg.1 d) rD)
 have hf:aI false false (d3t f fb) (gM f (aP fb) (pd d)):=by
  cases f with
  |false=>exact aI.nil
  |true=>exact((aI.sp.app0 (aI.nil)).app (((aI.kw (s:=fW) rfl rfl).app0 aI.sp).app (sX (b:=false) (hf hn.2.2 hg.2.2.2 d) rD))).cast rfl rfl
 rw [qH];cases c with
 |none=>exact(h1.app hf).cast rfl (h3s (· ++gM f (aP fb) (pd d)) (h3q _).symm)
 |some x=>
  have hc:=(aI.sp (b:=false)).app ((c5o hg.2.1).app (sX (b:=false) (hc hn.2.1 hg.2.2.1 d) rD));have e:l7 x++bI (aP cb) (pd d)=[32]++(a1b x++bI (aP cb) (pd d)):=by cases x<;>rfl
  exact((h1.app hc).app hf).cast (h3p (_::_) _ _) (h3s (λz=>[116,114,121,32]++bI (aP b) (pd d)++z++gM f (aP fb) (pd d)) e.symm)
theorem g4z:∀(t:T),w8 t:=@T.rec w8 b9q LxC (λl hn hg d=>d5r hg) e7w f5q
 (λx t ih hn hg d=>(d2x hg.1).app (tR (bl:=aV t) (ih hn hg.2))) f1b
 (λts ih hn hg d=>sX (ih hn hg d) rD)
 (λx cs ih hn hg d=>(((c1c (s:=[115,119,105,116,99,104]) rfl rfl hg.1).app ((aI.sg (c:=41) rfl).app0 aI.sp)).app (sX (ih hn hg.2 d) c6c)).cast rfl rfl)
 f3j (λ_ _ _=>aI.nil) (λt ts h h' hn hg d=>(a3f (h hn.1 hg.1)).app (h' hn.2 hg.2 d))
 (λ_ _ _=>aI.nil) (λx b cs h h' hn hg d=>((a3f (f:=λpad=>mE x++cA (aP b) pad) (λd=>(d6b hg.1).app (h hn.1 hg.2.1 d))).app (h' hn.2 hg.2.2 d)).cast (h3p _ _ _) rfl)
theorem b4e {A:List AV} {i k q e:Nat} {s:Nm} {f:Bool} (h:aD A i=some (bH k s q e f)):iP A i=q:=by unfold iP t4;rw [h];rfl
noncomputable def m7:Nat->List AV->Prop
 |_,[]=>True
 |q,v::l=>q<=j4 v/\(∃k s e f,v=bH k s (j4 v) e f)/\m7 (j4 v+1) l
theorem m7.mono {q r:Nat} {l:List AV} (h:m7 q l) (hr:r<=q):m7 r l:=by
 cases l with
 |nil=>exact h3m
 |cons v l=>exact⟨h3j hr h.1,h.2⟩
theorem mY:∀{l:List Lx} {q:Nat} {f:Bool},wM l->m7 q (mG l q f)
 |[],q,f,h=>⟨h3k _,⟨_,_,_,_,rfl⟩,h3m⟩
 | .nl::l,q,f,h=>(mY (l:=l) h).mono (h4r _)
 | .sp::l,q,f,h=>(mY (l:=l) h).mono (h4r _)
 | .sg c::l,q,f,h=>⟨h3k _,⟨_,_,_,_,rfl⟩,mY (l:=l) h.2.2.2⟩
 | .wd s::l,q,f,h=>⟨h3k _,⟨_,_,_,_,rfl⟩,(mY (l:=l) h.2.2.2).mono (by
   have:0<s.length:=List.length_pos_iff.mpr h.1;show q+1<=q+s.length
   exact h3z this q)⟩
noncomputable def cV:Ts->Nm
 | .nil=>[]
 | .cons t ts=>bC t []++[10]++cV ts
theorem f9r:∀ts:Ts,nQ ts->gL ts->aI false false (tks ts) (cV ts):=j8 (λ_ _=>aI.nil) λt ts h hn hg=>((g4z t hn.1 hg.1 0).app0 aI.nl).app (h hn.2 hg.2)
theorem mQ:∀t:T,bN (aU t)=bN t:=a2v (λ_=>rfl) (λh t ih=>ih) (λ_ _ _=>rfl) (λ_ _ _=>rfl) (λx t u _ ih=>ih) (λ_=>rfl) (λ_ _=>rfl) (λ_ _ _ _ _=>rfl)
theorem mB:∀t:T,aV (aU t)=aV t:=a2v (λ_=>rfl) (λ_ _ _=>rfl) (λ_ _ _=>rfl) (λ_ _ _=>rfl) (λ_ _ _ _ _=>rfl) (λ_=>rfl) (λ_ _=>rfl) (λ_ _ _ _ _=>rfl)
theorem c2o:∀t:T,lQ (aU t)=lQ t:=a2v (λ_=>rfl) (λ_ _ _=>rfl) (λ_ _ _=>rfl) (λ_ _ _=>rfl) (λ_ _ _ _ _=>rfl) (λ_=>rfl) (λ_ _=>rfl) (λ_ _ _ _ _=>rfl)
abbrev TN (t:T):Prop:=bC (aU t)=bC t
abbrev w7 (ts:Ts):Prop:=aP (aY ts)=aP ts
abbrev TNc (cs:Cs):Prop:=kJ (kP cs)=kJ cs
theorem yS {t:T} (h:TN t):dF (aV (aU t)) (bC (aU t))=dF (aV t) (bC t):=by rw [h,mB]
theorem c1h (h:Hd) (t:T) (ih:TN t):TN (.pre h t):=by
 cases h with
 |lab l=>exact h3s (λ(f:Tf) pad=>hdX (.lab l)++f pad) ih
 |wh x=>exact h3s (λ(f:Tf) pad=>hdX (.wh x)++f pad) (yS ih)
 |fr f a b=>exact h3s (λ(g:Tf) pad=>hdX (.fr f a b)++g pad) (yS ih)
 |each o w y x=>exact h3s (λ(f:Tf) pad=>hdX (.each o w y x)++f pad) (yS ih)
theorem c1x (x:Nm) (t u:T) (ih:TN t) (ih':TN u):TN (.if2 x t u):=by
 have e:∀pad X,iH (aU u) pad X=iH u pad X:=λpad X=>by unfold iH;rw [ih',mB,c2o]
 funext pad
 cases o:bN t with
 |true=>
  show iH (aU u) pad ([105,102,32,40]++x++[41]++(match bN (match bN t with|true=>T.block (.cons (aU t) .nil)|false=>aU t)with|true=>dK true (bI [bC (match bN t with|true=>T.block (.cons (aU t) .nil)|false=>aU t)]) pad bB|false=>dK (aV (match bN t with|true=>T.block (.cons (aU t) .nil)|false=>aU t)) (bC (match bN t with|true=>T.block (.cons (aU t) .nil)|false=>aU t)) pad bB))=
   iH u pad ([105,102,32,40]++x++[41]++(match bN t with|true=>dK true (bI [bC t]) pad bB|false=>dK (aV t) (bC t) pad bB))
  rw [e,o,<-ih];rfl
 |false=>
  show iH (aU u) pad ([105,102,32,40]++x++[41]++(match bN (match bN t with|true=>T.block (.cons (aU t) .nil)|false=>aU t)with|true=>dK true (bI [bC (match bN t with|true=>T.block (.cons (aU t) .nil)|false=>aU t)]) pad bB|false=>dK (aV (match bN t with|true=>T.block (.cons (aU t) .nil)|false=>aU t)) (bC (match bN t with|true=>T.block (.cons (aU t) .nil)|false=>aU t)) pad bB))=
   iH u pad ([105,102,32,40]++x++[41]++(match bN t with|true=>dK true (bI [bC t]) pad bB|false=>dK (aV t) (bC t) pad bB))
  rw [e,o,<-ih];show iH u pad ([105,102,32,40]++x++[41]++(match bN (aU t)with|true=>_|false=>_))=_
  rw [mQ,o,mB]
theorem f9h:(∀t,TN t)/\∀ts,w7 ts:=by
 have h3:∀t x,TN t->TN (.doW t x):=λt x ih=>by
  have:=yS ih
  funext pad
  show [100,111]++(dF (aV (aU t)) (bC (aU t)) pad++nH (aV (aU t)) pad++_)=[100,111]++(dF (aV t) (bC t) pad++nH (aV t) pad++_)
  rw [this,mB]
 have h4:∀x t,TN t->TN (.if1 x t):=λx t ih=>h3s (λ(f:Tf) pad=>[105,102,32,40]++x++[41]++f pad) (yS ih)
 have h6:∀ts,w7 ts->TN (.block ts):=λts ih=>h3s bI ih
 have h7:∀x cs,TNc cs->TN (.switch x cs):=λx cs ih=>h3s (λl pad=>[115,119,105,116,99,104,32,40]++x++[41,32]++bI l pad) ih
 have h8:∀b c cb f fb,w7 b->w7 cb->w7 fb->TN (.tryT b c cb f fb):=λb c cb f fb h1 h2 h3=>by
  show c4v (aP (aY b)) c (aP (aY cb)) f (aP (aY fb))=c4v (aP b) c (aP cb) f (aP fb)
  rw [h1,h2,h3]
 have h9:∀t ts,TN t->w7 ts->w7 (.cons t ts):=λt ts h h'=>by show bC (aU t)::aP (aY ts)=bC t::aP ts;rw [h,h']
 have h10:∀x b cs,w7 b->TNc cs->TNc (.cons x b cs):=λx b cs h h'=>by show(λpad=>mE x++cA (aP (aY b)) pad)::kJ (kP cs)=(λpad=>mE x++cA (aP b) pad)::kJ cs;rw [h,h']
 exact⟨@T.rec TN w7 TNc (λ_=>rfl) c1h h3 h4 c1x h6 h7 h8 rfl h9 rfl h10,@Ts.rec TN w7 TNc (λ_=>rfl) c1h h3 h4 c1x h6 h7 h8 rfl h9 rfl h10⟩
theorem qO:∀ts:Ts,cV (aY ts)=cV ts:=j8 rfl λt ts ih=>by show bC (aU t) []++[10]++cV (aY ts)=bC t []++[10]++cV ts;rw [ih,f9h.1]
noncomputable def Ks.len:Ks->Nat
 | .nil=>0
 | .non ks=>ks.len+1
 | .con _ ks=>ks.len+1
theorem nO:∀ks:Ks,ks.av.length=ks.len
 | .nil=>rfl
 | .non ks=>h3s (· +1) (nO ks)
 | .con _ ks=>h3s (· +1) (nO ks)
mutual
noncomputable def fO:Nd->Bool
 | .mk k _ ks _=>match k with
  |44=>f8l ks
  |45=>rM ks
  |47=>rM ks
  |48=>rM ks
  |49=>rM ks
  |55=>rM ks
  |_=>false
noncomputable def f8l:Ks->Bool
 | .con _ (.con _ (.con e _))=>fO e
 |_=>true
noncomputable def rM:Ks->Bool
 | .con n .nil=>fO n
 | .con _ ks=>rM ks
 | .non ks=>rM ks
 | .nil=>false
end
theorem hE {p:Pos}:∀(t:T) (i:Nat),fO (pl p t i)=bN t
 | .leaf l,i=>by cases l<;>rfl
 | .pre (.wh _) t,i=>hE t _
 | .pre (.fr f a b) t,i=>by
  have h:=hE (p:=p) t (nW (.fr f a b) i);cases f<;>cases a<;>cases b<;>exact h
 | .pre (.each true _ _ _) t,i=>hE t _
 | .pre (.each false _ _ _) t,i=>hE t _
 | .pre (.lab _) t,i=>hE t _
 | .doW t x,i=>rfl
 | .if1 x t,i=>rfl
 | .if2 x t e,i=>hE e _
 | .block ts,i=>rfl
 | .switch x cs,i=>rfl
 | .tryT b c cb f fb,i=>rfl
abbrev FR:=Bool×List Nat
noncomputable def sq (a b:FR):FR:=match a.1 with
 |true=>(b.1,a.2++b.2)
 |false=>a
theorem d8z {a b:FR} (h:(sq a b).1=true):a.1=true/\b.1=true:=by
 obtain⟨a1,a2⟩:=a;cases a1 with
 |true=>exact⟨rfl,h⟩
 |false=>exact nomatch h
noncomputable def jA:Nd->Bool
 | .mk k _ _ _=>decide (k=59)
noncomputable def hO:Ks->Bool
 | .con _ _=>true
 |_=>false
noncomputable def md:Bool->Nat->Nat
 |true,0=>2
 |true,1=>1
 |_,_=>0
noncomputable def vY:Nat->Bool
 |1=>true
 |_=>false
noncomputable def brZ (F:Nd->FR):Nd->FR
 | .mk _ _ (.con u .nil) q=>((F u).1,q::(F u).2)
 |_=>(false,[])
abbrev FN:=Nd->FR
abbrev FK':=Nat->Ks->FR
noncomputable def gF (b:Bool) (x:FR):FR:=match b with
 |false=>(false,[])
 |true=>x
abbrev fE (k k':Nat) (a a':Nm) (ks ks':Ks):Bool:=decide (k=k')&&(decide (a=a')&&decide (ks.len=ks'.len))
def mkF (k:Nat) (a:Nm) (ks:Ks) (_:Nat) (F:FK'):FN
 | .mk k' a' ks' _=>gF (fE k k' a a' ks ks') (F (md (decide (k=44)) 0) ks')
noncomputable def e9c (_:Ks) (F:FK'):FK'
 |m,.non ks'=>F (m - 1) ks'
 |_,_=>(false,[])
def kY (b:Bool) (F:Nd->FR) (r:Nd):FR:=match b with
 |false=>F r
 |true=>brZ F r
def f1f (n:Nd) (ks:Ks) (F:FN) (G:FK'):FK'
 |m,.con r ks'=>sq (kY (vY m&&(jA r&&(hO ks&&fO n))) F r) (G (m - 1) ks')
 |_,_=>(false,[])
noncomputable def c6:Nd->FN:=@Nd.rec (λ_=>FN) (λ_=>FK') mkF (λ_ _=>(true,[])) e9c f1f
noncomputable def fH:Ks->FK':=@Ks.rec (λ_=>FN) (λ_=>FK') mkF (λ_ _=>(true,[])) e9c f1f
noncomputable abbrev w44 (k:Nat):Nat:=match decide (k=44)with|true=>1|false=>0
mutual
noncomputable def wN:Nd->Nat
 | .mk k _ ks _=>wK ks+w44 k
noncomputable def wK:Ks->Nat
 | .nil=>0
 | .non ks=>wK ks
 | .con n ks=>wN n+wK ks
end
noncomputable abbrev sW (b:Bool) (w:Nat):Nat:=match b with|true=>w|false=>0
mutual
noncomputable def MN:Nd->Nat
 | .mk k _ ks _=>MK (md (decide (k=44)) 0) ks
noncomputable def MK:Nat->Ks->Nat
 |_,.nil=>0
 |m,.non ks=>MK (m - 1) ks
 |m,.con n ks=>MN n+(MK (m - 1) ks+sW (vY m&&hO ks) (wN n))
end
theorem a2t {b:Bool} {i:Nat}:md b i - 1=md b (i+1):=by
 cases b with
 |false=>cases i with
  |zero=>rfl
  |succ i=>cases i<;>rfl
 |true=>cases i with
  |zero=>rfl
  |succ i=>cases i<;>rfl
abbrev FM (d:Nd):Prop:=∀r,(c6 d r).1=true->wN d=wN r/\MN d=MN r
abbrev FMk (d:Ks):Prop:=∀m r,(fH d m r).1=true->d.len=r.len->wK d=wK r/\MK m d=MK m r/\hO d=hO r
theorem c2z {k k':Nat} {a a':Nm} {ks ks':Ks} (h:fE k k' a a' ks ks'=true):k=k'/\a=a'/\ks.len=ks'.len:=by
 simpa only [h4l,decide_eq_true_eq]using h
theorem f7c {n r:Nd} {b:Bool} (hn:FM n) (h:(kY (b&&(jA r&&(hO ks&&fO n))) (c6 n) r).1=true):wN n=wN r/\MN n=MN r:=by
 cases e:b&&(jA r&&(hO ks&&fO n))with
 |false=>rw [e]at h;exact hn r h
 |true=>
  rw [e]at h;obtain⟨k,a,ks',q⟩:=r;have e1:decide (k=59)=true:=((h4l _ _).mp ((h4l _ _).mp e).2).1;cases h3t e1
  match ks',h with
  | .con u .nil,h=>exact hn u h
theorem e3q:∀d,FM d:=
 @Nd.rec (λd=>FM d) (λd=>FMk d)
  (λk a ks q ih r h0=>by
   obtain⟨k',a',ks',q'⟩:=r;have h:(gF (fE k k' a a' ks ks') (fH ks (md (decide (k=44)) 0) ks')).1=true:=h0
   clear h0
   cases e:fE k k' a a' ks ks' with
   |false=>rw [e]at h;exact nomatch h
   |true=>
    rw [e]at h;obtain⟨rfl,rfl,hl⟩:=c2z e;have g:=ih _ _ h hl;exact⟨h3s (· +w44 k) g.1,g.2.1⟩)
  (λm r h hl=>by
   cases r with
   |nil=>exact⟨rfl,rfl,rfl⟩
   |_=>exact nomatch hl)
  (λks ih m r h hl=>by
   cases r with
   |non r=>have g:=ih _ _ h (Nat.succ.inj hl);exact⟨g.1,g.2.1,rfl⟩
   |_=>exact nomatch h)
  (λn ks hn ih m r h hl=>by
   cases r with
   |con r ks'=>
    have h:=d8z h;have g1:=f7c hn h.1;have g2:=ih _ _ h.2 (Nat.succ.inj hl);refine⟨?_,?_,rfl⟩
    ·show wN n+wK ks=wN r+wK ks'
     rw [g1.1,g2.1]
    ·show MN n+(MK (m - 1) ks+sW (vY m&&hO ks) (wN n))=MN r+(MK (m - 1) ks'+sW (vY m&&hO ks') (wN r))
     rw [g1.1,g1.2,g2.2.1,g2.2.2]
   |_=>exact nomatch h)
structure OwnS (W:List AV->aB) (o:Nat):Prop where
 at':∀l,aQ (W l) o=some (.list l)
 set:∀l l',bW (W l) o (some (.list l'))=W l'
noncomputable def cQ (l:List Nat):List AV:=l.map λq=>.int (.ofNat q)
theorem a7v {l:List AV} {a b:List Nat}:l++cQ (a++b)=l++cQ a++cQ b:=by rw [cQ,List.map_append,h3p];rfl
theorem g8d {l:List AV} {a:List Nat}:(l++cQ a).length=l.length+a.length:=by rw [h3o];exact h3s _ (h4j _)
theorem d4d {a b:FR} (h:a.1=true):sq a b=(b.1,a.2++b.2):=by
 obtain⟨a1,a2⟩:=a;cases h;rfl
theorem d3j {a b:FR} (h:a.1=false):sq a b=a:=by
 obtain⟨a1,a2⟩:=a;cases h;rfl
abbrev FL (d:Nd):Prop:=∀r,(c6 d r).2.length+1<=iV r
abbrev FLk (d:Ks):Prop:=∀m r,(fH d m r).2.length<=oE r
theorem e2p {a b:FR} {x y:Nat} (h:a.2.length<=x) (h':b.2.length<=y):(sq a b).2.length<=x+y:=by
 cases e:a.1 with
 |true=>rw [d4d e,h3o];exact h4x h h'
 |false=>rw [d3j e];exact h3j h (h3x _ _)
theorem c3u {F:FN} {b:Bool} (h:∀r,(F r).2.length+1<=iV r) (r:Nd):(kY b F r).2.length<=iV r:=by
 cases b with
 |false=>exact h4i (h r)
 |true=>
  obtain⟨k,a,ks,q⟩:=r;cases ks with
  |con u ks=>cases ks with
   |nil=>exact h4w (h u)
   |_=>exact h3w _
  |_=>exact h3w _
theorem d9c:∀d,FL d:=
 @Nd.rec (λd=>FL d) (λd=>FLk d)
  (λk a ks q ih r=>by
   obtain⟨k',a',ks',q'⟩:=r;show(gF (fE k k' a a' ks ks') (fH ks (md (decide (k=44)) 0) ks')).2.length+1<=oE ks'+1
   cases fE k k' a a' ks ks' with
   |false=>exact h3r (h3w _)
   |true=>exact h3r (ih _ _))
  (λ_ _=>h3w _)
  (λks ih m r=>by
   cases r with
   |non r=>exact h4w (ih _ _)
   |_=>exact h3w _)
  (λn ks hn ih m r=>by
   cases r with
   |con r ks'=>exact e2p (c3u hn r) (ih _ _)
   |_=>exact h3w _)
def OpC (t:Nd):Prop:=∀(n:Nat) (st:aB) (K:AV->aB->Prop),K (.bool (fO t)) st->aH (n+40) qU [t.av] st K
mutual
noncomputable def ShN:Nd->Prop
 | .mk k _ ks _=>ShK (md (decide (k=44)) 0) ks/\(k=59->∀ks',ks≠.non ks')
noncomputable def ShK:Nat->Ks->Prop
 |_,.nil=>True
 |m,.non ks=>vY m=false/\ShK (m - 1) ks
 |m,.con n ks=>ShN n/\(vY m=true->OpC n/\ks≠.nil)/\ShK (m - 1) ks
end
section
variable {W:List AV->aB} {o:Nat} {K:AV->aB->Prop} {n m:Nat} {l:List AV}
def a0p (W:List AV->aB) (o m:Nat) (d:Nd):Prop:=∀{n:Nat} {l:List AV} (r:Nd) ⦃K:AV->aB->Prop⦄,ShN r->l.length+iV r<=1000000->
 K (.bool (c6 d r).1) (W (l++cQ (c6 d r).2))->aH (n+m+40) fU [d.av,r.av,.ref o] (W l) K
theorem gD {W:aB} {l:List AV} {i:Nat} {v:AV} (h:aD l i=some v):dB W (.lst l) (.int (.ofNat i))=some v:=h
theorem b9u {st:aB} {z:AV} (hk:K (.bool true) st):aH (n+1) fU [.none,.none,z] st K:=en hk
theorem c7f {st:aB} {z:AV} {r:Nd} (hk:K (.bool false) st):aH (n+1) fU [.none,r.av,z] st K:=en (by
 conv=>whnf
 rw [dZ];exact hk)
theorem c7r {st:aB} {z:AV} {r:Nd} (hk:K (.bool false) st):aH (n+1) fU [r.av,.none,z] st K:=en (by
 conv=>whnf
 rw [dZ]
 conv=>whnf
 rw [dZ];exact hk)
abbrev fiB:Ss:=cS (.ite (C.e (E.call 132 (E3 ((V0.attr 3).idx V3) V4 V2))).not (cS (.ret (.lit (.bool false))) nS) .nil) nS
theorem b5i {Z:FK} {d r:Nd} {k i:Nat} {a:Nm} {ks:Ks} {q:Nat} {z:AV} (hd:aD ks.av i=some d.av) (hF:a0p W o m d) (hr:ShN r) (hz:l.length+iV r<=1000000) (h0:(c6 d r).1=false->∀L,Z (.ret (.bool false)) L (W (l++cQ (c6 d r).2)))
  (h1:(c6 d r).1=true->∀s4,Z .nxt [.val (Nd.mk k a ks q).av,.val z,.val (.ref o),.val (.int (.ofNat i)),s4] (W (l++cQ (c6 d r).2))):
  aZ TT (aO TT (aD fns) (n+m+40)) fiB [.val (Nd.mk k a ks q).av,.val z,.val (.ref o),.val (.int (.ofNat i)),.val r.av] (W l) Z:=by
 conv=>whnf
 rw [gD hd];refine hF r hr hz ?_;cases e:(c6 d r).1 with
 |false=>exact h0 e _
 |true=>exact h1 e _
end
section
variable {W:List AV->aB} {o:Nat} {n m:Nat}
noncomputable def a9r (W:List AV->aB) (o m:Nat):Ks->Prop
 | .nil=>True
 | .non ks=>a9r W o m ks
 | .con n ks=>a0p W o m n/\a9r W o m ks
abbrev fiS:Ss:=cS (.assign 4 ((V1.attr 3).idx V3)) (cS (.ite ((cC .eq (V0.attr 5) (gI 15 44)).and ((cC .eq V3 (lI 1)).and ((cC .eq (V4.attr 5) (gI 37 59)).and ((C.e (E.isN true ((V0.attr 3).idx (lI 2)))).and (C.e (E.call 122 (E1 ((V0.attr 3).idx (lI 1)))))))))
 (cS (.ite (cC .ne (V4.attr 3).len (lI 1)) (cS (.ret (.lit (.bool false))) nS) .nil) (cS (.appC V2 (V4.attr 1)) (cS (.assign 4 ((V4.attr 3).idx (lI 0))) nS))) .nil) fiB)
abbrev FiF (N o:Nat) (d r:Nd) (K:FK) (i c:Nat) (s3 s4:Slot) (st:aB):Prop:=
 List.foldr (gQ [3] true (aZ TT (aO TT (aD fns) N) fiS) K) (K .nxt) (e9 (Int.ofNat i) c) [.val d.av,.val r.av,.val (.ref o),s3,s4] st
theorem zD {l l':List AV} {i:Nat} {v:AV} (h:∀j,aD l (i+j)=aD (v::l') j) (j:Nat):aD l (i+1+j)=aD l' j:=(h3s (aD l) (Nat.succ_add i j)).trans (h (j+1))
section
variable {k:Nat} {a a':Nm} {ks ks':Ks} {q q':Nat} {K:FK}
abbrev Kd (K:FK) (o:Nat) (d r:Nd) (W:List AV->aB) (l:List AV) (F:FR):Prop:=(F.1=false->∀L,K (.ret (.bool false)) L (W (l++cQ F.2)))/\(F.1=true->∀s3 s4,K .nxt [.val d.av,.val r.av,.val (.ref o),s3,s4] (W (l++cQ F.2)))
theorem xK {i:Nat} {Z:FK} {st:aB} {v:AV} {b:Bool} {s4:Slot} (hr0:aD ks'.av i=some v) (hb:decide (Int.ofNat k=44)=b) (hs:vY (md b i)=false)
  (h:aZ TT (aO TT (aD fns) n) fiB [.val (Nd.mk k a ks q).av,.val (Nd.mk k a' ks' q').av,.val (.ref o),.val (.int (.ofNat i)),.val v] st Z):
  aZ TT (aO TT (aD fns) n) fiS [.val (Nd.mk k a ks q).av,.val (Nd.mk k a' ks' q').av,.val (.ref o),.val (.int (.ofNat i)),s4] st Z:=by
 conv=>whnf
 rw [gD hr0]
 conv=>whnf
 rw [hb];cases b with
 |false=>exact h
 |true=>
  match i,hs,h with
  |0,_,h=>exact h
  |i+2,_,h=>exact h
  |1,hs,_=>exact nomatch hs
theorem f3u {d r:Nd} {i:Nat} {Z:FK} {l:List AV} (hW:OwnS W o) (hd:aD ks.av i=some d.av) (hr0:aD ks'.av i=some r.av) (hF:a0p W o m d) (hr:ShN r) (hz:l.length+iV r<=1000000) {b:Bool} (hb:decide (Int.ofNat k=44)=b) {kr:Ks} (hj:∀j,aD ks.av (i+1+j)=aD kr.av j)
  (hs:vY (md b i)=true->OpC d/\kr≠.nil) {F:FR} (eF:kY (vY (md b i)&&(jA r&&(hO kr&&fO d))) (c6 d) r=F)
  (hk:(F.1=false->∀L,Z (.ret (.bool false)) L (W (l++cQ F.2)))/\(F.1=true->∀s4,Z .nxt [.val (Nd.mk k a ks q).av,.val (Nd.mk k a' ks' q').av,.val (.ref o),.val (.int (.ofNat i)),s4] (W (l++cQ F.2)))) (s4:Slot):
  aZ TT (aO TT (aD fns) (n+m+40)) fiS [.val (Nd.mk k a ks q).av,.val (Nd.mk k a' ks' q').av,.val (.ref o),.val (.int (.ofNat i)),s4] (W l) Z:=by
 have dir:kY false (c6 d) r=F->aZ TT (aO TT (aD fns) (n+m+40)) fiB [.val (Nd.mk k a ks q).av,.val (Nd.mk k a' ks' q').av,.val (.ref o),.val (.int (.ofNat i)),.val r.av] (W l) Z:=λe=>by
  subst e;exact b5i hd hF hr hz hk.1 hk.2
 conv=>whnf
 rw [gD hr0]
 conv=>whnf
 rw [hb];cases b with
 |false=>exact dir (by cases i with
  |zero=>exact eF
  |succ i=>cases i<;>exact eF)
 |true=>
  match i,eF,hs,hj,hd,hr0,hk,dir with
  |0,eF,_,_,_,_,_,dir=>exact dir eF
  |i+2,eF,_,_,_,_,_,dir=>exact dir eF
  |1,eF,hs,hj,hd,hr0,hk,dir=>
   obtain⟨kr',ar,ksr,qr⟩:=r
   conv=>whnf
   have e59:decide (Int.ofNat kr'=59)=decide (kr'=59):=decide_eq_decide.mpr ⟨λh=>Int.ofNat.inj h,λh=>h3s Int.ofNat h⟩
   rw [e59];cases h59:decide (kr'=59)with
   |false=>exact dir (by rw [<-eF];show _=kY (decide (kr'=59)&&_) _ _;rw [h59];rfl)
   |true=>
    have eF:kY (hO kr&&fO d) (c6 d) (.mk kr' ar ksr qr)=F:=by rw [<-eF];show _=kY (decide (kr'=59)&&_) _ _;rw [h59];rfl
    conv=>whnf
    obtain⟨hop,hnn⟩:=hs rfl;cases kr with
    |nil=>exact absurd rfl hnn
    |non kr=>
     rw [show dB (W l) (.lst ks.av) (.int 2)=some .none from gD (i:=2) (hj 0)]
     exact dir eF
    |con e kr=>
     rw [show dB (W l) (.lst ks.av) (.int 2)=some e.av from gD (i:=2) (hj 0)]
     conv=>whnf
     rw [dZ e]
     conv=>whnf
     rw [show dB (W l) (.lst ks.av) (.int 1)=some d.av from gD (i:=1) hd]
     refine hop (n+m) _ _ ?_;have eF:kY (fO d) (c6 d) (.mk kr' ar ksr qr)=F:=eF;cases ho:fO d with
     |false=>exact dir (ho▸eF)
     |true=>
      have eF:kY true (c6 d) (.mk kr' ar ksr qr)=F:=ho▸eF;subst eF
      match ksr,hz,hr,hr0,hk with
      | .nil,hz,hr,hr0,hk=>
       have:=hk.1 rfl;rw [show l++cQ (kY true (c6 d) (.mk kr' ar .nil qr)).2=l from h3q l]at this
       exact this _
      | .non ksr,hz,hr,hr0,hk=>exact absurd rfl (hr.2 (h3t h59) ksr)
      | .con u .nil,hz,hr,hr0,hk=>
       conv=>whnf
       rw [hW.at']
       conv=>whnf
       rw [hW.at']
       conv=>whnf
       refine⟨h3j (h3x _ _) hz,?_⟩;rw [hW.set];have e:l++cQ (qr::(c6 d u).2)=l++[.int (.ofNat qr)]++cQ (c6 d u).2:=List.append_cons ..;have hk:((c6 d u).1=false->∀L,Z (.ret (.bool false)) L (W (l++cQ (qr::(c6 d u).2))))/\((c6 d u).1=true->∀s4,Z .nxt [.val (Nd.mk k a ks q).av,.val (Nd.mk k a' ks' q').av,.val (.ref o),.val (.int (.ofNat 1)),s4] (W (l++cQ (qr::(c6 d u).2)))):=hk
       rw [e]at hk;exact b5i hd hF hr.1.1 (by rw [h3o,h4d];exact h4e (iV u) 1▸hz) hk.1 hk.2
      | .con u (.non ksr),hz,hr,hr0,hk=>
       have:=hk.1 rfl;rw [show l++cQ (kY true (c6 d) (.mk kr' ar (.con u (.non ksr)) qr)).2=l from h3q l]at this
       exact this _
      | .con u (.con _ ksr),hz,hr,hr0,hk=>
       have:=hk.1 rfl;rw [show l++cQ (kY true (c6 d) (.mk kr' ar (.con u (.con _ ksr)) qr)).2=l from h3q l]at this
       exact this _
theorem f9l {m:Nat} {d r:Nd} {kr kr':Ks}:(fH (.con d kr) m (.con r kr'))=sq (kY (vY m&&(jA r&&(hO kr&&fO d))) (c6 d) r) (fH kr (m - 1) kr'):=rfl
theorem d6i (hW:OwnS W o) {b:Bool} (hb:decide (Int.ofNat k=44)=b):∀(kr:Ks) {i:Nat} {kr':Ks} {s3 s4:Slot} {l:List AV},(∀j,aD ks.av (i+j)=aD kr.av j)->(∀j,aD ks'.av (i+j)=aD kr'.av j)->kr.len=kr'.len->a9r W o m kr->ShK (md b i) kr->ShK (md b i) kr'->l.length+oE kr'<=1000000->
  Kd K o (.mk k a ks q) (.mk k a' ks' q') W l (fH kr (md b i) kr')->FiF (n+m+40) o (.mk k a ks q) (.mk k a' ks' q') K i kr.len s3 s4 (W l):=
 yU (λ{i kr' s3 s4 l} _ _ hl _ _ _ _ hk=>by
   have:=hk.2 rfl s3 s4;rw [show l++cQ (fH .nil (md b i) kr').2=l from h3q l]at this
   exact this)
  (λkr ih {i kr' s3 s4 l} h1 h2 hl hA hS hS' hz hk=>by
   cases kr' with
   |nil=>exact nomatch hl
   |non kr'=>
    have hk:Kd K o (.mk k a ks q) (.mk k a' ks' q') W l (fH kr (md b i - 1) kr'):=hk;rw [a2t]at hk;refine xK (i:=i) (h2 0) hb hS.1 ?_
    conv=>whnf
    rw [gD (i:=i) (h1 0)];exact b9u (n:=n+m+39) (ih (zD h1) (zD h2) (Nat.succ.inj hl) hA (a2t▸hS.2) (a2t▸hS'.2) (h3j (h3z (h4r _) _) hz) hk)
   |con r kr'=>
    have:=hk.1 rfl;rw [show l++cQ (fH (.non kr) (md b i) (.con r kr')).2=l from h3q l]at this
    refine xK (i:=i) (h2 0) hb hS.1 ?_
    conv=>whnf
    rw [gD (i:=i) (h1 0)];exact c7f (n:=n+m+39) (this _))
  λd kr ih {i kr' s3 s4 l} h1 h2 hl hA hS hS' hz hk=>by
   cases kr' with
   |nil=>exact nomatch hl
   |con r kr'=>
    rw [f9l]at hk;have hz1:l.length+iV r+oE kr'<=1000000:=h4d ..▸hz;refine f3u (i:=i) hW (h1 0) (h2 0) hA.1 hS'.1 (h3j (h3x _ _) hz1) hb (zD h1) hS.2.1 rfl ⟨λe L=> ?_,λe s4=> ?_⟩ _
    ·rw [d3j e]at hk;exact hk.1 e L
    ·rw [d4d e,a2t]at hk;refine ih (zD h1) (zD h2) (Nat.succ.inj hl) hA.2 (a2t▸hS.2.2) (a2t▸hS'.2.2) (h3j ?_ hz1) ⟨λe L=> ?_,λe s3 s4=> ?_⟩
     ·rw [g8d];exact h4a (h3z (c3u (d9c d) r) _) _
     ·rw [<-a7v];exact hk.1 e L
     ·rw [<-a7v];exact hk.2 e s3 s4
   |non kr'=>
    have:=hk.1 rfl;rw [show l++cQ (fH (.con d kr) (md b i) (.non kr')).2=l from h3q l]at this
    refine xK (i:=i) (h2 0) hb hS'.1 ?_
    conv=>whnf
    rw [gD (i:=i) (h1 0)];exact c7r (n:=n+m+39) (this _)
end
end
section
variable {W:List AV->aB} {o:Nat} {K:AV->aB->Prop} {n m:Nat} {l:List AV}
theorem iB (a b:Nat):decide (Int.ofNat a=Int.ofNat b)=decide (a=b):=decide_eq_decide.mpr ⟨λh=>Int.ofNat.inj h,λh=>h3s Int.ofNat h⟩
theorem d5f:∀n,1<=iV n
 | .mk _ _ ks _=>h3r (h3w _)
theorem f0q:∀ks:Ks,ks.len<=oE ks:=yU (h3k _) (λks h=>h3r h) λn ks h=>h3j (h3y (h4e ks.len 1)) (h4x (d5f n) h)
theorem c3l {k k':Nat} {a a':Nm} {ks ks':Ks} {q q':Nat} {z:AV} {st:aB} (h:fE k k' a a' ks ks'=false) (hk:K (.bool false) st):aH (n+1) fU [(Nd.mk k a ks q).av,(Nd.mk k' a' ks' q').av,z] st K:=en (by
 conv=>whnf
 rw [iB];cases h1:decide (k=k')with
 |false=>exact hk
 |true=>
  conv=>whnf
  cases h2:decide (a=a')with
  |false=>exact hk
  |true=>
   conv=>whnf
   rw [fE,h1,h2,Bool.true_and,Bool.true_and]at h;rw [nO,nO,show decide ((ks.len:Int)=(ks'.len:Int))=false from(iB _ _).trans h]
   exact hk)
theorem c5j {k:Nat} {a:Nm} {ks ks':Ks} {q q':Nat} (hW:OwnS W o) (hA:a9r W o m ks) (hS:ShN (.mk k a ks q)) (hS':ShN (.mk k a ks' q')) (hl:ks.len=ks'.len) (hz:l.length+oE ks'<=1000000)
  (hk:K (.bool (fH ks (md (decide (k=44)) 0) ks').1) (W (l++cQ (fH ks (md (decide (k=44)) 0) ks').2))):aH (n+(m+1)+40) fU [(Nd.mk k a ks q).av,(Nd.mk k a ks' q').av,.ref o] (W l) K:=en (by
 conv=>whnf
 rw [iB,h3v (rfl:k=k)]
 conv=>whnf
 rw [h3v (rfl:a=a)]
 conv=>whnf
 rw [nO,nO,hl,h3v (rfl:(ks'.len:Int)=ks'.len)]
 conv=>whnf
 rw [nO];rw [show a0x (W l) true (.int (ks.len:Int))=some (e9 (Int.ofNat 0) ks.len) by
  show(match decide ((ks.len:Int).natAbs<4611686018427387904)with|true=>some (yM (ks.len:Int))|false=>none)=_
  rw [show decide ((ks.len:Int).natAbs<4611686018427387904)=true from h3v (h4y (h3j (hl▸f0q ks') (h3j (h4b _ _) hz)) (h3n rfl))]
  rfl]
 exact d6i (n:=n) hW (iB k 44) ks (i:=0) (λj=>h3s _ (h4c j)) (λj=>h3s _ (h4c j)) hl hA hS.1 hS'.1 hz ⟨λe L=>by rw [e]at hk;exact hk,λe s3 s4=>by rw [e]at hk;exact hk⟩)
theorem h2f (hW:OwnS W o):∀(d:Nd) {m:Nat},ht d<=m->ShN d->a0p W o m d:=
 @Nd.rec (λd=>∀{m:Nat},ht d<=m->ShN d->a0p W o m d) (λks=>∀{m:Nat} (i:Nat),hts ks<=m->ShK i ks->a9r W o m ks)
  (λk a ks q ih m hm hS n l r K hr hz hk0=>by
   cases m with
   |zero=>exact nomatch hm
   |succ m=>
    obtain⟨k',a',ks',q'⟩:=r;have hk:K (.bool (gF (fE k k' a a' ks ks') (fH ks (md (decide (k=44)) 0) ks')).1) (W (l++cQ (gF (fE k k' a a' ks ks') (fH ks (md (decide (k=44)) 0) ks')).2)):=hk0
    clear hk0
    cases e:fE k k' a a' ks ks' with
    |false=>
     rw [e]at hk;exact c3l (n:=n+(m+1)+39) e (h3q l▸hk)
    |true=>
     rw [e]at hk;obtain⟨rfl,rfl,hl⟩:=c2z e;exact c5j hW (ih _ (h4h hm) hS.1) hS hr hl (h3j (h3z (h4r _) _) hz) hk)
  (λ_ _ _=>h3m)
  (λks ih m i hm h=>ih _ hm h.2)
  λd ks hd ih m i hm h=>⟨hd (h3j (h4n _ _) hm) h.1,ih _ (h3j (h4o _ _) hm) h.2.2⟩
end
structure Fo where
 lf:Leaf->Nat
 pr:Hd->Nat->Nat
 dw:Nat->Nat
 i1:Nat->Nat
 i2:T->Nat->Nat->Nat
 bl:Nat->Nat
 sw:Nat->Nat
 tr:Option (Option Nm)->Bool->Nat->Nat->Nat->Nat
 co:Nat->Nat->Nat
 cc:Nat->Nat->Nat
noncomputable def foT (F:Fo):T->Nat:=@T.rec (λ_=>Nat) (λ_=>Nat) (λ_=>Nat) F.lf (λh _ n=>F.pr h n) (λ_ _ n=>F.dw n) (λ_ _ n=>F.i1 n) (λ_ t _ n m=>F.i2 t n m) (λ_ n=>F.bl n) (λ_ _ n=>F.sw n) (λ_ c _ g _ a b d=>F.tr c g a b d) 0 (λ_ _ a b=>F.co a b) 0 (λ_ _ _ a b=>F.cc a b)
noncomputable def bQ (F:Fo):Ts->Nat:=@Ts.rec (λ_=>Nat) (λ_=>Nat) (λ_=>Nat) F.lf (λh _ n=>F.pr h n) (λ_ _ n=>F.dw n) (λ_ _ n=>F.i1 n) (λ_ t _ n m=>F.i2 t n m) (λ_ n=>F.bl n) (λ_ _ n=>F.sw n) (λ_ c _ g _ a b d=>F.tr c g a b d) 0 (λ_ _ a b=>F.co a b) 0 (λ_ _ _ a b=>F.cc a b)
noncomputable def i6 (F:Fo):Cs->Nat:=@Cs.rec (λ_=>Nat) (λ_=>Nat) (λ_=>Nat) F.lf (λh _ n=>F.pr h n) (λ_ _ n=>F.dw n) (λ_ _ n=>F.i1 n) (λ_ t _ n m=>F.i2 t n m) (λ_ n=>F.bl n) (λ_ _ n=>F.sw n) (λ_ c _ g _ a b d=>F.tr c g a b d) 0 (λ_ _ a b=>F.co a b) 0 (λ_ _ _ a b=>F.cc a b)
noncomputable def cN:Option (Option Nm)->Nat->Nat
 |none,_=>0
 |some _,n=>n
noncomputable def fN:Bool->Nat->Nat
 |false,_=>0
 |true,n=>n
def wF:Fo:=⟨λ_=>0,λ_ n=>n,id,(· +1),λ_ a b=>a+b+1,id,id,λc g a b d=>a+(cN c b+fN g d),(· + ·),(· + ·)⟩
noncomputable def mF:Fo:=⟨λ_=>0,λ_ n=>n,id,id,λt a b=>a+b+foT wF t,id,id,λc g a b d=>a+(cN c b+fN g d),(· + ·),(· + ·)⟩
noncomputable def a1i:Leaf->Nat
 | .var _ _ _ ds=>100+20*ds.length
 |_=>100
noncomputable def cHd:Hd->Nat
 | .fr (.var _ _ _ ds) _ _=>500+20*ds.length
 |_=>500
def cF:Fo:=⟨a1i,λh n=>cHd h+n,(400+ ·),(400+ ·),λ_ a b=>900+(a+b),(300+ ·),(400+ ·),λ_ _ a b d=>1000+(a+(b+d)),λa b=>200+(a+b),λa b=>400+(a+b)⟩
def zF:Fo:=⟨a1i,λh n=>cHd h+n,(400+ ·),(400+ ·),λ_ a b=>400+(a+b),(300+ ·),(400+ ·),λ_ _ a b d=>1000+(a+(b+d)),λa b=>200+(a+b),λa b=>400+(a+b)⟩
noncomputable def lF:Fo:=⟨λ_=>0,λ_ n=>n+1,(· +1),(· +1),λ_ a b=>a+b+2,(· +1),(· +1),λ_ _ a b d=>max a (max b d)+1,max,max⟩
noncomputable abbrev wT (t:T):Nat:=foT wF t
noncomputable abbrev mT (t:T):Nat:=foT mF t
noncomputable abbrev cT (t:T):Nat:=foT cF t
noncomputable abbrev zT (t:T):Nat:=foT zF t
noncomputable abbrev lv (t:T):Nat:=foT lF t
noncomputable def gr (e:T):T->T:=@T.rec (λ_=>T) (λ_=>Unit) (λ_=>Unit) .leaf (λh _ t=>.pre h t) (λt x _=>.doW t x) (λy s g=>match bN s with|true=>.if1 y g|false=>.if2 y s e) (λy s _ _ g=>.if2 y s g) (λts _=>.block ts) (λx cs _=>.switch x cs) (λb c cb g fb _ _ _=>.tryT b c cb g fb) () (λ_ _ _ _=>()) () (λ_ _ _ _ _=>())
theorem c0l {l:Leaf} {il il' sw sw':Nat} {labs labs':b5} (h:iE l il sw labs) (h1:il<=il') (h2:sw<=sw') (h3:∀d∈labs,d∈labs'):iE l il' sw' labs':=by
 cases l with
 |brk l=>
  cases l with
  |none=>exact h4m h (h4x h1 h2)
  |some l=>exact⟨h.1,h.2.elim λb h=>⟨b,h3 _ h⟩⟩
 |cont l=>
  cases l with
  |none=>exact h4m h h1
  |some l=>exact⟨h.1,h3 _ h.2⟩
 |_=>exact h
theorem c3a {h:Hd} {t:T} {labs labs':b5} (h3:∀d∈labs,d∈labs'):∀d∈nC h t labs,d∈nC h t labs':=by
 cases h with
 |lab l=>exact λd hd=>List.mem_append.mpr ((List.mem_append.mp hd).imp (h3 d) id)
 |_=>exact h3
theorem d5y {h:Hd} {il il':Nat} (h1:il<=il'):b0v h il<=b0v h il':=by
 cases h with
 |lab l=>exact h1
 |_=>exact h3r h1
structure Wk (il il' sw sw':Nat) (labs labs':b5):Prop where
 i:il<=il'
 s:sw<=sw'
 l:∀d∈labs,d∈labs'
abbrev OM (t:T):Prop:=∀{il il' sw sw':Nat} {labs labs':b5},Wk il il' sw sw' labs labs'->ok t il sw labs->ok t il' sw' labs'
abbrev OMs (t:Ts):Prop:=∀{il il' sw sw':Nat} {labs labs':b5},Wk il il' sw sw' labs labs'->i4 t il sw labs->i4 t il' sw' labs'
abbrev OMc (t:Cs):Prop:=∀{il il' sw sw':Nat} {labs labs':b5},Wk il il' sw sw' labs labs'->qD t il sw labs->qD t il' sw' labs'
theorem d6j:∀t:T,OM t:=@T.rec OM OMs OMc (λl _ _ _ _ _ _ w h=>c0l h w.i w.s w.l) (λhd t ih _ _ _ _ _ _ w h=>⟨h.1,h.2.1,ih ⟨d5y w.i,w.s,c3a w.l⟩ h.2.2⟩)
 (λt x ih _ _ _ _ _ _ w h=>⟨h.1,ih ⟨h3r w.i,w.s,w.l⟩ h.2⟩) (λx t ih _ _ _ _ _ _ w h=>⟨h.1,ih w h.2⟩) (λx t e ih ih' _ _ _ _ _ _ w h=>⟨h.1,ih w h.2.1,h.2.2.1,ih' w h.2.2.2⟩)
 (λts ih _ _ _ _ _ _ w h=>ih w h) (λx cs ih _ _ _ _ _ _ w h=>⟨ih ⟨w.i,h3r w.s,w.l⟩ h.1,h.2⟩) (λb c cb g fb h1 h2 h3 _ _ _ _ _ _ w h=>⟨h1 w h.1,h2 w h.2.1,h3 w h.2.2.1,h.2.2.2⟩)
 (λ_ _=>h3m) (λt ts ih ih' _ _ _ _ _ _ w h=>⟨ih w h.1,ih' w h.2.1,h.2.2⟩) (λ_ _=>h3m) λx b cs ih ih' _ _ _ _ _ _ w h=>⟨ih w h.1,ih' w h.2.1,h.2.2⟩
structure Gr (e t g:T):Prop where
 tk:tk g=Mx.tk t++W bB::Mx.tk e
 w:wT g=wT t+wT e
 m:mT g+1<=mT t+mT e+wT t
 n:pO t->pO e->pO g
 lb:fI g=fI t++fI e
 gd:iT t->iT e->iT g
 lv:dT g<=dT t+dT e
 nd:c3 g
 lo:bK g=bK t
 ok:∀{il sw:Nat} {labs:b5},c3 e->ok t il sw labs->ok e il sw labs->ok g il sw labs
 z:zT g<=zT t+zT e
theorem d4e {h:Hd} {g t:T} {labs:b5} (h':bK g=bK t):nC h g labs=nC h t labs:=by
 cases h with
 |lab l=>exact h3s (λb=>labs++[(l,b)]) h'
 |_=>rfl
theorem f5h {h:Hd} {t:T} {il sw:Nat} {labs:b5}:Wk il (b0v h il) sw sw labs (nC h t labs):=by
 cases h with
 |lab l=>exact⟨h3k _,h3k _,λd hd=>List.mem_append_left _ hd⟩
 |_=>exact⟨h4r _,h3k _,λd hd=>hd⟩
theorem f9f {a b c d e w:Nat} (h:a+1<=b+c+d):e+a+w+1<=e+b+w+c+(w+d+1):=by omega
theorem e4e {s g u e:Nat} (h:g<=u+e):max s g+1<=max s u+1+e:=by omega
theorem b6z (e:T):∀t:T,bN t=true->Gr e t (gr e t):=a2v
 (λl h=>nomatch h)
 (λh t ih o=>by
  have G:=ih o;exact⟨(h3s (pP h++ ·) G.tk).trans (h3p ..).symm,G.w,G.m,G.n,(h3s (a0h h++ ·) G.lb).trans (h3p ..).symm,λa b=>⟨a.1,G.gd a.2 b⟩,h3j (h3r G.lv) (h3y (Nat.succ_add _ _).symm),h3m,
   (by cases h with
    |lab l=>exact G.lo
    |_=>rfl),
   λd a b=>⟨a.1,G.nd,d4e G.lo▸G.ok d a.2.2 (d6j e f5h b)⟩,h3j (h3z G.z _) (h3y (h4d _ _ _).symm)⟩)
 (λ_ _ _ h=>nomatch h)
 (λy s ih _=>by
  cases o:bN s with
  |true=>
   have G:=ih o;have E:gr e (.if1 y s)=.if1 y (gr e s):=by show(match bN s with|true=>T.if1 y (gr e s)|false=>T.if2 y s e)=_;rw [o]
   rw [E];exact⟨(h3s (fC y++ ·) G.tk).trans (h3p ..).symm,(h3s (· +1) G.w).trans (h4f ..),h4w G.m,G.n,G.lb,λa b=>⟨a.1,G.gd a.2 b⟩,h3j (h3r G.lv) (h3y (Nat.succ_add _ _).symm),h3m,rfl,λd a b=>⟨G.nd,G.ok d a.2 b⟩,h3j (h3z G.z _) (h3y (h4d _ _ _).symm)⟩
  |false=>
   have E:gr e (.if1 y s)=.if2 y s e:=by show(match bN s with|true=>T.if1 y (gr e s)|false=>T.if2 y s e)=_;rw [o]
   rw [E];exact⟨(h3p ..).symm,h4f ..,h3k _,λa b=>⟨o,a,b⟩,rfl,λa b=>⟨a.1,a.2,b⟩,(by show max (dT s) (dT e)+1<=dT s+1+dT e;omega),h3m,rfl,λd a b=>⟨a.1,a.2,d,b⟩,h3y (h4d _ _ _).symm⟩)
 (λy s u _ ih o=>by
  have G:=ih o;refine⟨?_,?_,f9f G.m,λa b=>⟨a.1,a.2.1,G.n a.2.2 b⟩,(h3s (fI s++ ·) G.lb).trans (h3p ..).symm,λa b=>⟨a.1,a.2.1,G.gd a.2.2 b⟩,e4e G.lv,h3m,rfl,λd a b=>⟨a.1,a.2.1,G.nd,G.ok d a.2.2.2 b⟩,?_⟩
  ·show fC y++(Mx.tk s++W bB::Mx.tk (gr e u))=fC y++(Mx.tk s++W bB::Mx.tk u)++W bB::Mx.tk e
   rw [G.tk,h3p,h3p,List.cons_append]
  ·show wT s+wT (gr e u)+1=wT s+wT u+1+wT e
   rw [G.w,<-h4d,h4f]
  ·show 400+(zT s+zT (gr e u))<=400+(zT s+zT u)+zT e
   rw [h4d,h4d];exact h3z (h3z G.z _) _)
 (λ_ h=>nomatch h) (λ_ _ h=>nomatch h) (λ_ _ _ _ _ h=>nomatch h)
noncomputable def a7c (x:Nm) (t e:T):T:=match bN t with
 |true=>.if1 x (gr e t)
 |false=>.if2 x t e
structure Sim (s:Nat) (t u:T):Prop where
 w:wT u=wT t
 m:mT u+s<=mT t
 n:pO u
 lb:fI u=fI t
 gd:iT t->iT u
 lv:dT u<=lv t
 nd:c3 t->c3 u
 lo:bK u=bK t
 ok:∀{il sw:Nat} {labs:b5},ok t il sw labs->ok u il sw labs
 z:zT u<=cT t
structure SimS (s:Nat) (t u:Ts):Prop where
 w:bQ wF u=bQ wF t
 m:bQ mF u+s<=bQ mF t
 n:nQ u
 lb:i9 u=i9 t
 gd:gL t->gL u
 lv:b3 u<=bQ lF t
 cn:cU u=cU t
 ok:∀{il sw:Nat} {labs:b5},i4 t il sw labs->i4 u il sw labs
 z:bQ zF u<=bQ cF t
structure SimC (s:Nat) (t u:Cs):Prop where
 w:i6 wF u=i6 wF t
 m:i6 mF u+s<=i6 mF t
 n:a9m u
 lb:xY u=xY t
 gd:wI t->wI u
 lv:j2 u<=i6 lF t
 cn:mW u=mW t
 df:defaults u=defaults t
 ok:∀{il sw:Nat} {labs:b5},qD t il sw labs->qD u il sw labs
 z:i6 zF u<=i6 cF t
section
variable {a b c:Nat} {t u e v:T} {x:Nm}
theorem ad2 {a b c d:Nat} (h:a<=b) (h':c<=d):a+c<=b+d:=h4x h h'
theorem adl {a b c:Nat} (h:a<=b):c+a<=c+b:=h3z h c
theorem mxm {a b u v:Nat} (h:a<=u) (h':b<=v):max a b<=max u v:=Nat.max_le.mpr ⟨h3j h (h4n _ _),h3j h' (h4o _ _)⟩
theorem am {a b x y u v:Nat} (h:x+a<=u) (h':y+b<=v):x+y+(a+b)<=u+v:=by omega
theorem Sim.leaf (l:Leaf):Sim 0 (.leaf l) (.leaf l):=⟨rfl,h3k _,h3m,rfl,id,h3k _,id,rfl,id,h3k _⟩
theorem Sim.pre (h:Hd) (k:Sim a t u):Sim a (.pre h t) (.pre h u):=⟨k.w,k.m,k.n,h3s (a0h h++ ·) k.lb,λg=>⟨g.1,k.gd g.2⟩,h3r k.lv,id,(by cases h with
  |lab l=>exact k.lo
  |_=>rfl),λo=>⟨o.1,k.nd o.2.1,d4e k.lo▸k.ok o.2.2⟩,adl k.z⟩
theorem Sim.doW (x:Nm) (k:Sim a t u):Sim a (.doW t x) (.doW u x):=⟨k.w,k.m,k.n,k.lb,λg=>⟨k.gd g.1,g.2⟩,h3r k.lv,id,rfl,λo=>⟨k.nd o.1,k.ok o.2⟩,adl k.z⟩
theorem Sim.if1 (x:Nm) (k:Sim a t u):Sim a (.if1 x t) (.if1 x u):=⟨h3s (· +1) k.w,k.m,k.n,k.lb,λg=>⟨g.1,k.gd g.2⟩,h3r k.lv,id,rfl,λo=>⟨k.nd o.1,k.ok o.2⟩,adl k.z⟩
theorem lv2 {a b u v:Nat} (h:a<=u+1) (h':b<=v):max a b+1<=u+v+2:=by omega
theorem z2 {a b c d x:Nat} (h:a<=c) (h':b<=d) (hx:x<=500):400+(x+a+b)<=900+(c+d):=by omega
theorem Sim.w2 (k:Sim a t u) (k':Sim b e v):wT u+wT v+1=wT t+wT e+1:=by rw [k.w,k'.w]
theorem Sim.m2 (k:Sim a t u) (k':Sim b e v):mT u+mT v+wT u+(a+b)<=mT t+mT e+wT t:=by
 rw [k.w,h4f];exact h4a (am k.m k'.m) _
theorem Sim.if2 (x:Nm) (k:Sim a t u) (k':Sim b e v) (o:bN u=false):Sim (a+b) (.if2 x t e) (.if2 x u v):=
 ⟨k.w2 k',k.m2 k',⟨o,k.n,k'.n⟩,(by show fI u++fI v=fI t++fI e;rw [k.lb,k'.lb]),λg=>⟨g.1,k.gd g.2.1,k'.gd g.2.2⟩,lv2 (h4w k.lv) k'.lv,id,rfl,λo=>⟨k.nd o.1,k.ok o.2.1,k'.nd o.2.2.1,k'.ok o.2.2.2⟩,h3j (h3z (h4a (h4b _ 0) _) _) (z2 (x:=0) k.z k'.z (h3w _))⟩
theorem Sim.ifb (x:Nm) (k:Sim a t u) (k':Sim b e v):Sim (a+b) (.if2 x t e) (.if2 x (.block (.cons u .nil)) v):=
 ⟨k.w2 k',k.m2 k',⟨rfl,⟨k.n,h3m⟩,k'.n⟩,(by show fI u++[]++fI v=fI t++fI e;rw [h3q,k.lb,k'.lb]),λg=>⟨g.1,⟨k.gd g.2.1,h3m⟩,k'.gd g.2.2⟩,lv2 (h3r (Nat.max_le.mpr ⟨k.lv,h3w _⟩)) k'.lv,id,rfl,λo=>⟨h3m,⟨k.ok o.2.1,h3m,h3n rfl⟩,k'.nd o.2.2.1,k'.ok o.2.2.2⟩,
  h3j (h3y (h3s (λn=>400+(n+zT v)) (h4d 300 200 (zT u)).symm)) (z2 k.z k'.z (h3k _))⟩
theorem f6r {g a b u v w t e:Nat} (h:g+1<=u+v+w) (h':u+v+w+(a+b)<=t):g+(a+b+1)<=t:=by omega
theorem e5m {g a b u v:Nat} (h:g<=a+b) (ha:a<=u) (hb:b<=v):g+1<=u+v+2:=by omega
theorem f5d {g a b u v:Nat} (h:g<=a+b) (ha:a<=u) (hb:b<=v):400+g<=900+(u+v):=by omega
theorem Sim.own (x:Nm) (k:Sim a t u) (k':Sim b e v) (o:bN u=true):Sim (a+b+1) (.if2 x t e) (.if1 x (gr v u)):=by
 have G:=b6z v u o;exact⟨(h3s (· +1) G.w).trans (k.w2 k'),f6r (e:=0) G.m (k.m2 k'),G.n k.n k'.n,G.lb.trans (by rw [k.lb,k'.lb];rfl),λg=>⟨g.1,G.gd (k.gd g.2.1) (k'.gd g.2.2)⟩,e5m G.lv k.lv k'.lv,id,rfl,λo=>⟨G.nd,G.ok (k'.nd o.2.2.1) (k.ok o.2.1) (k'.ok o.2.2.2)⟩,f5d G.z k.z k'.z⟩
theorem Sim.le (k:Sim a t u) (h:b<=a):Sim b t u:={k with m:=h3j (h3z h _) k.m}
theorem Sim.ifm (x:Nm) (k:Sim a t u) (k':Sim b e v):Sim (a+b) (.if2 x t e) (a7c x u v):=by
 unfold a7c;cases o:bN u with
 |true=>exact(k.own x k' o).le (h4r _)
 |false=>exact k.if2 x k' o
end
section
variable {a b c:Nat} {x:Nm} {ts us vs ws xs ys:Ts} {cs ds:Cs} {t u:T}
theorem Sim.block (k:SimS a ts us):Sim a (.block ts) (.block us):=⟨k.w,k.m,k.n,k.lb,k.gd,h3r k.lv,id,rfl,k.ok,adl k.z⟩
theorem Sim.switch (x:Nm) (k:SimC a cs ds):Sim a (.switch x cs) (.switch x ds):=⟨k.w,k.m,k.n,k.lb,λg=>⟨g.1,k.gd g.2⟩,h3r k.lv,id,rfl,λo=>⟨k.ok o.1,k.df▸o.2⟩,adl k.z⟩
theorem f9w {k:Option (Option Nm)} {x y b:Nat} (h:x+b<=y) (hb:k=none->b=0):cN k x+b<=cN k y:=by
 cases k with
 |none=>exact h3y ((h4c b).trans (hb rfl))
 |some _=>exact h
theorem h1p {k:Bool} {x y b:Nat} (h:x+b<=y) (hb:k=false->b=0):fN k x+b<=fN k y:=by
 cases k with
 |false=>exact h3y ((h4c b).trans (hb rfl))
 |true=>exact h
theorem Sim.tryT {k:Option (Option Nm)} {g:Bool} (h1:SimS a ts us) (h2:SimS b vs ws) (h3:SimS c xs ys) (hb:k=none->b=0) (hc:g=false->c=0):Sim (a+(b+c)) (.tryT ts k vs g xs) (.tryT us k ws g ys):=
 ⟨(by show bQ wF us+(cN k (bQ wF ws)+fN g (bQ wF ys))=_;rw [h1.w,h2.w,h3.w];rfl),am h1.m (am (f9w h2.m hb) (h1p h3.m hc)),⟨h1.n,h2.n,h3.n⟩,(by show i9 us++(i9 ws++i9 ys)=_;rw [h1.lb,h2.lb,h3.lb];rfl),λg=>⟨h1.gd g.1,g.2.1,h2.gd g.2.2.1,h3.gd g.2.2.2⟩,h3r (mxm h1.lv (mxm h2.lv h3.lv)),id,rfl,λo=>⟨h1.ok o.1,h2.ok o.2.1,h3.ok o.2.2.1,o.2.2.2⟩,adl (ad2 h1.z (ad2 h2.z h3.z))⟩
theorem SimS.nil:SimS 0 .nil .nil:=⟨rfl,h3k _,h3m,rfl,id,h3k _,rfl,id,h3k _⟩
theorem SimC.nil:SimC 0 .nil .nil:=⟨rfl,h3k _,h3m,rfl,id,h3k _,rfl,rfl,id,h3k _⟩
theorem SimS.cons (h1:Sim a t u) (h2:SimS b ts us):SimS (a+b) (.cons t ts) (.cons u us):=
 ⟨(by show wT u+bQ wF us=_;rw [h1.w,h2.w];rfl),am h1.m h2.m,⟨h1.n,h2.n⟩,(by show fI u++i9 us=_;rw [h1.lb,h2.lb];rfl),λg=>⟨h1.gd g.1,h2.gd g.2⟩,mxm h1.lv h2.lv,h3s (· +1) h2.cn,λo=>⟨h1.ok o.1,h2.ok o.2.1,h2.cn▸o.2.2⟩,adl (ad2 h1.z h2.z)⟩
theorem SimC.cons (k:Option Nm) (h1:SimS a ts us) (h2:SimC b cs ds):SimC (a+b) (.cons k ts cs) (.cons k us ds):=
 ⟨(by show bQ wF us+i6 wF ds=_;rw [h1.w,h2.w];rfl),am h1.m h2.m,⟨h1.n,h2.n⟩,(by show i9 us++xY ds=_;rw [h1.lb,h2.lb];rfl),λg=>⟨g.1,h1.gd g.2.1,h2.gd g.2.2⟩,mxm h1.lv h2.lv,h3s (· +1) h2.cn,(by cases k with
  |none=>exact h3s (· +1) h2.df
  |some _=>exact h2.df),λo=>⟨h1.ok o.1,h2.ok o.2.1,h2.cn▸o.2.2⟩,adl (ad2 h1.z h2.z)⟩
end
theorem d2n {x:Nm} {t e u v:T} (h:Sim 0 t u) (h':Sim 0 e v) (o:bN u=bN t):Sim 0 (.if2 x t e) (.if2 x (match bN t with|true=>.block (.cons u .nil)|false=>u) v):=by
 cases k:bN t with
 |true=>exact h.ifb x h'
 |false=>exact h.if2 x h' (o.trans k)
theorem kI:(∀t,Sim 0 t (aU t))/\∀ts,SimS 0 ts (aY ts):=by
 have h5:∀x t e,Sim 0 t (aU t)->Sim 0 e (aU e)->Sim 0 (.if2 x t e) (aU (.if2 x t e)):=λx t e h h'=>d2n h h' (mQ t)
 have h8:∀b c cb g fb,SimS 0 b (aY b)->SimS 0 cb (aY cb)->SimS 0 fb (aY fb)->Sim 0 (.tryT b c cb g fb) (aU (.tryT b c cb g fb)):=λb c cb g fb h1 h2 h3=>Sim.tryT h1 h2 h3 (λ_=>rfl) λ_=>rfl
 exact⟨@T.rec (λt=>Sim 0 t (aU t)) (λt=>SimS 0 t (aY t)) (λt=>SimC 0 t (kP t)) Sim.leaf (λh _ k=>k.pre h) (λ_ x k=>k.doW x) (λx _ k=>k.if1 x) h5 (λ_=>Sim.block) (λx _=>Sim.switch x) h8 .nil (λ_ _=>.cons) .nil (λx _ _=>.cons x),
  @Ts.rec (λt=>Sim 0 t (aU t)) (λt=>SimS 0 t (aY t)) (λt=>SimC 0 t (kP t)) Sim.leaf (λh _ k=>k.pre h) (λ_ x k=>k.doW x) (λx _ k=>k.if1 x) h5 (λ_=>Sim.block) (λx _=>Sim.switch x) h8 .nil (λ_ _=>.cons) .nil (λx _ _=>.cons x)⟩
abbrev Pk (α:Type):=List (Nat×α)
noncomputable def mp {α β:Type} (f:α->β) (l:Pk α):Pk β:=l.map λx=>(x.1,f x.2)
noncomputable def pk2 (x:Nm) (t e:T) (F G:Nat->Pk T) (i:Nat):Pk T:=match bN t with
 |true=>(i+4,.if1 x (gr (aU e) (aU t)))::(mp (λu=>.if2 x (.block (.cons u .nil)) (aU e)) (F (i+5))++mp (λu=>.if2 x (.block (.cons (aU t) .nil)) u) (G (eT (aU t) (i+5)+2)))
 |false=>mp (λu=>a7c x u (aU e)) (F (i+4))++mp (λu=>.if2 x (aU t) u) (G (eT (aU t) (i+4)+1))
def pkC {α:Type} (c:Option (Option Nm)) (F:Nat->Pk α) (j:Nat):Pk α:=match c with
 |none=>[]
 |some x=>F (j+c8 x+1)
noncomputable def pkF {α:Type} (g:Bool) (F:Nat->Pk α) (j:Nat):Pk α:=match g with
 |false=>[]
 |true=>F (j+2)
abbrev pk8 (b:Ts) (c:Option (Option Nm)) (cb:Ts) (g:Bool) (fb:Ts) (F G H:Nat->Pk Ts) (i:Nat):Pk T:=
 mp (λu=>.tryT u c (aY cb) g (aY fb)) (F (i+2))++(mp (λu=>.tryT (aY b) c u g (aY fb)) (pkC c G (cG (aY b) i))++mp (λu=>.tryT (aY b) c (aY cb) g u) (pkF g H (jK (aY b) c (aY cb) i)))
noncomputable abbrev pkS (t:T) (ts:Ts) (F:Nat->Pk T) (G:Nat->Pk Ts) (i:Nat):Pk Ts:=mp (λu=>.cons u (aY ts)) (F i)++mp (λu=>.cons (aU t) u) (G (eT (aU t) i))
noncomputable abbrev pkK (x:Option Nm) (b:Ts) (cs:Cs) (F:Nat->Pk Ts) (G:Nat->Pk Cs) (i:Nat):Pk Cs:=mp (λu=>.cons x u (kP cs)) (F (lX x i))++mp (λu=>.cons x (aY b) u) (G (c7 (aY b) (lX x i)))
noncomputable def pk:T->Nat->Pk T:=@T.rec (λ_=>Nat->Pk T) (λ_=>Nat->Pk Ts) (λ_=>Nat->Pk Cs) (λ_ _=>[]) (λh _ F i=>mp (.pre h) (F (nW h i))) (λ_ x F i=>mp (.doW · x) (F (i+1))) (λx _ F i=>mp (.if1 x) (F (i+4))) (λx t e F G i=>pk2 x t e F G i)
 (λ_ F i=>mp .block (F (i+1))) (λx _ F i=>mp (.switch x) (F (i+5))) pk8 (λ_=>[]) pkS (λ_=>[]) pkK
noncomputable def qB:Ts->Nat->Pk Ts:=@Ts.rec (λ_=>Nat->Pk T) (λ_=>Nat->Pk Ts) (λ_=>Nat->Pk Cs) (λ_ _=>[]) (λh _ F i=>mp (.pre h) (F (nW h i))) (λ_ x F i=>mp (.doW · x) (F (i+1))) (λx _ F i=>mp (.if1 x) (F (i+4))) (λx t e F G i=>pk2 x t e F G i)
 (λ_ F i=>mp .block (F (i+1))) (λx _ F i=>mp (.switch x) (F (i+5))) pk8 (λ_=>[]) pkS (λ_=>[]) pkK
noncomputable def pkc:Cs->Nat->Pk Cs:=@Cs.rec (λ_=>Nat->Pk T) (λ_=>Nat->Pk Ts) (λ_=>Nat->Pk Cs) (λ_ _=>[]) (λh _ F i=>mp (.pre h) (F (nW h i))) (λ_ x F i=>mp (.doW · x) (F (i+1))) (λx _ F i=>mp (.if1 x) (F (i+4))) (λx t e F G i=>pk2 x t e F G i)
 (λ_ F i=>mp .block (F (i+1))) (λx _ F i=>mp (.switch x) (F (i+5))) pk8 (λ_=>[]) pkS (λ_=>[]) pkK
def dV {α:Type} (Q:Nat->α->Prop) (l:Pk α):Prop:=∀x∈l,Q x.1 x.2
theorem dV.mp {α β:Type} {Q:Nat->α->Prop} {R:Nat->β->Prop} {f:α->β} {l:Pk α} (h:dV Q l) (k:∀j u,Q j u->R j (f u)):dV R (mp f l):=λx hx=>by
 obtain⟨y,hy,rfl⟩:=List.mem_map.mp hx;exact k _ _ (h y hy)
theorem dV.app {α:Type} {Q:Nat->α->Prop} {l l':Pk α} (h:dV Q l) (h':dV Q l'):dV Q (l++l'):=λx hx=>(List.mem_append.mp hx).elim (h x) (h' x)
theorem dV.nil {α:Type} {Q:Nat->α->Prop}:dV Q ([]:Pk α):=λ_ h=>nomatch h
abbrev G1 (t:T):Prop:=∀i,dV (λ_ u=>Sim 1 t u) (pk t i)
abbrev w6 (t:Ts):Prop:=∀i,dV (λ_ u=>SimS 1 t u) (qB t i)
abbrev G1c (t:Cs):Prop:=∀i,dV (λ_ u=>SimC 1 t u) (pkc t i)
theorem c4h:(∀t,G1 t)/\∀ts,w6 ts:=by
 have n1:=kI.1;have n2:=kI.2;have n3:∀cs,SimC 0 cs (kP cs):=d3q .nil λx b cs h=>.cons x (n2 b) h
 have h2:∀h t,G1 t->G1 (.pre h t):=λh t k i=>(k _).mp λ_ _ s=>s.pre h
 have h3:∀t x,G1 t->G1 (.doW t x):=λt x k i=>(k _).mp λ_ _ s=>s.doW x
 have h4:∀x t,G1 t->G1 (.if1 x t):=λx t k i=>(k _).mp λ_ _ s=>s.if1 x
 have h5:∀x t e,G1 t->G1 e->G1 (.if2 x t e):=λx t e k k' i=>by
  show dV _ (pk2 x t e (pk t) (pk e) i)
  unfold pk2;cases o:bN t with
  |true=>
   intro y hy;cases hy with
   |head=>exact(n1 t).own x (n1 e) ((mQ t).trans o)
   |tail _ hy=>exact dV.app ((k _).mp λ_ _ s=>s.ifb x (n1 e)) ((k' _).mp λ_ _ s=>(n1 t).ifb x s) y hy
  |false=>exact dV.app ((k _).mp λ_ _ s=>s.ifm x (n1 e)) ((k' _).mp λ_ _ s=>(n1 t).if2 x s ((mQ t).trans o))
 have h6:∀ts,w6 ts->G1 (.block ts):=λt k i=>(k _).mp λ_ _ s=>Sim.block s
 have h7:∀x cs,G1c cs->G1 (.switch x cs):=λx t k i=>(k _).mp λ_ _ s=>Sim.switch x s
 have h8:∀b c cb g fb,w6 b->w6 cb->w6 fb->G1 (.tryT b c cb g fb):=λb c cb g fb k1 k2 k3 i=>by
  refine dV.app ((k1 _).mp λ_ _ s=>Sim.tryT s (n2 cb) (n2 fb) (λ_=>rfl) λ_=>rfl) (dV.app ?_ ?_)
  ·cases c with
   |none=>exact .nil
   |some x=>exact(k2 _).mp λ_ _ s=>Sim.tryT (n2 b) s (n2 fb) (λh=>nomatch h) λ_=>rfl
  ·cases g with
   |false=>exact .nil
   |true=>exact(k3 _).mp λ_ _ s=>Sim.tryT (n2 b) (n2 cb) s (λ_=>rfl) λh=>nomatch h
 have h9:∀t ts,G1 t->w6 ts->w6 (.cons t ts):=λt ts k k' i=>dV.app ((k _).mp λ_ _ s=>.cons s (n2 ts)) ((k' _).mp λ_ _ s=>.cons (n1 t) s)
 have h10:∀x b cs,w6 b->G1c cs->G1c (.cons x b cs):=λx b cs k k' i=>dV.app ((k _).mp λ_ _ s=>.cons x s (n3 cs)) ((k' _).mp λ_ _ s=>.cons x (n2 b) s)
 exact⟨@T.rec G1 w6 G1c (λ_ _=>.nil) h2 h3 h4 h5 h6 h7 h8 (λ_=>.nil) h9 (λ_=>.nil) h10,@Ts.rec G1 w6 G1c (λ_ _=>.nil) h2 h3 h4 h5 h6 h7 h8 (λ_=>.nil) h9 (λ_=>.nil) h10⟩
inductive Bal:List P->Prop
 |nil:Bal []
 |tok {p:P} {ps:List P}:p.s≠ [123]->p.s≠ [125]->Bal ps->Bal (p::ps)
 |grp {A B:List P}:Bal A->Bal B->Bal (Sg 123::(A++Sg 125::B))
theorem Bal.app {A B:List P} (h:Bal A) (h':Bal B):Bal (A++B):=by
 induction h with
 |nil=>exact h'
 |tok h1 h2 _ ih=>exact .tok h1 h2 ih
 | @grp A1 B1 h1 h2 ih1 ih2=>
  show Bal (Sg 123::(A1++Sg 125::B1++B))
  rw [h3p];exact .grp h1 ih2
theorem Bal.lit {ps:List P} (h:ps.all (λp=>p.s !=[123]&&p.s !=[125])=true):Bal ps:=by
 induction ps with
 |nil=>exact .nil
 |cons p ps ih=>
  have h:=(h4l _ _).mp h;have h1:=(h4l _ _).mp h.1;exact .tok (bne_iff_ne.mp h1.1) (bne_iff_ne.mp h1.2) (ih h.2)
theorem Bal.blk {A:List P} (h:Bal A):Bal (Sg 123::(A++[Sg 125])):=.grp h .nil
theorem a6p {x:Nm} (h:gd x):x≠ [123]/\x≠ [125]:=by
 have:=(h4l _ _).mp (lG (P:=λx=>x !=[123]&&x !=[125]) rfl h)
 exact⟨bne_iff_ne.mp this.1,bne_iff_ne.mp this.2⟩
theorem Bal.nm {x:Nm} (h:gd x):Bal [N x]:=.tok (a6p h).1 (a6p h).2 .nil
theorem Bal.nm' {x:Nm} (h:gd x):Bal [N' x]:=.tok (a6p h).1 (a6p h).2 .nil
theorem Bal.kw (s:Nm) {ps:List P} (e:(s !=[123]&&s !=[125])=true) (h:Bal ps):Bal (W s::ps):=.tok (bne_iff_ne.mp ((h4l _ _).mp e).1) (bne_iff_ne.mp ((h4l _ _).mp e).2) h
theorem Bal.sg (c:Nat) {ps:List P} (e:([c] !=[123]&&[c] !=[125])=true) (h:Bal ps):Bal (Sg c::ps):=.tok (bne_iff_ne.mp ((h4l _ _).mp e).1) (bne_iff_ne.mp ((h4l _ _).mp e).2) h
theorem b0f {y:Nm} {v:Option Nm} (hy:gd y) (hv:cR v):Bal (jR y v):=by
 cases v with
 |none=>exact .nm hy
 |some v=>exact(Bal.nm hy).app (.sg 61 rfl (.nm hv))
theorem a4j:∀{ds:List (Nm×Option Nm)},(∀d∈ds,gd d.1/\cR d.2)->Bal (l8 ds)
 |[],_=>.nil
 |(y,v)::ds,h=>.sg 44 rfl ((b0f (h _ (.head _)).1 (h _ (.head _)).2).app (a4j λd hd=>h d (.tail _ hd)))
theorem a9w:∀w,Bal [uU w]
 |0=>.lit rfl
 |1=>.lit rfl
 |_+2=>.lit rfl
theorem b3l {w:Nat} {y:Nm} {v:Option Nm} {ds:List (Nm×Option Nm)} (h:j5 y v ds):Bal (jH w y v ds):=(a9w w).app ((b0f h.1 h.2.1).app (a4j h.2.2))
theorem b3m {x:Option Nm} (h:cR x):Bal (i8 x):=by
 cases x with
 |none=>exact .nil
 |some x=>exact .nm h
theorem xE {x:Option Nm} (h:cR x):Bal (a6u x):=by
 cases x with
 |none=>exact .nil
 |some x=>exact .nm' h
theorem c5g {l:Leaf} (h:kN l):Bal (kU l):=by
 have e:Bal [Sg 59]:=.lit rfl;cases l with
 |expr x=>exact(Bal.nm h).app e
 |empty=>exact e
 |var w y v ds=>exact(b3l h).app e
 |ret x=>exact .kw _ rfl ((xE h).app e)
 |throw x=>exact .kw _ rfl ((Bal.nm' h).app e)
 |brk l=>exact .kw _ rfl ((xE h).app e)
 |cont l=>exact .kw _ rfl ((xE h).app e)
theorem e8u {h:Hd} (hg:hdG h):Bal (pP h):=by
 cases h with
 |wh x=>exact .kw _ rfl (.sg 40 rfl ((Bal.nm hg).app (.lit rfl)))
 |fr f a b=>
  refine .kw _ rfl (.sg 40 rfl (Bal.app ?_ (.sg 59 rfl ((b3m hg.2.1).app (.sg 59 rfl ((b3m hg.2.2).app (.lit rfl)))))));cases f with
  |no=>exact .nil
  |ex x=>exact .nm hg.1
  |var w y v ds=>exact b3l hg.1
 |each o w y x=>
  refine .kw _ rfl (.sg 40 rfl ((a9w w).app ((Bal.nm hg.1).app (Bal.app (A:=[zN o]) ?_ ((Bal.nm hg.2).app (.lit rfl))))));cases o<;>exact .lit rfl
 |lab l=>exact(Bal.nm hg).app (.lit rfl)
theorem c4n {x:Nm} (h:gd x):Bal (fC x):=.kw _ rfl (.sg 40 rfl ((Bal.nm h).app (.lit rfl)))
theorem d0b {x:Option Nm} (h:cR x):Bal (jG x):=by
 cases x with
 |none=>exact .lit rfl
 |some x=>exact .kw _ rfl ((Bal.nm h).app (.lit rfl))
theorem c3o {x:Option Nm} (h:cR x):Bal (eR x):=by
 cases x with
 |none=>exact .lit rfl
 |some x=>exact .kw _ rfl (.sg 40 rfl ((Bal.nm h).app (.lit rfl)))
theorem f7t:∀t:T,iT t->Bal (tk t):=
 @T.rec (λt=>iT t->Bal (tk t)) (λt=>gL t->Bal (tks t)) (λt=>wI t->Bal (oJ t)) (λ_=>c5g) (λ_ _ k h=>(e8u h.1).app (k h.2)) (λ_ _ k h=>.kw _ rfl ((k h.1).app (.kw _ rfl (.sg 40 rfl ((Bal.nm h.2).app (.lit rfl)))))) (λ_ _ k h=>(c4n h.1).app (k h.2)) (λ_ _ _ k k' h=>(c4n h.1).app ((k h.2.1).app (.kw _ rfl (k' h.2.2))))
 (λ_ k h=>(k h).blk) (λ_ _ k h=>.kw _ rfl (.sg 40 rfl ((Bal.nm h.1).app (.sg 41 rfl (k h.2).blk))))
 (λb c cb g fb k1 k2 k3 h=>by
  rw [qH];refine .kw _ rfl ((k1 h.1).blk.app (Bal.app ?_ ?_))
  ·cases c with
   |none=>exact .nil
   |some x=>exact(c3o h.2.1).app (k2 h.2.2.1).blk
  ·cases g with
   |false=>exact .nil
   |true=>exact .kw _ rfl (k3 h.2.2.2).blk)
 (λ_=>.nil) (λ_ _ k k' h=>(k h.1).app (k' h.2)) (λ_=>.nil) λ_ _ _ k k' h=>(d0b h.1).app ((k h.2.1).app (k' h.2.2))
def nY (j:Nat) (ps qs:List P) (i:Nat):Prop:=∃A B C,ps=A++Sg 123::(B++Sg 125::C)/\j=i+A.length/\qs=A++(B++C)/\Bal B
theorem nY.pre {j k:Nat} {ps qs:List P} {i:Nat} (X:List P) (h:nY j ps qs k) (e:k=i+X.length):nY j (X++ps) (X++qs) i:=
 h.elim λA h=>h.elim λB h=>h.elim λC h=>⟨X++A,B,C,h.1▸(h3p ..).symm,(by rw [h3o,<-h4d,<-e];exact h.2.1),h.2.2.1▸(h3p ..).symm,h.2.2.2⟩
theorem nY.post {j:Nat} {ps qs:List P} {i:Nat} (Y:List P) (h:nY j ps qs i):nY j (ps++Y) (qs++Y) i:=
 h.elim λA h=>h.elim λB h=>h.elim λC h=>⟨A,B,C++Y,(by rw [h.1,h3p,List.cons_append,h3p];rfl),h.2.1,(by rw [h.2.2.1,h3p,h3p]),h.2.2.2⟩
theorem d1g {x:Nm} {u v:T}:tk (.if2 x (.block (.cons u .nil)) v)=fC x++([Sg 123]++(tk u++(Sg 125::W bB::tk v))):=by
 show fC x++((Sg 123::(tk u++[]++[Sg 125]))++W bB::tk v)=_
 rw [h3q,List.cons_append,h3p];rfl
theorem g6k {x:Nm} {u v:T}:tk (a7c x u v)=fC x++(tk u++W bB::tk v):=by
 unfold a7c;cases o:bN u with
 |true=>exact h3s (fC x++ ·) (b6z v u o).tk
 |false=>rfl
abbrev P1 (t:T):Prop:=iT t->∀i,dV (λj u=>nY j (tk (aU t)) (tk u) i) (pk t i)
abbrev P1s (t:Ts):Prop:=gL t->∀i,dV (λj u=>nY j (tks (aY t)) (tks u) i) (qB t i)
abbrev P1c (t:Cs):Prop:=wI t->∀i,dV (λj u=>nY j (oJ (kP t)) (oJ u) i) (pkc t i)
theorem d9w (x:Nm) (t e:T) (k:P1 t) (k':P1 e):P1 (.if2 x t e):=λh i=>by
 have l:=lB.1 (aU t);show dV (λj u=>nY j (tk (.if2 x (match bN t with|true=>.block (.cons (aU t) .nil)|false=>aU t) (aU e))) (tk u) i) (pk2 x t e (pk t) (pk e) i)
 unfold pk2;cases o:bN t with
 |true=>
  intro y hy;show nY _ (tk (.if2 x (.block (.cons (aU t) .nil)) (aU e))) _ i
  rw [d1g];cases hy with
  |head=>exact⟨fC x,tk (aU t),W bB::tk (aU e),rfl,rfl,h3s (fC x++ ·) (b6z (aU e) (aU t) ((mQ t).trans o)).tk,f7t _ ((kI.1 t).gd h.2.1)⟩
  |tail _ hy=>
   refine dV.app (Q:=λj u=>nY j (fC x++([Sg 123]++(tk (aU t)++(Sg 125::W bB::tk (aU e))))) (tk u) i) ((k h.2.1 (i+5)).mp λj u s=> ?_) ((k' h.2.2 _).mp λj u s=> ?_) y hy
   ·rw [d1g];exact((s.post _).pre [Sg 123] rfl).pre (fC x) rfl
   ·rw [d1g];exact(((s.pre [Sg 125,W bB] rfl).pre (tk (aU t)) (l _)).pre [Sg 123] rfl).pre (fC x) rfl
 |false=>
  refine dV.app ((k h.2.1 (i+4)).mp λj u s=> ?_) ((k' h.2.2 _).mp λj u s=> ?_)
  ·rw [g6k];exact(s.post _).pre (fC x) rfl
  ·exact((s.pre [W bB] rfl).pre (tk (aU t)) (l _)).pre (fC x) rfl
theorem e6d (b:Ts) (c:Option (Option Nm)) (cb:Ts) (g:Bool) (fb:Ts) (k1:P1s b) (k2:P1s cb) (k3:P1s fb):P1 (.tryT b c cb g fb):=λh i=>by
 have l:=lB.2.1;show dV (λj u=>nY j (tk (.tryT (aY b) c (aY cb) g (aY fb))) (tk u) i) _
 rw [qH]
 have eJ:cG (aY b) i=i+(W [116,114,121]::Sg 123::(tks (aY b)++[Sg 125])).length:=by
  rw [eU,eU,f5,<-l];rfl
 refine dV.app ((k1 h.1 (i+2)).mp λj u s=> ?_) (dV.app ?_ ?_)
 ·rw [qH];exact((s.post [Sg 125]).post _).pre [W [116,114,121],Sg 123] rfl
 ·cases c with
  |none=>exact .nil
  |some x=>
   refine(k2 h.2.2.1 _).mp λj u s=> ?_
   rw [qH];refine((((s.post [Sg 125]).pre [Sg 123] rfl).pre (eR x) ?_).post _).pre (W [116,114,121]::Sg 123::(tks (aY b)++[Sg 125])) eJ;cases x<;>rfl
 ·cases g with
  |false=>exact .nil
  |true=>
   refine(k3 h.2.2.2 _).mp λj u s=> ?_
   rw [qH];refine(((s.post [Sg 125]).pre [W fW,Sg 123] rfl).pre (b5d c (aY cb)) ?_).pre (W [116,114,121]::Sg 123::(tks (aY b)++[Sg 125])) eJ;cases c with
   |none=>rfl
   |some x=>exact a3w (l _)
theorem f4n:∀ts:Ts,P1s ts:=
 @Ts.rec P1 P1s P1c (λ_ _ _=>.nil) (λh t k g i=>(k g.2 _).mp λj u s=>s.pre (pP h) b1r) (λt x k g i=>dV.mp (f:=λu=>T.doW u x) (k g.1 (i+1)) λj u s=>(s.post _).pre [W [100,111]] rfl) (λx t k g i=>(k g.2 _).mp λj u s=>s.pre (fC x) rfl) d9w
 (λts k g i=>(k g _).mp λj u s=>(s.post _).pre [Sg 123] rfl) (λx cs k g i=>(k g.2 _).mp λj u s=>(s.post _).pre [W [115,119,105,116,99,104],Sg 40,N x,Sg 41,Sg 123] rfl) e6d
 (λ_ _=>.nil) (λt ts k k' g i=>dV.app ((k g.1 i).mp λj u s=>s.post _) ((k' g.2 _).mp λj u s=>s.pre (tk (aU t)) (lB.1 _ _)))
 (λ_ _=>.nil) λx b cs k k' g i=>dV.app ((k g.2.1 _).mp λj u s=>(s.post _).pre (jG x) a1h) ((k' g.2.2 _).mp λj u s=>(s.pre (tks (aY b)) (lB.2.1 _ _)).pre (jG x) a1h)
noncomputable abbrev p0:Pos:=λ_=>0
abbrev FE (n r:Nd) (l:List Nat):Prop:=c6 n r=(true,l)
structure FKE (m:Nat) (ks ks':Ks) (l:List Nat):Prop where
 e:fH ks m ks'=(true,l)
 l:ks.len=ks'.len
theorem FKE.nil {m:Nat}:FKE m .nil .nil []:=⟨rfl,rfl⟩
theorem FKE.non {ks ks':Ks} {l:List Nat} (h:FKE 0 ks ks' l):FKE 0 (.non ks) (.non ks') l:=⟨h.e,h3s (· +1) h.l⟩
theorem FKE.con {n r:Nd} {ks ks':Ks} {a b:List Nat} (h:FE n r a) (h':FKE 0 ks ks' b):FKE 0 (.con n ks) (.con r ks') (a++b):=⟨(by show sq (c6 n r) (fH ks 0 ks')=_;rw [h,h'.e];rfl),h3s (· +1) h'.l⟩
theorem FKE.cn {n r:Nd} {ks ks':Ks} {b:List Nat} (h:FE n r []) (h':FKE 0 ks ks' b):FKE 0 (.con n ks) (.con r ks') b:=FKE.con h h'
theorem FKE.one {n r:Nd} {a:List Nat} (h:FE n r a):FKE 0 (.con n .nil) (.con r .nil) a:=h3q a▸FKE.con h .nil
theorem FKE.con2 {n r:Nd} {ks ks':Ks} {b:List Nat} (h:FE n r []) (h':FKE 1 ks ks' b):FKE 2 (.con n ks) (.con r ks') b:=⟨(by show sq (c6 n r) (fH ks 1 ks')=_;rw [h,h'.e];rfl),h3s (· +1) h'.l⟩
theorem FKE.con1 {n r:Nd} {ks ks':Ks} {a b:List Nat} (h:kY (jA r&&(hO ks&&fO n)) (c6 n) r=(true,a)) (h':FKE 0 ks ks' b):FKE 1 (.con n ks) (.con r ks') (a++b):=⟨(by show sq (kY (jA r&&(hO ks&&fO n)) (c6 n) r) (fH ks 0 ks')=_;rw [h,h'.e];rfl),h3s (· +1) h'.l⟩
theorem FE.mk {k:Nat} {a:Nm} {ks ks':Ks} {q q':Nat} {l:List Nat} (h:FKE (md (decide (k=44)) 0) ks ks' l):FE (.mk k a ks q) (.mk k a ks' q') l:=by
 show gF (fE k k a a ks ks') (fH ks (md (decide (k=44)) 0) ks')=_
 rw [fE,h3v (rfl:k=k),h3v (rfl:a=a),h3v h.l];exact h.e
theorem d4j {b c:Bool} {F:FN} {r:Nd} (h:c=false):kY (b&&c) F r=F r:=by subst h;cases b<;>rfl
section
variable {p:Pos} {x:Nm} {i j:Nat}
theorem iL:FE (lH p0 x j) (lH p x i) []:=FE.mk .nil
theorem l9 {x:Option Nm} {r r':Ks} {l:List Nat} (h:FKE 0 r r' l):FKE 0 (dC p0 x j r) (dC p x i r') l:=by
 cases x with
 |none=>exact .non h
 |some x=>exact .cn iL h
theorem b4d {y:Nm} {v:Option Nm}:FE (eN p0 y v j) (eN p y v i) []:=FE.mk (.cn iL (.non (l9 .nil)))
theorem b1l:∀{ds:List (Nm×Option Nm)} {i j:Nat},FKE 0 (gV p0 ds j) (gV p ds i) []
 |[],_,_=>.nil
 |(y,v)::ds,_,_=>.cn b4d b1l
theorem a7o {w:Nat} {y:Nm} {v:Option Nm} {ds:List (Nm×Option Nm)}:FE (fQ p0 w y v ds j) (fQ p w y v ds i) []:=FE.mk (.cn b4d b1l)
theorem d8d {l:Leaf}:FE (kL p0 l j) (kL p l i) []:=by
 cases l with
 |expr x=>exact FE.mk (.one iL)
 |empty=>exact FE.mk .nil
 |var w y v ds=>exact a7o
 |ret x=>exact FE.mk (l9 .nil)
 |throw x=>exact FE.mk (.one iL)
 |brk l=>exact FE.mk .nil
 |cont l=>exact FE.mk .nil
theorem c8t {f:First} {r r':Ks} {l:List Nat} (h:FKE 0 r r' l):FKE 0 (sN p0 f j r) (sN p f i r') l:=by
 cases f with
 |no=>exact .non h
 |ex x=>exact .cn (FE.mk (.one iL)) h
 |var w y v ds=>exact .cn a7o h
theorem f8e {h:Hd} {m m':Nd} {l:List Nat} (k:FE m m' l):FE (sR p0 h j m) (sR p h i m') l:=by
 cases h with
 |wh x=>exact FE.mk (.cn iL (.one k))
 |fr f a b=>exact FE.mk (c8t (l9 (l9 (.one k))))
 |each o w y x=>cases o<;>exact FE.mk (.cn a7o (.cn iL (.one k)))
 |lab l=>exact FE.mk (.one k)
noncomputable def qs {α:Type} (p:Pos) (l:Pk α):List Nat:=l.map λx=>p x.1
theorem oM {α β:Type} {f:α->β} {l:Pk α}:qs p (mp f l)=qs p l:=List.map_map
theorem c0r {α:Type} {l l':Pk α}:qs p (l++l')=qs p l++qs p l':=List.map_append
theorem qs2 {α β γ:Type} {f:α->γ} {g:β->γ} {l:Pk α} {l':Pk β}:qs p (mp f l++mp g l')=qs p l++qs p l':=by rw [c0r,oM,oM]
abbrev F1 (p:Pos) (t:T):Prop:=∀i j,FE (pl p0 t j) (pl p (aU t) i) (qs p (pk t i))
abbrev F1s (p:Pos) (t:Ts):Prop:=∀i j,FKE 0 (aX p0 t j) (aX p (aY t) i) (qs p (qB t i))
abbrev F1c (p:Pos) (t:Cs):Prop:=∀i j,FKE 0 (jS p0 t j) (jS p (kP t) i) (qs p (pkc t i))
theorem f3s (x:Nm) (t e:T) (k:F1 p t) (k':F1 p e):F1 p (.if2 x t e):=λi j=>by
 show FE _ (pl p (.if2 x (match bN t with|true=>.block (.cons (aU t) .nil)|false=>aU t) (aU e)) i) (qs p (pk2 x t e (pk t) (pk e) i))
 have ho:∀j,fO (pl p0 t j)=bN t:=hE t
 unfold pk2;cases o:bN t with
 |true=>
  show FE _ _ (p (i+4)::qs p (mp _ _++mp _ _))
  rw [qs2];refine FE.mk (k:=44) (.con2 iL (FKE.con1 (a:=p (i+4)::qs p (pk t (i+5))) ?_ (.one (k' _ _))));rw [ho,o];show((c6 (pl p0 t _) (pl p (aU t) (i+5))).1,p (i+4)::(c6 (pl p0 t _) (pl p (aU t) (i+5))).2)=_
  rw [k]
 |false=>
  show FE _ _ (qs p (mp _ _++mp _ _))
  rw [qs2];refine FE.mk (k:=44) (.con2 iL (FKE.con1 (a:=qs p (pk t (i+4))) ?_ (.one (k' _ _))));rw [ho,o];exact(d4j (b:=jA _) rfl).trans (k _ _)
theorem e6g (b:Ts) (c:Option (Option Nm)) (cb:Ts) (g:Bool) (fb:Ts) (k1:F1s p b) (k2:F1s p cb) (k3:F1s p fb):F1 p (.tryT b c cb g fb):=λi j=>by
 have e:qs p (pk (.tryT b c cb g fb) i)=qs p (qB b (i+2))++(qs p (pkC c (qB cb) (cG (aY b) i))++qs p (pkF g (qB fb) (jK (aY b) c (aY cb) i))):=c0r.trans (congr (h3s HAppend.hAppend oM) qs2);rw [e];have h:∀{i j q q'},FE (.mk 59 [] (aX p0 b j) q) (.mk 59 [] (aX p (aY b) i) q') (qs p (qB b i)):=FE.mk (k1 _ _)
 have h2:∀{i j q q'},FE (.mk 59 [] (aX p0 cb j) q) (.mk 59 [] (aX p (aY cb) i) q') (qs p (qB cb i)):=FE.mk (k2 _ _)
 have h3:∀{i j q q'},FE (.mk 59 [] (aX p0 fb j) q) (.mk 59 [] (aX p (aY fb) i) q') (qs p (qB fb i)):=FE.mk (k3 _ _)
 cases c with
 |none=>cases g with
  |false=>exact FE.mk (k:=57) (.con h (.non (.non .nil)))
  |true=>exact FE.mk (k:=57) (.con h (.non (.one h3)))
 |some x=>
  have hc:∀{i' i j j' q q'},FE (.mk 58 [] (dC p0 x j' (.con (.mk 59 [] (aX p0 cb j) q) .nil)) (p0 0)) (.mk 58 [] (dC p x i' (.con (.mk 59 [] (aX p (aY cb) i) q') .nil)) (p (cG (aY b) i))) (qs p (qB cb i)):=FE.mk (l9 (.one h2))
  cases g with
  |false=>exact FE.mk (k:=57) (.con h (.con (FE.mk (l9 (.one h2))) (.non .nil)))
  |true=>exact FE.mk (k:=57) (.con h (.con (FE.mk (l9 (.one h2))) (.one h3)))
theorem f8k:∀ts:Ts,F1s p ts:=
 @Ts.rec (F1 p) (F1s p) (F1c p) (λ_ _ _=>d8d) (λh t k i j=>by show FE _ _ (qs p (mp _ _));rw [oM];exact f8e (k _ _)) (λt x k i j=>(by
  show FE _ _ (qs p (mp (λu=>T.doW u x) (pk t (i+1))))
  rw [oM,<-h3q (qs p (pk t (i+1)))];exact FE.mk (k:=46) (.con (k _ _) (.one iL))))
 (λx t k i j=>by
  show FE _ _ (qs p (mp _ _))
  rw [oM];exact FE.mk (k:=44) (.con2 iL (h3q (qs p (pk t (i+4)))▸FKE.con1 ((d4j (b:=jA _) rfl).trans (k _ _)) (.non .nil)))) f3s
 (λts k i j=>by show FE _ _ (qs p (mp _ _));rw [oM];exact FE.mk (k:=59) (k _ _)) (λx cs k i j=>by show FE _ _ (qs p (mp _ _));rw [oM];exact FE.mk (k:=50) (.cn iL (k _ _))) e6g
 (λ_ _=>.nil) (λt ts k k' i j=>by show FKE 0 _ _ (qs p (mp _ _++mp _ _));rw [qs2];exact .con (k _ _) (k' _ _))
 (λ_ _=>.nil) λx b cs k k' i j=>by show FKE 0 _ _ (qs p (mp _ _++mp _ _));rw [qs2];exact .con (FE.mk (k:=51) (l9 (k _ _))) (k' _ _)
end
structure Nf (n:Nd) (w m z h:Nat):Prop where
 w:wN n=w
 m:MN n=m
 z:iV n<=z
 h:ht n<=h
 s:ShN n
structure Kf (ks:Ks) (w m z h:Nat):Prop where
 w:wK ks=w
 m:MK 0 ks=m
 z:oE ks<=z
 h:hts ks<=h
 s:ShK 0 ks
theorem Nf.le {n:Nd} {w m z h z' h':Nat} (k:Nf n w m z h) (a:z<=z') (b:h<=h'):Nf n w m z' h':=⟨k.w,k.m,h3j k.z a,h3j k.h b,k.s⟩
theorem Kf.le {n:Ks} {w m z h z' h':Nat} (k:Kf n w m z h) (a:z<=z') (b:h<=h'):Kf n w m z' h':=⟨k.w,k.m,h3j k.z a,h3j k.h b,k.s⟩
section
variable {w m z h w' m' z' i q:Nat} {p:Pos} {ks r:Ks} {n n':Nd} {a:Nm}
theorem Kf.nil:Kf .nil 0 0 0 h:=⟨rfl,rfl,h3k _,h3w _,h3m⟩
theorem Kf.non (k:Kf ks w m z h):Kf (.non ks) w m (z+1) h:=⟨k.w,k.m,h3r k.z,k.h,rfl,k.s⟩
theorem Kf.con (k:Nf n w m z h) (k':Kf ks w' m' z' h):Kf (.con n ks) (w+w') (m+m') (z+z') h:=
 ⟨(by show wN n+wK ks=_;rw [k.w,k'.w]),(by show MN n+MK 0 ks=_;rw [k.m,k'.m]),ad2 k.z k'.z,Nat.max_le.mpr ⟨k.h,k'.h⟩,k.s,(λe=>nomatch e),k'.s⟩
theorem Kf.cn (k:Nf n 0 0 z h) (k':Kf ks w' m' z' h):Kf (.con n ks) w' m' (z+z') h:=h4c w'▸h4c m'▸Kf.con k k'
theorem Nf.nd {k:Nat} (e:decide (k=44)=false) (e':k=59->∀ks',ks≠.non ks') (K:Kf ks w m z h):Nf (.mk k a ks q) w m (z+1) (h+1):=
 ⟨(by show wK ks+w44 k=_;rw [w44,e];exact K.w),(by show MK (md (decide (k=44)) 0) ks=_;rw [e];exact K.m),h3r K.z,h3r K.h,(by show ShK (md (decide (k=44)) 0) ks/\_;rw [e];exact⟨K.s,e'⟩)⟩
theorem qY {x:Nm}:Nf (lH p x i) 0 0 1 1:=.nd rfl (λe=>nomatch e) .nil
theorem pU {x:Option Nm} (k:Kf r w m z h) (hh:1<=h):Kf (dC p x i r) w m (z+1) h:=by
 cases x with
 |none=>exact k.non
 |some x=>exact(Kf.cn (qY.le (h3k _) hh) k).le (h3y (h4e 1 z)) (h3k _)
theorem b3i {y:Nm} {v:Option Nm}:Nf (eN p y v i) 0 0 4 2:=.nd rfl (λe=>nomatch e) (.cn qY (.non (pU .nil (h3k _))))
theorem a7u:∀{ds:List (Nm×Option Nm)} {i:Nat},Kf (gV p ds i) 0 0 (20*ds.length) 2
 |[],_=>.nil
 |d::ds,i=>(Kf.cn b3i a7u).le (by show 4+20*ds.length<=20*(ds.length+1);omega) (h3k _)
theorem b1f {w:Nat} {y:Nm} {v:Option Nm} {ds:List (Nm×Option Nm)}:Nf (fQ p w y v ds i) 0 0 (20*ds.length+5) 3:=by
 have k:Nf (fQ p w y v ds i) 0 0 (4+20*ds.length+1) 3:=.nd rfl (λe=>nomatch e) (.cn b3i a7u)
 exact k.le (by omega) (h3k _)
theorem d7r {l:Leaf}:Nf (kL p l i) 0 0 (a1i l) 4:=by
 have e:∀{n:Nd} {z:Nat},Nf n 0 0 z 3->z<=100->Nf n 0 0 100 4:=λk h=>k.le h (by decide)
 cases l with
 |expr x=>exact e (.nd rfl (λe=>nomatch e) (.cn (qY.le (h3k _) (by decide)) .nil)) (by decide)
 |empty=>exact e (.nd rfl (λe=>nomatch e) .nil) (by decide)
 |var w y v ds=>exact b1f.le (by show _<=100+20*ds.length;omega) (by decide)
 |ret x=>exact e (.nd rfl (λe=>nomatch e) (pU .nil (by decide))) (by decide)
 |throw x=>exact e (.nd rfl (λe=>nomatch e) (.cn (qY.le (h3k _) (by decide)) .nil)) (by decide)
 |brk l=>exact e (.nd rfl (λe=>nomatch e) .nil) (by decide)
 |cont l=>exact e (.nd rfl (λe=>nomatch e) .nil) (by decide)
theorem nD (k:Nf n w m z h):Kf (.con n .nil) w m z h:=Kf.con k .nil
theorem a1j {x:Nm} (k:Kf ks w m z h) (hh:1<=h):Kf (.con (lH p x i) ks) w m (1+z) h:=.cn (qY.le (h3k _) hh) k
theorem f4o {H:Hd} (k:Nf n w m z h) (hh:3<=h):Nf (sR p H i n) w m (cHd H+z) (h+1):=by
 have h1:=h3j (by decide:1<=3) hh
 have h2:=h3j (by decide:2<=3) hh
 have e:∀{n:Nd} {c z':Nat},Nf n w m z' (h+1)->z'<=500+z->Nf n w m (500+z) (h+1):=λk h=>k.le h (h3k _)
 cases H with
 |wh x=>exact e (c:=0) (.nd rfl (λe=>nomatch e) (a1j (nD k) h1)) (by omega)
 |fr f a b=>
  have K:=pU (p:=p) (x:=a) (i:=iD f (i+2)+1) (pU (p:=p) (x:=b) (i:=gS a (iD f (i+2)+1)+1) (nD k) h1) h1;cases f with
  |no=>exact e (c:=0) (.nd rfl (λe=>nomatch e) K.non) (by omega)
  |ex x=>exact e (c:=0) (.nd rfl (λe=>nomatch e) (.cn (.le (.nd rfl (λe=>nomatch e) (a1j .nil (h3k _))) (h3k _) h2) K)) (by omega)
  |var w' y v ds=>
   have k2:Nf (sR p (.fr (.var w' y v ds) a b) i n) w m (20*ds.length+5+(z+1+1)+1) (h+1):=.nd rfl (λe=>nomatch e) (.cn (b1f.le (h3k _) hh) K)
   exact k2.le (by show _<=500+20*ds.length+z;omega) (h3k _)
 |each o w y x=>
  have K:=Kf.cn ((b1f (p:=p) (w:=w) (y:=y) (v:=none) (ds:=[]) (i:=i+2)).le (h3k _) hh) (a1j (p:=p) (x:=x) (i:=i+5) (nD k) h1);cases o with
  |true=>exact e (c:=0) (.nd rfl (λe=>nomatch e) K) (by show 5+(1+z)+1<=500+z;omega)
  |false=>exact e (c:=0) (.nd rfl (λe=>nomatch e) K) (by show 5+(1+z)+1<=500+z;omega)
 |lab l=>exact e (c:=0) (.nd rfl (λe=>nomatch e) (nD k)) (by omega)
theorem e2h {x:Nm} {t:Nd} (k:Nf t w m z h) (o:OpC t) (hh:1<=h):Nf (.mk 44 [] (.con (lH p x i) (.con t (.non .nil))) q) (w+1) m (400+z) (h+1):=
 ⟨(by show 0+0+(wN t+0)+1=_;rw [k.w,Nat.add_zero,h4c]),(by show 0+(MN t+(0+0)+0)=_;rw [k.m];exact h4c m),(by have:=k.z;show 0+1+(iV t+(0+1))+1<=_;omega),h3r (Nat.max_le.mpr ⟨hh,Nat.max_le.mpr ⟨k.h,h3w _⟩⟩),
  ⟨qY.s,(λe=>nomatch e),k.s,(λ_=>⟨o,λe=>nomatch e⟩),rfl,h3m⟩,λe=>nomatch e⟩
theorem e5p {x:Nm} {t e:Nd} (k:Nf t w m z h) (k':Nf e w' m' z' h) (o:OpC t) (hh:1<=h):Nf (.mk 44 [] (.con (lH p x i) (.con t (.con e .nil))) q) (w+w'+1) (m+m'+w) (400+(z+z')) (h+1):=
 ⟨(by show 0+0+(wN t+(wN e+0))+1=_;rw [k.w,k'.w,Nat.add_zero,h4c];rfl),(by show 0+(MN t+(MN e+(0+0)+wN t)+0)=_;rw [k.m,k'.m,k.w];omega),(by have:=k.z;have:=k'.z;show 0+1+(iV t+(iV e+0))+1<=_;omega),h3r (Nat.max_le.mpr ⟨hh,Nat.max_le.mpr ⟨k.h,Nat.max_le.mpr ⟨k'.h,h3w _⟩⟩⟩),
  ⟨qY.s,(λe=>nomatch e),k.s,(λ_=>⟨o,λe=>nomatch e⟩),k'.s,(λe=>nomatch e),h3m⟩,λe=>nomatch e⟩
end
section
variable {p:Pos}
theorem c0w {t:T} {i:Nat} (h:dT t<=39):OpC (pl p t i):=λn st K hk=>by
 rw [hE]at hk;exact a0i t (h4m (Nat.lt_succ_of_le h) (h4b _ _)) hk
abbrev NT (p:Pos) (t:T):Prop:=dT t<=39->∀i,Nf (pl p t i) (wT t) (mT t) (zT t) (3*dT t+4)
abbrev NS (p:Pos) (t:Ts):Prop:=b3 t<=39->∀i,Kf (aX p t i) (bQ wF t) (bQ mF t) (bQ zF t) (3*b3 t+4)
abbrev NC (p:Pos) (t:Cs):Prop:=j2 t<=39->∀i,Kf (jS p t i) (i6 wF t) (i6 mF t) (i6 zF t) (3*j2 t+5)
theorem mxl {a b c k:Nat} (h:max a b+k<=c):a<=c:=by omega
theorem mxr {a b c k:Nat} (h:max a b+k<=c):b<=c:=by omega
theorem hl {a b:Nat}:3*a+4<=3*max a b+4:=by omega
theorem hr {a b:Nat}:3*b+4<=3*max a b+4:=by omega
theorem hs {a:Nat}:3*a+4+1<=3*(a+1)+4:=by omega
theorem hs2 {a:Nat}:3*a+5+1<=3*(a+1)+4:=by omega
theorem h1 {a:Nat}:1<=3*a+4:=by omega
theorem h3 {a:Nat}:3<=3*a+4:=by omega
theorem a1w {b:Ts} {w m z h i q:Nat} (k:Kf (aX p b i) w m z h):Nf (.mk 59 [] (aX p b i) q) w m (z+1) (h+1):=.nd rfl (λ_ ks e=>by cases b with
 |nil=>exact nomatch e
 |cons t ts=>exact nomatch e) k
theorem c3g (b:Ts) (c:Option (Option Nm)) (cb:Ts) (g:Bool) (fb:Ts) (k1:NS p b) (k2:NS p cb) (k3:NS p fb):NT p (.tryT b c cb g fb):=λh i=>by
 have h:max (b3 b) (max (b3 cb) (b3 fb))+1<=39:=h;have e1:3*b3 b+4+1<=3*max (b3 b) (max (b3 cb) (b3 fb))+6:=by omega
 have e2:3*b3 cb+4+1+1<=3*max (b3 b) (max (b3 cb) (b3 fb))+6:=by omega
 have e3:3*b3 fb+4+1<=3*max (b3 b) (max (b3 cb) (b3 fb))+6:=by omega
 have K1:∀{i q},Nf (.mk 59 [] (aX p b i) q) (bQ wF b) (bQ mF b) (bQ zF b+1) (3*max (b3 b) (max (b3 cb) (b3 fb))+6):=(a1w (k1 (by omega) _)).le (h3k _) e1
 have K3:∀{i q},Nf (.mk 59 [] (aX p fb i) q) (bQ wF fb) (bQ mF fb) (bQ zF fb+1) (3*max (b3 b) (max (b3 cb) (b3 fb))+6):=(a1w (k3 (by omega) _)).le (h3k _) e3
 have fin:∀{ks:Ks},Kf ks (cN c (bQ wF cb)+fN g (bQ wF fb)) (cN c (bQ mF cb)+fN g (bQ mF fb)) (bQ zF cb+3+(bQ zF fb+1)) (3*max (b3 b) (max (b3 cb) (b3 fb))+6)->Nf (.mk 57 [] (.con (.mk 59 [] (aX p b (i+2)) (p (i+1))) ks) (p i)) (wT (.tryT b c cb g fb)) (mT (.tryT b c cb g fb)) (zT (.tryT b c cb g fb)) (3*dT (.tryT b c cb g fb)+4):=λk=>
  (Nf.nd (k:=57) rfl (λe=>nomatch e) (.con K1 k)).le (by show bQ zF b+1+_+1<=1000+(bQ zF b+(bQ zF cb+bQ zF fb));omega) (by show _<=3*(max (b3 b) (max (b3 cb) (b3 fb))+1)+4;omega)
 cases c with
 |none=>cases g with
  |false=>exact fin ((Kf.non (.non .nil)).le (by omega) (h3k _))
  |true=>
   refine fin ?_;show Kf _ (0+bQ wF fb) (0+bQ mF fb) _ _
   rw [h4c,h4c];exact(Kf.non (nD K3)).le (by omega) (h3k _)
 |some x=>
  have K2:∀{i j q q'},Nf (.mk 58 [] (dC p x j (.con (.mk 59 [] (aX p cb i) q) .nil)) q') (bQ wF cb) (bQ mF cb) (bQ zF cb+3) (3*max (b3 b) (max (b3 cb) (b3 fb))+6):=(Nf.nd (k:=58) rfl (λe=>nomatch e) (pU (nD (a1w (k2 (by omega) _))) (by omega))).le (h3k _) e2
  cases g with
  |false=>exact fin ((Kf.con K2 (.non .nil)).le (by omega) (h3k _))
  |true=>exact fin (.con K2 (nD K3))
theorem tE:(∀t,NT p t)/\∀ts,NS p ts:=by
 have h2:∀h t,NT p t->NT p (.pre h t):=λH t k h i=>(f4o (k (h4i h) _) h3).le (h3k _) hs
 have h3:∀t x,NT p t->NT p (.doW t x):=λt x k h i=>(Nf.nd (k:=46) rfl (λe=>nomatch e) (.con (k (h4i h) _) (a1j .nil h1))).le (by show zT t+1+1<=400+zT t;omega) hs
 have h4:∀x t,NT p t->NT p (.if1 x t):=λx t k h i=>(e2h (k (h4i h) _) (c0w (h4i h)) h1).le (h3k _) hs
 have h5:∀x t e,NT p t->NT p e->NT p (.if2 x t e):=λx t e k k' h i=>(e5p ((k (mxl h) _).le (h3k _) hl) ((k' (mxr h) _).le (h3k _) hr) (c0w (mxl h)) h1).le (h3k _) hs
 have h6:∀ts,NS p ts->NT p (.block ts):=λts k h i=>(a1w (k (h4i h) _)).le (by show _<=300+bQ zF ts;omega) hs
 have h7:∀x cs,NC p cs->NT p (.switch x cs):=λx cs k h i=>(Nf.nd (k:=50) rfl (λe=>nomatch e) (a1j (k (h4i h) _) (by omega))).le (by show 1+i6 zF cs+1<=400+i6 zF cs;omega) hs2
 have h9:∀t ts,NT p t->NS p ts->NS p (.cons t ts):=λt ts k k' h i=>(Kf.con ((k (mxl (k:=0) h) _).le (h3k _) hl) ((k' (mxr (k:=0) h) _).le (h3k _) hr)).le (by show _<=200+(zT t+bQ zF ts);omega) (h3k _)
 have h10:∀x b cs,NS p b->NC p cs->NC p (.cons x b cs):=λx b cs k k' h i=>by
  have h:max (b3 b) (j2 cs)<=39:=h;exact(Kf.con ((Nf.nd (k:=51) rfl (λe=>nomatch e) (pU (k (by omega) _) h1)).le (h3k _) (by show _<=3*max (b3 b) (j2 cs)+5;omega)) ((k' (by omega) _).le (h3k _) (by show _<=3*max (b3 b) (j2 cs)+5;omega))).le (by show _<=400+(bQ zF b+i6 zF cs);omega) (h3k _)
 have l:∀l,NT p (.leaf l):=λl h i=>d7r
 exact⟨@T.rec (NT p) (NS p) (NC p) l h2 h3 h4 h5 h6 h7 c3g (λ_ _=>.nil) h9 (λ_ _=>.nil) h10,@Ts.rec (NT p) (NS p) (NC p) l h2 h3 h4 h5 h6 h7 c3g (λ_ _=>.nil) h9 (λ_ _=>.nil) h10⟩
end
inductive Al:List AV->List P->Prop
 |nil:Al [] []
 |cons {q:P} {a e:Nat} {f:Bool} {A:List AV} {ps:List P}:(q.nf=true->f=false)->Al A ps->Al (bH q.k q.s a e f::A) (q::ps)
theorem Al.len {A:List AV} {ps:List P} (h:Al A ps):A.length=ps.length:=by
 induction h with
 |nil=>rfl
 |cons _ _ ih=>exact h3s (· +1) ih
theorem Al.app {A A':List AV} {ps qs:List P} (h:Al A ps) (h':Al A' qs):Al (A++A') (ps++qs):=by
 induction h with
 |nil=>exact h'
 |cons e _ ih=>exact .cons e ih
theorem Al.split:∀{ps qs:List P} {A:List AV},Al A (ps++qs)->∃A1 A2,A=A1++A2/\Al A1 ps/\Al A2 qs:=by
 intro ps
 induction ps with
 |nil=>exact λh=>⟨[],_,rfl,.nil,h⟩
 |cons p ps ih=>
  intro qs A h;cases h with
  |cons e h=>
   obtain⟨A1,A2,rfl,h2,h3⟩:=ih h;exact⟨_::A1,A2,rfl,.cons e h2,h3⟩
theorem vA {α:Type} {v:α} {l:List α}:∀{pre:List α},aD (pre++v::l) pre.length=some v
 |[]=>rfl
 |_::pre=>vA (pre:=pre)
theorem c2u {A:List AV} {i a e:Nat} {f:Bool} {q:P} (h:aD A i=some (bH q.k q.s a e f)) (hf:q.nf=true->f=false):TkA A i q:=by
 have e1:iP A i=a:=b4e h;have e2:t4 c5l 0 A i=e:=by unfold t4;rw [h];rfl
 have e3:t4 frV false A i=f:=by unfold t4;rw [h];rfl
 exact⟨by rw [e1,e2,e3];exact h,by rw [e3];exact hf⟩
theorem Al.seg {A:List AV} {ps:List P} (h:Al A ps):∀(pre rest:List AV),jU (pre++(A++rest)) pre.length ps:=by
 induction h with
 |nil=>exact λ_ _=>h3m
 | @cons q a e f A ps hf _ ih=>
  intro pre rest;have g:=ih (pre++[bH q.k q.s a e f]) rest;rw [h3p,h3o]at g;exact⟨c2u vA hf,g⟩
theorem d8g:∀{l:List Lx} {f:Bool} {ps:List P},Mt l f ps->∀q:Nat,∃A q' f',mG l q f=A++[bH 0 [] q' q' f']/\Al A ps:=by
 intro l
 induction l with
 |nil=>exact λ{f ps} h q=>⟨[],q,f,rfl,(by cases (show ps=[] from h);exact .nil)⟩
 |cons x l ih=>
  intro f ps h q;cases x with
  |nl=>exact ih h (q+1)
  |sp=>exact ih h (q+1)
  |sg c=>
   cases ps with
   |nil=>exact h.elim
   |cons p ps=>
    obtain⟨k,s,nf⟩:=p;obtain⟨rfl,rfl,h3,h4⟩:k=5/\s=[c]/\(nf=true->f=false)/\Mt l false ps:=h;obtain⟨A,q',f',g1,g2⟩:=ih h4 (q+1);exact⟨bH 5 [c] q (q+1) f::A,q',f',h3s (_:: ·) g1,.cons (q:=⟨5,[c],nf⟩) h3 g2⟩
  |wd s'=>
   cases ps with
   |nil=>exact h.elim
   |cons p ps=>
    obtain⟨k,s,nf⟩:=p;obtain⟨rfl,rfl,h3,h4⟩:k=lW s'/\s=s'/\(nf=true->f=false)/\Mt l false ps:=h;obtain⟨A,q',f',g1,g2⟩:=ih h4 (q+s.length);exact⟨bH (lW s) s q (q+s.length) f::A,q',f',h3s (_:: ·) g1,.cons (q:=⟨lW s,s,nf⟩) h3 g2⟩
theorem e1g {x:Lx} {l:List Lx}:(fD (x::l)).length=x.tx.length+(fD l).length:=h3o
theorem e1j:∀{l:List Lx} {b f:Bool} {ps:List P},Mt l f ps->wf b l->ps.length<=(fD l).length:=by
 intro l
 induction l with
 |nil=>exact λ{b f ps} h _=>by cases (show ps=[] from h);exact h3k _
 |cons x l ih=>
  intro b f ps h hw;rw [e1g];cases x with
  |nl=>exact h3j (ih h hw) (h4b _ _)
  |sp=>exact h3j (ih h hw) (h4b _ _)
  |sg c=>
   cases ps with
   |nil=>exact h3w _
   |cons p ps=>exact h3j (h3r (ih h.2.2.2 hw.2.2.2)) (h3y (h4e _ 1))
  |wd s=>
   cases ps with
   |nil=>exact h3w _
   |cons p ps=>exact h3j (h3y (h4e _ 1)) (h4x (List.length_pos_iff.mpr hw.2.1) (ih h.2.2.2 hw.2.2.2))
section
variable {K:AV->aB->Prop} {n q:Nat} {st:aB} {V:AV}
abbrev baS:Ss:=cS (.ite ((cC .eq (V4.attr 1) V1).and (cC .eq (V4.attr 5) (gI 66 5))) (cS (.assign 3 (lI 1)) (cS .cont nS)) .nil)
 (cS (.ite ((cC .gt V3 (lI 0)).and (cC .eq (V4.attr 34) (lS [123]))) (cS (.augV 3 .add (lI 1)) nS) .nil)
 (cS (.ite ((cC .gt V3 (lI 0)).and (cC .eq (V4.attr 34) (lS [125]))) (cS (.augV 3 .sub (lI 1)) (cS (.ite (cC .eq V3 (lI 0)) (cS .cont nS) .nil) nS)) .nil)
 (cS (.appV 2 V4) nS)))
abbrev sA (n:Nat) (Z:FK) (V:AV) (q:Nat) (r out:List AV) (c:Nat) (s4:Slot) (st:aB):Prop:=
 List.foldr (gQ [4] true (aZ TT (aO TT (aD fns) n) baS) Z) (Z .nxt) r [.val V,.val (.int (.ofNat q)),.own out,.val (.int (.ofNat c)),s4] st
def Els (q:Nat) (v:AV):Prop:=∃k s a e f,v=bH k s a e f/\a≠q
theorem mK {out r:List AV} {v:AV}:out++v::r=out++[v]++r:=List.append_cons ..
theorem c3w {Z:FK} {rest:List AV}:∀{r out:List AV} {s4:Slot},(∀v∈r,Els q v)->out.length+r.length<=1000000->(∀s4,sA n Z V q rest (out++r) 0 s4 st)->sA n Z V q (r++rest) out 0 s4 st:=by
 intro r
 induction r with
 |nil=>exact λ{out s4} _ _ h=>h3q out▸h s4
 |cons v r ih=>
  intro out s4 hr hl h;obtain⟨k,s,a,e,f,rfl,hne⟩:=hr v (.head _)
  conv=>whnf
  rw [iB,h3u hne];refine⟨h3j (h3x _ _) hl,ih (λv hv=>hr v (.tail _ hv)) ?_ λs4=> ?_⟩
  ·rw [h3o,h4d,h4e [bH k s a e f].length];exact hl
  ·rw [<-mK];exact h s4
theorem o8 {c:Nat}:decide ((0:Int) <Int.ofNat (c+1))=true:=h3v (Int.ofNat_lt.mpr (h4z c))
theorem e4t {Z:FK} {rest out:List AV} {s4:Slot} {c k a e:Nat} {s:Nm} {f:Bool} (h1:s≠ [123]) (h2:s≠ [125]) (hne:a≠q) (hl:out.length<=1000000) (h:∀s4,sA n Z V q rest (out++[bH k s a e f]) (c+1) s4 st):sA n Z V q (bH k s a e f::rest) out (c+1) s4 st:=by
 conv=>whnf
 rw [iB,h3u hne]
 conv=>whnf
 rw [o8]
 conv=>whnf
 rw [h3u h1]
 conv=>whnf
 rw [o8]
 conv=>whnf
 rw [h3u h2];exact⟨hl,h _⟩
theorem d9i {Z:FK} {rest out:List AV} {s4:Slot} {c k a e:Nat} {f:Bool} (hne:a≠q) (hl:out.length<=1000000) (h:∀s4,sA n Z V q rest (out++[bH k [123] a e f]) (c+2) s4 st):sA n Z V q (bH k [123] a e f::rest) out (c+1) s4 st:=by
 conv=>whnf
 rw [iB,h3u hne]
 conv=>whnf
 rw [o8]
 conv=>whnf
 rw [show decide ((0:Int) <Int.ofNat (c+1)+1)=true from o8 (c:=c+1)]
 exact⟨hl,h _⟩
theorem d8l {Z:FK} {rest out:List AV} {s4:Slot} {c k a e:Nat} {f:Bool} (hne:a≠q) (hl:out.length<=1000000) (h:∀s4,sA n Z V q rest (out++[bH k [125] a e f]) (c+1) s4 st):sA n Z V q (bH k [125] a e f::rest) out (c+2) s4 st:=by
 conv=>whnf
 rw [iB,h3u hne]
 conv=>whnf
 rw [o8]
 conv=>whnf
 rw [o8]
 conv=>whnf
 rw [show Int.ofNat (c+2) - 1=Int.ofNat (c+1) from bX (c+1),show decide (Int.ofNat (c+1)=0)=false from h3u λh=>nomatch Int.ofNat.inj h]
 exact⟨hl,h _⟩
theorem f4m {Z:FK} {B:List P} (hB:Bal B):∀{A rest out:List AV} {s4:Slot} {c:Nat},Al A B->(∀v∈A,j4 v≠q)->out.length+A.length<=1000000->(∀s4,sA n Z V q rest (out++A) (c+1) s4 st)->sA n Z V q (A++rest) out (c+1) s4 st:=by
 induction hB with
 |nil=>
  intro A rest out s4 c hA _ _ h;cases hA;exact h3q out▸h s4
 |tok h1 h2 _ ih=>
  intro A rest out s4 c hA hq hl h;cases hA with
  |cons hf hA=>
   refine e4t h1 h2 (hq _ (.head _)) (h3j (h3x _ _) hl) λs4=>ih hA (λv hv=>hq v (.tail _ hv)) ?_ λs4=> ?_
   ·rw [h3o,h4d,h4e [_].length];exact hl
   ·rw [<-mK];exact h s4
 |grp _ _ ih1 ih2=>
  intro A rest out s4 c hA hq hl h;cases hA with
  | @cons _ a e f A _ _ hA=>
   obtain⟨A1,A2,rfl,hA1,hA2⟩:=hA.split;cases hA2 with
   | @cons _ a' e' f' A2 _ _ hA2=>
    have hl:out.length+(bH 5 [123] a e f::(A1++bH 5 [125] a' e' f'::A2)).length<=1000000:=hl;simp only [List.length_cons,h3o]at hl;refine d9i (hq _ (.head _)) (h3j (h3x _ _) hl) λs4=> ?_
    show sA n Z V q ((A1++bH 5 [125] a' e' f'::A2)++rest) _ _ _ _
    rw [h3p];refine ih1 hA1 (λv hv=>hq v (.tail _ (List.mem_append_left _ hv))) (by rw [h3o,List.length_singleton];omega) λs4=> ?_
    refine d8l (hq _ (.tail _ (List.mem_append_right _ (.head _)))) (by rw [h3o,h3o,List.length_singleton];omega) λs4=> ?_
    refine ih2 hA2 (λv hv=>hq v (.tail _ (List.mem_append_right _ (.tail _ hv)))) (by rw [h3o,h3o,h3o,List.length_singleton,List.length_singleton];omega) λs4=> ?_
    rw [<-mK,h3p (out++_),<-mK];exact h s4
theorem b5q {A1 A2 A3:List AV} {B:List P} {e e' q':Nat} {f f':Bool} (h1:∀v∈A1,Els q v) (h2:Al A2 B) (h2':∀v∈A2,j4 v≠q) (hB:Bal B) (hq:q'≠q) (h3:∀v∈A3,Els q v) (hl:A1.length+(A2.length+A3.length)<=900000) (hk:K (.lst (A1++(A2++A3))) st):
  aH (n+1) rU [.lst (A1++bH 5 [123] q e f::(A2++bH 5 [125] q' e' f'::A3)),.int (.ofNat q)] st K:=en (by
 have base:∀{V s4},sA n (jB (aZ TT (aO TT (aD fns) n) (cS (.ret V2) nS)) (c4 K)) V q (A1++bH 5 [123] q e f::(A2++bH 5 [125] q' e' f'::A3)) [] 0 s4 st:=λ{V s4}=>by
  refine c3w h1 (by rw [h4k,h4c];exact h3j (h3x _ _) (h3j hl (by decide))) λs4=> ?_
  conv=>whnf
  rw [iB,h3v rfl];refine f4m (c:=0) hB h2 h2' (by rw [List.nil_append];omega) λs4=> ?_
  conv=>whnf
  rw [iB,h3u hq]
  conv=>whnf
  rw [<-h3q A3];refine c3w h3 (by rw [h3o,List.nil_append];omega) λs4=> ?_
  rw [h3p];exact hk
 exact base (s4:=.no))
end
noncomputable def dg (ds:List Int):List AV:=ds.map .int
theorem kE {α β:Type} {f:α->β}:∀{l:List α} {i:Nat},aD (l.map f) i=(aD l i).map f
 |[],_=>rfl
 |_::_,0=>rfl
 |_::l,i+1=>kE (l:=l)
theorem mL {α:Type}:∀{l:List α} {r:Nat},r<l.length->∃x,aD l r=some x/\x∈l
 |[],_,h=>absurd h (Nat.not_lt_zero _)
 |x::_,0,_=>⟨x,rfl,.head _⟩
 |_::l,r+1,h=>(mL (l:=l) (Nat.lt_of_succ_lt_succ h)).elim λx h=>⟨x,h.1,.tail _ h.2⟩
section
variable {W:List AV->aB} {o:Nat} {n:Nat} {K:AV->aB->Prop} {ds:List Int}
theorem eK {m:Nat} (hW:OwnS W o) (hm:0<m) (hk:∀(r:Nat) (ds':List Int),r<m->ds'.length<=ds.length->(r≠0->ds'.length<ds.length)->K (.int (.ofNat r)) (W (dg ds'))):
  aH (n+1) b6m [.ref o,.int (.ofNat m)] (W (dg ds)) K:=en (by
 conv=>whnf
 rw [show∀l,b9f (W l) (.ref o)=some l.length from λl=>by
  show(match(match aQ (W l) o with|some (.list l)=>some l|_=>none:Option (List AV))with|some l=>some l.length|none=>none)=_
  rw [hW.at']]
 conv=>whnf
 rcases List.eq_nil_or_concat ds with rfl|⟨ds,z,rfl⟩
 ·exact hk 0 [] hm (h3k _) (λh=>absurd rfl h)
 ·rw [List.concat_eq_append]at hk⊢;have e:dg (ds++[z])=dg ds++[.int z]:=List.map_append;rw [e,show decide ((0:Int) <((dg ds++[AV.int z]).length:Int))=true from h3v (Int.ofNat_lt.mpr (by rw [h3o];exact h4z _))]
  conv=>whnf
  rw [hW.at']
  conv=>whnf
  rw [show aD (dg ds++[AV.int z]).reverse 0=some (.int z) by rw [List.reverse_append];rfl]
  conv=>whnf
  have hz:(z%(m:Int))=Int.ofNat (z%(m:Int)).toNat:=(Int.toNat_of_nonneg (Int.emod_nonneg _ (Int.ofNat_ne_zero.mpr (Nat.ne_of_gt hm)))).symm;refine⟨Int.ofNat_lt.mpr hm,?_⟩;rw [show(dg ds++[AV.int z]).dropLast=dg ds from List.dropLast_concat,hW.set]
  have hl:(ds++[z]).length=ds.length+1:=by rw [h3o];rfl
  have:=hk (z%(m:Int)).toNat ds (Int.ofNat_lt.mp (hz▸Int.emod_lt_of_pos z (Int.ofNat_lt.mpr hm))) (hl▸h4r _) (λ_=>hl▸h4q _)
  rw [<-hz]at this;exact this)
noncomputable def nmL:List Nm:=[[102],[111,102],[116,121,112,101],[108,101,116],[103,101,116],[97,115,121,110,99],[122]]
noncomputable def bdL:List Nm:=[[102],[111,102],[116,121,112,101],[103,101,116],[97,115,121,110,99],[122]]
theorem c0v:∀{x},x∈nmL->gd x/\b5s x:=λ{x} h=>⟨List.elem_iff.mp (List.all_eq_true.mp (rfl:nmL.all (λx=>qZ.elem x)=true) x h),by
 by_cases e:x=[108,101,116]
 ·exact .inr e
 ·refine .inl ?_;have:=List.all_eq_true.mp (rfl:nmL.all (λx=>decide (x=[108,101,116])||(match dget (.str x) eM with|some none=>true|_=>false))=true) x h
  rw [h3u e]at this;unfold jZ
  revert this
  cases dget (.str x) eM with
  |none=>exact λh=>nomatch h
  |some y=>cases y with
   |none=>exact λ_=>rfl
   |some _=>exact λh=>nomatch h⟩
theorem c3m {x:Nm} (h:x∈bdL):gd x/\gK x:=⟨List.elem_iff.mp (List.all_eq_true.mp (rfl:bdL.all (λx=>qZ.elem x)=true) x h),by
 have:=List.all_eq_true.mp (rfl:bdL.all (λx=> !decide (x=[108,101,116]))=true) x h
 exact(Bool.not_eq_true' _).mp this⟩
theorem eB (hW:OwnS W o) (hk:∀(x:Nm) (ds':List Int),gd x->b5s x->ds'.length<=ds.length->K (eE x 0) (W (dg ds'))):aH (n+3) b9t [.ref o] (W (dg ds)) K:=en (eK (m:=7) (n:=n+1) hW (by decide) λr ds' hr hl _=>by
 obtain⟨x,h1,h2⟩:=mL (l:=nmL) hr
 conv=>whnf
 rw [show∀st,dB st (.tup [.str [102],.str [111,102],.str [116,121,112,101],.str [108,101,116],.str [103,101,116],.str [97,115,121,110,99],.str [122]]) (.int (.ofNat r))=some (.str x) from λst=>(kE (l:=nmL) (f:=AV.str)).trans (h3s _ h1)]
 exact gC (n:=n) (hk x ds' (c0v h2).1 (c0v h2).2 hl))
theorem b5k (hW:OwnS W o) (hk:∀(x:Nm) (ds':List Int),gd x->gK x->ds'.length<=ds.length->K (eE x 0) (W (dg ds'))):aH (n+3) b2b [.ref o] (W (dg ds)) K:=en (eK (m:=6) (n:=n+1) hW (by decide) λr ds' hr hl _=>by
 obtain⟨x,h1,h2⟩:=mL (l:=bdL) hr
 conv=>whnf
 rw [show∀st,dB st (.tup [.str [102],.str [111,102],.str [116,121,112,101],.str [103,101,116],.str [97,115,121,110,99],.str [122]]) (.int (.ofNat r))=some (.str x) from λst=>(kE (l:=bdL) (f:=AV.str)).trans (h3s _ h1)]
 exact gC (n:=n) (hk x ds' (c3m h2).1 (c3m h2).2 hl))
abbrev oA (x:Option Nm):AV:=kS p0 x 0
theorem uW (hW:OwnS W o) (hk:∀(x:Option Nm) (ds':List Int),cR x->ds'.length<=ds.length->K (oA x) (W (dg ds'))):aH (n+4) b2u [.ref o] (W (dg ds)) K:=en (eK (m:=2) (n:=n+2) hW (by decide) λr ds' hr hl _=>by
 match r,hr with
 |0,_=>exact hk none _ h3m hl
 |1,_=>exact eB (n:=n) hW λx ds'' hx _ hl'=>hk (some x) ds'' hx (h3j hl' hl)
 |r+2,h=>exact absurd h (Nat.not_lt.mpr (h4b 2 r)))
end
abbrev dAV (d:Nm×Option Nm):AV:=bR (.int 42) (.str []) (.lst [eE d.1 0,.none,oA d.2]) (.int 0) (.int 0)
theorem b1g {y:Nm} {v:Option Nm} {i:Nat}:(eN p0 y v i).av=dAV (y,v):=by cases v<;>rfl
theorem a5e:∀{ds:List (Nm×Option Nm)} {i:Nat},(gV p0 ds i).av=ds.map dAV
 |[],_=>rfl
 |(y,v)::ds,i=>by show(eN p0 y v (i+1)).av::_=_;rw [b1g,a5e];rfl
abbrev vAV (w:Nat) (ds:List (Nm×Option Nm)):AV:=bR (.int 41) (.str (cW w)) (.lst (ds.map dAV)) (.int 0) (.int 0)
theorem vC {w:Nat} {y:Nm} {v:Option Nm} {ds:List (Nm×Option Nm)} {i:Nat}:(fQ p0 w y v ds i).av=vAV w ((y,v)::ds):=by
 show bR _ _ (.lst ((eN p0 y v (i+1)).av::(gV p0 ds (fJ v (i+1))).av)) _ _=_
 rw [b1g,a5e];rfl
def uV (ws:List Nat):AV:=.tup (ws.map λw=>.str (cW w))
structure VarOK (w:Nat) (y:Nm) (v:Option Nm) (ds:List (Nm×Option Nm)):Prop where
 w2:w<=2
 bd:bndOk y ds
 vo:nN w v ds
 dg:j5 y v ds
 ln:ds.length<=2
structure DOk (w:Nat) (d:Nm×Option Nm):Prop where
 y:gd d.1
 v:cR d.2
 l:gK d.1
 c:2<=w->d.2≠none
section
variable {W:List AV->aB} {o:Nat} {n:Nat} {K:AV->aB->Prop} {ds:List Int} {w:Nat} {ws:List Nat}
abbrev vaB:Ss:=cS (.appV 4 (.call 2 (E4 (gI 97 42) (lS []) (.frz (.disp (E3 (.call 111 (E1 V0)) (.lit .none) V6))) (lI 0)))) nS
abbrev vaS:Ss:=cS (.assign 6 (.ife (C.e V2) (.lit .none) (.call 112 (E1 V0)))) (cS (.ite ((cC .eq V3 (lS [99,111,110,115,116])).and ((C.e (.isN false V6)).and (C.e V2).not)) (cS (.assign 6 (.call 110 (E1 V0))) nS) .nil) vaB)
abbrev vaL (o w:Nat) (ws:List Nat) (h:Bool) (acc:List (Nm×Option Nm)) (s5 s6:Slot):aN:=[.val (.ref o),.val (uV ws),.val (.bool h),.val (.str (cW w)),.own (acc.map dAV),s5,s6]
theorem c2x {Z:FK} {h:Bool} {acc:List (Nm×Option Nm)} {v:Option Nm} {s5:Slot} (hW:OwnS W o) (hl:acc.length<=1000000) (hk:∀(y:Nm) (ds':List Int),gd y->gK y->ds'.length<=ds.length->∀s6,Z .nxt (vaL o w ws h (acc++[(y,v)]) s5 s6) (W (dg ds'))):
  aZ TT (aO TT (aD fns) (n+3)) vaB (vaL o w ws h acc s5 (.val (oA v))) (W (dg ds)) Z:=
 b5k (n:=n) hW λy ds' h1 h2 hl'=>aR (n:=n+1) ⟨(h4j (as:=acc) dAV).symm▸hl,by
  have:=hk y ds' h1 h2 hl' (.val (oA v));rw [vaL,List.map_append]at this;exact this⟩
theorem e1f {Z:FK} {acc:List (Nm×Option Nm)} {s5 s6:Slot} (hW:OwnS W o) (w2:w<=2) (hl:acc.length<=1000000) (hk:∀(d:Nm×Option Nm) (ds':List Int),DOk w d->ds'.length<=ds.length->∀s6,Z .nxt (vaL o w ws false (acc++[d]) s5 s6) (W (dg ds'))):
  aZ TT (aO TT (aD fns) (n+4)) vaS (vaL o w ws false acc s5 s6) (W (dg ds)) Z:=
 uW (n:=n) hW λv ds1 hv hl1=>by
  have one:∀{v:Option Nm} {ds1:List Int},cR v->(2<=w->v≠none)->ds1.length<=ds.length->aZ TT (aO TT (aD fns) (n+4)) vaB (vaL o w ws false acc s5 (.val (oA v))) (W (dg ds1)) Z:=λhv hc hl1=>
   c2x (n:=n+1) hW hl λy ds' h1 h2 h3=>hk (y,_) ds' ⟨h1,hv,h2,hc⟩ (h3j h3 hl1)
  rcases(by omega:w=0\/w=1\/w=2)with rfl|rfl|rfl
  ·exact one hv (λh=>nomatch h) hl1
  ·exact one hv (λh=>absurd h (by decide)) hl1
  ·cases v with
   |none=>exact eB (n:=n+1) hW λx ds2 hx _ hl2=>one (v:=some x) hx (λ_ h=>nomatch h) (h3j hl2 hl1)
   |some x=>exact one hv (λ_ h=>nomatch h) hl1
theorem e2o {Z:FK} (hW:OwnS W o) (w2:w<=2):∀{m i:Nat} {acc:List (Nm×Option Nm)} {ds':List Int} {s5 s6:Slot},acc.length+m<=3->ds'.length<=ds.length->(∀d∈acc,DOk w d)->
  (∀(acc':List (Nm×Option Nm)) (ds':List Int),acc'.length=acc.length+m->(∀d∈acc',DOk w d)->ds'.length<=ds.length->∀s5 s6,Z .nxt (vaL o w ws false acc' s5 s6) (W (dg ds')))->
  List.foldr (gQ [5] true (aZ TT (aO TT (aD fns) (n+4)) vaS) Z) (Z .nxt) (e9 (Int.ofNat i) m) (vaL o w ws false acc s5 s6) (W (dg ds')):=by
 intro m
 induction m with
 |zero=>exact λhm hl ha hk=>hk _ _ rfl ha hl _ _
 |succ m ih=>
  intro i acc ds' s5 s6 hm hl ha hk;refine e1f (Z:=mC _ Z) hW w2 (h3j (h3x _ _) (h3j hm (by decide))) λd ds'' hd hl' s6=> ?_
  have e:(acc++[d]).length+m=acc.length+(m+1):=by rw [h3o,h4d,h4e [d].length];rfl
  exact ih (i:=i+1) (e▸hm) (h3j hl' hl) (λd' h=>(List.mem_append.mp h).elim (ha d') λh=>List.mem_singleton.mp h▸hd) (e▸hk)
theorem b4p (hw:∀w∈ws,w<=2) {r:Nat} (hr:r<ws.length):∃w,w∈ws/\w<=2/\∀st,dB st (uV ws) (.int (.ofNat r))=some (.str (cW w)):=
 (mL hr).elim λw h=>⟨w,h.2,hw w h.2,λst=>(kE (l:=ws) (f:=λw=>AV.str (cW w))).trans (h3s _ h.1)⟩
theorem c2e:(((ws.map λw=>AV.str (cW w)).length:Nat):Int)=Int.ofNat ws.length:=h3s Int.ofNat (h4j _)
theorem uD (hW:OwnS W o) (h0:0<ws.length) (h2:∀w∈ws,w<=2) (hk:∀(w:Nat) (y:Nm) (v:Option Nm) (dl:List (Nm×Option Nm)) (ds':List Int),w∈ws->VarOK w y v dl->ds'.length<=ds.length->K (vAV w ((y,v)::dl)) (W (dg ds'))):
  aH (n+5) a5h [.ref o,uV ws,.bool false] (W (dg ds)) K:=en (by
 conv=>whnf
 rw [c2e];refine eK (n:=n+3) hW h0 λr ds1 hr hl1 _=> ?_
 obtain⟨w,hw1,w2,hw⟩:=b4p h2 hr
 conv=>whnf
 rw [hw];refine eK (m:=3) (n:=n+3) hW (by decide) λr2 ds2 hr2 hl2 _=> ?_
 conv=>whnf
 rw [show∀st,a0x st true (.int (1+Int.ofNat r2))=some (e9 (Int.ofNat 0) (r2+1)) from λst=>by
  match r2,hr2 with
  |0,_=>rfl
  |1,_=>rfl
  |2,_=>rfl
  |r+3,h=>exact absurd h (Nat.not_lt.mpr (h4b 3 r))]
 refine e2o (n:=n) (acc:=[]) (ds:=ds) hW w2 (by rw [h4k,h4c];exact hr2) (h3j hl2 hl1) (λd h=>nomatch h) λacc ds' hl ha hd s5 s6=> ?_
 match acc,hl,ha with
 |[],hl,_=>exact nomatch hl.trans (h4c _)
 |(y,v)::dl,hl,ha=>
  have hl:dl.length<=2:=by rw [List.length_cons,h4k,h4c]at hl;omega
  have h:=ha _ (.head _);exact aR (n:=n+2) (hk w y v dl ds' hw1 ⟨w2,⟨h.l,λd hd=>(ha d (.tail _ hd)).l,h4y hl (by decide)⟩,λhw=>⟨h.c hw,λd hd=>(ha d (.tail _ hd)).c hw⟩,⟨h.y,h.v,λd hd=>⟨(ha d (.tail _ hd)).y,(ha d (.tail _ hd)).v⟩⟩,hl⟩ hd))
theorem zP (hW:OwnS W o) (h0:0<ws.length) (h2:∀w∈ws,w<=2) (hk:∀(w:Nat) (y:Nm) (ds':List Int),w<=2->gd y->gK y->ds'.length<=ds.length->K (vAV w [(y,none)]) (W (dg ds'))):
  aH (n+5) a5h [.ref o,uV ws,.bool true] (W (dg ds)) K:=en (by
 conv=>whnf
 rw [c2e];refine eK (n:=n+3) hW h0 λr ds1 hr hl1 _=> ?_
 obtain⟨w,hw1,w2,hw⟩:=b4p h2 hr
 conv=>whnf
 rw [hw];have one:=c2x (n:=n+1) (w:=w) (ws:=ws) (h:=true) (acc:=[]) (v:=none) (s5:=.val (.int 0)) (ds:=ds1) (Z:=mC (jB (aZ TT (aO TT (aD fns) (n+4)) (cS (.ret (.call 2 (E4 (gI 40 41) V3 V4 (lI 0)))) nS)) (c4 K) .nxt) (jB (aZ TT (aO TT (aD fns) (n+4)) (cS (.ret (.call 2 (E4 (gI 40 41) V3 V4 (lI 0)))) nS)) (c4 K))) hW (h3w _) λy ds' h1 h2 hl s6=>aR (n:=n+2) (hk w y ds' w2 h1 h2 (h3j hl hl1))
 rcases(by omega:w=0\/w=1\/w=2)with rfl|rfl|rfl
 ·exact one
 ·exact one
 ·exact one)
end
def zV:List Nm:=qZ.drop 7|>.take 1|>.append ([[111,102],[116,121,112,101],[103,101,116],[97,115,121,110,99]]++qZ.drop 8)
def gT (k:Nat):Nm:=match aD zV (k*7%30)with
 |some x=>x
 |none=>[]
inductive Lb (L':Nat):Nat->List Nm->Prop
 |nil {L:Nat}:L'<=L->Lb L' L []
 |cons {L k:Nat} {l:List Nm}:k<L->Lb L' k l->Lb L' L (gT k::l)
section
variable {L M L':Nat} {a b:List Nm}
theorem Lb.mono (h:Lb L' L a) (hm:L<=M):Lb L' M a:=by
 cases h with
 |nil h=>exact .nil (h3j h hm)
 |cons h k=>exact .cons (h4m h hm) k
theorem Lb.app (h:Lb M L a) (h':Lb L' M b):Lb L' L (a++b):=by
 induction h with
 |nil h=>exact h'.mono h
 |cons h _ ih=>exact .cons h ih
theorem Lb.lo (h:Lb L' L a) (hm:M<=L'):Lb M L a:=by
 induction h with
 |nil h=>exact .nil (h3j hm h)
 |cons h _ ih=>exact .cons h ih
theorem Lb.le (h:Lb L' L a):L'<=L:=by
 induction h with
 |nil h=>exact h
 |cons h _ ih=>exact h3j ih (Nat.le_of_lt h)
theorem Lb.lt (h:Lb L' L a):∀x∈a,∃k,k<L/\x=gT k:=by
 induction h with
 |nil _=>exact λx h=>nomatch h
 | @cons L k l h _ ih=>
  intro x hx;cases hx with
  |head=>exact⟨k,h,rfl⟩
  |tail _ hx=>exact(ih x hx).elim λm hm=>⟨m,Nat.lt_trans hm.1 h,hm.2⟩
theorem d7e {a b:Nat} (ha:a<30) (hb:b<30) (e:gT a=gT b):a=b:=by
 have h:(List.range 30).all (λa=>(List.range 30).all λb=>decide (gT a=gT b->a=b))=true:=by decide+kernel
 exact h3t (List.all_eq_true.mp (List.all_eq_true.mp h a (List.mem_range.mpr ha)) b (List.mem_range.mpr hb)) e
theorem Lb.nodup (h:Lb L' L a):L<=30->a.Nodup:=by
 induction h with
 |nil _=>exact λ_=>List.nodup_nil
 | @cons L k l h hl ih=>
  intro hL;have hk:=h4m h hL;refine List.nodup_cons.mpr ⟨λhm=> ?_,ih (Nat.le_of_lt hk)⟩
  obtain⟨m,h1,h2⟩:=hl.lt _ hm;exact Nat.ne_of_lt h1 (d7e (Nat.lt_trans h1 hk) hk h2.symm)
end
theorem sY {k:Nat} (hk:k<30):gd (gT k)/\jZ (gT k)/\gT k≠ []:=by
 have h:(List.range 30).all (λk=>qZ.elem (gT k)&&((match dget (.str (gT k)) eM with|some none=>true|_=>false)&& !(gT k).isEmpty))=true:=by decide+kernel
 have h:=(h4l _ _).mp (List.all_eq_true.mp h k (List.mem_range.mpr hk));have h2:=(h4l _ _).mp h.2;refine⟨List.mem_of_elem_eq_true h.1,?_,λe=>by rw [e]at h2;exact nomatch h2.2⟩
 have h2:=h2.1;unfold jZ
 revert h2
 cases dget (.str (gT k)) eM with
 |none=>exact λh=>nomatch h
 |some y=>cases y with
  |none=>exact λ_=>rfl
  |some _=>exact λh=>nomatch h
def Mch (gl pl:b5):Prop:=∀l b,(l,b)∈gl->∃b',(l,b')∈pl/\(b=true->b'=true)
noncomputable def pH (gl:b5):List AV:=gl.map λd=>.tup [.str d.1,.bool d.2]
abbrev f9 (il sw:Nat) (gl:b5):AV:=.tup [.int (.ofNat il),.int (.ofNat sw),.lst (pH gl)]
structure glOK (d:Nat) (gl:b5):Prop where
 g:∀e∈gl,e.1≠ []/\gd e.1
 l:gl.length+d<=50
structure Ct where
 b:Nat
 c:Nat
 il:Nat
 sw:Nat
 gl:b5
structure Gen (C:Ct) (al:Bool) (L L':Nat) (t:T) (v:AV):Prop where
 ok:∀pl,Mch C.gl pl->ok t C.il C.sw pl
 lb:Lb L' L (fI t)
 nd:al=true->c3 t
 gd:iT t
 lv:lv t<=C.b
 cz:cT t<=C.c
 av:∀i,(pl p0 t i).av=v
structure GenS (C:Ct) (m L L':Nat) (t:Ts) (v:List AV):Prop where
 ok:∀pl,Mch C.gl pl->i4 t C.il C.sw pl
 lb:Lb L' L (i9 t)
 gd:gL t
 lv:bQ lF t<=C.b
 cz:bQ cF t<=m*(200+C.c)
 cn:cU t=m
 av:∀i,(aX p0 t i).av=v
def iU (W:List AV->aB) (o d N b c:Nat):Prop:=∀(n:Nat) (ds:List Int) (il sw:Nat) (gl:b5) (al:Bool) (K:AV->aB->Prop),ds.length<=30->glOK d gl->
 (∀(t:T) (v:AV) (ds':List Int),Gen ⟨b,c,il,sw,gl⟩ al ds.length ds'.length t v->K v (W (dg ds')))->aH (N+n) a1q [.ref o,.int (.ofNat d),f9 il sw gl,.bool al] (W (dg ds)) K
theorem GenS.nil {C:Ct} {L L':Nat} (h:L'<=L):GenS C 0 L L' .nil []:=⟨λ_ _=>h3m,.nil h,h3m,h3w _,h3w _,rfl,λ_=>rfl⟩
theorem GenS.cons {C:Ct} {m L M L':Nat} {t:T} {ts:Ts} {v:AV} {l:List AV} {al:Bool} (h:Gen C al L M t v) (h':GenS C m M L' ts l) (hm:m<1000):GenS C (m+1) L L' (.cons t ts) (v::l):=
 ⟨λpl hp=>⟨h.ok pl hp,h'.ok pl hp,h'.cn▸hm⟩,h.lb.app h'.lb,⟨h.gd,h'.gd⟩,Nat.max_le.mpr ⟨h.lv,h'.lv⟩,(by have:=h.cz;have:=h'.cz;rw [Nat.add_mul];show 200+(cT t+bQ cF ts)<=_;omega),h3s (· +1) h'.cn,λi=>by
  show(pl p0 t i).av::(aX p0 ts (eT t i)).av=_
  rw [h.av,h'.av]⟩
section
variable {W:List AV->aB} {o:Nat} {n:Nat} {K:AV->aB->Prop} {ds:List Int} {il sw d N b c:Nat} {gl:b5}
theorem zR {st:aB} {r:Nat} (h:r<4):a0x st true (.int (.ofNat r))=some (e9 (Int.ofNat 0) r):=by
 match r,h with
 |0,_=>rfl
 |1,_=>rfl
 |2,_=>rfl
 |3,_=>rfl
 |r+4,h=>exact absurd h (Nat.not_lt.mpr (h4b 4 r))
abbrev roF (N:Nat) (o d il sw:Nat) (gl:b5) (Z:List AV->aB->Prop) (r acc:List AV) (st:aB):Prop:=
 List.foldr (f0 [0] [0,1,2].length [.val (.ref o),.val (.int (.ofNat d)),.val (f9 il sw gl)] (aC TT (aO TT (aD fns) N) .tt) (aE TT (aO TT (aD fns) N) (.call 121 (E4 V0 V1 V2 (.lit (.bool false)))))) Z r acc st
theorem c5a {Z:List AV->aB->Prop} (hS:iU W o d N b c):∀{m i:Nat} {acc:List AV} {ds:List Int},acc.length+m<=3->ds.length<=30->glOK d gl->
  (∀(ts:Ts) (l:List AV) (ds':List Int),GenS ⟨b,c,il,sw,gl⟩ m ds.length ds'.length ts l->Z (acc++l) (W (dg ds')))->roF (N+n+1) o d il sw gl Z (e9 (Int.ofNat i) m) acc (W (dg ds)):=by
 intro m
 induction m with
 |zero=>exact λ{i acc ds} hm hL hg hk=>h3q acc▸hk .nil [] ds (.nil (h3k _))
 |succ m ih=>
  intro i acc ds hm hL hg hk;refine hS (n+1) ds il sw gl false _ hL hg λt v ds1 G=> ?_
  conv=>whnf
  have e:(acc++[v]).length+m=acc.length+(m+1):=by rw [h3o,h4d,h4e [v].length];rfl
  refine⟨h3j (h3x _ _) (h3j hm (by decide)),ih (i:=i+1) (e▸hm) (h3j G.lb.le hL) hg λts l ds' G'=> ?_⟩
  rw [<-mK];exact hk _ _ _ (.cons G G' (h4y (h3j (h4i (h4b _ _)) hm) (by decide)))
theorem yJ (hS:iU W o d N b c) (hW:OwnS W o) (hL:ds.length<=30) (hg:glOK d gl)
  (hk:∀(m:Nat) (ts:Ts) (l:List AV) (ds':List Int),m<=2->GenS ⟨b,c,il,sw,gl⟩ m ds.length ds'.length ts l->K (.lst l) (W (dg ds'))):
  aH (N+n+2) b9v [.ref o,.int (.ofNat d),f9 il sw gl] (W (dg ds)) K:=en (eK (m:=3) (n:=N+n) hW (by decide) λr ds1 hr hl1 _=>by
 conv=>whnf
 rw [zR (Nat.lt_succ_of_lt hr)]
 conv=>whnf
 refine c5a (n:=n) (acc:=[]) hS (by rw [h4k,h4c];exact Nat.le_of_lt hr) (h3j hl1 hL) hg λts l ds' G=> ?_
 exact hk r ts l ds' (Nat.le_of_lt_succ hr) {G with lb:=G.lb.mono hl1})
theorem eV (hS:iU W o d N b c) (hW:OwnS W o) (hL:ds.length<=30) (hg:glOK d gl)
  (hk:∀(m:Nat) (ts:Ts) (l:List AV) (ds':List Int),m<=2->GenS ⟨b,c,il,sw,gl⟩ m ds.length ds'.length ts l->K (bR (.int 59) (.str []) (.lst l) (.int 0) (.int 0)) (W (dg ds'))):
  aH (N+n+3) b2o [.ref o,.int (.ofNat d),f9 il sw gl] (W (dg ds)) K:=
 en (yJ (n:=n) hS hW hL hg λm ts l ds' hm G=>aR (n:=N+n) (hk m ts l ds' hm G))
end
def zE:Leaf->Prop
 | .brk _=>True
 | .cont _=>True
 | .empty=>True
 |_=>False
inductive Spot (il sw:Nat) (gl:b5):AV->Prop
 |mk (l:Leaf) (k:Nat) (x:Nm):(∀i,kL p0 l i=.mk k x .nil 0)->(∀pl,Mch gl pl->iE l il sw pl)->kN l->zE l->Spot il sw gl (.tup [.int (.ofNat k),.str x])
section
variable {W:List AV->aB} {o:Nat} {n:Nat} {K:AV->aB->Prop} {ds:List Int} {il sw d:Nat} {gl:b5}
abbrev oQ (il sw:Nat) (gl:b5) (l:List AV):Prop:=∀v∈l,Spot il sw gl v
theorem oQ.snoc {l:List AV} {v:AV} (h:oQ il sw gl l) (k:Spot il sw gl v):oQ il sw gl (l++[v]):=λu hu=>(List.mem_append.mp hu).elim (h u) λe=>List.mem_singleton.mp e▸k
theorem b0h {Z:List AV->aB->Prop} {G:AV->(List AV->aB->Prop)->List AV->aB->Prop} {st:aB} (hG:∀(x:Nm) (f:Bool),(x,f)∈gl->∀k acc,oQ il sw gl acc->acc.length<=1000000->(∀acc',oQ il sw gl acc'->acc'.length<=acc.length+1->k acc' st)->G (.tup [.str x,.bool f]) k acc st):
  ∀{b:b5} {acc:List AV},(∀e∈b,e∈gl)->oQ il sw gl acc->acc.length+b.length<=1000000->(∀acc',oQ il sw gl acc'->acc'.length<=acc.length+b.length->Z acc' st)->List.foldr G Z (pH b) acc st:=by
 intro b
 induction b with
 |nil=>exact λhb ha hl hk=>hk _ ha (h3k _)
 |cons e b ih=>
  intro acc hb ha hl hk;have e1:acc.length+(b.length+1)=acc.length+1+b.length:=(Nat.succ_add _ _).symm;refine hG e.1 e.2 (hb _ (.head _)) _ acc ha (h3j (h3x _ _) hl) λacc' ha' hl'=> ?_
  have h2:acc'.length+b.length<=acc.length+(b.length+1):=e1▸h4a hl' _;exact ih (λe h=>hb e (.tail _ h)) ha' (h3j h2 hl) λa h h'=>hk a h (h3j h' h2)
abbrev juT:Ss:=cS (.ite (cC .eq V5.len (lI 0)) (cS (.ret (.call 1 (E3 (gI 86 60) (lS []) (lI 0)))) nS) .nil) (cS (.unpack [6,7] (V5.idx (.call 109 (E2 V0 V5.len)))) (cS (.ret (.call 1 (E3 V6 V7 (lI 0)))) nS))
abbrev juL (o il sw:Nat) (gl:b5) (l:List AV):aN:=[.val (.ref o),.val (f9 il sw gl),.val (.int (.ofNat il)),.val (.int (.ofNat sw)),.val (.lst (pH gl)),.own l,.no,.no]
theorem c0i {l:List AV} (hW:OwnS W o) (hl:oQ il sw gl l) (hk:∀(l:Leaf) (v:AV) (ds':List Int),(∀pl,Mch gl pl->iE l il sw pl)->kN l->zE l->ds'.length<=ds.length->(∀i,(kL p0 l i).av=v)->K v (W (dg ds'))):
  aZ TT (aO TT (aD fns) (n+2)) juT (juL o il sw gl l) (W (dg ds)) (c4 K):=by
 cases l with
 |nil=>exact gC (n:=n) (hk .empty _ ds (λ_ _=>h3m) h3m h3m (h3k _) λ_=>rfl)
 |cons v l=>
  refine eK (m:=(v::l).length) (n:=n+1) hW (h4z _) λr ds1 hr hl1 _=> ?_
  obtain⟨u,h1,h2⟩:=mL hr
  conv=>whnf
  rw [gD h1];cases hl u h2 with
  |mk lf k x e o1 o2 o3=>exact gC (n:=n) (hk lf _ ds1 o1 o2 o3 hl1 λi=>h3s Nd.av (e i))
theorem e9m {l:List AV} (hW:OwnS W o) (hL:l.length<=200) (hl:oQ il sw gl l) (co:0<il->Spot il sw gl (.tup [.int 54,.str []])) (hk:∀(l:Leaf) (v:AV) (ds':List Int),(∀pl,Mch gl pl->iE l il sw pl)->kN l->zE l->ds'.length<=ds.length->(∀i,(kL p0 l i).av=v)->K v (W (dg ds'))):
  aZ TT (aO TT (aD fns) (n+2)) (cS (.ite (cC .gt V2 (lI 0)) (cS (.appV 5 (.tup (E2 (gI 108 54) (lS [])))) nS) .nil) juT) (juL o il sw gl l) (W (dg ds)) (c4 K):=by
 conv=>whnf
 rw [show decide ((0:Int) <Int.ofNat il)=decide (0<il) from decide_eq_decide.mpr (Int.ofNat_lt (n:=0) (m:=il))]
 cases e:decide (0<il)with
 |false=>exact c0i hW hl hk
 |true=>exact⟨h3j hL (by decide),c0i hW (hl.snoc (co (h3t e))) hk⟩
theorem b8u (hW:OwnS W o) (hg:glOK d gl) (hk:∀(l:Leaf) (v:AV) (ds':List Int),(∀pl,Mch gl pl->iE l il sw pl)->kN l->zE l->ds'.length<=ds.length->(∀i,(kL p0 l i).av=v)->K v (W (dg ds'))):
  aH (n+3) b7y [.ref o,f9 il sw gl] (W (dg ds)) K:=en (by
 have hgl:gl.length<=50:=h3j (h3x _ _) hg.l;refine b0h (il:=il) (sw:=sw) (gl:=gl) (λx f hm k acc ha hl h=>⟨hl,h _ (ha.snoc (.mk (.brk (some x)) 53 x (λ_=>rfl) (λpl hp=>⟨(hg.g _ hm).1,(hp x f hm).elim λb' h=>⟨b',h.1⟩⟩) (hg.g _ hm).2 h3m)) (h3y h3o)⟩) (b:=gl) (acc:=[]) (λe h=>h) (λv h=>nomatch h) (by rw [h4k,h4c];exact h3j hgl (by decide)) λl1 h1 e1=> ?_
 refine b0h (il:=il) (sw:=sw) (gl:=gl) (λx f hm k acc ha hl h=> ?_) (b:=gl) (acc:=[]) (λe h=>h) (λv h=>nomatch h) (by rw [h4k,h4c];exact h3j hgl (by decide)) λl2 h2 e2=> ?_
 ·cases f with
  |false=>exact h acc ha (h4r _)
  |true=>exact⟨hl,h _ (ha.snoc (.mk (.cont (some x)) 54 x (λ_=>rfl) (λpl hp=>⟨(hg.g _ hm).1,(hp x true hm).elim λb' h=>h.2 rfl▸h.1⟩) (hg.g _ hm).2 h3m)) (h3y h3o)⟩
 rw [h4k,h4c]at e1 e2;have h12:(l1++l2).length<=100:=by rw [h3o];exact h3j (h4x e1 e2) (h4x hgl hgl)
 have a12:oQ il sw gl (l1++l2):=λv hv=>(List.mem_append.mp hv).elim (h1 v) (h2 v)
 conv=>whnf
 refine⟨h3j (h3y List.length_append.symm) (h3j h12 (by decide)),?_⟩
 have br:0<il+sw->Spot il sw gl (.tup [.int 53,.str []]):=λh=>.mk (.brk none) 53 [] (λ_=>rfl) (λ_ _=>h) h3m h3m
 have co:0<il->Spot il sw gl (.tup [.int 54,.str []]):=λh=>.mk (.cont none) 54 [] (λ_=>rfl) (λ_ _=>h) h3m h3m
 conv=>whnf
 rw [show decide ((0:Int) <Int.ofNat il+Int.ofNat sw)=decide (0<il+sw) from decide_eq_decide.mpr (Int.ofNat_lt (n:=0) (m:=il+sw))]
 cases e:decide (0<il+sw)with
 |false=>exact e9m hW (h3j h12 (by decide)) a12 co hk
 |true=>exact⟨h3j h12 (by decide),e9m hW (by rw [h3o];exact h3j (h4a h12 _) (by decide)) (a12.snoc (br (h3t e))) co hk⟩)
end
theorem yQ {x:Option Nm} {i:Nat}:kS p0 x i=oA x:=by cases x<;>rfl
abbrev fA:First->AV
 | .no=>.none
 | .ex x=>bR (.int 43) (.str []) (.lst [eE x 0]) (.int 0) (.int 0)
 | .var w y v ds=>vAV w ((y,v)::ds)
theorem f6t {f:First} {i:Nat}:pV p0 f i=fA f:=by
 cases f with
 |var w y v ds=>exact vC
 |_=>rfl
section
variable {W:List AV->aB} {o:Nat} {n:Nat} {K:AV->aB->Prop} {ds:List Int} {il sw d N b c:Nat} {gl:b5}
structure Lp (H:Hd):Prop where
 i:∀il,b0v H il=il+1
 l:∀t labs,nC H t labs=labs
 n:a0h H=[]
 k:c6n H
 g:hdG H
 c:cHd H<=560
theorem Gen.lp {H:Hd} {L M L':Nat} {t:T} {v v':AV} (h:Lp H) (G:Gen ⟨b,c,il+1,sw,gl⟩ true M L' t v) (hl:M<=L) (av:∀i,(pl p0 (.pre H t) i).av=v'):Gen ⟨b+1,c+600,il,sw,gl⟩ true L L' (.pre H t) v':=
 ⟨λpl hp=>⟨h.k,G.nd rfl,(by rw [h.i,h.l];exact G.ok pl hp)⟩,(by show Lb L' L (a0h H++fI t);rw [h.n];exact G.lb.mono hl),λ_=>h3m,⟨h.g,G.gd⟩,h3r G.lv,h3j (h4x h.c G.cz) (by show 560+c<=c+600;omega),av⟩
abbrev g5x:Ss:=cS (.assign 8 (.call 112 (E1 V1))) (cS (.assign 12 (.call 112 (E1 V1))) (cS (.ret (.call 2 (E4 (gI 19 47) (lS []) (.frz (.disp (E4 V10 V8 V12 (.call 121 (E4 V1 V2 V7 (.lit (.bool true))))))) (lI 0)))) nS))
theorem a8k {Z:FK} {f:First} {s0 s3 s4 s5 s6 s8 s9 s11 s12 s13:Slot} (hS:iU W o d N b c) (hW:OwnS W o) (hL:ds.length<=30) (hg:glOK d gl) (hf:∀a b,c6n (.fr f a b)) (hf2:∀a b,cR a->cR b->hdG (.fr f a b)) (hf3:∀a b,cHd (.fr f a b)<=560)
  (hk:∀(t:T) (v:AV) (ds':List Int),Gen ⟨b+1,c+600,il,sw,gl⟩ true ds.length ds'.length t v->bK t=true->∀L,Z (.ret v) L (W (dg ds'))):
  aZ TT (aO TT (aD fns) (N+n+6)) g5x [s0,.val (.ref o),.val (.int (.ofNat d)),s3,s4,s5,s6,.val (f9 (il+1) sw gl),s8,s9,.val (fA f),s11,s12,s13] (W (dg ds)) Z:=
 uW (n:=N+n+2) hW λa ds1 ha hl1=>uW (n:=N+n+2) hW λb' ds2 hb hl2=>hS (n+6) ds2 (il+1) sw gl true _ (h3j hl2 (h3j hl1 hL)) hg λt v ds3 G=>
  aR (n:=N+n+4) (hk (.pre (.fr f a b') t) _ ds3 (G.lp ⟨λ_=>rfl,λ_ _=>rfl,rfl,hf a b',hf2 a b' ha hb,hf3 a b'⟩ (h3j hl2 hl1) λi=>by
   show(sR p0 (.fr f a b') i (pl p0 t _)).av=_
   rw [pS,G.av,yQ,yQ,f6t];rfl) rfl _)
theorem mH {a b c d:Nat} (h:a<=b) (h':b<=c) (h'':c<=d):a<=d:=h3j h (h3j h' h'')
theorem yZ {pick:Nat} (hp:pick<5) (hS:iU W o d N b c) (hW:OwnS W o) (hL:ds.length<=30) (hg:glOK d gl)
  (hk:∀(t:T) (v:AV) (ds':List Int),Gen ⟨b+1,c+600,il,sw,gl⟩ true ds.length ds'.length t v->bK t=true->K v (W (dg ds'))):
  aH (N+n+7) b6d [.int (.ofNat pick),.ref o,.int (.ofNat d),f9 il sw gl] (W (dg ds)) K:=en (by
 have each:∀{o':Bool} {w:Nat} {y x:Nm} {ds1 ds2 ds3:List Int} {t:T} {v:AV},w<=2->gd y->gK y->gd x->ds1.length<=ds.length->ds2.length<=ds1.length->Gen ⟨b,c,il+1,sw,gl⟩ true ds2.length ds3.length t v->
   K (bR (.int (match o' with|true=>48|false=>49)) (.str []) (.lst [vAV w [(y,none)],eE x 0,v]) (.int 0) (.int 0)) (W (dg ds3)):=λ{o' w y x ds1 ds2 ds3 t v} hw hy hy2 hx h1 h2 G=>
  hk (.pre (.each o' w y x) t) _ ds3 (G.lp ⟨λ_=>rfl,λ_ _=>rfl,rfl,⟨hw,hy2⟩,⟨hy,hx⟩,h3n rfl⟩ (h3j h2 h1) λi=>by
   cases o' with
   |true=>show bR (.int 48) (.str []) (.lst [(fQ p0 w y none [] (i+2)).av,eE x 0,(pl p0 t _).av]) (.int 0) (.int 0)=_;rw [vC,G.av]
   |false=>show bR (.int 49) (.str []) (.lst [(fQ p0 w y none [] (i+2)).av,eE x 0,(pl p0 t _).av]) (.int 0) (.int 0)=_;rw [vC,G.av]) rfl
 match pick,hp with
 |0,_=>
  refine eB (n:=N+n+3) hW λx ds1 hx _ hl1=>hS (n+6) ds1 (il+1) sw gl true _ (h3j hl1 hL) hg λt v ds2 G=>aR (n:=N+n+4) (hk (.pre (.wh x) t) _ ds2 (G.lp ⟨λ_=>rfl,λ_ _=>rfl,rfl,h3m,hx,h3n rfl⟩ hl1 λi=> ?_) rfl)
  show bR (.int 45) (.str []) (.lst [eE x 0,(pl p0 t _).av]) (.int 0) (.int 0)=_
  rw [G.av]
 |1,_=>
  refine hS (n+6) ds (il+1) sw gl true _ hL hg λt v ds2 G=>eB (n:=N+n+3) hW λx ds3 hx _ hl3=>aR (n:=N+n+4) (hk (.doW t x) _ ds3 ⟨λpl hp=>⟨G.nd rfl,G.ok pl hp⟩,G.lb.lo hl3,λ_=>h3m,⟨G.gd,hx⟩,h3r G.lv,?_,λi=> ?_⟩ rfl)
  ·have:=G.cz;show 400+cT t<=c+600
   have:cT t<=c:=this;omega
  ·show bR (.int 46) (.str []) (.lst [(pl p0 t _).av,eE x 0]) (.int 0) (.int 0)=_
   rw [G.av]
 |2,_=>
  refine eK (m:=3) (n:=N+n+5) hW (by decide) λr ds1 hr hl1 _=> ?_
  match r,hr with
  |0,_=>exact a8k (n:=n) (f:=.no) hS hW (h3j hl1 hL) hg (λ_ _=>h3m) (λ_ _ ha hb=>⟨h3m,ha,hb⟩) (λ_ _=>h3n rfl) λt v ds' G h L=>hk t v ds' {G with lb:=G.lb.mono hl1} h
  |1,_=>exact b5k (n:=N+n+3) hW λy ds2 hy hy2 hl2=>aR (n:=N+n+4) (a8k (n:=n) (f:=.ex y) hS hW (mH hl2 hl1 hL) hg (λ_ _=>hy2) (λ_ _ ha hb=>⟨hy,ha,hb⟩) (λ_ _=>h3n rfl) λt v ds' G h L=>hk t v ds' {G with lb:=G.lb.mono (h3j hl2 hl1)} h)
  |2,_=>exact uD (n:=N+n+1) (ws:=[0,1,2]) hW (by decide) (by decide) λw y v dl ds2 _ V hl2=>a8k (n:=n) (f:=.var w y v dl) hS hW (mH hl2 hl1 hL) hg (λ_ _=>⟨V.w2,V.bd,V.vo⟩) (λ_ _ ha hb=>⟨V.dg,ha,hb⟩) (λ_ _=>by have:=V.ln;show 500+20*dl.length<=560;omega) λt v ds' G h L=>hk t v ds' {G with lb:=G.lb.mono (h3j hl2 hl1)} h
  |r+3,h=>exact absurd h (Nat.not_lt.mpr (h4b 3 r))
 |3,_=>exact zP (n:=N+n+1) (ws:=[2,0,1]) hW (by decide) (by decide) λw y ds1 hw hy hy2 hl1=>eB (n:=N+n+3) hW λx ds2 hx _ hl2=>hS (n+6) ds2 (il+1) sw gl true _ (mH hl2 hl1 hL) hg λt v ds3 G=>aR (n:=N+n+4) (each (o':=true) hw hy hy2 hx hl1 hl2 G)
 |4,_=>exact zP (n:=N+n+1) (ws:=[2,0,1]) hW (by decide) (by decide) λw y ds1 hw hy hy2 hl1=>eB (n:=N+n+3) hW λx ds2 hx _ hl2=>hS (n+6) ds2 (il+1) sw gl true _ (mH hl2 hl1 hL) hg λt v ds3 G=>aR (n:=N+n+4) (each (o':=false) hw hy hy2 hx hl1 hl2 G)
 |r+5,h=>exact absurd h (Nat.not_lt.mpr (h4b 5 r)))
end
structure GenC (C:Ct) (m L L':Nat) (sn:Bool) (t:Cs) (v:List AV):Prop where
 ok:∀pl,Mch C.gl pl->qD t C.il C.sw pl
 lb:Lb L' L (xY t)
 gd:wI t
 lv:i6 lF t<=C.b
 cz:i6 cF t<=m*(800+2*C.c)
 cn:mW t=m
 df:defaults t<=(match sn with|true=>0|false=>1)
 av:∀i,(jS p0 t i).av=v
abbrev cAV (x:Option Nm) (l:List AV):AV:=bR (.int 51) (.str []) (.lst (oA x::l)) (.int 0) (.int 0)
theorem GenC.nil {C:Ct} {L:Nat} {sn:Bool}:GenC C 0 L L sn .nil []:=⟨λ_ _=>h3m,.nil (h3k _),h3m,h3w _,h3w _,rfl,h3w _,λ_=>rfl⟩
def Sn (x:Option Nm) (a b:Bool):Prop:=match x with
 |none=>a=false/\b=true
 |some _=>a=b
theorem GenC.cons {C:Ct} {m k L M L':Nat} {x:Option Nm} {ts:Ts} {cs:Cs} {l l':List AV} {sn sn':Bool} (h:GenS C k L M ts l) (h':GenC C m M L' sn' cs l') (hx:cR x) (hs:Sn x sn sn') (hk:k<=2) (hm:m<1000):GenC C (m+1) L L' sn (.cons x ts cs) (cAV x l::l'):=
 ⟨λpl hp=>⟨h.ok pl hp,h'.ok pl hp,h'.cn▸hm⟩,h.lb.app h'.lb,⟨hx,h.gd,h'.gd⟩,Nat.max_le.mpr ⟨h.lv,h'.lv⟩,(by
  have h1:=h3j h.cz (Nat.mul_le_mul_right (200+C.c) hk);have h2:=h'.cz;rw [Nat.add_mul];show 400+(bQ cF ts+i6 cF cs)<=_;omega),h3s (· +1) h'.cn,(by
  have df:=h'.df;cases x with
  |none=>
   obtain⟨rfl,rfl⟩:=hs;exact h3r df
  |some x=>
   cases (show sn=sn' from hs)
   exact df),λi=>by
  show bR (.int 51) (.str []) (.lst (dC p0 x (i+1) (aX p0 ts (lX x i))).av) (.int 0) (.int 0)::(jS p0 cs _).av=_
  rw [jY,yQ,h.av,h'.av]⟩
section
variable {W:List AV->aB} {o:Nat} {n:Nat} {K:AV->aB->Prop} {ds:List Int} {il sw d N b c:Nat} {gl:b5}
abbrev swL (o d il sw:Nat) (gl:b5) (acc:List AV) (sn:Bool) (s8 s9:Slot):aN:=[.val (.ref o),.val (.int (.ofNat d)),.val (f9 il sw gl),.val (.int (.ofNat il)),.val (.int (.ofNat sw)),.val (.lst (pH gl)),.own acc,.val (.bool sn),s8,s9]
abbrev swB:Ss:=cS (.appV 6 (.call 2 (E4 (gI 106 51) (lS []) (.frz (.cat (.frz (.disp (E1 V9))) (.call 114 (E3 V0 V1 (.tup (E3 V3 (.bin .add V4 (lI 1)) V5)))))) (lI 0)))) nS
abbrev swS:Ss:=cS (.assign 9 (.call 110 (E1 V0))) (cS (.ite ((cC .eq (.call 109 (E2 V0 (lI 3))) (lI 2)).and (C.e V7).not) (cS (.assign 9 (.lit .none)) (cS (.assign 7 (.lit (.bool true))) nS)) .nil) swB)
theorem e3l {Z:FK} {acc:List AV} {sn:Bool} {s8:Slot} {x:Option Nm} (hS:iU W o d N b c) (hW:OwnS W o) (hL:ds.length<=30) (hg:glOK d gl) (ha:acc.length<=100)
  (hk:∀(k:Nat) (ts:Ts) (l:List AV) (ds':List Int),k<=2->GenS ⟨b,c,il,sw+1,gl⟩ k ds.length ds'.length ts l->∀s9,Z .nxt (swL o d il sw gl (acc++[cAV x l]) sn s8 s9) (W (dg ds'))):
  aZ TT (aO TT (aD fns) (N+n+3)) swB (swL o d il sw gl acc sn s8 (.val (oA x))) (W (dg ds)) Z:=
 yJ (n:=n+1) (sw:=sw+1) hS hW hL hg λk ts l ds' hk' G=>⟨by
  have e:l.length=k:=(h3s List.length (G.av 0)).symm.trans ((a3t ts).trans G.cn);show 1+l.length<=_
  rw [e];exact h3j (h3z hk' 1) (by decide),aR (n:=N+n+1) ⟨h3j ha (by decide),hk k ts l ds' hk' G _⟩⟩
theorem e0o {Z:FK} {acc:List AV} {sn:Bool} {s8 s9:Slot} (hS:iU W o d N b c) (hW:OwnS W o) (hL:ds.length<=30) (hg:glOK d gl) (ha:acc.length<=100)
  (hk:∀(x:Option Nm) (sn':Bool) (k:Nat) (ts:Ts) (l:List AV) (ds1 ds':List Int),cR x->Sn x sn sn'->ds1.length<=ds.length->k<=2->GenS ⟨b,c,il,sw+1,gl⟩ k ds1.length ds'.length ts l->∀s9,Z .nxt (swL o d il sw gl (acc++[cAV x l]) sn' s8 s9) (W (dg ds'))):
  aZ TT (aO TT (aD fns) (N+n+3)) swS (swL o d il sw gl acc sn s8 s9) (W (dg ds)) Z:=
 eB (n:=N+n) hW λy ds1 hy _ hl1=>eK (m:=3) (n:=N+n+2) hW (by decide) λr ds2 hr hl2 _=>by
  have hl:ds2.length<=ds.length:=h3j hl2 hl1;have one:∀(x:Option Nm) (sn':Bool),cR x->Sn x sn sn'->aZ TT (aO TT (aD fns) (N+n+3)) swB (swL o d il sw gl acc sn' s8 (.val (oA x))) (W (dg ds2)) Z:=λx sn' hx hs=>e3l (n:=n) hS hW (h3j hl hL) hg ha λk ts l ds' hk' G s9=>hk x sn' k ts l ds2 ds' hx hs hl hk' G s9
  match r,hr with
  |0,_=>exact one (some y) sn hy rfl
  |1,_=>exact one (some y) sn hy rfl
  |2,_=>cases sn with
   |false=>exact one none true h3m ⟨rfl,rfl⟩
   |true=>exact one (some y) true hy rfl
  |r+3,h=>exact absurd h (Nat.not_lt.mpr (h4b 3 r))
theorem f1y {Z:FK} (hS:iU W o d N b c) (hW:OwnS W o) (hg:glOK d gl):∀{m i:Nat} {acc:List AV} {ds:List Int} {sn:Bool} {s8 s9:Slot},acc.length+m<=100->ds.length<=30->
  (∀(cs:Cs) (l:List AV) (ds':List Int),GenC ⟨b,c,il,sw+1,gl⟩ m ds.length ds'.length sn cs l->∀sn' s8 s9,Z .nxt (swL o d il sw gl (acc++l) sn' s8 s9) (W (dg ds')))->
  List.foldr (gQ [8] true (aZ TT (aO TT (aD fns) (N+n+3)) swS) Z) (Z .nxt) (e9 (Int.ofNat i) m) (swL o d il sw gl acc sn s8 s9) (W (dg ds)):=by
 intro m
 induction m with
 |zero=>exact λ{i acc ds sn s8 s9} hm hL hk=>by have:=hk .nil [] ds .nil sn s8 s9;rw [h3q]at this;exact this
 |succ m ih=>
  intro i acc ds sn s8 s9 hm hL hk;refine e0o (n:=n) (Z:=mC _ Z) hS hW hL hg (h3j (h3x _ _) hm) λx sn' k ts l ds1 ds' hx hs hl hk' G s9=> ?_
  have e:(acc++[cAV x l]).length+m=acc.length+(m+1):=by rw [h3o,h4d,h4e [_].length];rfl
  refine ih (i:=i+1) (e▸hm) (mH G.lb.le hl hL) λcs l' ds'' G' sn'' s8 s9=> ?_
  rw [<-mK];exact hk _ _ _ (.cons {G with lb:=G.lb.mono hl} G' hx hs hk' (by omega)) _ _ _
theorem b1n (hS:iU W o d N b c) (hW:OwnS W o) (hL:ds.length<=30) (hg:glOK d gl)
  (hk:∀(t:T) (v:AV) (ds':List Int),Gen ⟨b+1,6*c+5000,il,sw,gl⟩ true ds.length ds'.length t v->K v (W (dg ds'))):
  aH (N+n+4) a7m [.ref o,.int (.ofNat d),f9 il sw gl] (W (dg ds)) K:=en (eB (n:=N+n) hW λx ds1 hx _ hl1=>by
 conv=>whnf
 refine eK (m:=4) (n:=N+n+2) hW (by decide) λr ds2 hr hl2 _=> ?_
 conv=>whnf
 rw [zR hr];refine f1y (n:=n) (acc:=[eE x 0]) hS hW hg (by show 1+r<=100;omega) (mH hl2 hl1 hL) λcs l ds' G sn s8 s9=> ?_
 refine aR (n:=N+n+1) (hk (.switch x cs) _ ds' ⟨λpl hp=>⟨G.ok pl hp,h3j G.df (h3k _)⟩,G.lb.mono (h3j hl2 hl1),λ_=>h3m,⟨hx,G.gd⟩,h3r G.lv,?_,λi=> ?_⟩)
 ·have:=h3j G.cz (Nat.mul_le_mul_right (800+2*c) (Nat.le_of_lt_succ hr));show 400+i6 cF cs<=6*c+5000
  omega
 ·show bR (.int 50) (.str []) (.lst (eE x 0::(jS p0 cs _).av)) (.int 0) (.int 0)=_
  rw [G.av];rfl)
end
abbrev w5 (l:List AV):AV:=bR (.int 59) (.str []) (.lst l) (.int 0) (.int 0)
def ctA:Option (Option Nm)->List AV->AV
 |none,_=>.none
 |some x,l=>bR (.int 58) (.str []) (.lst [oA x,w5 l]) (.int 0) (.int 0)
def fiA:Bool->List AV->AV
 |false,_=>.none
 |true,l=>w5 l
section
variable {W:List AV->aB} {o:Nat} {n:Nat} {K:AV->aB->Prop} {ds:List Int} {il sw d N b c:Nat} {gl:b5}
theorem GenS.non {C:Ct} {L:Nat}:GenS C 0 L L .nil []:=.nil (h3k _)
theorem f7f {a b d c k1 k2 k3:Nat} (h1:a<=k1*(200+c)) (h2:b<=k2*(200+c)) (h3:d<=k3*(200+c)) (e1:k1<=2) (e2:k2<=2) (e3:k3<=2):1000+(a+(b+d))<=6*c+5000:=by
 have:=h3j h1 (Nat.mul_le_mul_right _ e1);have:=h3j h2 (Nat.mul_le_mul_right _ e2);have:=h3j h3 (Nat.mul_le_mul_right _ e3);omega
theorem Gen.tr {C:Ct} {k1 k2 k3 L L1 L2 L3 L5:Nat} {bt cb fb:Ts} {l1 l2 l3:List AV} {x:Option (Option Nm)} {g:Bool} (G1:GenS C k1 L L1 bt l1) (h1:L2<=L1) (G2:GenS C k2 L2 L3 cb l2) (G3:GenS C k3 L3 L5 fb l3) (e1:k1<=2) (e2:k2<=2) (e3:k3<=2) (hx:f0b x) (hg:x=none->g=true):
  Gen ⟨C.b+1,6*C.c+5000,C.il,C.sw,C.gl⟩ true L L5 (.tryT bt x cb g fb) (bR (.int 57) (.str []) (.lst [w5 l1,ctA x l2,fiA g l3]) (.int 0) (.int 0)):=
 ⟨λpl hp=>⟨G1.ok pl hp,G2.ok pl hp,G3.ok pl hp,hg⟩,G1.lb.app ((G2.lb.app G3.lb).mono h1),λ_=>h3m,⟨G1.gd,hx,G2.gd,G3.gd⟩,h3r (Nat.max_le.mpr ⟨G1.lv,Nat.max_le.mpr ⟨G2.lv,G3.lv⟩⟩),f7f G1.cz G2.cz G3.cz e1 e2 e3,λi=>by
  have a1:=G1.av;have a2:=G2.av;have a3:=G3.av;cases x with
  |none=>cases g with
   |false=>show bR (.int 57) (.str []) (.lst [w5 (aX p0 bt _).av,.none,.none]) (.int 0) (.int 0)=_;rw [a1];rfl
   |true=>show bR (.int 57) (.str []) (.lst [w5 (aX p0 bt _).av,.none,w5 (aX p0 fb _).av]) (.int 0) (.int 0)=_;rw [a1,a3];rfl
  |some y=>
   have e:∀{i j q},(Nd.mk 58 [] (dC p0 y j (.con (.mk 59 [] (aX p0 cb i) q) .nil)) 0).av=bR (.int 58) (.str []) (.lst [oA y,bR (.int 59) (.str []) (.lst (aX p0 cb i).av) (.int 0) (.int (.ofNat q))]) (.int 0) (.int 0):=λ{i j q}=>by
    show bR (.int 58) (.str []) (.lst (dC p0 y j _).av) (.int 0) (.int 0)=_
    rw [jY,yQ];rfl
   cases g with
   |false=>show bR (.int 57) (.str []) (.lst [w5 (aX p0 bt _).av,(Nd.mk 58 [] (dC p0 y _ (.con (.mk 59 [] (aX p0 cb _) 0) .nil)) 0).av,.none]) (.int 0) (.int 0)=_;rw [a1,e,a2];rfl
   |true=>show bR (.int 57) (.str []) (.lst [w5 (aX p0 bt _).av,(Nd.mk 58 [] (dC p0 y _ (.con (.mk 59 [] (aX p0 cb _) 0) .nil)) 0).av,w5 (aX p0 fb _).av]) (.int 0) (.int 0)=_;rw [a1,e,a2,a3];rfl⟩
theorem c1y (hS:iU W o d N b c) (hW:OwnS W o) (hL:ds.length<=30) (hg:glOK d gl)
  (hk:∀(t:T) (v:AV) (ds':List Int),Gen ⟨b+1,6*c+5000,il,sw,gl⟩ true ds.length ds'.length t v->K v (W (dg ds'))):
  aH (N+n+4) c2m [.ref o,.int (.ofNat d),f9 il sw gl] (W (dg ds)) K:=en (eV (n:=n) hS hW hL hg λk1 bt l1 d1 e1 G1=>eK (m:=4) (n:=N+n+2) hW (by decide) λr d2 hr hl2 _=>by
 have le1:=h3j hl2 (h3j G1.lb.le hL)
 match r,hr with
 |0,_=>exact eV (n:=n) hS hW le1 hg λk2 cb l2 d3 e2 G2=>aR (n:=N+n+1) (aR (n:=N+n+1) (hk _ _ d3 (.tr (x:=some none) (g:=false) G1 hl2 G2 .non e1 e2 (h3w _) h3m (λh=>nomatch h))))
 |1,_=>exact eB (n:=N+n) hW λx d3 hx _ hl3=>eV (n:=n) hS hW (h3j hl3 le1) hg λk2 cb l2 d4 e2 G2=>aR (n:=N+n+1) (aR (n:=N+n+1) (hk _ _ d4 (.tr (x:=some (some x)) (g:=false) G1 (h3j hl3 hl2) G2 .non e1 e2 (h3w _) hx (λh=>nomatch h))))
 |2,_=>exact eB (n:=N+n) hW λx d3 hx _ hl3=>eV (n:=n) hS hW (h3j hl3 le1) hg λk2 cb l2 d4 e2 G2=>aR (n:=N+n+1) (eV (n:=n) hS hW (mH G2.lb.le hl3 le1) hg λk3 fb l3 d5 e3 G3=>aR (n:=N+n+1) (hk _ _ d5 (.tr (x:=some (some x)) (g:=true) G1 (h3j hl3 hl2) G2 G3 e1 e2 e3 hx (λh=>nomatch h))))
 |3,_=>exact eV (n:=n) hS hW le1 hg λk3 fb l3 d5 e3 G3=>aR (n:=N+n+1) (hk _ _ d5 (.tr (x:=none) (g:=true) G1 hl2 .non G3 e1 (h3w _) e3 h3m (λ_=>rfl)))
 |r+4,h=>exact absurd h (Nat.not_lt.mpr (h4b 4 r)))
end
section
variable {W:List AV->aB} {o:Nat} {n:Nat} {K:AV->aB->Prop} {ds:List Int} {il sw d N b c:Nat} {gl:b5}
theorem Gen.lab {b' c' k L1 L':Nat} {t:T} {v:AV} {f:Bool} (G:Gen ⟨b',c',il,sw,gl++[(gT k,f)]⟩ true L1 L' t v) (hk:k<30) (hl:L1<=k) (hb:b'<=b+1) (hc:c'<=c+600) (hf:f=true->bK t=true):
  Gen ⟨b+2,c+1200,il,sw,gl⟩ true (k+1) L' (.pre (.lab (gT k)) t) (bR (.int 55) (.str (gT k)) (.lst [v]) (.int 0) (.int 0)):=
 ⟨λpl hp=>⟨⟨(sY hk).2.1,(sY hk).2.2⟩,G.nd rfl,G.ok _ λl b hm=>(List.mem_append.mp hm).elim (λhm=>(hp l b hm).elim λb' h=>⟨b',List.mem_append_left _ h.1,h.2⟩) λhm=>by
   cases List.mem_singleton.mp hm;exact⟨bK t,List.mem_append_right _ (.head _),hf⟩⟩,.cons (h4q k) (G.lb.mono hl),λ_=>h3m,⟨(sY hk).1,G.gd⟩,h3r (h3j G.lv hb),h3j (h3z (h3j G.cz hc) 500) (by show 500+(c+600)<=c+1200;omega),λi=>by
  show bR (.int 55) (.str (gT k)) (.lst [(pl p0 t _).av]) (.int 0) (.int 0)=_
  rw [G.av]⟩
theorem glOK.snoc {k:Nat} {f:Bool} (hk:k<30) (h:glOK (d+1) gl):glOK d (gl++[(gT k,f)]):=
 ⟨λe he=>(List.mem_append.mp he).elim (h.g e) λhe=>by cases List.mem_singleton.mp he;exact⟨(sY hk).2.2,(sY hk).1⟩,by rw [h3o,h4f];exact h.l⟩
theorem b1e {x:Nm} {f:Bool}:pH gl++[.tup [.str x,.bool f]]=pH (gl++[(x,f)]):=(List.map_append (f:=λd:Nm×Bool=>AV.tup [.str d.1,.bool d.2]) (l₂:=[(x,f)])).symm
theorem e6l (h:glOK (d+1) gl):(pH gl).length+1<=50:=by rw [pH,h4j];exact h3j (h3z (h4b 1 d) _) h.l
abbrev lbR:Ss:=match wL.body with
 | .cons _ (.cons _ (.cons _ s))=>s
 |s=>s
theorem d6f {k:Nat} {s6:Slot} (hS:iU W o d N b c) (hW:OwnS W o) (hL:ds.length=k) (hk30:k<30) (hg:glOK (d+1) gl)
  (hk:∀(t:T) (v:AV) (ds':List Int),Gen ⟨b+2,c+1200,il,sw,gl⟩ true (k+1) ds'.length t v->K v (W (dg ds'))):
  aZ TT (aO TT (aD fns) (N+n+7)) lbR [.val (.ref o),.val (.int (.ofNat d)),.val (f9 il sw gl),.val (.int (.ofNat il)),.val (.int (.ofNat sw)),.val (.lst (pH gl)),s6,.val (.str (gT k)),.no] (W (dg ds)) (c4 K):=by
 have hl:=e6l hg;refine eK (m:=7) (n:=N+n+6) hW (by decide) λr d1 hr hl1 _=> ?_
 have hl1:d1.length<=k:=hL▸hl1;have h30:=h3j hl1 (Nat.le_of_lt hk30)
 conv=>whnf
 rw [show decide (Int.ofNat r<5)=decide (r<5) from decide_eq_decide.mpr (Int.ofNat_lt (n:=r) (m:=5))]
 cases e:decide (r<5)with
 |true=>
  refine⟨h3j hl (by decide),?_⟩
  rw [b1e];exact yZ (n:=n) (gl:=gl++[(gT k,true)]) (h3t e) hS hW h30 (hg.snoc hk30) λt v d2 G hlo=>aR (n:=N+n+5) (hk _ _ d2 (G.lab hk30 hl1 (h3k _) (h3k _) λ_=>hlo))
 |false=>
  refine⟨h3j hl (by decide),?_⟩
  rw [b1e];exact hS (n+7) d1 il sw (gl++[(gT k,false)]) true _ h30 (hg.snoc hk30) λt v d2 G=>aR (n:=N+n+5) (hk _ _ d2 (G.lab hk30 hl1 (h4r _) (h3x _ _) λh=>nomatch h))
noncomputable def ltr:Nm:=[97,98,99,100,101,102,103,104,105,106,107,108,109,110,111,112,113,114,115,116,117,118,119,120,121,122]
theorem f1v {q:Nat} (h:q<25):∃ch,aD ltr q=some ch/\aD zV (q+5)=some [108,ch]:=by
 have h':(List.range 25).all (λq=>match aD ltr q with|some ch=>decide (aD zV (q+5)=some [108,ch])|none=>false)=true:=by decide+kernel
 have:=List.all_eq_true.mp h' q (List.mem_range.mpr h)
 revert this
 cases aD ltr q with
 |none=>exact λh=>nomatch h
 |some ch=>exact λh=>⟨ch,rfl,h3t h⟩
theorem b3e (hS:iU W o d N b c) (hW:OwnS W o) (hL:ds.length<30) (hg:glOK (d+1) gl)
  (hk:∀(t:T) (v:AV) (ds':List Int),Gen ⟨b+2,c+1200,il,sw,gl⟩ true (ds.length+1) ds'.length t v->K v (W (dg ds'))):
  aH (N+n+8) b2e [.ref o,.int (.ofNat d),f9 il sw gl] (W (dg ds)) K:=en (by
 conv=>whnf
 rw [show∀l,b9f (W l) (.ref o)=some l.length from λl=>by
  show(match(match aQ (W l) o with|some (.list l)=>some l|_=>none:Option (List AV))with|some l=>some l.length|none=>none)=_
  rw [hW.at']]
 conv=>whnf
 rw [show(dg ds).length=ds.length from h4j _]
 generalize hs:ds.length*7%30=s;have s30:s<30:=hs▸Nat.mod_lt _ (by decide)
 have rest:∀{x:Nm} {s6:Slot},aD zV s=some x->aZ TT (aO TT (aD fns) (N+n+7)) lbR [.val (.ref o),.val (.int (.ofNat d)),.val (f9 il sw gl),.val (.int (.ofNat il)),.val (.int (.ofNat sw)),.val (.lst (pH gl)),s6,.val (.str x),.no] (W (dg ds)) (c4 K):=λ{x s6} h=>by
  have e:x=gT ds.length:=by unfold gT;rw [hs,h]
  rw [e];exact d6f (n:=n) hS hW rfl hL hg hk
 refine⟨⟨h3j (Nat.le_of_lt hL) (by decide),by decide⟩,?_⟩
 conv=>whnf
 refine⟨by decide,?_⟩
 have es:(ds.length:Int)*7%30=Int.ofNat s:=by rw [<-hs];rfl
 rw [es]
 conv=>whnf
 rcases Nat.lt_or_ge s 5 with h5|h5
 ·rw [show decide (Int.ofNat s<5)=true from h3v (Int.ofNat_lt.mpr h5)]
  obtain⟨x,h1,-⟩:=mL (l:=[[97],[111,102],[116,121,112,101],[103,101,116],[97,115,121,110,99]]) (r:=s) h5
  conv=>whnf
  rw [show∀st,dB st (.tup [.str [97],.str [111,102],.str [116,121,112,101],.str [103,101,116],.str [97,115,121,110,99]]) (.int (.ofNat s))=some (.str x) from λst=>(kE (l:=[[97],[111,102],[116,121,112,101],[103,101,116],[97,115,121,110,99]]) (f:=AV.str)).trans (h3s _ h1)]
  refine rest ?_
  match s,h5,h1 with
  |0,_,h=>exact h
  |1,_,h=>exact h
  |2,_,h=>exact h
  |3,_,h=>exact h
  |4,_,h=>exact h
  |s+5,h,_=>exact absurd h (Nat.not_lt.mpr (h4b 5 s))
 ·obtain⟨q,rfl⟩:=Nat.exists_eq_add_of_le' h5;rw [show decide (Int.ofNat (q+5) <5)=false from h3u (Int.not_lt.mpr (Int.ofNat_le.mpr h5))]
  obtain⟨ch,h1,h2⟩:=f1v (Nat.lt_of_add_lt_add_right (n:=5) s30)
  conv=>whnf
  rw [show Int.ofNat (q+5) - 5=Int.ofNat q from Int.add_sub_cancel (Int.ofNat q) 5]
  rw [show∀st,dB st (.str [97,98,99,100,101,102,103,104,105,106,107,108,109,110,111,112,113,114,115,116,117,118,119,120,121,122]) (.int (.ofNat q))=some (.str [ch]) from λst=>by
   show(match aD ltr q with|some c=>some (AV.str [c])|none=>none)=_
   rw [h1]]
  exact⟨h3n rfl,rest h2⟩)
end
noncomputable def Bd:Nat->Nat
 |0=>0
 |d+1=>2*Bd d+2
noncomputable def Cd:Nat->Nat
 |0=>200
 |d+1=>6*Cd d+5000
theorem f6m:∀d,200<=Cd d
 |0=>h3k _
 |d+1=>h3j (by decide:200<=5000) (h4b _ _)
section
variable {W:List AV->aB} {o:Nat} {n:Nat} {K:AV->aB->Prop} {ds:List Int} {il sw d N b c:Nat} {gl:b5} {al:Bool}
abbrev stL (o d il sw:Nat) (gl:b5) (al:Bool) (p:Nat):aN:=[.val (.ref o),.val (.int (.ofNat d)),.val (f9 il sw gl),.val (.bool al),.val (.int (.ofNat p)),.no,.no,.no]
abbrev stR:Ss:=match zY.body with
 | .cons _ s=>s
 |s=>s
theorem Gen.leaf {C:Ct} {l:Leaf} {L L':Nat} {v:AV} (h1:∀pl,Mch C.gl pl->iE l C.il C.sw pl) (h2:kN l) (h3:al=true->c3 (.leaf l)) (hc:a1i l<=C.c) (hL:L'<=L) (av:∀i,(kL p0 l i).av=v):Gen C al L L' (.leaf l) v:=
 ⟨h1,.nil hL,h3,h2,h3w _,hc,av⟩
abbrev GK (W:List AV->aB) (C:Ct) (al:Bool) (L:Nat) (K:AV->aB->Prop):Prop:=∀(t:T) (v:AV) (ds':List Int),Gen C al L ds'.length t v->K v (W (dg ds'))
theorem a5w {p:Nat} (hp:p<6) (hW:OwnS W o) (hg:glOK d gl) (hc:200<=c) (hk:GK W ⟨b,c,il,sw,gl⟩ al ds.length K):
  aZ TT (aO TT (aD fns) (n+6)) stR (stL o d il sw gl al (11+p)) (W (dg ds)) (c4 K):=by
 have h100:=h3j (by decide:100<=200) hc
 match p,hp with
 |0,_=>exact eB (n:=n+3) hW λx ds1 hx hx2 hl1=>aR (n:=n+4) (hk _ _ ds1 (.leaf (l:=.expr x) (λ_ _=>hx2) hx (λ_=>h3m) h100 hl1 λ_=>rfl))
 |1,_=>
  refine b8u (n:=n+3) hW hg λl v ds1 h1 h2 h3 hl1 av=>hk _ _ ds1 (.leaf h1 h2 (λ_=> ?_) ?_ hl1 av)
  ·cases l with
   |var w y v ds=>exact h3.elim
   |_=>exact h3m
  ·cases l with
   |var w y v ds=>exact h3.elim
   |_=>exact h100
 |2,_=>exact uW (n:=n+2) hW λx ds1 hx hl1=>aR (n:=n+4) (hk _ _ ds1 (.leaf (l:=.ret x) (λ_ _=>h3m) hx (λ_=>h3m) h100 hl1 λi=>by
   show bR (.int 52) (.str []) (.lst (dC p0 x (i+1) .nil).av) (.int 0) (.int 0)=_
   rw [jY,yQ];rfl))
 |3,_=>exact eB (n:=n+3) hW λx ds1 hx hx2 hl1=>aR (n:=n+4) (hk _ _ ds1 (.leaf (l:=.throw x) (λ_ _=>h3m) hx (λ_=>h3m) h100 hl1 λ_=>rfl))
 |4,_=>
  have fin:∀{w:Nat} {y:Nm} {v:Option Nm} {dl:List (Nm×Option Nm)} {ds1:List Int},VarOK w y v dl->(al=true->w=1)->ds1.length<=ds.length->K (vAV w ((y,v)::dl)) (W (dg ds1)):=λ{w y v dl ds1} V hw hl1=>
   hk _ _ ds1 (.leaf (l:=.var w y v dl) (λ_ _=>⟨V.w2,V.bd,V.vo⟩) V.dg hw (by have:=V.ln;show 100+20*dl.length<=c;omega) hl1 λi=>vC)
  cases al with
  |true=>exact uD (n:=n+1) (ws:=[1]) hW (by decide) (by decide) λw y v dl ds1 hw V hl1=>fin V (λ_=>List.mem_singleton.mp hw) hl1
  |false=>exact uD (n:=n+1) (ws:=[0,1,2]) hW (by decide) (by decide) λw y v dl ds1 hw V hl1=>fin V (λh=>nomatch h) hl1
 |5,_=>exact gC (n:=n+4) (hk _ _ ds (.leaf (l:=.empty) (λ_ _=>h3m) h3m (λ_=>h3m) h100 (h3k _) λ_=>rfl))
 |p+6,h=>exact absurd h (Nat.not_lt.mpr (h4b 6 p))
end
section
variable {W:List AV->aB} {o:Nat} {n:Nat} {K:AV->aB->Prop} {ds:List Int} {il sw d N b c:Nat} {gl:b5} {al:Bool}
theorem av3 {f:Nat} {z z':Int} {u v:AV} {st:aB} (e:z=z') (h:aH n f [u,.int z',v] st K):aH n f [u,.int z,v] st K:=e▸h
theorem av4 {f:Nat} {z z':Int} {u v w:AV} {st:aB} (e:z=z') (h:aH n f [u,.int z',v,w] st K):aH n f [u,.int z,v,w] st K:=e▸h
theorem av5 {f:Nat} {z z':Int} {u v w:AV} {st:aB} (e:z=z') (h:aH n f [w,u,.int z',v] st K):aH n f [w,u,.int z,v] st K:=e▸h
theorem Gen.wk {C:Ct} {al':Bool} {L M L':Nat} {t:T} {v:AV} (h:Gen C al' L L' t v) (hb:C.b<=b) (hc:C.c<=c) (hL:L<=M) (ha:al=true->al'=true):Gen ⟨b,c,C.il,C.sw,C.gl⟩ al M L' t v:=
 ⟨h.ok,h.lb.mono hL,λe=>h.nd (ha e),h.gd,h3j h.lv hb,h3j h.cz hc,h.av⟩
theorem GK.mono {C:Ct} {L M:Nat} (h:GK W C al L K) (hM:M<=L):GK W C al M K:=λt v ds' G=>h t v ds' {G with lb:=G.lb.mono hM}
theorem d1i (hW:OwnS W o):iU W o 0 7 (Bd 0) (Cd 0):=λn ds il sw gl al K hL hg hk=>by
 rw [h4e 7 n];exact en (eK (m:=6) (n:=n+5) hW (by decide) λr ds1 hr hl1 _=>a5w (n:=n) hr hW hg (h3k _) (GK.mono (C:=⟨Bd 0,Cd 0,il,sw,gl⟩) hk hl1))
theorem f4f {x y c:Nat} (h:x<=c) (h':y<=c):900+(x+y)<=6*c+5000:=by omega
theorem f5f {x y b:Nat} (h:x<=b) (h':y<=b):x+y+2<=2*b+2:=by omega
theorem a9g {b:Nat}:b+1<=2*b+2:=by omega
theorem f8z {b:Nat}:b+2<=2*b+2:=by omega
theorem g7y {x c:Nat} (h:x<=c):400+x<=6*c+5000:=by omega
theorem f9n {c:Nat}:c+600<=6*c+5000:=by omega
theorem f5g {c:Nat}:c+1200<=6*c+5000:=by omega
theorem f8q {x k c:Nat} (h:x<=k*(200+c)) (e:k<=2):300+x<=6*c+5000:=by
 have:=h3j h (Nat.mul_le_mul_right _ e);omega
theorem d6n {p:Nat} (hp:p<3) (hS:iU W o d N b c) (hW:OwnS W o) (hL:ds.length<=30) (hg:glOK d gl) (hk:GK W ⟨2*b+2,6*c+5000,il,sw,gl⟩ al ds.length K):
  aZ TT (aO TT (aD fns) (N+n+8)) stR (stL o (d+1) il sw gl al p) (W (dg ds)) (c4 K):=by
 have two:∀{x:Nm} {t e:T} {v u:AV} {d2 d3 d4:List Int},d2.length<=ds.length->gd x->Gen ⟨b,c,il,sw,gl⟩ true d2.length d3.length t v->Gen ⟨b,c,il,sw,gl⟩ true d3.length d4.length e u->K (bR (.int 44) (.str []) (.lst [eE x 0,v,u]) (.int 0) (.int 0)) (W (dg d4)):=λ{x t e v u d2 d3 d4} hl hx G1 G2=>
  hk (.if2 x t e) _ d4 ⟨λpl hp=>⟨G1.nd rfl,G1.ok pl hp,G2.nd rfl,G2.ok pl hp⟩,(G1.lb.mono hl).app G2.lb,λ_=>h3m,⟨hx,G1.gd,G2.gd⟩,f5f G1.lv G2.lv,f4f G1.cz G2.cz,λi=>by
   show bR (.int 44) (.str []) (.lst [eE x 0,(pl p0 t _).av,(pl p0 e _).av]) (.int 0) (.int 0)=_
   rw [G1.av,G2.av]⟩
 match p,hp with
 |0,_=>exact eB (n:=N+n+5) hW λx d2 hx _ hl2=>av4 (bX d) (hS (n+8) d2 il sw gl true _ (h3j hl2 hL) hg λt v d3 G1=>aR (n:=N+n+6) (hk (.if1 x t) _ d3 ⟨λpl hp=>⟨G1.nd rfl,G1.ok pl hp⟩,G1.lb.mono hl2,λ_=>h3m,⟨hx,G1.gd⟩,h3j (h3r G1.lv) a9g,g7y G1.cz,λi=>by
   show bR (.int 44) (.str []) (.lst [eE x 0,(pl p0 t _).av,.none]) (.int 0) (.int 0)=_
   rw [G1.av]⟩))
 |1,_=>exact eB (n:=N+n+5) hW λx d2 hx _ hl2=>av4 (bX d) (hS (n+8) d2 il sw gl true _ (h3j hl2 hL) hg λt v d3 G1=>av4 (bX d) (hS (n+8) d3 il sw gl true _ (mH G1.lb.le hl2 hL) hg λe u d4 G2=>aR (n:=N+n+6) (two hl2 hx G1 G2)))
 |2,_=>exact eB (n:=N+n+5) hW λx d2 hx _ hl2=>av4 (bX d) (hS (n+8) d2 il sw gl true _ (h3j hl2 hL) hg λt v d3 G1=>av4 (bX d) (hS (n+8) d3 il sw gl true _ (mH G1.lb.le hl2 hL) hg λe u d4 G2=>aR (n:=N+n+6) (two hl2 hx G1 G2)))
 |p+3,h=>exact absurd h (Nat.not_lt.mpr (h4b 3 p))
theorem d8b {p:Nat} (hp:p<5) (hS:iU W o d N b c) (hW:OwnS W o) (hL:ds.length<=30) (hg:glOK d gl) (hk:GK W ⟨2*b+2,6*c+5000,il,sw,gl⟩ al ds.length K):
  aZ TT (aO TT (aD fns) (N+n+8)) stR (stL o (d+1) il sw gl al (3+p)) (W (dg ds)) (c4 K):=by
 have h:=yZ (n:=n+1) (K:=K) (sw:=sw) (il:=il) hp hS hW hL hg λt v ds' G _=>hk t v ds' (G.wk a9g f9n (h3k _) λ_=>rfl)
 match p,hp,h with
 |0,_,h=>exact av5 (bX d) h
 |1,_,h=>exact av5 (bX d) h
 |2,_,h=>exact av5 (bX d) h
 |3,_,h=>exact av5 (bX d) h
 |4,_,h=>exact av5 (bX d) h
 |p+5,hp,_=>exact absurd hp (Nat.not_lt.mpr (h4b 5 p))
theorem d8a {p:Nat} (hp:p<3) (hS:iU W o d N b c) (hW:OwnS W o) (hL:ds.length<=30) (hg:glOK d gl) (hk:GK W ⟨2*b+2,6*c+5000,il,sw,gl⟩ al ds.length K):
  aZ TT (aO TT (aD fns) (N+n+8)) stR (stL o (d+1) il sw gl al (17+p)) (W (dg ds)) (c4 K):=by
 have h:=eV (n:=n+5) (K:=K) (sw:=sw) (il:=il) hS hW hL hg λk ts l ds' hk' G=>hk (.block ts) _ ds' ⟨G.ok,G.lb,λ_=>h3m,G.gd,h3j (h3r G.lv) a9g,f8q G.cz hk',λi=>by
  show w5 (aX p0 ts _).av=_
  rw [G.av]⟩
 match p,hp,h with
 |0,_,h=>exact av3 (bX d) h
 |1,_,h=>exact av3 (bX d) h
 |2,_,h=>exact av3 (bX d) h
 |p+3,hp,_=>exact absurd hp (Nat.not_lt.mpr (h4b 3 p))
end
section
variable {W:List AV->aB} {o:Nat} {n:Nat} {K:AV->aB->Prop} {ds:List Int} {il sw d N b c:Nat} {gl:b5} {al:Bool}
theorem d4x {r:Nat} {ds0:List Int} (hr:r<20) (hS:iU W o d N b c) (hW:OwnS W o) (hL0:ds0.length<=30) (h1:ds.length<=ds0.length) (h2:r≠0->ds.length<ds0.length) (hg:glOK (d+1) gl) (hc:200<=c) (hk:GK W ⟨2*b+2,6*c+5000,il,sw,gl⟩ al ds0.length K):
  aZ TT (aO TT (aD fns) (N+n+8)) stR (stL o (d+1) il sw gl al r) (W (dg ds)) (c4 K):=by
 have hL:=h3j h1 hL0;have hg':glOK d gl:=⟨hg.g,h4i hg.l⟩;have hk':GK W ⟨2*b+2,6*c+5000,il,sw,gl⟩ al ds.length K:=hk.mono h1;rcases Nat.lt_or_ge r 3 with h|h
 ·exact d6n h hS hW hL hg' hk'
 obtain⟨q,rfl⟩:=Nat.exists_eq_add_of_le h;rcases Nat.lt_or_ge q 5 with h|h
 ·exact d8b h hS hW hL hg' hk'
 obtain⟨p,rfl⟩:=Nat.exists_eq_add_of_le h
 match p,hr with
 |0,_=>exact av3 (bX d) (b1n (n:=n+4) hS hW hL hg' λt v ds' G=>hk' t v ds' (G.wk a9g (h3k _) (h3k _) λ_=>rfl))
 |1,_=>exact av3 (bX d) (c1y (n:=n+4) hS hW hL hg' λt v ds' G=>hk' t v ds' (G.wk a9g (h3k _) (h3k _) λ_=>rfl))
 |2,_=>
  have hlt:=h2 (λh=>nomatch h)
  exact av3 (bX d) (b3e (n:=n) hS hW (h4m hlt hL0) hg λt v ds' G=>hk t v ds' (G.wk f8z f5g hlt λ_=>rfl))
 |p+3,hr=>
  have e:3+(5+(p+3))=11+p:=by omega
  rw [e]at hr⊢;rcases Nat.lt_or_ge p 6 with h|h
  ·exact a5w (n:=N+n+2) h hW hg (h3j (by decide:200<=5000) (h4b _ _)) hk'
  ·obtain⟨q,rfl⟩:=Nat.exists_eq_add_of_le h;have e2:11+(6+q)=17+q:=by omega
   rw [e2]at hr⊢;exact d8a (by omega) hS hW hL hg' hk'
theorem y5 (hW:OwnS W o) (hS:iU W o d N (Bd d) (Cd d)):iU W o (d+1) (N+9) (Bd (d+1)) (Cd (d+1)):=λn ds il sw gl al K hL hg hk=>by
 rw [h4f N 9 n];refine en ?_
 conv=>whnf
 rw [o8];exact eK (m:=20) (n:=N+n+7) hW (by decide) λr ds1 hr hl1 hlt=>d4x hr hS hW hL hl1 hlt hg (f6m d) hk
theorem c4f (hW:OwnS W o):iU W o 3 34 14 258200:=y5 hW (y5 hW (y5 hW (d1i hW)))
end
structure Drawn (t:T) (v:AV):Prop where
 ok:ok t 0 0 []
 nd:(fI t).Nodup
 gd:iT t
 lv:lv t<=14
 cz:cT t<=258200
 av:∀i,(pl p0 t i).av=v
theorem Drawn.of {al:Bool} {L' L:Nat} (hL:L<=30) {t:T} {v:AV} (G:Gen ⟨14,258200,0,0,[]⟩ al L L' t v):Drawn t v:=
 ⟨G.ok [] (λl b h=>nomatch h),G.lb.nodup hL,G.gd,G.lv,G.cz,G.av⟩
theorem Drawn.top {t u:T} {v:AV} {s:Nat} (h:Drawn t v) (S:Sim s t u):Top u:=by
 have l:dT u<=14:=h3j S.lv h.lv;have k:=λp=>(tE (p:=p)).1 u (h3j l (by decide))
 exact⟨S.ok h.ok,S.lb▸h.nd,S.n,l,λp i=>h3j (k p i).h (by omega),λp i=>h3j (k p i).z (h3j S.z (h3j h.cz (by decide)))⟩
theorem la {a b:Nm} {x y:Nat} (h:a.length<=x) (h':b.length<=y):(a++b).length<=x+y:=h3o▸h4x h h'
theorem f8 {x:Nm} (h:gd x):x.length<=5:=h3t (lG (P:=λx=>decide (x.length<=5)) rfl h)
theorem uH {x:Option Nm} (h:cR x):(fM [32] x).length<=6:=by
 cases x with
 |none=>exact h3w _
 |some x=>exact la (h3k 1) (f8 h)
theorem b5f {y:Nm} {v:Option Nm} (hy:gd y) (hv:cR v):(eP y v).length<=13:=by
 cases v with
 |none=>exact h3j (f8 hy) (by decide)
 |some v=>exact h3j (la (la (f8 hy) (h3k 3)) (f8 hv)) (h3k 13)
theorem b5l:∀{l:List Nm},(∀s∈l,s.length<=13)->(a1v [44,32] l).length<=15*l.length
 |[],_=>h3w _
 |[s],h=>h3j (h s (.head _)) (by show 13<=15;decide)
 |s::s'::l,h=>h3j (la (la (h s (.head _)) (h3k 2)) (b5l (l:=s'::l) λs hs=>h s (.tail _ hs))) (by show 13+2+15*(l.length+1)<=15*(l.length+1+1);omega)
theorem a8w {w:Nat} {y:Nm} {v:Option Nm} {ds:List (Nm×Option Nm)} (h:j5 y v ds):(lU w y v ds).length<=21+15*ds.length:=by
 have hw:(cW w).length<=5:=by rcases w with _|_|w<;>exact h3n rfl
 have k:=b5l (l:=eP y v::ds.map λd=>eP d.1 d.2) λs hs=>by
  cases hs with
  |head=>exact b5f h.1 h.2.1
  |tail _ hs=>exact(List.mem_map.mp hs).elim λd hd=>hd.2▸b5f (h.2.2 d hd.1).1 (h.2.2 d hd.1).2
 rw [List.length_cons,h4j]at k;exact h3j (la (la hw (h3k 1)) k) (by omega)
theorem d5w {l:Leaf} (h:kN l):(kO l).length<=a1i l:=by
 cases l with
 |expr x=>exact h3j (la (f8 h) (h3k 1)) (h3n rfl)
 |empty=>exact h3n rfl
 |var w y v ds=>exact h3j (la (a8w h) (h3k 1)) (by show 21+15*ds.length+1<=100+20*ds.length;omega)
 |ret x=>exact h3j (la (la (h3k 6) (uH h)) (h3k 1)) (h3n rfl)
 |throw x=>exact h3j (la (la (h3k 6) (f8 h)) (h3k 1)) (h3n rfl)
 |brk x=>exact h3j (la (la (h3k 5) (uH h)) (h3k 1)) (h3n rfl)
 |cont x=>exact h3j (la (la (h3k 8) (uH h)) (h3k 1)) (h3n rfl)
theorem f8x {h:Hd} (hg:hdG h):(hdX h).length+83<=cHd h:=by
 cases h with
 |wh x=>exact h3j (h4a (la (la (h3k 7) (f8 hg)) (h3k 1)) 83) (h3n rfl)
 |fr f a b=>
  have k:∀{z:Nat},(qC f).length<=z->(hdX (.fr f a b)).length<=5+z+1+6+1+6+1:=λh=>la (la (la (la (la (la (h3k 5) h) (h3k 1)) (uH hg.2.1)) (h3k 1)) (uH hg.2.2)) (h3k 1)
  cases f with
  |no=>exact h3j (h4a (k (h3w 0)) 83) (h3n rfl)
  |ex x=>exact h3j (h4a (k (f8 hg.1)) 83) (h3n rfl)
  |var w y v ds=>exact h3j (h4a (k (a8w hg.1)) 83) (by show _<=500+20*ds.length;omega)
 |each o w y x=>
  have hv:(lU w y none []).length<=21:=a8w (ds:=[]) ⟨hg.1,h3m,λd hd=>nomatch hd⟩
  have k:(hdX (.each o w y x)).length<=5+21+4+5+1:=by cases o<;>exact la (la (la (la (h3k 5) hv) (h3k 4)) (f8 hg.2)) (h3k 1)
  exact h3j (h4a k 83) (h3n rfl)
 |lab l=>exact h3j (h4a (la (f8 hg) (h3k 2)) 83) (h3n rfl)
theorem b7j {j:Nat} (h:j<=40):(pd j).length<=80:=a8u j▸h4x h h
theorem a0t {f:Tf} {j c:Nat} (hj:j<=40) (h:(f (pd (j+1))).length<=c):(r7 f (pd j)).length<=83+c:=by
 unfold r7;rw [<-uS];exact h3j (la (la (la (h3k 1) (b7j hj)) (h3k 2)) h) (h3k _)
theorem f2j {b:Bool} {f:Tf} {j c:Nat} (hj:j<=40) (h0:(f (pd j)).length<=c) (h1:(f (pd (j+1))).length<=c):(dF b f (pd j)).length<=83+c:=by
 cases b with
 |true=>exact h3j (la (h3k 1) h0) (h4a (by decide) c)
 |false=>exact h3j (la (a0t hj h1) (h3k 0)) (h3k _)
theorem qA {fs:List Tf} {j c:Nat} (hj:j<=40) (h:(cA fs (pd j)).length<=c):(bI fs (pd j)).length<=83+c:=by
 cases fs with
 |nil=>exact h3j (by decide:2<=83) (h3x _ _)
 |cons f fs=>exact h3j (la (la (la (la (h3k 1) h) (h3k 1)) (b7j hj)) (h3k 1)) (by omega)
theorem c2j {b:Bool} {j:Nat} (hj:j<=40):(nH b (pd j)).length<=81:=by
 cases b with
 |true=>exact h3n rfl
 |false=>exact h3j (la (h3k 1) (b7j hj)) (h3k _)
abbrev LeT (t:T):Prop:=iT t->∀{j},j+2*dT t<=40->(bC t (pd j)).length<=cT t
abbrev LeS (t:Ts):Prop:=gL t->∀{j},j+2*b3 t+1<=40->(cA (aP t) (pd j)).length<=bQ cF t
abbrev LeC (t:Cs):Prop:=wI t->∀{j},j+2*j2 t+2<=40->(cA (kJ t) (pd j)).length<=i6 cF t
theorem jl {j l:Nat} (h:j+2*(l+1)<=40):j<=40/\j+2*l<=40/\j+1+2*l<=40/\j+2*l+1<=40/\j+2*l+2<=40:=by omega
theorem yT {t:T} (k:LeT t) (g:iT t) {j:Nat} (h:j+2*(dT t+1)<=40):(dF (aV t) (bC t) (pd j)).length<=83+cT t:=f2j (jl h).1 (k g (jl h).2.1) (k g (jl h).2.2.1)
theorem jx {j a b:Nat} (h:j+2*(max a b+1)<=40):j+2*(a+1)<=40/\j+2*(b+1)<=40:=by omega
theorem e3i (x:Nm) (t e:T) (k:LeT t) (k':LeT e):LeT (.if2 x t e):=λg j h=>by
 have h:=jx h;have h2:=yT k' g.2.2 h.2
 have a:(match bN t with|true=>dK true (bI [bC t]) (pd j) bB|false=>dK (aV t) (bC t) (pd j) bB).length<=400+cT t:=by
  have A:=c2j (b:=aV t) (jl h.1).1;cases bN t with
  |true=>
   have B:=qA (fs:=[bC t]) (jl h.1).1 (la (a0t (jl h.1).1 (k g.2.1 (jl h.1).2.2.1)) (h3k 0));exact h3j (la (la (la (h3k 1) B) (h3k 1)) (h3k 4)) (by omega)
  |false=>exact h3j (la (la (yT k g.2.1 h.1) A) (h3k 4)) (by omega)
 have b:(match lQ e with|true=>[32]++bC e (pd j)|false=>dF (aV e) (bC e) (pd j)).length<=83+cT e:=by
  cases lQ e with
  |true=>exact h3j (la (h3k 1) (k' g.2.2 (jl h.2).2.1)) (h4a (by decide) _)
  |false=>exact h2
 exact h3j (la (la (la (la (h3k 4) (f8 g.1)) (h3k 1)) a) b) (by show _<=900+(cT t+cT e);omega)
theorem e7j (b:Ts) (c:Option (Option Nm)) (cb:Ts) (f:Bool) (fb:Ts) (k1:LeS b) (k2:LeS cb) (k3:LeS fb):LeT (.tryT b c cb f fb):=λg j h=>by
 have h:j+2*(max (b3 b) (max (b3 cb) (b3 fb))+1)<=40:=h;have hj:=(jl h).1;have h1:=qA hj (k1 g.1 (j:=j) (by omega))
 have h2:=qA hj (k2 g.2.2.1 (j:=j) (by omega))
 have h3:=qA hj (k3 g.2.2.2 (j:=j) (by omega))
 have F:(gM f (aP fb) (pd j)).length<=93+bQ cF fb:=by
  cases f with
  |false=>exact h3w _
  |true=>exact h3j (la (h3k 9) h3) (by omega)
 have fin:∀{z:Nm},z.length<=103+bQ cF cb->([116,114,121,32]++bI (aP b) (pd j)++z++gM f (aP fb) (pd j)).length<=1000+(bQ cF b+(bQ cF cb+bQ cF fb)):=λhz=>h3j (la (la (la (h3k 4) h1) hz) F) (by omega)
 cases c with
 |none=>exact fin (h3w _)
 |some x=>
  have C:(l7 x).length<=20:=by
   cases x with
   |none=>exact h3n rfl
   |some x=>exact h3j (la (la (h3k 7) (la (h3k 1) (f8 g.2.1))) (h3k 2)) (by decide)
  exact fin (h3j (la C h2) (by omega))
theorem g0r:∀t:T,LeT t:=
 @T.rec LeT LeS LeC (λl g j h=>d5w g)
 (λh t k g j hj=>by
  have H:=f8x g.1;have S:=yT k g.2 hj
  have e:(match b8g h with|true=>bC t (pd j)|false=>dF (aV t) (bC t) (pd j)).length<=83+cT t:=by
   cases b8g h with
   |true=>exact h3j (k g.2 (jl hj).2.1) (h4b _ _)
   |false=>exact S
  exact h3j (la (h3k _) e) (by show _<=cHd h+cT t;omega))
 (λt x k g j h=>h3j (la (h3k 2) (la (la (yT k g.1 h) (c2j (jl h).1)) (la (la (h3k 7) (f8 g.2)) (h3k 2)))) (by show _<=400+cT t;omega))
 (λx t k g j h=>h3j (la (la (la (h3k 4) (f8 g.1)) (h3k 1)) (yT k g.2 h)) (by show _<=400+cT t;omega))
 e3i (λts k g j h=>h3j (qA (jl h).1 (k g (jl h).2.2.2.1)) (by show _<=300+bQ cF ts;omega))
 (λx cs k g j h=>h3j (la (la (la (h3k 8) (f8 g.1)) (h3k 2)) (qA (jl h).1 (k g.2 (jl h).2.2.2.2))) (by show _<=400+i6 cF cs;omega)) e7j
 (λ_ j _=>h3k 0)
 (λt ts k k' g j h=>by
  have h:j+2*max (dT t) (b3 ts)+1<=40:=h;exact h3j (la (a0t (by omega) (k g.1 (j:=j+1) (by omega))) (k' g.2 (j:=j) (by omega))) (by show _<=200+(cT t+bQ cF ts);omega))
 (λ_ j _=>h3k 0)
 λx b cs k k' g j h=>by
  have h:j+2*max (b3 b) (j2 cs)+2<=40:=h
  have C:(mE x).length<=20:=by
   cases x with
   |none=>exact h3n rfl
   |some x=>exact h3j (la (la (h3k 5) (f8 g.1)) (h3k 1)) (by decide)
  exact h3j (la (a0t (f:=λpad=>mE x++cA (aP b) pad) (by omega) (la C (k g.2.1 (j:=j+1) (by omega)))) (k' g.2.2 (j:=j) (by omega))) (by show _<=400+(bQ cF b+i6 cF cs);omega)
theorem d1w:∀ts:Ts,gL ts->b3 ts<=14->(cV ts).length<=bQ cF ts:=j8 (λ_ _=>h3k 0) λt ts ih g h=>by
 have h:max (dT t) (b3 ts)<=14:=h;exact h3j (la (la (g0r t g.1 (j:=0) (by omega)) (h3k 1)) (ih g.2 (by omega))) (by show _<=200+(cT t+bQ cF ts);omega)
noncomputable def fV:List Tf->List Nm
 |[]=>[]
 |f::fs=>f []::[10]::fV fs
theorem a2j:∀ts:Ts,(fV (aP ts)).flatten=cV ts:=j8 rfl λt ts h=>by
 show bC t []++([10]++(fV (aP ts)).flatten)=bC t []++[10]++cV ts
 rw [h,h3p]
theorem e6s {p:Pos} {d il sw:Nat} {L:b5}:∀ts:Ts,i4 ts il sw L->gL ts->b3 ts<=d->∀i,PtL (12*d+7) (4*d+2) (aX p ts i).av (aP ts):=
 j8 (λ_ _ _ _=>.nil) λt ts h o g e i=>.cons ((ptT t o.1 g.1 (eX e).1).v i) (h o.2.1 g.2 (eX e).2 _)
section
variable {m n D:Nat} {s:QS} {K:AV->aB->Prop} {l:List AV} {fs:List Tf}
abbrev g4m:Ss:=fB (dr 1 mX.body)
theorem d5o {Z:FK} {z w:AV} (h:PtL m D l fs) (hd:Rm D s) (h0:s.d=0):∀{acc:List AV} {sl:Slot},Sh (fV fs).flatten->acc.length+(fV fs).length<=1000000->(∀r sl,r=acc++(fV fs).map AV.str->Z .nxt [.val z,.val cK,.val w,.own r,sl] (b7 s))->
  List.foldr (gQ [4] true (aZ TT (aO TT (aD fns) (m+n)) g4m) Z) (Z .nxt) l [.val z,.val cK,.val w,.own acc,sl] (b7 s):=by
 induction h with
 |nil=>exact λ_ _ hk=>hk _ _ (h3q _).symm
 | @cons v f l fs h hl ih=>
  intro acc sl hs hc hk;have e0:pd s.d=[]:=by rw [h0];rfl
  have hs:Sh (f []++([10]++(fV fs).flatten)):=hs;have h1:Sh (f (pd s.d)):=e0.symm▸pf hs;refine h n hd h1 ?_;rw [e0];exact⟨fR hc,fR (dI hc),ih (sf (sf hs)) (dI (dI hc)) λr sl e=>hk r sl (e.trans (by rw [h3p,h3p];rfl))⟩
theorem c1z {ks q:AV} (h:PtL m D l fs) (hd:Rm (D+1) s) (h0:s.d=0) (hs:Sh (fV fs).flatten) (hc:(fV fs).length<=1000000) (hk:K (.str (fV fs).flatten) (b7 s)):aH (m+n+2) cD [cK,bR (.int 40) ks (.lst l) (.int 0) q] (b7 s) K:=
 bJ (kd:=40) rfl rfl hd.lt (λhk=>en (d5o (n:=n) (s:=s.kn) h hd.kn h0 (acc:=[]) (sl:=.no) hs (by rw [h4k,h4c];exact hc) λr sl e=>by
  subst e
  conv=>whnf
  rw [show dL [] ([]++(fV fs).map AV.str)=some (fV fs).flatten from l5]
  exact⟨h3j hs (by decide),hk⟩)) hk
end
noncomputable def S0 (a b e:Option Cell) (z:List (Option Cell)):aB:=none::none::none::none::none::none::none::none::none::none::none::none::none::none::none::none::a::b::e::none::z
noncomputable def cP:Nat->Option Cell
 |13=>some (.dict [])
 |_=>none
noncomputable def rP (a b e:Option Cell) (z:List (Option Cell)):aB:=none::a::b::e::none::z
theorem c1g {n:Nat} {K:AV->aB->Prop} {a b e:Option Cell} {z:List (Option Cell)} (hk:K cK (b7 ⟨cP,rP a b e z,0,0⟩)):aH (n+2) a6j [] (S0 a b e z) K:=
 en (by
  conv=>whnf
  refine⟨rfl,?_⟩
  conv=>whnf
  refine⟨rfl,?_⟩
  conv=>whnf
  refine⟨rfl,?_⟩
  conv=>whnf
  exact⟨rfl,hk⟩)
structure FileOK (m:Nat) (ts:Ts) (l:List AV):Prop where
 tn:y4 Top (aY ts)
 tp:∀i,dV (λ_ us=>y4 Top us) (qB ts i)
 ok:i4 ts 0 0 []
 gd:gL ts
 lv:bQ lF ts<=14
 cz:bQ cF ts<=m*258400
 cn:cU ts=m
 av:∀i,(aX p0 ts i).av=l
theorem FileOK.nil:FileOK 0 .nil []:=⟨h3m,λ_=>.nil,h3m,h3m,h3w _,h3k _,rfl,λ_=>rfl⟩
theorem FileOK.cons {m:Nat} {t:T} {v:AV} {ts:Ts} {l:List AV} (h:Drawn t v) (F:FileOK m ts l) (hm:m<1000):FileOK (m+1) (.cons t ts) (v::l):=
 have n:=h.top (kI.1 t)
 ⟨⟨n,F.tn⟩,λi=>dV.app ((c4h.1 t i).mp λj u s=>⟨h.top s,F.tn⟩) ((F.tp _).mp λj us k=>⟨n,k⟩),⟨h.ok,F.ok,F.cn▸hm⟩,⟨h.gd,F.gd⟩,Nat.max_le.mpr ⟨h.lv,F.lv⟩,(by have:=h.cz;have:=F.cz;show 200+(cT t+bQ cF ts)<=(m+1)*258400;omega),h3s (· +1) F.cn,λi=>by
  show(pl p0 t i).av::(aX p0 ts _).av=_
  rw [h.av,F.av]⟩
theorem c6s:∀m:Nd,m.av.noRef=true:=
 @Nd.rec (λm=>m.av.noRef=true) (λks=>nJ ks.av=true) (λk a ks q h=>by show(nJ ks.av&&true)=true;rw [h];rfl) rfl (λks h=>h) λm ks h h'=>by show(m.av.noRef&&nJ ks.av)=true;rw [h,h'];rfl
theorem e9s:∀t:T,dT t<=lv t:=
 @T.rec (λt=>dT t<=lv t) (λt=>b3 t<=bQ lF t) (λt=>j2 t<=i6 lF t) (λ_=>h3k _) (λ_ _=>h3r) (λ_ _=>h3r) (λ_ _=>h3r) (λ_ t e h h'=>lv2 (h4w h) h') (λ_=>h3r) (λ_ _=>h3r)
  (λ_ _ _ _ _ a b c=>h3r (mxm a (mxm b c))) (h3k _) (λ_ _=>mxm) (h3k _) λ_ _ _=>mxm
theorem q7:∀ts:Ts,b3 ts<=bQ lF ts:=j8 (h3k _) λt ts h=>mxm (e9s t) h
theorem m7.all_ge {l:List AV}:∀{q:Nat},m7 q l->∀u∈l,q<=j4 u:=by
 induction l with
 |nil=>exact λ_ u h=>nomatch h
 |cons v l ih=>
  intro q h u hu;cases hu with
  |head=>exact h.1
  |tail _ hu=>exact h3j (h4w h.1) (ih h.2.2 u hu)
theorem m7.all_tok {l:List AV}:∀{q:Nat},m7 q l->∀u∈l,∃k s e f,u=bH k s (j4 u) e f:=by
 induction l with
 |nil=>exact λ_ u h=>nomatch h
 |cons v l ih=>
  intro q h u hu;cases hu with
  |head=>exact h.2.1
  |tail _ hu=>exact ih h.2.2 u hu
theorem m7.mid {X Y:List AV} {v:AV}:∀{q:Nat},m7 q (X++v::Y)->(∀u∈X,j4 u<j4 v)/\∀u∈Y,j4 v<j4 u:=by
 induction X with
 |nil=>exact λh=>⟨(λu hu=>nomatch hu),λu hu=>m7.all_ge h.2.2 u hu⟩
 |cons x X ih=>
  intro q h;have k:=ih h.2.2;refine⟨λu hu=> ?_,k.2⟩
  cases hu with
  |head=>exact m7.all_ge h.2.2 v (List.mem_append_right _ (.head _))
  |tail _ hu=>exact k.1 u hu
abbrev eY (q:Nat) (f:Bool):AV:=bH 0 [] q q f
theorem d4l {m:Nat} {ts:Ts} {l:List AV} (h:FileOK m ts l):∃ls A0 q f,fD ls=cV ts/\wM ls/\mG ls 0 false=A0++[eY q f]/\Al A0 (tks (aY ts))/\m7 0 (A0++[eY q f])/\A0.length<=(cV ts).length:=by
 have S:=kI.2 ts;obtain⟨l,h1,h2,h3,h4⟩:=f9r (aY ts) S.n (S.gd h.gd);obtain⟨A0,q,f,g1,g2⟩:=d8g (h2 false) 0;have i:=mY (q:=0) (f:=false) h3.wfL.1;rw [g1]at i;rw [qO]at h1;exact⟨l,A0,q,f,h1,h3.wfL.1,g1,g2,i,g2.len▸h1▸e1j (h2 false) h3⟩
section
variable {K:AV->aB->Prop} {n:Nat} {st:aB}
theorem d5s {ps qs:List P} {A0:List AV} {j qE:Nat} {fE:Bool} (hs:nY j ps qs 0) (al:Al A0 ps) (inc:m7 0 (A0++[eY qE fE])) (hl:A0.length<=800000) (hk:∀A',Al A' qs->K (.lst (A'++[eY qE fE])) st):
  aH (n+1) rU [.lst (A0++[eY qE fE]),.int (.ofNat (iP (A0++[eY qE fE]) j))] st K:=by
 obtain⟨A,B,C,rfl,rfl,rfl,hB⟩:=hs;obtain⟨A1,R1,rfl,al1,al2⟩:=al.split;cases al2 with
 | @cons _ q e f R2 _ _ al3=>
  obtain⟨A2,R3,rfl,al4,al5⟩:=al3.split;cases al5 with
  | @cons _ q' e' f' A3 _ _ al6=>
   have e0:A1++bH 5 [123] q e f::(A2++bH 5 [125] q' e' f'::A3)++[eY qE fE]=A1++bH 5 [123] q e f::(A2++bH 5 [125] q' e' f'::(A3++[eY qE fE])):=by
    rw [h3p,List.cons_append,h3p,List.cons_append]
   have inc:m7 0 (A1++bH 5 [123] q e f::(A2++bH 5 [125] q' e' f'::A3)++[eY qE fE]):=inc;have hl:(A1++bH 5 [123] q e f::(A2++bH 5 [125] q' e' f'::A3)).length<=800000:=hl;show aH (n+1) rU [.lst (A1++bH 5 [123] q e f::(A2++bH 5 [125] q' e' f'::A3)++[eY qE fE]),.int (.ofNat (iP (A1++bH 5 [123] q e f::(A2++bH 5 [125] q' e' f'::A3)++[eY qE fE]) (0+A.length)))] st K
   rw [e0]at inc⊢;have ep:iP (A1++bH 5 [123] q e f::(A2++bH 5 [125] q' e' f'::(A3++[eY qE fE]))) (0+A.length)=q:=b4e (k:=5) (s:=[123]) (e:=e) (f:=f) (by rw [h4c,<-al1.len];exact vA)
   rw [ep];obtain⟨m1,m2⟩:=inc.mid;have els:∀u,u∈A1++bH 5 [123] q e f::(A2++bH 5 [125] q' e' f'::(A3++[eY qE fE]))->j4 u≠q->Els q u:=λu hu hne=>(inc.all_tok u hu).elim λk h=>h.elim λs h=>h.elim λe h=>h.elim λf h=>⟨k,s,j4 u,e,f,h,hne⟩
   rw [h3o,List.length_cons,h3o,List.length_cons]at hl;refine b5q (λu hu=>els u (List.mem_append_left _ hu) (Nat.ne_of_lt (m1 u hu))) al4 (λu hu=>Nat.ne_of_gt (m2 u (List.mem_append_left _ hu))) hB (Nat.ne_of_gt (m2 (bH 5 [125] q' e' f') (List.mem_append_right _ (.head _))))
    (λu hu=>els u (List.mem_append_right _ (.tail _ (List.mem_append_right _ (.tail _ hu)))) (Nat.ne_of_gt (m2 u (List.mem_append_right _ (.tail _ hu))))) (by rw [h3o,List.length_singleton];omega) ?_
   have:=hk (A1++(A2++A3)) (al1.app (al4.app al6));rw [h3p,h3p]at this;exact this
abbrev stZ (a b e y x:Option Cell) (zz:List (Option Cell)):aB:=b7 ⟨cP,rP a b e (y::x::zz),0,0⟩
variable {a b e:Option Cell} {zz:List (Option Cell)}
theorem f9m {x:Option Cell}:OwnS (λl=>stZ a b e (some (.list l)) x zz) 20:=⟨λ_=>rfl,λ_ _=>rfl⟩
theorem f6z {y:Option Cell}:OwnS (λl=>stZ a b e y (some (.list l)) zz) 21:=⟨λ_=>rfl,λ_ _=>rfl⟩
theorem d6p {ts:Ts} {A0:List AV} {q:Nat} {f:Bool} (hT:y4 Top ts) (hc:cU ts<=1000) (hA:Al A0 (tks ts)) {y x:Option Cell}
  (hk:∀(p:Pos) st',(Nd.mk 40 [] (aX p ts 0) 0).av.noRef=true->old (stZ a b e y x zz) st'->p=iP (A0++[eY q f])->K (Nd.mk 40 [] (aX p ts 0) 0).av st'):
  aH (10*14+n+20) rC [.lst (A0++[eY q f])] (stZ a b e y x zz) K:=by
 have hs:=hA.seg [] [eY q f];have hx:aD (A0++[eY q f]) (tks ts).length=some (eY q f):=hA.len▸vA;refine b5r hT hc hs (c2u (q:=⟨0,[],false⟩) hx λh=>nomatch h) (hk _ _ (c6s _) (λr c hr=> ?_) rfl)
 match r,hr with
 |0,hr=>exact nomatch hr
 |1,hr=>exact nomatch hr
 |2,hr=>exact nomatch hr
 |3,hr=>exact nomatch hr
 |4,hr=>exact nomatch hr
 |5,hr=>exact nomatch hr
 |6,hr=>exact nomatch hr
 |7,hr=>exact nomatch hr
 |8,hr=>exact nomatch hr
 |9,hr=>exact nomatch hr
 |10,hr=>exact nomatch hr
 |r+11,hr=>exact hr
theorem b5e {W:List AV->aB} {o:Nat} (hW:OwnS W o) {p:Pos} {ts us:Ts} {s m:Nat} {l:List AV} (F:FileOK m ts l) (hm:m<=3) (S:SimS s ts us) (hk:K (.bool (c6 (.mk 40 [] (aX p0 ts 0) 0) (.mk 40 [] (aX p us 0) 0)).1) (W (cQ (c6 (.mk 40 [] (aX p0 ts 0) 0) (.mk 40 [] (aX p us 0) 0)).2))):
  aH (n+60+40) fU [(Nd.mk 40 [] (aX p0 ts 0) 0).av,(Nd.mk 40 [] (aX p us 0) 0).av,.ref o] (W []) K:=by
 have lt:=h3j (q7 ts) F.lv;have lu:=h3j S.lv F.lv;have k1:=Nf.nd (k:=40) (a:=[]) (q:=0) rfl (λe=>nomatch e) ((tE (p:=p0)).2 ts (h3j lt (by decide)) 0)
 have k2:=Nf.nd (k:=40) (a:=[]) (q:=0) rfl (λe=>nomatch e) ((tE (p:=p)).2 us (h3j lu (by decide)) 0)
 have hz:m*258400<=3*258400:=Nat.mul_le_mul_right _ hm;exact h2f hW _ (h3j k1.h (by omega)) k1.s _ k2.s (h3j (h3z k2.z 0) (by have:=S.z;have:=F.cz;omega)) hk
end
section
variable {K:AV->aB->Prop} {n m:Nat} {st:aB} {ca cb:Cell} {e:Option Cell} {zz:List (Option Cell)}
abbrev lwR:Ss:=match kT.body with
 | .cons _ (.cons _ (.cons _ (.cons _ s)))=>s
 |s=>s
theorem a5m:∀ts:Ts,(fV (aP ts)).length=2*cU ts:=j8 rfl λt ts h=>h3s (· +2) h
theorem d7y {k s:Nat} {ts us:Ts} {l:List AV} {p:Pos} {c:Nat->Option Cell} {rs:aB} (F:FileOK k ts l) (hk3:k<=3) (S:SimS s ts us) (hx:Sh (cV us)) (hk:K (.str (cV us)) (b7 ⟨c,rs,0,0⟩)):
  aH (n+177) cD [cK,(Nd.mk 40 [] (aX p us 0) 0).av] (b7 ⟨c,rs,0,0⟩) K:=by
 rw [<-a2j]at hx hk;have h:=c1z (n:=n) (s:=⟨c,rs,0,0⟩) (ks:=.str []) (q:=.int (.ofNat 0)) (e6s (p:=p) (d:=14) us (S.ok F.ok) (S.gd F.gd) (h3j S.lv F.lv) 0) ⟨h3n rfl,h3n rfl⟩ rfl hx (by rw [a5m,S.cn,F.cn];exact h3j (Nat.mul_le_mul_left 2 hk3) (by decide)) hk
 rw [h4e (12*14+7) n]at h;exact h
theorem d8u {k:Nat} {ts:Ts} {l:List AV} {p:Pos} {c:Nat->Option Cell} {rs:aB} (F:FileOK k ts l) (hk3:k<=3) (hx:Sh (cV ts)) (hk:K (.str (cV ts)) (b7 ⟨c,rs,0,0⟩)):
  aH (n+177) cD [cK,bR (.int 40) (.str []) (.lst (aX p ts 0).av) (.int 0) (.int 0)] (b7 ⟨c,rs,0,0⟩) K:=by
 rw [<-a2j]at hx hk;have h:=c1z (n:=n) (s:=⟨c,rs,0,0⟩) (ks:=.str []) (q:=.int 0) (e6s (p:=p) (d:=14) ts F.ok F.gd (h3j (q7 ts) F.lv) 0) ⟨h3n rfl,h3n rfl⟩ rfl hx (by rw [a5m,F.cn];exact h3j (Nat.mul_le_mul_left 2 hk3) (by decide)) hk
 rw [h4e (12*14+7) n]at h;exact h
noncomputable def rV (fs:List Tf):List Nm:=fs.map λf=>f []++[10]
theorem a0r:∀{fs:List Tf},(rV fs).flatten=(fV fs).flatten
 |[]=>rfl
 |f::fs=>by show f []++[10]++(rV fs).flatten=f []++([10]++(fV fs).flatten);rw [a0r,h3p]
abbrev lnF (N:Nat) (fv:List Slot) (Z:List AV->aB->Prop) (l acc:List AV) (st:aB):Prop:=
 List.foldr (f0 [0] ([]:List Nat).length fv (aC TT (aO TT (aD fns) N) .tt) (aE TT (aO TT (aD fns) N) (.bin .add (.call 129 (E2 V0 (lS []))) (lS [10])))) Z l acc st
theorem d5g {Z:List AV->aB->Prop} {N:Nat} {l:List AV} {fs:List Tf} (h:TxL m l fs) (hN:m+n=N):∀{acc:List AV},Sh (rV fs).flatten->acc.length+fs.length<=1000000->(∀r,r=acc++(rV fs).map AV.str->Z r st)->lnF N [] Z l acc st:=by
 subst hN
 induction h with
 |nil=>exact λ_ _ hk=>hk _ (h3q _).symm
 | @cons v f l fs h hl ih=>
  intro acc hs hc hk;have hs:Sh (f []++[10]++(rV fs).flatten):=hs;refine h n (pf (pf hs)) ⟨h3j (h3y List.length_append.symm) (h3j (pf hs) (by decide)),?_⟩
  exact⟨fR hc,ih (sf hs) (dI hc) λr e=>hk r (e.trans (by rw [h3p];rfl))⟩
theorem c5z:∀ts:Ts,(aP ts).length=cU ts:=j8 rfl λt ts h=>h3s (· +1) h
theorem g0p {p:Pos} {d il sw:Nat} {L:b5}:∀{ts:Ts},i4 ts il sw L->b3 ts<=d->∀i,TxL (8*d+6) (aX p ts i).av (aP ts):=λ{ts}=>j8 (Q:=λts=>i4 ts il sw L->b3 ts<=d->∀i,TxL (8*d+6) (aX p ts i).av (aP ts)) (λ_ _ _=>.nil) (λt ts h o e i=>.cons (txT t o.1 (eX e).1 i) (h o.2.1 (eX e).2 _)) ts
theorem b5m {N:Nat} {a b e:Option Cell} {ts:Ts} {A0:List AV} {q:Nat} {f:Bool} (hN:10*14+n+20=N) (hT:y4 Top ts) (hc:cU ts<=1000) (hA:Al A0 (tks ts)) {y x:Option Cell}
  (hk:∀(p:Pos) st',(Nd.mk 40 [] (aX p ts 0) 0).av.noRef=true->old (stZ a b e y x zz) st'->p=iP (A0++[eY q f])->K (Nd.mk 40 [] (aX p ts 0) 0).av st'):
  aH N rC [.lst (A0++[eY q f])] (stZ a b e y x zz) K:=by
 subst hN;exact d6p hT hc hA hk
theorem a5f:∀l:List Int,oP (l.map AV.int)=some l.sum
 |[]=>rfl
 |z::l=>by
  show(match oP (l.map AV.int)with|some r=>some (z+r)|none=>none)=_
  rw [a5f l];rfl
theorem d6y {st:aB} {o i:Nat} {l:List AV} {v:AV} (hc:aQ st o=some (.list l)) (h:aD l i=some v):dB st (.ref o) (.int (.ofNat i))=some v:=by
 show(match aQ st o with|some (.list l)=>at? l (Int.ofNat i)|_=>a2p st o (.int (Int.ofNat i)))=_
 rw [hc];exact h
theorem d5v {k:Nat} {ts us:Ts} {l:List AV} {p:Pos} (F:FileOK k ts l) (S:SimS 1 ts us):(c6 (.mk 40 [] (aX p0 ts 0) 0) (.mk 40 [] (aX p us 0) 0)).1=false:=by
 have lt:=h3j (q7 ts) F.lv;have lu:=h3j S.lv F.lv;cases h:(c6 (.mk 40 [] (aX p0 ts 0) 0) (.mk 40 [] (aX p us 0) 0)).1 with
 |false=>rfl
 |true=>
  have e:MK 0 (aX p0 ts 0)=MK 0 (aX p us 0):=(e3q _ _ h).2;rw [((tE (p:=p0)).2 ts (h3j lt (by decide)) 0).m,((tE (p:=p)).2 us (h3j lu (by decide)) 0).m]at e
  have:=S.m;omega
theorem a7w {k:Nat} {ts:Ts} {l:List AV} (F:FileOK k ts l) (hk3:k<=3) {script:AV} {nums:List Int} {s3 s4:Slot} (hk:∀st,K (.bool true) st):
  aZ TT (aO TT (aD fns) (n+310)) lwR [.val script,.val (.lst (nums.map .int)),.own l,s3,s4,.no,.no,.no,.no,.no,.no,.no] (S0 (some ca) (some cb) e (none::none::zz)) (c4 K):=by
 have hx7:(cV ts).length<=800000:=by
  have h1:=d1w ts F.gd (h3j (q7 ts) F.lv);have h2:=F.cz;have h3:k*258400<=3*258400:=Nat.mul_le_mul_right _ hk3;omega
 have hx:Sh (cV ts):=h3j hx7 (by decide)
 have S0':SimS 0 ts (aY ts):=kI.2 ts;refine aR (n:=n+308) (c1g (n:=n+308) ?_);rw [<-F.av 0];refine d8u (n:=n+133) F hk3 hx ?_;have hl:(rV (aP ts)).flatten=cV ts:=a0r.trans (a2j ts);have tx:TxL (8*14+6) (aX p0 ts 0).av (aP ts):=g0p F.ok (h3j (q7 ts) F.lv) 0;have cl:(aP ts).length<=3:=by rw [c5z,F.cn];exact hk3
 refine d5g (n:=n+192) (acc:=[]) tx (by omega) (hl▸hx) (by rw [h4k,h4c];exact h3j cl (by decide)) λr er=> ?_
 subst er
 conv=>whnf
 rw [show dL [] ([]++(rV (aP ts)).map AV.str)=some (cV ts) from l5.trans (h3s some hl)]
 conv=>whnf
 refine⟨h3j hx (by decide),?_⟩
 conv=>whnf
 rw [h3v (rfl:cV ts=cV ts)]
 conv=>whnf
 obtain⟨ls,A0,q,f,e1,e2,e3,e4,e5,e6⟩:=d4l F;rw [<-e1];refine a7x (n:=n+308) e2 (by rw [e1];exact h3j hx7 (by decide)) ?_
 rw [e3];have hN:10*14+(n+150)+20=n+310:=by omega
 conv=>whnf
 refine b5m (n:=n+150) (hN:=hN) (a:=some ca) (b:=some cb) (e:=e) (y:=none) (x:=none) (zz:=zz) (q:=q) (f:=f) F.tn (by rw [S0'.cn,F.cn];exact h3j hk3 (by decide)) e4 λp st1 g1 g2 hp=>⟨⟨g1,g2⟩,?_⟩
 clear g1 g2 st1
 conv=>whnf
 rw [show dH (b7 ⟨cP,rP (some ca) (some cb) e (none::none::zz),0,0⟩) 20=some 20 by cases e<;>rfl]
 have hfit:c6 (.mk 40 [] (aX p0 ts 0) 0) (.mk 40 [] (aX p (aY ts) 0) 0)=(true,qs p (qB ts 0)):=FE.mk (k:=40) (f8k ts 0 0);refine b5e (n:=n+210) (f9m (a:=some ca) (b:=some cb) (e:=e) (zz:=zz) (x:=none)) F hk3 S0' ?_;rw [hfit]
 conv=>whnf
 refine d7y (n:=n+133) F hk3 S0' (by rw [qO];exact hx) ?_
 rw [qO,e1]
 conv=>whnf
 rw [h3v (rfl:cV ts=cV ts)]
 conv=>whnf
 have sp:=f4n ts F.gd 0;have sm:=c4h.2 ts 0;have tp:=F.tp 0;generalize qB ts 0=L at sp sm tp hfit⊢;cases L with
 |nil=>exact hk _
 |cons x0 xs=>
  conv=>whnf
  rw [a5f]
  conv=>whnf
  have hlen:(cQ (qs p (x0::xs))).length=(x0::xs).length:=(h4j _).trans (h4j _);obtain⟨r,hr1,hr2⟩:∃r:Nat,nums.sum%((cQ (qs p (x0::xs))).length:Int)=Int.ofNat r/\r<(x0::xs).length:=by
   rw [hlen];have h0:(0:Int) <((x0::xs).length:Int):=Int.ofNat_lt.mpr (h4z _);have h1:=Int.emod_lt_of_pos nums.sum h0;have h2:=Int.emod_nonneg nums.sum (Int.ne_of_gt h0);exact⟨(nums.sum%((x0::xs).length:Int)).toNat,(Int.toNat_of_nonneg h2).symm,by omega⟩
  refine⟨Int.ofNat_lt.mpr (h4z _),?_⟩;have hr1:nums.sum%((cQ (true,qs p (x0::xs)).2).length:Int)=Int.ofNat r:=hr1;rw [hr1];obtain⟨x,h1,h2⟩:=mL hr2
  conv=>whnf
  rw [d6y (l:=cQ (qs p (x0::xs))) (v:=.int (.ofNat (p x.1))) rfl ((kE.trans (h3s _ (kE.trans (h3s _ h1)))))];subst hp;refine d5s (n:=n+309) (sp x h2) e4 e5 (h3j e6 hx7) λA' hA'=> ?_
  conv=>whnf
  refine b5m (n:=n+150) (hN:=hN) (tp x h2) (by rw [(sm x h2).cn,F.cn];exact h3j hk3 (by decide)) hA' λp2 st1 g1 g2 _=>⟨⟨g1,g2⟩,?_⟩
  clear g1 g2 st1
  conv=>whnf
  rw [show∀l,dH (b7 ⟨cP,rP (some ca) (some cb) e (some (Cell.list l)::none::zz),0,0⟩) 20=some 21 from λl=>by cases e<;>rfl]
  refine b5e (n:=n+210) (f6z (a:=some ca) (b:=some cb) (e:=e) (zz:=zz) (y:=some (.list (cQ (qs (iP (A0++[eY q f])) (x0::xs)))))) F hk3 (sm x h2) ?_;rw [d5v F (sm x h2)];exact hk _
end
section
variable {K:AV->aB->Prop} {n m:Nat} {st:aB} {zz:List (Option Cell)}
theorem d7q {n k:Nat} (h:n<2 ^ (k+1)):n/2<2 ^ k:=by
 rw [Nat.pow_succ]at h;omega
abbrev a9c:Ss:=fB (dr 3 kT.body)
theorem dig {Z:FK} {s0 s1 s2 s5 s6 s7 s8 s9 s10 s11:Slot} (hk:∀ds:List Int,ds.length<=30->aZ TT (aO TT (aD fns) n) (dr 2 a9c) [s0,s1,s2,.val (.int 0),.own (dg ds),s5,s6,s7,s8,s9,s10,s11] st Z):∀{k z:Nat} {ds:List Int},z<2 ^ k->ds.length+k<=30->
  Wl n (dr 1 a9c) Z (k+1) [s0,s1,s2,.val (.int (.ofNat z)),.own (dg ds),s5,s6,s7,s8,s9,s10,s11] st:=by
 intro k
 induction k with
 |zero=>
  intro z ds hz hl;cases Nat.lt_one_iff.mp hz;exact hk ds (h3j (h3x _ _) hl)
 |succ k ih=>
  intro z ds hz hl;cases z with
  |zero=>exact hk ds (h3j (h3x _ _) hl)
  |succ z=>
   conv=>whnf
   rw [o8]
   conv=>whnf
   refine⟨by decide,?_⟩
   conv=>whnf
   refine⟨by decide,?_⟩
   conv=>whnf
   refine⟨h3j (h3z (h3j (h3y (h4j (as:=ds) AV.int)) (h3j (h3x _ _) hl)) 1) (by decide),?_⟩
   conv=>whnf
   refine⟨by decide,?_⟩
   exact ih (z:=(z+1)/2) (ds:=(Int.ofNat (z+1)%1011%60)::ds) (d7q hz) (by rw [List.length_cons];omega)
theorem h2g {W:List AV->aB} {o:Nat} (hW:OwnS W o) {ds:List Int} (hd:ds.length<=30) (hk:∀t v l,Drawn t v->K v (W l)):aH (n+310) a1q [.ref o,.int 3,f9 0 0 [],.bool false] (W (dg ds)) K:=by
 have h:=c4f hW (n+276) ds 0 0 [] false K hd ⟨(λd h=>nomatch h),h3n rfl⟩ λt v ds' G=>hk t v _ (Drawn.of hd G)
 rw [h4e]at h;exact h
section
variable {W:List AV->aB} {o:Nat} {Z:FK} {b:List AV} {s0 s1 s4:Slot}
theorem d6q (hW:OwnS W o) (hf:dH st 16=some o) (hu:∀l,bW st o (some (.list l))=W l) (hb:b.length<=1000000) (hk:∀t v l s4,Drawn t v->Z .nxt [s0,s1,.own (b++[v]),.val (.int 0),s4,.no,.no,.no,.no,.no,.no,.no] (W l)) {ds:List Int} (hd:ds.length<=30):
  aZ TT (aO TT (aD fns) (n+310)) (dr 2 a9c) [s0,s1,.own b,.val (.int 0),.own (dg ds),.no,.no,.no,.no,.no,.no,.no] st Z:=by
 conv=>whnf
 rw [hf]
 conv=>whnf
 rw [hu];exact h2g hW hd λt v l d=>⟨hb,hk t v l _ d⟩
theorem row (hW:OwnS W o) (hf:dH st 16=some o) (hu:∀l,bW st o (some (.list l))=W l) (hb:b.length<=1000000) (hk:∀t v l s4,Drawn t v->Z .nxt [s0,s1,.own (b++[v]),.val (.int 0),s4,.no,.no,.no,.no,.no,.no,.no] (W l)) {z k:Nat} (hz:z<2 ^ k) (h30:k<=30):
  aZ TT (aO TT (aD fns) (n+310)) a9c [s0,s1,.own b,.val (.int (.ofNat z)),s4,.no,.no,.no,.no,.no,.no,.no] st Z:=
 ⟨k+1,dig (ds:=[]) (λds=>d6q hW hf hu hb hk) hz (by rw [h4k,h4c];exact h30)⟩
theorem fr {K':FK} {k:aN->aB->Prop} {s3:Slot} {i:Int} (hW:OwnS W o) (hf:dH st 16=some o) (hu:∀l,bW st o (some (.list l))=W l) (hb:b.length<=1000000) (hi:0<=i/\i<1000000007) (hk:∀t v l s4,Drawn t v->k [s0,s1,.own (b++[v]),.val (.int 0),s4,.no,.no,.no,.no,.no,.no,.no] (W l)):
  gQ [3] true (aZ TT (aO TT (aD fns) (n+310)) a9c) K' (.int i) k [s0,s1,.own b,s3,s4,.no,.no,.no,.no,.no,.no,.no] st:=by
 cases i with
 |ofNat z=>exact row (k:=30) (Z:=mC k K') hW hf hu hb hk (h4m (Int.ofNat_lt.mp hi.2) (by decide)) (h3k _)
 |negSucc z=>exact absurd hi.1 (Int.not_le.mpr (Int.negSucc_lt_zero z))
end
theorem d3l {e f:Option Cell}:OwnS (λl=>S0 (some (.list l)) e f zz) 16:=⟨λ_=>rfl,λ_ _=>rfl⟩
theorem d3n {e f:Option Cell}:OwnS (λl=>S0 e (some (.list l)) f zz) 17:=⟨λ_=>rfl,λ_ _=>rfl⟩
theorem f6p {e f:Option Cell}:OwnS (λl=>S0 e f (some (.list l)) zz) 18:=⟨λ_=>rfl,λ_ _=>rfl⟩
abbrev lwM:Ss:=dr 2 kT.body
theorem c8g {script:AV} {x y:Int} (hx:0<=x/\x<1000000007) (hy:0<=y/\y<1000000007) (hk:∀st,K (.bool true) st):
  aZ TT (aO TT (aD fns) (n+310)) lwM [.val script,.val (.lst ([x,y].map .int)),.no,.no,.no,.no,.no,.no,.no,.no,.no,.no] (S0 none none none (none::none::zz)) (c4 K):=
 fr d3l rfl (λ_=>rfl) (h3w _) hx λ_ v1 l1 s4 d1=>fr (b:=[v1]) (d3n (e:=some (.list l1))) rfl (λ_=>rfl) (h3n rfl) hy λ_ v2 l2 s4 d2=>
  a7w (l:=[v1,v2]) (.cons d1 (.cons d2 .nil (by decide)) (by decide)) (by decide) (nums:=[x,y]) hk
theorem f9x {script:AV} {x y z:Int} (hx:0<=x/\x<1000000007) (hy:0<=y/\y<1000000007) (hz:0<=z/\z<1000000007) (hk:∀st,K (.bool true) st):
  aZ TT (aO TT (aD fns) (n+310)) lwM [.val script,.val (.lst ([x,y,z].map .int)),.no,.no,.no,.no,.no,.no,.no,.no,.no,.no] (S0 none none none (none::none::zz)) (c4 K):=
 fr d3l rfl (λ_=>rfl) (h3w _) hx λ_ v1 l1 s4 d1=>fr (b:=[v1]) (d3n (e:=some (.list l1))) rfl (λ_=>rfl) (h3n rfl) hy λ_ v2 l2 s4 d2=>fr (b:=[v1,v2]) (f6p (e:=some (.list l1)) (f:=some (.list l2))) rfl (λ_=>rfl) (h3n rfl) hz λ_ v3 l3 s4 d3=>
  a7w (l:=[v1,v2,v3]) (.cons d1 (.cons d2 (.cons d3 .nil (by decide)) (by decide)) (by decide)) (by decide) (nums:=[x,y,z]) hk
theorem a3s (i:Int):0<=i%1000000007/\i%1000000007<1000000007:=⟨Int.emod_nonneg _ (by decide),Int.emod_lt_of_pos _ (by decide)⟩
theorem pml:(0:Int) <1000000007:=by decide
theorem d8w (xs:List Int) (hk:∀st,K (.bool true) st):
  aZ TT (aO TT (aD fns) (n+310)) kT.body [.val (.lst (xs.map .int)),.no,.no,.no,.no,.no,.no,.no,.no,.no,.no,.no] (S0 none none none [none,none]) (c4 K):=
 match xs with
 |[]=>⟨h3n rfl,c8g (x:=2) (y:=150) (by decide) (by decide) hk⟩
 |[x]=>⟨pml,h3w _,h3n rfl,c8g (y:=150) (a3s x) (by decide) hk⟩
 |[x,y]=>⟨pml,h3w _,pml,h3n rfl,h3n rfl,c8g (a3s x) (a3s y) hk⟩
 |x::y::z::_=>⟨pml,h3w _,pml,h3n rfl,pml,h3n rfl,h3n rfl,f9x (a3s x) (a3s y) (a3s z) hk⟩
end
end Mx
namespace Mx
open PySem PySem.W PySem.Calls PyProof.Rows Mine
noncomputable def a7p:F:=.comp [] [0] false (.frz (.cut (.var 0) (.lit .none) (.lit (.int 3)))) .tt (.bin .mod (.var 0) (.lit (.int 1000000007)))
theorem c6z:kT.body=.cons (.assign 1 (.frz a7p)) (dr 1 kT.body):=by kernel_rfl
noncomputable def a7i (y:Str) (l:List (Str×NameKind)):Bool:=l.rec true λp _ r=> !(bD p.1 y&&(p.2==.local||p.2==.cell))&&r
theorem c1i {y:Str} {l:List (Str×NameKind)}:a7i y l=true->(l.any λ(n,k)=>n==y&&(k==.local||k==.cell))=false:=by
 induction l with
 |nil=>exact λ_=>rfl
 |cons p l ih=>exact λh=>by rw [List.any_cons,ih (b2 h).2,Bool.or_false];exact(h3s (· &&(p.2==.local||p.2==.cell)) (nX.trans (Bool.eq_iff_iff.mpr (dO.trans (eq_comm.trans dO.symm))))).trans (bn (b2 h).1)
noncomputable def tA (x:Expr) (k:Scope->Nat->Bool):Bool:=dt (x.ctorIdx=8) λh=>PySem.Expr.ListComp.elim x h λ_ _ sc p=>k sc p.line
noncomputable def e2d (x:Expr):Nat:=dite (x.ctorIdx=23) (λh=>PySem.Expr.Name.elim x h λ_ p=>p.line) λ_=>0
theorem tA.el {v:Expr} {k:Scope->Nat->Bool} (h:tA v k=true):∃x gs sc p,v=.ListComp x gs sc p/\k sc p.line=true:=
 dt.el h λq=>PySem.Expr.ListComp.elim (motive_1:=λv=>∀q,PySem.Expr.ListComp.elim v q (λ_ _ sc p=>k sc p.line)=true->∃x gs sc p,v=.ListComp x gs sc p/\k sc p.line=true) v q (λ_ _ _ _ _ h=>⟨_,_,_,_,rfl,h⟩) q
theorem d8p {env:Env} {v:Expr} {py:PySem.Pos} {y:Str} {n:Nat} (hb:env.scope.kind=.function) (hk:env.kindOf y=some .local) (h:tA v (λsc _=>a7i y sc.names)=true) (h':tA v (λ_ l=>Nat.beq py.line l)=true):
  swapsWith v (some (.Name y py)) n env=pure true:=by
 have e1:env.blockKind=.function:=by unfold Env.blockKind;rw [hb];rfl
 obtain⟨x,gs,sc,pos,rfl,h⟩:=tA.el h;have e2:(py.line==pos.line)=true:=by rw [h4g h'];exact beq_self_eq_true _
 show(pure (env.blockKind==.function&&env.kindOf y==some .local&&(py.line==pos.line)&& !(sc.names.any λ(n,k)=>n==y&&(k==.local||k==.cell))):Sem Bool)=_
 rw [e1,hk,e2,c1i h];rfl
noncomputable def d4g (Φ:Fx) (X:Cx) (b:List Stmt):Bool:=a3p b λs r=>stA s (λl v=>fL l λt=>dM t (λy=>cH X 1 .local y&&tA v λsc _=>a7i y sc.names)&&(tA v (λ_ l=>Nat.beq (e2d t) l)&&tL Φ X a7p v))&&jL Φ X (dr 1 kT.body) r
theorem d8h (P:Params):b9p (Φ0 P) 135 1 12 (eQ 135) false (λfd b=>d4g (Φ0 P) ⟨eQ 135,fd.scope⟩ b)=true:=by kernel_rfl
theorem e0c {Φ:Fx} {Tt:Tab} {fn:Nat->Option Fn} {w:World} {R:RT} {A:Around} {X:Cx} {G:Gh} {env:Env} (C:Cfg Φ Tt fn w R A X G env) {b:List Stmt} (h:d4g Φ X b=true):sB Φ Tt w R A X G env kT.body b:=by
 rw [c6z];refine a3p.el h λ{s r} h=> ?_
 refine b3u ?_ (b4u _ C (b2 h).2);have h:=(b2 h).1;refine stA.el h λ{l v p} h=>@lJ (λl=>SS Φ Tt w R A X G env (.assign 1 (.frz a7p)) (.Assign l v p)) l _ h λ{t} h=> ?_
 have z:=(b2 h).2;have h:=(b2 h).1
 revert z
 refine dM.el (M:=λt=>(tA v (λ_ l=>Nat.beq (e2d t) l)&&tL Φ X a7p v)=true->SS Φ Tt w R A X G env (.assign 1 (.frz a7p)) (.Assign [t] v p)) h λ{y py} q z=> ?_
 have k:=(b2 q).1
 have e:env.kindOf y=some .local:=by
  show env.scope.names.lookup y=_
  rw [C.ok.scope];exact(bV k).2.1
 have hsw:swapsWith v (some (.Name y py)) p.line env=pure true:=d8p (by rw [C.ok.scope];exact C.ok.kind) e (b2 q).2 (b2 z).1
 intro W L st m s K Q I h' q';exact c1n C k (b2 z).2 hsw I h' q'
theorem c3q {w:World} {v:AV} {st:aB} {P:AV->aB->Prop} {W:Wd} {s:Shared} {vals:List Value} {A:Around} {Q:Result->Shared->Prop} (hh:A.handled=none) (hD:A.depth<=320) (hU:A.units<=60)
  (hg:s.gens= #[]) (B:Base (Φ0 w.params).T w (Gh.at W s.heap s.os) W st s.heap) (hK:∀a o,(Φ0 w.params).K.lookup a=some o->W.F a=some o) (r:aL (Φ0 w.params).T W [v] vals)
  (h:aZ TT (aO TT (aD a8y) 320) kT.body [.val v,.no,.no,.no,.no,.no,.no,.no,.no,.no,.no,.no] st (c4 P))
  (q0:∀{v x W' st' s'},Base (Φ0 w.params).T w (Gh.at W s.heap s.os) W' st' s'.heap->s'.gens= #[]->s'.os=s.os->Rep (Φ0 w.params).T W' v x->P v st'->Q (.ok (.ret x)) s'):
  codeAny (model pw w) A (.call (.ref ((Φ0 w.params).fn 135)) ⟨vals,[]⟩) Q s:=by
 have H:=f8n w.params;obtain⟨fd,body,args,hd,hb⟩:=d4f (F:=⟨1,12,kT.body⟩) (d8h w.params) rfl (λe=>ff e)
 exact b3x H hd (b8q H 320 (by decide)) hh (by omega) (by omega) ⟨by omega,by omega⟩ hg B hK (.inl r) rfl h (λ_ C=>e0c C hb) q0
end Mx
namespace Mx
open PySem PySem.W PySem.Calls PyProof.Rows Mine
end Mx
namespace Mine
open PySem PySem.W PySem.Calls PySem.Challenge PyProof.Rows Mx
theorem f6e (P:Params):(b1a.all λa=>(t8 P a).isSome)=true:=by kernel_rfl
theorem f4j {P:Params} {a:Addr} {o:Obj} (h:(gX P).lookup a=some o):t8 P a=some o:=by
 have k:=f6e P;unfold gX at h;generalize b1a=l at*
 induction l with
 |nil=>cases h
 |cons b l ih=>
  rw [List.all_cons]at k;have k2:=(b2 k).2;have k1:=(b2 k).1;rw [List.map_cons,List.lookup_cons]at h;split at h
  ·rename_i q;cases h;rw [beq_iff_eq.mp q];obtain⟨o,ho⟩:=Option.isSome_iff_exists.mp k1;rw [ho];rfl
  ·exact ih h k2
theorem a7z {T:Tb} {W:Wd} {P:Params} {h:Heap} {ns:List Int}:∀{us:List Value},WellAll P h us (ns.map .int)->aL T W (ns.map .int) us:=by
 induction ns with
 |nil=>intro us x;cases x;exact .nil
 |cons n ns ih=>intro us x;cases x with|cons a b=>cases a with|int i t=>exact .cons .int (ih b)
theorem c2n {r:Nat} {c:Cell}:¬aQ (S0 none none none [none,none]) r=some c:=λh=>by
 have e:aD ((List.replicate 22 none:aB)) r=some (some c):=gG h;exact nomatch List.eq_of_mem_replicate (i0 e)
theorem f9i {args:List WData} (h:cl0.pre args=true):∃ns:List Int,args=[.list (ns.map .int)]/\ns.length<=63:=by
 obtain⟨hsh,hp⟩:=pre_splitW h;obtain⟨d,r,rfl,hd,hr⟩:=hasAllW_cons hsh;obtain rfl:=hasAllW_nil hr;obtain⟨xs,rfl,hi⟩:=hasW_list hd;obtain⟨ns,rfl⟩:=items_int hi;refine⟨ns,rfl,?_⟩
 clear hsh hd hr hi h
 rcases Nat.lt_or_ge 63 ns.length with q|q
 ·simp [rw_rh0145_01,OpenLaw.row,OpenLaw.pre,WTm.holds,WTm.value,less?,Num.less?,show(63:Int) <(ns.length:Int) from by omega]at hp
 ·exact q
theorem c6o {P:Params} {h:Heap} {l:List WData} {vs:List Value} (x:WellAll P h vs [.list l]):∃a us,vs=[.ref a]/\h.get? a=some (c5 us 0)/\WellAll P h us l:=by
 cases x with
 |cons h1 h2=>
  cases h2;cases h1 with
  | @list a us _ hga hw=>exact⟨a,us,rfl,hga,hw⟩
section
variable {P:Params} {s:Shared} {a b:Addr} {us:List Value} {o:Obj}
noncomputable def d0h (P:Params) (a:Addr) (us:List Value) (b:Addr):Option Obj:=if b=a then some (c5 us 0)else(Φ0 P).K.lookup b
theorem d4u (hK:∀b o,(Φ0 P).K.lookup b=some o->s.heap.get? b=some o) (hga:s.heap.get? a=some (c5 us 0)) (e:d0h P a us b=some o):s.heap.get? b=some o:=
 (Classical.em (b=a)).elim (λq=>q▸hga.trans ((if_pos q).symm.trans e)) λq=>hK b o ((if_neg q).symm.trans e)
theorem e2a (hK:∀b o,(Φ0 P).K.lookup b=some o->s.heap.get? b=some o) (hga:s.heap.get? a=some (c5 us 0)) (e:(Φ0 P).K.lookup b=some o):d0h P a us b=some o:=
 (Classical.em (b=a)).elim (λq=>(if_pos q).trans (hga.symm.trans (q▸hK b o e))) λq=>(if_neg q).trans e
end
theorem f5v {w:World} {s:Shared} {F:Addr->Option Obj} (f:∀b o,F b=some o->s.heap.get? b=some o):
  Base (Φ0 w.params).T w (Gh.at ⟨F,λ_=>none⟩ s.heap s.os) ⟨F,λ_=>none⟩ (S0 none none none [none,none]) s.heap:=
 ⟨.refl _,λ_ _ e=>.inl e,λ_ _ e=>.inl e,λ_ _ e _=>e,f,λ_ _ e=>absurd e c2n,λ_ _ e=>(nomatch e),λ_ _ _ e=>(nomatch e),λ_ _ e=>(nomatch e)⟩
theorem g0w {P:Params}:(Φ0 P).fn 135=1754:=by show(aD fnL 135).getD 0=1754;decide+kernel
theorem walkT:d2y:=by
 intro w s₀ s₁ hG hg args vs as hpre hlay hrd hwell hsys
 clear hlay hrd hsys
 obtain⟨ns,rfl,hlen⟩:=f9i hpre
 clear hpre
 obtain⟨a,us,rfl,hga,hw⟩:=c6o hwell
 clear hwell
 have hK:∀b o,(Φ0 w.params).K.lookup b=some o->s₁.heap.get? b=some o:=λb o e=>hG b o (f4j e)
 have R:aL (Φ0 w.params).T ⟨d0h w.params a us,λ_=>none⟩ [.lst (ns.map .int)] [.ref a]:=
  .cons (.lst (n:=0) (Nat.le_trans (Nat.le_of_eq ((a7z (T:=(Φ0 w.params).T) (W:=⟨λ_=>none,λ_=>none⟩) hw).length.symm.trans (List.length_map _))) (Nat.le_trans hlen (by decide))) (if_pos rfl) (a7z hw)) .nil
 have e {Q:Result->Shared->Prop}:=c3q (w:=w) (Q:=Q) (P:=λv _=>v=.bool true) (A:=callerA) (s:=s₁) rfl (by decide) (by decide) hg (f5v λb o=>d4u hK hga) (λb o=>e2a hK hga) R (d8w (n:=10) (K:=λv _=>v=.bool true) ns (λ_=>rfl))
 rw [g0w]at e;refine wpAny_call (e λ{v x W' st' s'} B' hg' hos rv hv=> ?_)
 subst hv;cases rv;exact⟨.inl ⟨_,.bool true,[],rfl,λ_=>rfl,.bool true,by kernel_rfl,λ_=>⟨List.nodup_nil,λa ha=>(nomatch ha)⟩⟩,λb o e=>B'.keep b o e (λq e=>(nomatch e)),hos,hg'⟩
end Mine
end
theorem PySem.Challenge.cw_rh0145_01_holds : PySem.Challenge.rw_rh0145_01.Holds := by
 exact Mine.law_holds Mine.walkT