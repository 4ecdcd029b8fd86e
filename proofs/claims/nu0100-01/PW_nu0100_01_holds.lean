import PyProof.Rows.All
import Wide.All
import OpenK.AllK
import Wide.FinOn
import KE.KItemsList
import KE.KxStill
import PyProof.AttrMissHeap
import KE.KIntText
import Lean
import PySem.Challenge.RW_nu0100_01
set_option Elab.async false
set_option maxRecDepth 1000000
set_option maxHeartbeats 8000000
set_option linter.all false
noncomputable section
section
open PySem
set_option genInjectivity false
set_option genSizeOf false
namespace Mine
inductive PT where
 | nil
 | node (v:Option (Nat×Obj)) (l r:PT)
namespace PT
noncomputable def zga:Nat->Nat->List Bool
 | 0,_=>[]
 | n+1,a=>match Nat.beq a 0 with
  | true=>[]
  | false=>Nat.beq (a % 2) 1::zga n (a / 2)
noncomputable def val:PT->Option (Nat×Obj)
 | .nil=>none
 | .node v _ _=>v
noncomputable def kid (t:PT) (b:Bool):PT:=match t with
 | .nil=>.nil
 | .node _ l r=>match b with
  | true=>l
  | false=>r
noncomputable def gp:PT->List Bool->Nat->Option Obj
 | t,[],a=>t.val.bind fun x=>match Nat.beq x.1 a with
  | true=>some x.2
  | false=>none
 | t,b::p,a=>gp (t.kid b) p a
noncomputable def pp:PT->List Bool->Nat×Obj->PT
 | t,[],x=>.node (some x) (t.kid true) (t.kid false)
 | t,b::p,x=>match b with
  | true=>.node t.val (pp (t.kid true) p x) (t.kid false)
  | false=>.node t.val (t.kid true) (pp (t.kid false) p x)
def get (t:PT) (a:Nat):Option Obj:=gp t (zga 40 a) a
def put (_:Nat) (t:PT) (a:Nat) (o:Obj):PT:=pp t (zga 40 a) (a,o)
theorem eq_548 {a:Nat} {x:Obj}:∀(c:Bool) (p:List Bool),gp .nil (c::p) a≠some x
 | _,[]=>fun q=>nomatch q
 | _,d::p=>eq_548 d p
theorem eq_781 (a:Nat) (o:Obj):∀(p:List Bool) (t:PT),gp (pp t p (a,o)) p a=some o
 | [],t=>by show (match Nat.beq a a with | true=>some o | false=>none)=some o;rw [Nat.beq_refl]
 | true::p,t=>eq_781 a o p _
 | false::p,t=>eq_781 a o p _
theorem eq_782 {a b:Nat} {o x:Obj} (n:b≠a):∀(p q:List Bool) (t:PT),gp (pp t p (a,o)) q b=some x->gp t q b=some x
 | [],[],t,h=>by
  have h:(match Nat.beq a b with | true=>some o | false=>none)=some x:=h
  cases e:Nat.beq a b with
  | true=>exact absurd (Nat.eq_of_beq_eq_true e).symm n
  | false=>rw [e] at h;cases h
 | [],true::q,t,h=>h
 | [],false::q,t,h=>h
 | true::p,[],t,h=>h
 | false::p,[],t,h=>h
 | true::p,true::q,t,h=>eq_782 n p q _ h
 | true::p,false::q,t,h=>h
 | false::p,true::q,t,h=>h
 | false::p,false::q,t,h=>eq_782 n p q _ h
theorem get_put (n:Nat) (t:PT) (a:Nat) (o:Obj) (b:Nat) (x:Obj) (h:(put n t a o).get b=some x):(b=a/\x=o)∨(b≠a/\t.get b=some x):=by
 by_cases e:b=a
 ·subst e
  exact .inl ⟨rfl,Option.some.inj (h.symm.trans (eq_781 b o _ _))⟩
 ·exact .inr ⟨e,eq_782 e _ _ _ h⟩
noncomputable def puts:PT->List (Nat×Obj)->PT
 | t,[]=>t
 | t,q::l=>puts (t.put 40 q.1 q.2) l
def of (l:List (Nat×Obj)):PT:=puts .nil l
theorem get_puts:∀(l:List (Nat×Obj)) (t:PT) (b:Nat) (x:Obj),(puts t l).get b=some x->(∃q∈l,q.1=b/\q.2=x)∨((∀q∈l,q.1≠b)/\t.get b=some x)
 | [],_,_,_,h=>.inr ⟨fun _ hq=>(nomatch hq),h⟩
 | q::l,t,b,x,h=>by
  rcases get_puts l _ b x h with ⟨r,hr,e⟩ | ⟨hn,e⟩
  ·exact .inl ⟨r,List.mem_cons_of_mem _ hr,e⟩
  ·rcases get_put 40 t q.1 q.2 b x e with ⟨e1,e2⟩ | ⟨e1,e2⟩
   ·exact .inl ⟨q,List.mem_cons_self ..,e1.symm,e2.symm⟩
   ·refine .inr ⟨fun r hr=>?_,e2⟩
    cases hr with
    | head=>exact fun e=>e1 e.symm
    | tail _ hr=>exact hn r hr
theorem get_of {l:List (Nat×Obj)} {b:Nat} {x:Obj} (h:(of l).get b=some x):∃q∈l,q.1=b/\q.2=x:=by
 rcases get_puts l .nil b x h with e | ⟨_,e⟩
 ·exact e
 ·exact absurd e (by unfold get;cases zga 40 b with | nil=>exact fun q=>nomatch q | cons c p=>exact eq_548 _ _)
end PT
structure KF where
 k:Result->Sem Fin
 ctx:Ctx
 pos:Pos
inductive Res where
 | ok (f:Flow)
 | err (e:Value)
 | again (c:Code)
structure y6 where
 code:Code
 ctx:Ctx
 pos:Pos
 pre:List (Nat×Obj)
 sz:Nat
 tk:Nat
 res:Result
 post:List (Nat×Obj)
 sz':Nat
 tk':Nat
def zv (l:List (Nat×Obj)) (a:Nat):Bool:=l.any fun q=>Nat.beq q.1 a
def y6.ok (A:y6):Bool:=A.pre.all (fun q=>zv A.post q.1)&&A.post.all (fun q=>zv A.pre q.1||Nat.ble A.sz q.1)&&Nat.ble A.sz A.sz'
inductive Eqn where
 | tree (Γ₁:Ctx) (p₁:Pos) (t₁:Sem Fin) (Γ₂:Ctx) (p₂:Pos) (t₂:Sem Fin)
 | call (Γ:Ctx) (p:Pos) (c:Code) (os:List (Option Obj)) (A:y6)
def Eqn.Ok:Eqn->Prop
 | .tree Γ₁ p₁ t₁ Γ₂ p₂ t₂=>Γ₁=Γ₂/\p₁=p₂/\t₁=t₂
 | .call Γ p c os A=>Γ=A.ctx/\p=A.pos/\c=A.code/\os=A.pre.map fun q=>some q.2
set_option genInjectivity true in
inductive Q4 where
 | nil
 | tree (Γ:Ctx) (p:Pos) (t:Sem Fin) (r:Q4)
 | call (Γ:Ctx) (p:Pos) (c:Code) (os:List (Option Obj)) (r:Q4)
def zaG:List Eqn->Q4
 | []=>.nil
 | .tree Γ p t _ _ _::r=>.tree Γ p t (zaG r)
 | .call Γ p c os _::r=>.call Γ p c os (zaG r)
def Yv:List Eqn->Q4
 | []=>.nil
 | .tree _ _ _ Γ p t::r=>.tree Γ p t (Yv r)
 | .call _ _ _ _ A::r=>.call A.ctx A.pos A.code (A.pre.map fun q=>some q.2) (Yv r)
theorem eq_797:∀{l:List Eqn},zaG l=Yv l->∀x∈l,x.Ok
 | [],_,_,hx=>nomatch hx
 | .tree Γ p t Γ' p' t'::r,h,x,hx=>by
  simp only [zaG,Yv,Q4.tree.injEq] at h
  cases hx with
  | head=>exact ⟨h.1,h.2.1,h.2.2.1⟩
  | tail _ hx=>exact eq_797 h.2.2.2 x hx
 | .call Γ p c os A::r,h,x,hx=>by
  simp only [zaG,Yv,Q4.call.injEq] at h
  cases hx with
  | head=>exact ⟨h.1,h.2.1,h.2.2.1,h.2.2.2.1⟩
  | tail _ hx=>exact eq_797 h.2.2.2.2 x hx
structure Out where
 res:Res
 ctx:Ctx
 pos:Pos
 kn:PT
 sz:Nat
 tk:Nat
 acc:List Eqn
structure RV where
 den:Code->Sem Fin
 prog:Program
 w:World
 row1:String
 row2:String
 m1:Nat
 m2:Nat
noncomputable def bt {α:Type} (b:Bool) (x:Option α):Option α:=match b with
 | true=>x
 | false=>none
theorem eq_911 {α:Type} {b:Bool} {x:Option α} {y:α} (h:bt b x=some y):b=true/\x=some y:=by
 cases b
 ·cases h
 ·exact ⟨rfl,h⟩
noncomputable def bf {α:Type} (b:Bool) (x:Option α):Option α:=match b with
 | true=>none
 | false=>x
theorem eq_767 {α:Type} {b:Bool} {x:Option α} {y:α} (h:bf b x=some y):b=false/\x=some y:=by
 cases b
 ·exact ⟨rfl,h⟩
 ·cases h
noncomputable def ot {α β:Type} (o:Option α) (f:α->Option β):Option β:=match o with
 | some a=>f a
 | none=>none
theorem eq_918 {α β:Type} {o:Option α} {f:α->Option β} {y:β} (h:ot o f=some y):∃a,o=some a/\f a=some y:=by
 cases o with
 | none=>cases h
 | some a=>exact ⟨a,rfl,h⟩
noncomputable def sel4 {α:Type} (n:Nat) (a b c d:α):α:=match n with
 | 0=>a
 | 1=>b
 | 2=>c
 | _=>d
theorem eq_537 {α:Type} {P:α->Prop} {n:Nat} {a b c d:α} (h:P (sel4 n a b c d)):P a∨P b∨P c∨P d:=by
 match n,h with
 | 0,h=>exact .inl h
 | 1,h=>exact .inr (.inl h)
 | 2,h=>exact .inr (.inr (.inl h))
 | _+3,h=>exact .inr (.inr (.inr h))
noncomputable def qk (V:RV) (T:PT) (b:Bool):Nat->Ctx->Pos->Sem Fin->Option (Ctx×Pos×Sem Fin)
 | 0,Γ,p,t=>some (Γ,p,t)
 | n+1,Γ,p,t=>match t with
  | .pure fin=>match fin with
   | .again c=>bt b (bt c.quiet (qk V T b n (Γ.goto c) p (V.den c)))
   | .done _=>none
  | .rule _ k=>qk V T b n Γ p (k ())
  | .at q k=>qk V T b n Γ q (k ())
  | .point _ k=>qk V T b n Γ p (k ())
  | .ask k=>qk V T b n Γ p (k ⟨V.prog,V.w.params⟩)
  | .load a _ k=>ot (T.get a) fun o=>qk V T b n Γ p (k o)
  | _=>none
def ZH:List KF->Bool
 | []=>false
 | _::_=>true
def Z5 (V:RV) (T:PT) (b:Bool) (row:String) (n₁ n₂:Nat) (Γ:Ctx) (p:Pos) (k:Setting->Sem Fin):Option ((Ctx×Pos×Sem Fin)×(Ctx×Pos×Sem Fin)):=
 ot (qk V T b n₁ Γ p (k ⟨V.prog,(V.w.withFollow row true).params⟩)) fun x=>ot (qk V T b n₂ Γ p (k ⟨V.prog,(V.w.withFollow row false).params⟩)) fun y=>some (x,y)
def zbA (x:Option ((Ctx×Pos×Sem Fin)×(Ctx×Pos×Sem Fin))) (f:Ctx->Pos->Sem Fin->Eqn->Option Out):Option Out:=ot x fun x=>f x.1.1 x.1.2.1 x.1.2.2 (.tree x.1.1 x.1.2.1 x.1.2.2 x.2.1 x.2.2.1 x.2.2.2)
noncomputable def zj (V:RV):Nat->Ctx->Pos->List KF->Option Nat->Sem Fin->PT->Nat->Nat->Nat->List (Nat×y6)->List Eqn->Option Out
 | 0,_,_,_,_,_,_,_,_,_,_,_=>none
 | n+1,Γ,p,κ,st,t,T,sz,tk,hs,as,acc=>match t with
  | .pure fin=>match fin with
   | .done f=>match κ with
    | []=>some ⟨.ok f,Γ,p,T,sz,tk,acc⟩
    | F::κ=>zj V n F.ctx F.pos κ st (F.k (.ok f)) T sz tk hs as acc
   | .again c=>bt c.quiet (match κ with
     | []=>match st with
      | none=>none
      | some j=>match j with
       | 0=>some ⟨.again c,Γ,p,T,sz,tk,acc⟩
       | j+1=>zj V n (Γ.goto c) p [] (some j) (V.den c) T sz tk hs as acc
     | F::κ=>zj V n (Γ.goto c) p (F::κ) st (V.den c) T sz tk hs as acc)
  | .raise e=>match κ with
   | []=>some ⟨.err e,Γ,p,T,sz,tk,acc⟩
   | F::κ=>zj V n F.ctx F.pos κ st (F.k (.error e)) T sz tk hs as acc
  | .rule _ k=>zj V n Γ p κ st (k ()) T sz tk hs as acc
  | .at q k=>zj V n Γ q κ st (k ()) T sz tk hs as acc
  | .point _ k=>zj V n Γ p κ st (k ()) T sz tk hs as acc
  | .load a _ k=>ot (T.get a) fun o=>zj V n Γ p κ st (k o) T sz tk hs as acc
  | .loadIfAlive a k=>ot (T.get a) fun o=>zj V n Γ p κ st (k (some o)) T sz tk hs as acc
  | .update a _ f k=>ot (T.get a) fun o=>bf (f o).isFreed (zj V n Γ p κ st (k ()) (T.put 40 a (f o)) sz tk hs as acc)
  | .alloc o k=>bf o.isFreed (zj V n Γ p κ st (k sz) (T.put 40 sz o) (Nat.succ sz) tk hs as acc)
  | .fresh k=>zj V n Γ p κ st (k tk) T sz (Nat.succ tk) hs as acc
  | .handled own k=>zj V n Γ p κ st (k (match own with | true=>Γ.own | false=>Γ.handled)) T sz tk hs as acc
  | .stack k=>zj V n Γ p κ st (k ((Γ.code,p)::Γ.below)) T sz tk hs as acc
  | .ask k=>sel4 (hs % 4) (zj V n Γ p κ st (k ⟨V.prog,V.w.params⟩) T sz tk (hs / 4) as acc)
    (zbA (Z5 V T (ZH κ) V.row1 0 0 Γ p k) fun Γ p t e=>zj V n Γ p κ st t T sz tk (hs / 4) as (e::acc))
    (zbA (Z5 V T (ZH κ) V.row1 1 1 Γ p k) fun Γ p t e=>zj V n Γ p κ st t T sz tk (hs / 4) as (e::acc))
    (zbA (Z5 V T (ZH κ) V.row2 V.m1 V.m2 Γ p k) fun Γ p t e=>zj V n Γ p κ st t T sz tk (hs / 4) as (e::acc))
  | .call c h _ _ k=>match as with
   | []=>zj V n (Γ.enter c h p) p (⟨k,Γ,p⟩::κ) st (V.den c) T sz tk hs [] acc
   | x::as=>match x.1 with
    | 0=>bt (Nat.beq x.2.sz sz) (bt (Nat.beq x.2.tk tk) (bt x.2.ok (zj V n Γ p κ st (k x.2.res) (T.puts x.2.post) x.2.sz' x.2.tk' hs as (.call (Γ.enter c h p) p c (x.2.pre.map fun q=>T.get q.1) x.2::acc))))
    | j+1=>zj V n (Γ.enter c h p) p (⟨k,Γ,p⟩::κ) st (V.den c) T sz tk hs ((j,x.2)::as) acc
  | _=>none
structure yk where
 life:Life
 gens:Array GenState
 drawn:Drawn
 os:OsState
structure yN (h₀:Heap) (T₀:PT) (R:yk) (T:PT) (sz tk:Nat) (s:Shared):Prop where
 size:s.heap.objs.size=sz
 toks:s.toks=tk
 kn:∀a o,T.get a=some o->s.heap.get? a=some o
 keep:∀a o,h₀.get? a=some o->T₀.get a=none->s.heap.get? a=some o
 tr:∀a o,T.get a=some o->T₀.get a=none->h₀.objs.size<=a
 old:h₀.objs.size<=sz
 life:s.heap.life=R.life
 gens:s.gens=R.gens
 drawn:s.drawn=R.drawn
 os:s.os=R.os
def Qof (M:Model) (Q₀:Ctx->Fin->Pos->Shared->Prop) (E₀:Value->Pos->Shared->Prop):List KF->(Ctx->Fin->Pos->Shared->Prop)×(Value->Pos->Shared->Prop)
 | []=>(Q₀,E₀)
 | F::κ=>
  let R:Result->Shared->Prop:=fun r s'=>Sem.wp M F.ctx (F.k r) ((Qof M Q₀ E₀ κ).1 F.ctx) (Qof M Q₀ E₀ κ).2 F.pos s'
  (fun Γ=>Sem.finPost M Γ R,fun e _ s'=>R (.error e) s')
abbrev GK (M:Model) (Q₀:Ctx->Fin->Pos->Shared->Prop) (E₀:Value->Pos->Shared->Prop) (κ:List KF) (Γ:Ctx) (t:Sem Fin) (p:Pos) (s:Shared):Prop:=
 Sem.wp M Γ t ((Qof M Q₀ E₀ κ).1 Γ) (Qof M Q₀ E₀ κ).2 p s
def zel (Q₀:Ctx->Fin->Pos->Shared->Prop) (E₀:Value->Pos->Shared->Prop) (o:Out) (s:Shared):Prop:=match o.res with
 | .ok f=>Q₀ o.ctx (.done f) o.pos s
 | .err e=>E₀ e o.pos s
 | .again c=>c.quiet=true->Q₀ o.ctx (.again c) o.pos s
theorem q8 (h:Heap) (a:Addr) (f:Obj->Obj):(h.update a f).life=h.life:=by cases h;rfl
theorem ZI (h:Heap) (o:Obj):(h.push o).life=h.life:=by cases h;rfl
section
variable {h₀:Heap} {T₀:PT} {R:yk} {T:PT} {sz tk:Nat} {s:Shared}
theorem yN.upd (D:yN h₀ T₀ R T sz tk s) {a:Addr} {o:Obj} {f:Obj->Obj} (e:T.get a=some o) (hf:(f o).isFreed=false):yN h₀ T₀ R (T.put 40 a (f o)) sz tk { s with heap:=s.heap.update a f }:=by
 have key:∀b x,(T.put 40 a (f o)).get b=some x->(s.heap.update a f).get? b=some x/\(T₀.get b=none->h₀.objs.size<=b):=fun b x hx=>by
  rcases PT.get_put 40 T a (f o) b x hx with ⟨rfl,rfl⟩ | ⟨hb,hx⟩
  ·exact ⟨Heap.get?_update_self f (D.kn _ _ e) hf,D.tr _ _ e⟩
  ·exact ⟨(Heap.get?_update_ne _ _ _ _ hb).trans (D.kn _ _ hx),D.tr _ _ hx⟩
 refine ⟨by show (s.heap.update a f).objs.size=sz;rw [PySem.Heap.size_update];exact D.size,D.toks,fun b x hx=>(key b x hx).1,fun b x hx hn=>?_,fun b x hx=>(key b x hx).2,D.old,by show (s.heap.update a f).life=_;rw [q8];exact D.life,D.gens,D.drawn,D.os⟩
 have hb:b≠a:=by
  rintro rfl
  exact absurd (Heap.lt_size hx) (Nat.not_lt.mpr (D.tr _ _ e hn))
 exact (Heap.get?_update_ne _ _ _ _ hb).trans (D.keep _ _ hx hn)
theorem yN.alloc (D:yN h₀ T₀ R T sz tk s) {o:Obj} (hf:o.isFreed=false):yN h₀ T₀ R (T.put 40 sz o) (Nat.succ sz) tk { s with heap:=s.heap.push o }:=by
 have key:∀b x,(T.put 40 sz o).get b=some x->(s.heap.push o).get? b=some x/\(T₀.get b=none->h₀.objs.size<=b):=fun b x hx=>by
  rcases PT.get_put 40 T sz o b x hx with ⟨rfl,rfl⟩ | ⟨hb,hx⟩
  ·have:=Heap.get?_push_size s.heap hf
   rw [D.size] at this
   exact ⟨this,fun _=>D.old⟩
  ·exact ⟨Heap.get?_push_of_some _ (D.kn _ _ hx),D.tr _ _ hx⟩
 exact ⟨by show (s.heap.push o).objs.size=_;rw [Heap.size_push,D.size],D.toks,fun b x hx=>(key b x hx).1,fun b x hx hn=>Heap.get?_push_of_some _ (D.keep _ _ hx hn),fun b x hx=>(key b x hx).2,Nat.le_succ_of_le D.old,
  by show (s.heap.push o).life=_;rw [ZI];exact D.life,D.gens,D.drawn,D.os⟩
theorem yN.fresh (D:yN h₀ T₀ R T sz tk s):yN h₀ T₀ R T sz (Nat.succ tk) { s with toks:=s.toks+1 }:=
 ⟨D.size,by show s.toks+1=_;rw [D.toks],D.kn,D.keep,D.tr,D.old,D.life,D.gens,D.drawn,D.os⟩
theorem eq_803 {V:RV} {M:Model} (hden:M.den=V.den) (hprog:M.prog=V.prog) (hw:M.w=V.w) {Q:Ctx->Fin->Pos->Shared->Prop} {E:Value->Pos->Shared->Prop} {b:Bool}
  (hQ:b=true->∀Γ c p s,c.quiet=true->Sem.wp M (Γ.goto c) (M.den c) (Q (Γ.goto c)) E p s->Q Γ (.again c) p s) (D:yN h₀ T₀ R T sz tk s) :
  ∀(m:Nat) (Γ:Ctx) (p:Pos) (t:Sem Fin) (x:Ctx×Pos×Sem Fin),qk V T b m Γ p t=some x->Sem.wp M x.1 x.2.2 (Q x.1) E x.2.1 s->Sem.wp M Γ t (Q Γ) E p s
 | 0,Γ,p,t,x,h,y=>by cases h;exact y
 | m+1,Γ,p,t,x,h,y=>by
  have ih:=fun Γ p t h=>eq_803 hden hprog hw hQ D m Γ p t x h y
  cases t with
  | pure fin=>cases fin with
   | done f=>cases h
   | again c=>
    obtain ⟨hb,h⟩:=eq_911 h
    obtain ⟨q,h⟩:=eq_911 h
    exact hQ hb Γ c p s q (hden▸ih _ _ _ h)
  | rule tag k=>exact ih Γ p (k ()) h
  | «at» q k=>exact ih Γ q (k ()) h
  | point l k=>exact ih Γ p (k ()) h
  | ask k=>rw [Sem.wp_ask,hprog,hw];exact ih Γ p _ h
  | load a q k=>
   obtain ⟨o,e,h⟩:=eq_918 h
   rw [Sem.wp_load]
   exact ⟨o,D.kn _ _ e,ih _ _ _ h⟩
  | _=>cases h
theorem eq_57 {V:RV} {M:Model} (hden:M.den=V.den) (hprog:M.prog=V.prog) (hw:M.w=V.w) {Q:Ctx->Fin->Pos->Shared->Prop} {E:Value->Pos->Shared->Prop} {b:Bool}
  (hQ:b=true->∀Γ c p s,c.quiet=true->Sem.wp M (Γ.goto c) (M.den c) (Q (Γ.goto c)) E p s->Q Γ (.again c) p s) (D:yN h₀ T₀ R T sz tk s) {row:String} {n₁ n₂:Nat} {Γ:Ctx} {p:Pos} {k:Setting->Sem Fin}
  {x:(Ctx×Pos×Sem Fin)×(Ctx×Pos×Sem Fin)} (h:Z5 V T b row n₁ n₂ Γ p k=some x) (e:(Eqn.tree x.1.1 x.1.2.1 x.1.2.2 x.2.1 x.2.2.1 x.2.2.2).Ok) (z:Sem.wp M x.1.1 x.1.2.2 (Q x.1.1) E x.1.2.1 s):Sem.wp M Γ (.ask k) (Q Γ) E p s:=by
 obtain ⟨y1,e1,h⟩:=eq_918 h
 obtain ⟨y2,e2,h⟩:=eq_918 h
 cases h
 rw [Sem.wp_ask,hprog,hw]
 have hself:=PySem.World.withFollow_self V.w row
 cases hb:V.w.params.followText row with
 | true=>
  rw [hb] at hself
  rw [hself] at e1
  exact eq_803 hden hprog hw hQ D _ _ _ _ _ e1 z
 | false=>
  rw [hb] at hself
  rw [hself] at e2
  have a1:y1.1=y2.1:=e.1
  have a2:y1.2.1=y2.2.1:=e.2.1
  have a3:y1.2.2=y2.2.2:=e.2.2
  refine eq_803 hden hprog hw hQ D _ _ _ _ _ e2 ?_
  rw [← a1,← a2,← a3]
  exact z
structure StL (R:yk) (L:List (Nat×Obj)) (sz tk:Nat) (s:Shared):Prop where
 size:s.heap.objs.size=sz
 toks:s.toks=tk
 kn:∀q∈L,s.heap.get? q.1=some q.2
 life:s.heap.life=R.life
 gens:s.gens=R.gens
 drawn:s.drawn=R.drawn
 os:s.os=R.os
def Q7 (L:List (Nat×Obj)) (s s':Shared):Prop:=∀a o,s.heap.get? a=some o->(∀q∈L,q.1≠a)->s'.heap.get? a=some o
def y6.Valid (M:Model) (R:yk) (A:y6):Prop:=
 ∀(P:Result->Shared->Prop) (s:Shared),StL R A.pre A.sz A.tk s->(∀s',StL R A.post A.sz' A.tk' s'->Q7 A.pre s s'->P A.res s')->wpCode M A.ctx P A.pos s
theorem xy {l:List (Nat×Obj)} {a:Nat}:zv l a=true↔∃q∈l,q.1=a:=by
 unfold zv
 rw [List.any_eq_true]
 constructor
 ·rintro ⟨q,hq,e⟩;exact ⟨q,hq,Nat.eq_of_beq_eq_true e⟩
 ·rintro ⟨q,hq,e⟩;exact ⟨q,hq,by rw [e];exact Nat.beq_refl a⟩
theorem yN.start {L:List (Nat×Obj)} (x:StL R L sz tk s):yN s.heap (PT.of L) R (PT.of L) sz tk s:=
 ⟨x.size,x.toks,(fun a o h=>by obtain ⟨q,hq,rfl,rfl⟩:=PT.get_of h;exact x.kn q hq),(fun _ _ h _=>h),(fun a o h h'=>by rw [h] at h';cases h'),(by rw [x.size];exact Nat.le_refl _),x.life,x.gens,x.drawn,x.os⟩
theorem yN.pre (D:yN h₀ T₀ R T sz tk s) {L:List (Nat×Obj)} (e:(L.map (fun q=>T.get q.1))=L.map fun q=>some q.2):∀q∈L,T.get q.1=some q.2:=by
 intro q hq
 induction L with
 | nil=>cases hq
 | cons r L ih=>
  simp only [List.map_cons,List.cons.injEq] at e
  cases hq with
  | head=>exact e.1
  | tail _ hq=>exact ih e.2 hq
theorem yN.answer (D:yN h₀ T₀ R T sz tk s) {A:y6} (hk:A.ok=true) (e1:A.sz=sz) (e:(A.pre.map (fun q=>T.get q.1))=A.pre.map fun q=>some q.2) {s':Shared} (x:StL R A.post A.sz' A.tk' s') (k:Q7 A.pre s s') :
  yN h₀ T₀ R (T.puts A.post) A.sz' A.tk' s':=by
 unfold y6.ok at hk
 simp only [Bool.and_eq_true,List.all_eq_true,Bool.or_eq_true] at hk
 obtain ⟨⟨k1,k2⟩,k3⟩:=hk
 have pre:=D.pre e
 have key:∀b y,(T.puts A.post).get b=some y->s'.heap.get? b=some y/\(T₀.get b=none->h₀.objs.size<=b):=fun b y h=>by
  rcases PT.get_puts _ _ _ _ h with ⟨q,hq,rfl,rfl⟩ | ⟨hn,h⟩
  ·refine ⟨x.kn q hq,fun hT=>?_⟩
   rcases k2 q hq with z | z
   ·obtain ⟨r,hr,er⟩:=xy.mp z
    exact D.tr _ _ (er▸pre r hr) hT
   ·exact Nat.le_trans D.old (e1▸Nat.le_of_ble_eq_true z)
  ·refine ⟨k b y (D.kn _ _ h) fun q hq hb=>?_,D.tr _ _ h⟩
   obtain ⟨r,hr,er⟩:=xy.mp (k1 q hq)
   exact hn r hr (er.trans hb)
 refine ⟨x.size,x.toks,fun b y h=>(key b y h).1,fun b y h hT=>k b y (D.keep _ _ h hT) fun q hq hb=>?_,fun b y h=>(key b y h).2,Nat.le_trans D.old (e1▸Nat.le_of_ble_eq_true k3),x.life,x.gens,x.drawn,x.os⟩
 exact absurd (Heap.lt_size h) (Nat.not_lt.mpr (hb▸D.tr _ _ (pre q hq) (hb▸hT)))
theorem eq_491 (M:Model) (Q₀:Ctx->Fin->Pos->Shared->Prop) (E₀:Value->Pos->Shared->Prop) (κ:List KF) (hb:(ZH κ)=true) (Γ:Ctx) (c:Code) (p:Pos) (s:Shared) (q:c.quiet=true)
  (h:Sem.wp M (Γ.goto c) (M.den c) ((Qof M Q₀ E₀ κ).1 (Γ.goto c)) (Qof M Q₀ E₀ κ).2 p s):(Qof M Q₀ E₀ κ).1 Γ (.again c) p s:=by
 cases κ with
 | nil=>cases hb
 | cons F κ=>
  refine ⟨q,?_⟩
  rw [wpCode_iff_wp]
  exact h
theorem eq_849 {V:RV}:∀(n:Nat) (Γ:Ctx) (p:Pos) (κ:List KF) (st:Option Nat) (t:Sem Fin) (T:PT) (sz tk:Nat) (hs:Nat) (as:List (Nat×y6)) (acc:List Eqn) (o:Out),
   zj V n Γ p κ st t T sz tk hs as acc=some o->∀x∈acc,x∈o.acc
 | 0,_,_,_,_,_,_,_,_,_,_,_,_,h=>nomatch h
 | n+1,Γ,p,κ,st,t,T,sz,tk,hs,as,acc,o,h=>by
  have ih:=fun {Γ p κ st t T sz tk hs as}=>eq_849 (V:=V) n Γ p κ st t T sz tk hs as acc o
  have ih':=fun {e Γ p κ st t T sz tk hs as} (h:zj V n Γ p κ st t T sz tk hs as (e::acc)=some o) x (hx:x∈acc)=>eq_849 n Γ p κ st t T sz tk hs as (e::acc) o h x (List.mem_cons_of_mem _ hx)
  have two:∀{x κ st T sz tk hs as},(zbA x fun Γ p t e=>zj V n Γ p κ st t T sz tk hs as (e::acc))=some o->∀x∈acc,x∈o.acc:=fun h=>(eq_918 h).elim fun _ h=>ih' h.2
  cases t with
  | pure fin=>cases fin with
   | done f=>cases κ with
    | nil=>cases h;exact fun _ x=>x
    | cons F κ=>exact ih h
   | again c=>
    have h:=(eq_911 h).2
    cases κ with
    | nil=>cases st with
     | none=>cases h
     | some j=>cases j with
      | zero=>cases h;exact fun _ x=>x
      | succ j=>exact ih h
    | cons F κ=>exact ih h
  | raise e=>cases κ with
   | nil=>cases h;exact fun _ x=>x
   | cons F κ=>exact ih h
  | rule tag k=>exact ih h
  | «at» q k=>exact ih h
  | point l k=>exact ih h
  | load a q k=>exact (eq_918 h).elim fun _ h=>ih h.2
  | loadIfAlive a k=>exact (eq_918 h).elim fun _ h=>ih h.2
  | update a q f k=>exact (eq_918 h).elim fun _ h=>ih (eq_767 h.2).2
  | alloc ob k=>exact ih (eq_767 h).2
  | fresh k=>exact ih h
  | handled own k=>exact ih h
  | stack k=>exact ih h
  | ask k=>exact (eq_537 (P:=fun x=>x=some o) h).elim ih fun h=>h.elim two fun h=>h.elim two two
  | call c hd g l k=>cases as with
   | nil=>exact ih h
   | cons x as=>
    obtain ⟨j,A⟩:=x
    cases j with
    | succ j=>exact ih h
    | zero=>exact ih' (eq_911 (eq_911 (eq_911 h).2).2).2
  | _=>cases h
theorem eq_801 {V:RV} {M:Model} (hden:M.den=V.den) (hprog:M.prog=V.prog) (hw:M.w=V.w) {Q₀:Ctx->Fin->Pos->Shared->Prop} {E₀:Value->Pos->Shared->Prop} (mode:Bool)
  (hQ:mode=true->∀Γ c p s,c.quiet=true->Sem.wp M (Γ.goto c) (M.den c) (Q₀ (Γ.goto c)) E₀ p s->Q₀ Γ (.again c) p s) :
  ∀(n:Nat) (Γ:Ctx) (p:Pos) (κ:List KF) (st:Option Nat) (t:Sem Fin) (T:PT) (sz tk:Nat) (hs:Nat) (as:List (Nat×y6)) (acc:List Eqn) (o:Out) (s:Shared),
   (∀x∈as,x.2.Valid M R)->
   (st.isSome=true->mode=true)->zj V n Γ p κ st t T sz tk hs as acc=some o->(∀x∈o.acc,x.Ok)->yN h₀ T₀ R T sz tk s->
   (∀s',yN h₀ T₀ R o.kn o.sz o.tk s'->zel Q₀ E₀ o s')->GK M Q₀ E₀ κ Γ t p s
 | 0,_,_,_,_,_,_,_,_,_,_,_,_,_,_,_,h,_,_,_=>nomatch h
 | n+1,Γ,p,κ,st,t,T,sz,tk,hs,as,acc,o,s,hv,hm,h,ha,D,hO=>by
  have ih:=fun {Γ p κ st t T sz tk hs as acc s} hv hm h D=>eq_801 hden hprog hw mode hQ n Γ p κ st t T sz tk hs as acc o s hv hm h ha D hO
  cases t with
  | pure fin=>cases fin with
   | done f=>cases κ with
    | nil=>cases h;exact hO s D
    | cons F κ=>exact ih (t:=F.k (.ok f)) (Γ:=F.ctx) (p:=F.pos) (κ:=κ) hv hm h D
   | again c=>
    obtain ⟨q,h⟩:=eq_911 h
    cases κ with
    | nil=>cases st with
     | none=>cases h
     | some j=>cases j with
      | zero=>cases h;exact hO s D q
      | succ j=>exact hQ (hm rfl) Γ c p s q (hden▸ih hv (fun _=>hm rfl) h D)
    | cons F κ=>
     refine ⟨q,(wpCode_iff_wp ..).mpr ?_⟩
     show Sem.wp M (Γ.goto c) (M.den c) _ _ p s
     rw [hden]
     exact ih hv hm h D
  | raise e=>cases κ with
   | nil=>cases h;exact hO s D
   | cons F κ=>exact ih (t:=F.k (.error e)) (Γ:=F.ctx) (p:=F.pos) (κ:=κ) hv hm h D
  | rule tag k=>exact ih (t:=k ()) hv hm h D
  | «at» q k=>exact ih (t:=k ()) (p:=q) hv hm h D
  | point l k=>exact ih (t:=k ()) hv hm h D
  | load a q k=>
   obtain ⟨ob,e,h⟩:=eq_918 h
   rw [GK,Sem.wp_load];exact ⟨ob,D.kn _ _ e,ih hv hm h D⟩
  | loadIfAlive a k=>
   obtain ⟨ob,e,h⟩:=eq_918 h
   rw [GK,Sem.wp_loadIfAlive,D.kn _ _ e];exact ih hv hm h D
  | update a q f k=>
   obtain ⟨ob,e,h⟩:=eq_918 h
   obtain ⟨hf,h⟩:=eq_767 h
   rw [GK,Sem.wp_update];exact ⟨by rw [D.kn _ _ e];rfl,ih hv hm h (D.upd e hf)⟩
  | alloc ob k=>
   obtain ⟨hf,h⟩:=eq_767 h
   rw [GK,Sem.wp_alloc,D.size];exact ih hv hm h (D.alloc hf)
  | fresh k=>
   have z:=ih (t:=k tk) hv hm h D.fresh
   rw [GK,Sem.wp_fresh,D.toks];rw [D.toks] at z;exact z
  | handled own k=>
   have z:=ih (t:=k _) hv hm h D
   rw [GK,Sem.wp_handled];cases own<;>exact z
  | stack k=>exact ih (t:=k _) hv hm h D
  | ask k=>
   have two:∀{row n₁ n₂},(zbA (Z5 V T (ZH κ) row n₁ n₂ Γ p k) fun Γ p t e=>zj V n Γ p κ st t T sz tk (hs / 4) as (e::acc))=some o->GK M Q₀ E₀ κ Γ (.ask k) p s:=fun h=>by
    obtain ⟨x,e,h⟩:=eq_918 h
    exact eq_57 hden hprog hw (eq_491 M Q₀ E₀ κ) D e (ha _ (eq_849 _ _ _ _ _ _ _ _ _ _ _ _ _ h _ (List.mem_cons_self ..))) (ih hv hm h D)
   refine (eq_537 (P:=fun x=>x=some o) h).elim (fun h=>?_) fun h=>h.elim two fun h=>h.elim two two
   rw [GK,Sem.wp_ask,hprog,hw];exact ih hv hm h D
  | call c hd g l k=>
   have plain:∀{as'},(∀x∈as',x.2.Valid M R)->zj V n (Γ.enter c hd p) p (⟨k,Γ,p⟩::κ) st (V.den c) T sz tk hs as' acc=some o->GK M Q₀ E₀ κ Γ (.call c hd g l k) p s:=fun hv' h'=>by
    rw [GK,Sem.wp_call,wpCode_iff_wp]
    show Sem.wp M (Γ.enter c hd p) (M.den c) _ _ p s
    rw [hden]
    exact ih hv' hm h' D
   cases as with
   | nil=>exact plain hv h
   | cons x as=>
    obtain ⟨j,A⟩:=x
    have hv2:∀x∈as,x.2.Valid M R:=fun x hx=>hv x (List.mem_cons_of_mem _ hx)
    have va:A.Valid M R:=hv _ (List.mem_cons_self ..)
    cases j with
    | succ j=>exact plain (fun x hx=>by cases hx with | head=>exact va | tail _ hx=>exact hv2 x hx) h
    | zero=>
     obtain ⟨h1,h⟩:=eq_911 h
     obtain ⟨h2,h⟩:=eq_911 h
     obtain ⟨h3,h⟩:=eq_911 h
     have e1:=Nat.eq_of_beq_eq_true h1
     have e2:=Nat.eq_of_beq_eq_true h2
     obtain ⟨a1,a2,a3,a4⟩:=ha _ (eq_849 _ _ _ _ _ _ _ _ _ _ _ _ _ h _ (List.mem_cons_self ..))
     rw [GK,Sem.wp_call,a1,a2]
     have:=va (fun r s'=>Sem.wp M Γ (k r) ((Qof M Q₀ E₀ κ).1 Γ) (Qof M Q₀ E₀ κ).2 p s') s ⟨e1▸D.size,e2▸D.toks,fun q hq=>D.kn _ _ (D.pre a4 q hq),D.life,D.gens,D.drawn,D.os⟩
      (fun s' x' k'=>ih hv2 hm h (D.answer h3 e1 a4 x' k'))
     rw [a2] at this
     exact this
  | _=>cases h
end
end Mine
end
section
open PySem PySem.W
namespace Mine
abbrev PW:Program:=PySem.Challenge.pw_nu0100_01
noncomputable def PWt:Program:=by
 refine (?f:(s:Program)->PW=s->Program) ?s ?h
 case h=>conv=>lhs;reduce
 case f=>exact fun s _=>s
theorem eq_867:PW=PWt:=by kernel_rfl
open PySem.Challenge in
def rwt:OpenLaw:={ prog:=PWt,name:=⟨#[108,97,119]⟩,about:=[⟨#[116,101,120,116,95,111,102]⟩],foot:=10,most:=some 63,bound:=none,writes:=false }
theorem zb6:PySem.Challenge.rw_nu0100_01=rwt:=by
 have h:PySem.Challenge.rw_nu0100_01={ prog:=PW,name:=(PySem.Str.ofString "law"),about:=[(PySem.Str.ofString "text_of")],foot:=10,most:=some 63,bound:=none,writes:=false }:=rfl
 rw [h,eq_867]
 kernel_rfl
end Mine
end
section
open PySem PySem.W PySem.Calls
namespace Mine
def bod:List Stmt:=behindTheImports PWt
noncomputable def st (i:Nat):Stmt:=bod.getD i (.Pass default)
noncomputable def yw:Stmt->List Stmt
 | .ClassDef _ _ _ b _ _ _ _ _ _ _=>b
 | _=>[]
def mt (i j:Nat):Stmt:=(yw (st i)).getD j (.Pass default)
noncomputable def xg:Stmt->PySem.Expr
 | .Assign _ v _=>v
 | _=>default
noncomputable def yW:Stmt->List Stmt
 | .FunctionDef _ _ b _ _ _ _ _ _ _=>b
 | _=>[]
noncomputable def yj:Stmt->PySem.Scope
 | .FunctionDef _ _ _ _ _ _ s _ _ _=>s
 | _=>default
noncomputable def zX:Stmt->PySem.Scope
 | .ClassDef _ _ _ _ _ _ s _ _ _ _=>s
 | _=>default
noncomputable def zm0:Stmt->Str
 | .FunctionDef n _ _ _ _ _ _ _ _ _=>n
 | _=>Str.empty
noncomputable def zc4:Stmt->Arguments
 | .FunctionDef _ a _ _ _ _ _ _ _ _=>a
 | _=>default
def fnD (s:Stmt) (qual:Str) (globals:Addr) (closure:List (Str×Addr)) (defaults kwdefaults doc pyModule:Value) (ann:Option Addr) (code closureTuple:Value) (builtins:Addr):Data:=
 .func { name:=zm0 s,qualname:=qual,params:=zc4 s,body:=.stmts (yW s),scope:=yj s,globals,closure,defaults,kwdefaults,doc,pyModule,annotations:=ann,code,closureTuple,builtins }
noncomputable def de (P:Params) (k:Str) (t:Tok) (v:Value):DictEntry:=⟨PyData.keyHash P k,.str k t,v⟩
abbrev vi (i:Int) (t:Tok):Value:=.int i t
abbrev vs (x:Str) (t:Tok):Value:=.str x t
noncomputable def xI (o:Obj) (es:List DictEntry):Obj:=match o with
 | ⟨c,d,.dict xs n,s⟩=>⟨c,d,.dict (xs.toList++es).toArray (n+es.length),s⟩
 | o=>o
inductive IsP:Program->Prop
 | mk:IsP PW
theorem exP:∃f,IsP f:=⟨_,.mk⟩
noncomputable def PWo:Program:=Classical.choose exP
theorem eq_572:PW=PWo:=by
 have h:IsP PWo:=Classical.choose_spec exP
 generalize PWo=b at h
 cases h
 rfl
abbrev zcu:PySem.Scope:=PWt.main.scope
abbrev zD:List Stmt:=bod
noncomputable def nmS:List (List Str):=by
 refine (?f:(s:List (List Str))->([["<module>","/claim/cut.py","__name__","__main__","__doc__","__package__","__loader__","__spec__","__annotations__","__builtins__","__file__","__cached__","builtins","__build_class__","__import__","abs","all","any","ascii","bin","breakpoint","callable","chr","compile","delattr","dir","divmod","eval","exec","format","getattr","globals"],
["hasattr","hash","hex","id","input","isinstance","issubclass","iter","aiter","len","locals","max","min","next","anext","oct","ord","pow","print","repr","round","setattr","sorted","sum","vars","None","Ellipsis","NotImplemented","False","True","bool","memoryview"],
["bytearray","bytes","classmethod","complex","dict","enumerate","filter","float","frozenset","property","int","list","map","object","range","reversed","set","slice","staticmethod","str","super","tuple","type","zip","__debug__","BaseException","BaseExceptionGroup","Exception","GeneratorExit","KeyboardInterrupt","SystemExit","ArithmeticError"],
["AssertionError","AttributeError","BufferError","EOFError","ImportError","LookupError","MemoryError","NameError","OSError","ReferenceError","RuntimeError","StopAsyncIteration","StopIteration","SyntaxError","SystemError","TypeError","ValueError","Warning","FloatingPointError","OverflowError","ZeroDivisionError","BytesWarning","DeprecationWarning","EncodingWarning","FutureWarning","ImportWarning","PendingDeprecationWarning","ResourceWarning","RuntimeWarning","SyntaxWarning","UnicodeWarning","UserWarning"],
["BlockingIOError","ChildProcessError","ConnectionError","FileExistsError","FileNotFoundError","InterruptedError","IsADirectoryError","NotADirectoryError","PermissionError","ProcessLookupError","TimeoutError","IndentationError","_IncompleteInputError","IndexError","KeyError","ModuleNotFoundError","NotImplementedError","PythonFinalizationError","RecursionError","UnboundLocalError","UnicodeError","BrokenPipeError","ConnectionAbortedError","ConnectionRefusedError","ConnectionResetError","TabError","UnicodeDecodeError","UnicodeEncodeError","UnicodeTranslateError","ExceptionGroup","EnvironmentError","IOError"],
["open","quit","exit","copyright","credits","license","help","pipeboard.errors","BoardError","BadArgument","BadInstruction","","self","reason","BoardError.__init__","__init__","__module__","__firstlineno__","__static_attributes__","__weakref__","word","BadInstruction.__init__","pipeboard.isa","BadText","ABI","line","BadText.__init__","zero","ra","sp","gp","tp"],
["t0","t1","t2","s0","s1","a0","a1","a2","a3","a4","a5","a6","a7","s2","s3","s4","s5","s6","s7","s8","s9","s10","s11","t3","t4","t5","t6","CSRS","sstatus","sie","stvec","scounteren"],
["sscratch","sepc","scause","stval","sip","satp","mstatus","misa","medeleg","mideleg","mie","mtvec","mcounteren","mscratch","mepc","mcause","mtval","mip","mcycle","minstret","mcycleh","minstreth","cycle","time","instret","cycleh","timeh","instreth","mvendorid","marchid","mimpid","mhartid"],
["LOAD","FENCES","IMMEDIATE","AUIPC","STORE","REGISTER","LUI","BRANCH","JALR","JAL","SYSTEM","SETS","iorw","registers","REGISTERS","fp","x0","x1","x2","x3","x4","x5","x6","x7","x8","x9","x10","x11","x12","x13","x14","x15"],
["x16","x17","x18","x19","x20","x21","x22","x23","x24","x25","x26","x27","x28","x29","x30","x31","Instruction","Shape","numbered","shapes","name","rd","rs1","rs2","imm","csr","Instruction.__init__","Instruction.fields","fields","__dict__","kind","opcode"],
["third","seventh","Shape.__init__","Shape.fixed","fixed","beq","B","bne","blt","bge","bltu","bgeu","beq bne - - blt bge bltu bgeu","shapes.<locals>.","Known.","lb","I","lh","lw","lbu","lhu","lb lh lw - lbu lhu","sb","S","sh","sw","sb sh sw","addi","slti","sltiu","xori","ori"],
["andi","addi - slti sltiu xori - ori andi","slli","shift","srli","- slli - - - srli","srai","- - - - - srai","add","R","sll","slt","sltu","xor","srl","or","and","add sll slt sltu xor srl or and","sub","sra","sub - - - - sra","mul","mulh","mulhsu","mulhu","div","divu","rem","remu","mul mulh mulhsu mulhu div divu rem remu","fence","fence.i"],
["fence fence.i","csrrw","CSR","csrrs","csrrc","- csrrw csrrs csrrc","csrrwi","CSRI","csrrsi","csrrci","- - - - - csrrwi csrrsi csrrci","found","mret","number","lui","U","auipc","jal","J","jalr","sfence.vma","flush","ecall","ebreak","sret","wfi","system","shape",".0","Known","__qualname__","SHAPES"],
["BY_NAME","BY_OPCODE","BY_THIRD","BY_SEVENTH","WHOLE","FORMATS","pipeboard.asmtext","USED","RANGES","shape_of","check","spread_branch","spread_jump","encode","gathered_branch","gathered_jump","find_shape","decode","csr_text","set_text","fence_text","text_of","ESCAPES","LETTERS","abcdefghijklmnopqrstuvwxyzABCDEFGHIJKLMNOPQRSTUVWXYZ","instruction","used","numbers","least","greatest","step","low"],
["high","own","n","t","r","0","\\","'","\"","pipeboard.asm","FIGURES","0123456789","NAME_SIGNS","abcdefghijklmnopqrstuvwxyzABCDEFGHIJKLMNOPQRSTUVWXYZ0123456789_.$","QUOTES","\"'","check_signs","quoted_end","bare","parted","octets_in","whole_of","is_name","is_local","atom_end","atoms_of","names_place","plain_value","sign_extend","TEXT",".text","DATA"],
[".data","ZEROS",".bss","SECTIONS","LOADS","QUIET","SIZES","NOP","text","letter","place","quote","end","begin","base","figures","value","figure","part","sign","wanted","atom","octets","bits","pipeboard.words",".globl",".global",".equ",".set",".byte",".half",".word"],
["MEMORY","TURNED","WIDE","high_part","nop","mv","not","neg","seqz","snez","sltz","sgtz","beqz","bnez","blez","bgez","bltz","bgtz","bgt","ble","bgtu","bleu","j","jr","ret","csrr","csrw","csrs","csrc","csrwi","csrsi","csrci"],
["-1","1","la","call","tail","low_part","Piece","order","operands","section","offset","Piece.__init__","most","Piece.need","need","size","Source","low_first","load_number","Program","source","at","Source.__init__","Source.read","read","Source.label","label","piece","Source.quiet","quiet","Source.add","Source.size_of"],
["size_of","Source.room_of","room_of","Source.string_of","string_of","depth","Source.known","known","aligns","exported","labels","pieces","sizes","sums","is_wide","data","zeros","bases","symbols","Program.__init__","Program.memory","memory","data_base","entry","text_base","zeros_base","above","align","Maker","Maker.__init__","Maker.here","here"],
["Maker.at","Maker.value","home","Maker.atom","Maker.local","local","Maker.register","register","Maker.target","target","Maker.csr","front","Maker.based","based","Maker.fence_set","fence_set","Maker.plain","plain","many","due","Maker.need","first","Maker.short","short","Maker.immediate","immediate","Maker.special","special","Maker.instructions","instructions","distance","Maker.far"],
["far","problem","Maker.octets","Maker.numbers","Maker.room","room","Maker.program","program","made","law_nu0100_01","assemble","_law_box","_law_take","_law_groups","_law_registers","_law_csrs","_law_hex","_law_letters","_law_fence","_law_scene","law","script","seed","great","cell","box","digit","mix","odd"]]:List (List Str))=s->List (List Str)) ?s ?h
 case h=>conv=>lhs;reduce
 case f=>exact fun s _=>s
noncomputable def nm (i:Nat):Str:=(nmS.getD (i / 32) []).getD (i % 32) Str.empty
def zk:Env:={ scope:=zcu,locals:=mainNs,globals:=mainNs,cells:=[],code:=.ref 13,frame:=some 14 }
noncomputable def Γ0:Ctx:=⟨.builtin "claim.caller" {},none,none,[],none⟩
def Γ1:Ctx:=⟨.body zD zk,none,none,[(.builtin "claim.caller" {},⟨0,0,0,0⟩)],none⟩
noncomputable def zdg:Code->Sem PySem.Fin:=denote treeTable
theorem eq_117:zdg=zdg:=rfl
name_quick q_den for zdg by eq_117
noncomputable abbrev zM:Code->Sem PySem.Fin:=PySem.W.Fast.q_den
theorem eq_150:denote treeTable=zM:=PySem.W.Fast.q_den_eq
noncomputable def Xi:List Stmt->Env->Sem Flow:=execs
theorem eq_19:Xi=Xi:=rfl
name_quick q_execs for Xi by eq_19
noncomputable abbrev zU:List Stmt->Env->Sem Flow:=PySem.W.Fast.q_execs
theorem eq_13:execs=zU:=PySem.W.Fast.q_execs_eq
noncomputable def zjA:PySem.Module->Sem Value:=moduleCode
theorem eq_283:zjA=zjA:=rfl
name_quick q_mc for zjA by eq_283
noncomputable abbrev qmc:PySem.Module->Sem Value:=PySem.W.Fast.q_mc
theorem eq_228:moduleCode=qmc:=PySem.W.Fast.q_mc_eq
noncomputable def zdf:Value->Addr->Addr->Sem Addr:=newBodyFrame
theorem eq_116:zdf=zdf:=rfl
name_quick q_nbf for zdf by eq_116
noncomputable abbrev zix:Value->Addr->Addr->Sem Addr:=PySem.W.Fast.q_nbf
theorem eq_149:newBodyFrame=zix:=PySem.W.Fast.q_nbf_eq
noncomputable def zjC:List Stmt->Env->Sem Unit:=blockStart
theorem eq_240:zjC=zjC:=rfl
name_quick q_bs for zjC by eq_240
noncomputable abbrev qbs:List Stmt->Env->Sem Unit:=PySem.W.Fast.q_bs
theorem eq_229:blockStart=qbs:=PySem.W.Fast.q_bs_eq
def rv (w:World):RV:=⟨zM,PWo,w,"special-get-raises","comprehension-iter-twice",0,0⟩
inductive Sd where
 | no
 | yes
 | mk (r:Res) (cx:Option Ctx) (p:Option Pos) (os:List (Option Obj)) (sz tk:Nat) (s:Q4)
noncomputable def zb (x:Option Out) (r:Res) (cx:Option Ctx) (p:Option Pos) (post:List (Nat×Obj)) (sz tk:Nat):Sd×Sd:=match x with
 | none=>(.no,.yes)
 | some o=>(.mk o.res (match cx with | none=>none | some _=>some o.ctx) (match p with | none=>none | some _=>some o.pos) (post.map fun q=>o.kn.get q.1) o.sz o.tk (zaG o.acc),.mk r cx p (post.map fun q=>some q.2) sz tk (Yv o.acc))
def za (x:Sd×Sd):Prop:=x.1=x.2
theorem eq_687 {x:Option Out} {r:Res} {cx:Option Ctx} {p:Option Pos} {post:List (Nat×Obj)} {sz tk:Nat} (h:za (zb x r cx p post sz tk)) :
  ∃o,x=some o/\o.res=r/\(∀q,cx=some q->o.ctx=q)/\(∀q,p=some q->o.pos=q)/\(∀q∈post,o.kn.get q.1=some q.2)/\o.sz=sz/\o.tk=tk/\∀e∈o.acc,e.Ok:=by
 unfold za at h
 cases x with
 | none=>cases h
 | some o=>
  simp only [zb,Sd.mk.injEq] at h
  obtain ⟨h1,h0,h2,h3,h4,h5,h6⟩:=h
  refine ⟨o,rfl,h1,fun q hq=>?_,fun q hq=>?_,fun q hq=>?_,h4,h5,eq_797 h6⟩
  ·subst hq;exact Option.some.inj h0
  ·subst hq;exact Option.some.inj h2
  ·clear h1 h0 h2 h4 h5 h6
   induction post with
   | nil=>cases hq
   | cons r l ih=>
    simp only [List.map_cons,List.cons.injEq] at h3
    cases hq with
    | head=>exact h3.1
    | tail _ hq=>exact ih h3.2 hq
theorem eq_868 (w:World):(model PW w).den=(rv w).den:=by
 show denote table=zM
 rw [table_eq_tree]
 exact eq_150
theorem eq_541 {h₀:Heap} {T₀:PT} {R:yk} {T:PT} {sz tk:Nat} {s:Shared} (D:yN h₀ T₀ R T sz tk s) {L:List (Nat×Obj)} (h:∀q∈L,T.get q.1=some q.2):StL R L sz tk s:=
 ⟨D.size,D.toks,fun q hq=>D.kn _ _ (h q hq),D.life,D.gens,D.drawn,D.os⟩
theorem eq_66 {L:List (Nat×Obj)} {a:Nat} (h:∀q∈L,q.1≠a):(PT.of L).get a=none:=by
 cases e:(PT.of L).get a with
 | none=>rfl
 | some x=>obtain ⟨q,hq,e1,_⟩:=PT.get_of e;exact absurd e1 (h q hq)
theorem eq_653 {R:yk} {T:PT} {sz tk:Nat} {s s':Shared} {L:List (Nat×Obj)} (D:yN s.heap (PT.of L) R T sz tk s'):Q7 L s s':=
 fun a o e hn=>D.keep a o e (eq_66 hn)
def zgm (M:Model) (P:Result->Shared->Prop) (Γ':Ctx) (p':Pos) (s':Shared):Res->Prop
 | .ok f=>P (.ok f) s'
 | .err e=>P (.error e) s'
 | .again c=>wpCode M (Γ'.goto c) P p' s'
theorem ze {M:Model} {R:yk}:∀x∈([]:List (Nat×y6)),x.2.Valid M R:=fun _ hx=>nomatch hx
theorem eq_847 {w:World} {R:yk} {Γ:Ctx} {p:Pos} {k n:Nat} {tree:Sem Fin} {pre post:List (Nat×Obj)} {sz tk sz' tk':Nat} {hs:Nat} {as:List (Nat×y6)} {r:Res} {cx:Option Ctx} (hAs:∀x∈as,x.2.Valid (model PW w) R)
  (h:za (zb (zj (rv w) n Γ p [] (some k) tree (PT.of pre) sz tk hs as []) r cx none post sz' tk'))
  {P:Result->Shared->Prop} {s:Shared} (x:StL R pre sz tk s)
  (hP:∀s' (Γ':Ctx) (p':Pos),(∀q,cx=some q->Γ'=q)->StL R post sz' tk' s'->Q7 pre s s'->zgm (model PW w) P Γ' p' s' r):Sem.wp (model PW w) Γ tree (Sem.finPost (model PW w) Γ P) (fun e _ s'=>P (.error e) s') p s:=by
 obtain ⟨o,ho,h1,h0,_,h3,h4,h5,h6⟩:=eq_687 h
 refine eq_801 (V:=rv w) (M:=model PW w) (eq_868 w) eq_572 rfl (Q₀:=fun Γ=>Sem.finPost (model PW w) Γ P) (E₀:=fun e _ s'=>P (.error e) s') true ?_ n Γ p [] (some k) tree (PT.of pre) sz tk hs as [] o s hAs (fun _=>rfl) ho h6 (yN.start x) ?_
 ·intro _ Γ c p s q hw
  refine ⟨q,?_⟩
  rw [wpCode_iff_wp]
  exact hw
 ·intro s' D
  have D':=D
  rw [h4,h5] at D'
  have z:=hP s' o.ctx o.pos h0 (eq_541 D' h3) (eq_653 D')
  unfold zel
  rw [h1]
  cases r with
  | ok f=>exact z
  | err e=>exact z
  | again c=>exact fun q=>⟨q,z⟩
theorem eq_494 {w:World} {R:yk} (A:y6) {k n:Nat} {tree:Sem Fin} {hs:Nat} {as:List (Nat×y6)} {f:Flow} (hAs:∀x∈as,x.2.Valid (model PW w) R) (ht:tree=zM A.ctx.code) (hr:A.res=.ok f)
  (h:za (zb (zj (rv w) n A.ctx A.pos [] (some k) tree (PT.of A.pre) A.sz A.tk hs as []) (.ok f) none none A.post A.sz' A.tk')) :
  A.Valid (model PW w) R:=by
 intro P s x hP
 rw [wpCode_iff_wp]
 have e:(model PW w).den A.ctx.code=tree:=by rw [eq_868,ht];rfl
 rw [e]
 refine eq_847 hAs h x fun s' _ _ _ x' k'=>?_
 have z:=hP s' x' k'
 rw [hr] at z
 exact z
theorem eq_928 {w:World} {R:yk} {G:Ctx} {p:Pos} {c:Code} {pre post:List (Nat×Obj)} {sz tk sz' tk':Nat} {k n:Nat} {hs:Nat} {as:List (Nat×y6)} {f:Flow} (hAs:∀x∈as,x.2.Valid (model PW w) R) (hc:c=G.code)
  (h:za (zb (zj (rv w) n G p [] (some k) (zM c) (PT.of pre) sz tk hs as []) (.ok f) none none post sz' tk')) :
  y6.Valid (model PW w) R ⟨G.code,G,p,pre,sz,tk,.ok f,post,sz',tk'⟩:=
 eq_494 ⟨G.code,G,p,pre,sz,tk,.ok f,post,sz',tk'⟩ hAs (congrArg _ hc) rfl h
theorem eq_492 {w:World} {R:yk} (A:y6) {c:Code} {mid:List (Nat×Obj)} {szm tkm:Nat} {n1 n2 n3 k3:Nat} {tree1 tree3:Sem Fin} {h1 h2 h3:Nat} {f:Flow} (ht1:tree1=zM A.ctx.code) (ht3:tree3=zM c) (hr:A.res=.ok f)
  (sub:mid.all (fun q=>zv A.pre q.1||Nat.ble A.sz q.1)=true)
  (r1:za (zb (zj (rv (w.withFollow "comprehension-iter-twice" true)) n1 A.ctx A.pos [] (some 0) tree1 (PT.of A.pre) A.sz A.tk h1 [] []) (.again c) (some A.ctx) none mid szm tkm))
  (r2:za (zb (zj (rv (w.withFollow "comprehension-iter-twice" false)) n2 A.ctx A.pos [] (some 0) tree1 (PT.of A.pre) A.sz A.tk h2 [] []) (.again c) (some A.ctx) none mid szm tkm))
  (r3:∀(Γ:Ctx) (p:Pos),Γ=A.ctx.goto c->za (zb (zj (rv w) n3 Γ p [] (some k3) tree3 (PT.of mid) szm tkm h3 [] []) (.ok f) none none A.post A.sz' A.tk')) :
  A.Valid (model PW w) R:=by
 intro P s x hP
 rw [wpCode_iff_wp]
 have e:(model PW w).den A.ctx.code=tree1:=by rw [eq_868,ht1];rfl
 rw [e]
 have hs:=PySem.World.withFollow_self w "comprehension-iter-twice"
 have after:∀(s':Shared) (Γ':Ctx) (p':Pos),Γ'=A.ctx->StL R mid szm tkm s'->Q7 A.pre s s'->wpCode (model PW w) (Γ'.goto c) P p' s':=by
  intro s' Γ' p' eΓ x' k'
  subst eΓ
  rw [wpCode_iff_wp]
  have e3:(model PW w).den (A.ctx.goto c).code=tree3:=by rw [eq_868,ht3];rfl
  rw [e3]
  refine eq_847 ze (r3 _ p' rfl) x' fun s'' _ _ _ x'' k''=>?_
  have z:=fun k=>hP s'' x'' k
  rw [hr] at z
  refine z fun a o ho hn=>?_
  refine k'' a o (k' a o ho hn) fun q hq ea=>?_
  have z:=List.all_eq_true.mp sub q hq
  rw [Bool.or_eq_true] at z
  rcases z with z | z
  ·obtain ⟨r,hr',er⟩:=xy.mp z
   exact hn r hr' (er.trans ea)
  ·have:=Heap.lt_size ho
   rw [x.size] at this
   exact absurd this (Nat.not_lt.mpr (ea▸Nat.le_of_ble_eq_true z))
 cases hb:w.params.followText "comprehension-iter-twice" with
 | true=>
  rw [hb] at hs
  rw [hs] at r1
  exact eq_847 ze r1 x fun s' Γ' p' eΓ x' k'=>after s' Γ' p' (eΓ _ rfl) x' k'
 | false=>
  rw [hb] at hs
  rw [hs] at r2
  exact eq_847 ze r2 x fun s' Γ' p' eΓ x' k'=>after s' Γ' p' (eΓ _ rfl) x' k'
theorem eq_883 {w:World} {R:yk} {G:Ctx} {p:Pos} {c1 c:Code} {pre mid post:List (Nat×Obj)} {sz tk szm tkm sz' tk':Nat} {n1 n2 n3 k3:Nat} {h1 h2 h3:Nat} {f:Flow} (hc:c1=G.code)
  (sub:mid.all (fun q=>zv pre q.1||Nat.ble sz q.1)=true)
  (r1:za (zb (zj (rv (w.withFollow "comprehension-iter-twice" true)) n1 G p [] (some 0) (zM c1) (PT.of pre) sz tk h1 [] []) (.again c) (some G) none mid szm tkm))
  (r2:za (zb (zj (rv (w.withFollow "comprehension-iter-twice" false)) n2 G p [] (some 0) (zM c1) (PT.of pre) sz tk h2 [] []) (.again c) (some G) none mid szm tkm))
  (r3:∀(p':Pos),za (zb (zj (rv w) n3 (G.goto c) p' [] (some k3) (zM c) (PT.of mid) szm tkm h3 [] []) (.ok f) none none post sz' tk')) :
  y6.Valid (model PW w) R ⟨G.code,G,p,pre,sz,tk,.ok f,post,sz',tk'⟩:=
 eq_492 ⟨G.code,G,p,pre,sz,tk,.ok f,post,sz',tk'⟩ (congrArg _ hc) rfl rfl sub r1 r2 fun Γ p' e=>by subst e;exact r3 p'
theorem eq_105 {w:World} {R:yk} {α:Type} {m:Sem α} {ι:α->Flow} (hι:∀a b,ι a=ι b->a=b) {a₀:α} {Γ:Ctx} {p q:Pos} {n:Nat} {pre post:List (Nat×Obj)} {sz tk sz' tk':Nat} {hs:Nat} {as:List (Nat×y6)} (hAs:∀x∈as,x.2.Valid (model PW w) R)
  (h:za (zb (zj (rv w) n Γ p [] none (m.bind fun a=>Sem.pure (PySem.Fin.done (ι a))) (PT.of pre) sz tk hs as []) (.ok (ι a₀)) none (some q) post sz' tk'))
  {Q:α->Pos->Shared->Prop} {E:Value->Pos->Shared->Prop} {s:Shared} (x:StL R pre sz tk s) (hQ:∀s',StL R post sz' tk' s'->Q7 pre s s'->Q a₀ q s'):Sem.wp (model PW w) Γ m Q E p s:=by
 obtain ⟨o,ho,h1,_,h2,h3,h4,h5,h6⟩:=eq_687 h
 have z:=eq_801 (V:=rv w) (M:=model PW w) (eq_868 w) eq_572 rfl (Q₀:=fun _ fin p' s'=>∃a,fin=PySem.Fin.done (ι a)/\Q a p' s') (E₀:=E) false (fun h=>nomatch h) n Γ p [] none _ (PT.of pre) sz tk hs as [] o s hAs (fun h=>nomatch h) ho h6 (yN.start x) ?_
 ·have z':Sem.wp (model PW w) Γ (m.bind fun a=>Sem.pure (PySem.Fin.done (ι a))) (fun fin p' s'=>∃a,fin=PySem.Fin.done (ι a)/\Q a p' s') E p s:=z
  rw [Sem.wp_bind] at z'
  refine Sem.wp_mono _ _ _ (fun a p' s' y=>?_) (fun _ _ _ y=>y) _ _ z'
  rw [Sem.wp_pure] at y
  obtain ⟨b,e,y⟩:=y
  have:=hι a b (by injection e)
  exact this▸y
 ·intro s' D
  have D':=D
  rw [h4,h5] at D'
  unfold zel
  rw [h1]
  exact ⟨a₀,rfl,(h2 q rfl)▸hQ s' (eq_541 D' h3) (eq_653 D')⟩
theorem zn {M:Model} {R:yk} {k:Nat} {A:y6} {l:List (Nat×y6)} (h:A.Valid M R) (hl:∀x∈l,x.2.Valid M R):∀x∈(k,A)::l,x.2.Valid M R:=fun x hx=>by
 cases hx with
 | head=>exact h
 | tail _ hx=>exact hl x hx
theorem eq_18 (a b:List Stmt) (env:Env):execs (a++b) env=(execs a env).bind fun f=>match f with
  | .next=>execs b env
  | f=>.pure f:=by
 induction a with
 | nil=>rfl
 | cons s a ih=>
  rw [List.cons_append,execs_cons,execs_cons]
  show (exec s env).bind _=((exec s env).bind _).bind _
  rw [Sem.bind_assoc]
  refine congrArg _ (funext fun f=>?_)
  cases f with
  | next=>exact ih
  | _=>rfl
theorem eq_499 {M:Model} {Γ:Ctx} {l:List Stmt} {env:Env} {Q:Flow->Pos->Shared->Prop} {E:Value->Pos->Shared->Prop} {p:Pos} {s:Shared} (k:Nat)
  (h:Sem.wp M Γ (execs (l.take k) env) (fun f p' s'=>f=.next/\Sem.wp M Γ (execs (l.drop k) env) Q E p' s') E p s):Sem.wp M Γ (execs l env) Q E p s:=by
 have e:=eq_18 (l.take k) (l.drop k) env
 rw [List.take_append_drop] at e
 rw [e,Sem.wp_bind]
 refine Sem.wp_mono _ _ _ (fun f p' s' y=>?_) (fun _ _ _ y=>y) _ _ h
 obtain ⟨rfl,y⟩:=y
 exact y
structure yB (R:yk) (T:PT) (sz tk:Nat) (s:Shared):Prop where
 size:s.heap.objs.size=sz
 toks:s.toks=tk
 kn:∀a o,T.get a=some o->s.heap.get? a=some o
 life:s.heap.life=R.life
 gens:s.gens=R.gens
 drawn:s.drawn=R.drawn
 os:s.os=R.os
theorem JO {T:PT} {L:List (Nat×Obj)} (e:(L.map (fun q=>T.get q.1))=L.map fun q=>some q.2):∀q∈L,T.get q.1=some q.2:=by
 intro q hq
 induction L with
 | nil=>cases hq
 | cons r L ih=>
  simp only [List.map_cons,List.cons.injEq] at e
  cases hq with
  | head=>exact e.1
  | tail _ hq=>exact ih e.2 hq
theorem yB.here {R:yk} {T:PT} {sz tk:Nat} {s:Shared} (G:yB R T sz tk s) {L:List (Nat×Obj)} (e:(L.map (fun q=>T.get q.1))=L.map fun q=>some q.2):StL R L sz tk s:=
 ⟨G.size,G.toks,fun q hq=>G.kn _ _ (JO e q hq),G.life,G.gens,G.drawn,G.os⟩
theorem yB.next {R:yk} {T:PT} {sz tk sz' tk':Nat} {s s':Shared} {pre post:List (Nat×Obj)} (G:yB R T sz tk s) (sub:pre.all (fun q=>zv post q.1)=true) (x:StL R post sz' tk' s') (k:Q7 pre s s'):yB R (T.puts post) sz' tk' s':=by
 refine ⟨x.size,x.toks,fun b y h=>?_,x.life,x.gens,x.drawn,x.os⟩
 rcases PT.get_puts _ _ _ _ h with ⟨q,hq,rfl,rfl⟩ | ⟨hn,h⟩
 ·exact x.kn q hq
 ·refine k b y (G.kn _ _ h) fun q hq hb=>?_
  obtain ⟨r,hr,er⟩:=xy.mp (List.all_eq_true.mp sub q hq)
  exact hn r hr (er.trans hb)
theorem eq_848 {w:World} {R:yk} {T:PT} {α:Type} {m:Sem α} {ι:α->Flow} (hι:∀a b,ι a=ι b->a=b) {a₀:α} {Γ:Ctx} {p q:Pos} {n:Nat} {pre post:List (Nat×Obj)} {sz tk sz' tk':Nat} {hs:Nat} {as:List (Nat×y6)} (hAs:∀x∈as,x.2.Valid (model PW w) R)
  (h:za (zb (zj (rv w) n Γ p [] none (m.bind fun a=>Sem.pure (PySem.Fin.done (ι a))) (PT.of pre) sz tk hs as []) (.ok (ι a₀)) none (some q) post sz' tk'))
  (e:(pre.map (fun q=>T.get q.1))=pre.map fun q=>some q.2) (sub:pre.all (fun q=>zv post q.1)=true)
  {Q:α->Pos->Shared->Prop} {E:Value->Pos->Shared->Prop} {s:Shared} (G:yB R T sz tk s) (hQ:∀s',yB R (T.puts post) sz' tk' s'->Q a₀ q s'):Sem.wp (model PW w) Γ m Q E p s:=
 eq_105 hι hAs h (G.here e) fun s' x k=>hQ s' (G.next sub x k)
theorem eq_266:∀a b:Flow,(fun f:Flow=>f) a=(fun f:Flow=>f) b->a=b:=fun _ _ h=>h
theorem eq_107 {w:World} {R:yk} {T:PT} {l:List Stmt} {env:Env} (j:Nat) {Γ:Ctx} {p q:Pos} {n:Nat} {pre post:List (Nat×Obj)} {sz tk sz' tk':Nat} {hs:Nat} {as:List (Nat×y6)} (hAs:∀x∈as,x.2.Valid (model PW w) R)
  (h:za (zb (zj (rv w) n Γ p [] none ((execs (l.take j) env).bind fun a=>Sem.pure (PySem.Fin.done a)) (PT.of pre) sz tk hs as []) (.ok .next) none (some q) post sz' tk'))
  (e:(pre.map (fun q=>T.get q.1))=pre.map fun q=>some q.2) (sub:pre.all (fun q=>zv post q.1)=true)
  {Q:Flow->Pos->Shared->Prop} {E:Value->Pos->Shared->Prop} {s:Shared} (G:yB R T sz tk s) (hQ:∀s',yB R (T.puts post) sz' tk' s'->Sem.wp (model PW w) Γ (execs (l.drop j) env) Q E q s'):Sem.wp (model PW w) Γ (execs l env) Q E p s:=
 eq_499 j (eq_848 eq_266 hAs h e sub G fun s' G'=>⟨rfl,hQ s' G'⟩)
theorem eq_38 {w:World} {R:yk} {T:PT} {B:List Stmt} {env:Env} {i j k:Nat} (hk:k=i+j) {Γ:Ctx} {p q:Pos} {n:Nat} {pre post:List (Nat×Obj)} {sz tk sz' tk':Nat} {hs:Nat} {as:List (Nat×y6)} (hAs:∀x∈as,x.2.Valid (model PW w) R)
  (h:za (zb (zj (rv w) n Γ p [] none ((execs ((B.drop i).take j) env).bind fun f=>.pure (.done f)) (PT.of pre) sz tk hs as []) (.ok .next) none (some q) post sz' tk'))
  (e:(pre.map (fun q=>T.get q.1))=pre.map fun q=>some q.2) (sub:pre.all (fun q=>zv post q.1)=true)
  {Q:Flow->Pos->Shared->Prop} {E:Value->Pos->Shared->Prop} {s:Shared} (G:yB R T sz tk s) (hQ:∀s',yB R (T.puts post) sz' tk' s'->Sem.wp (model PW w) Γ (execs (B.drop k) env) Q E q s'):Sem.wp (model PW w) Γ (execs (B.drop i) env) Q E p s:=
 eq_107 j hAs h e sub G fun s' G'=>by
  rw [List.drop_drop,← hk]
  exact hQ s' G'
namespace O
noncomputable abbrev v (n:Nat) (t:Tok):Value:=.str (nm n) t
noncomputable abbrev i (n:Int) (t:Tok):Value:=.int n t
noncomputable abbrev r (a:Nat):Value:=.ref a
abbrev e (P:Params) (n:Nat) (t:Tok) (x:Value):DictEntry:=de P (nm n) t x
noncomputable def tO (n:Nat) (l:List Value):Obj:=⟨.type "tuple",none,.seq l.toArray n,#[]⟩
noncomputable def lO (n:Nat) (l:List Value):Obj:=⟨.type "list",none,.seq l.toArray n,#[]⟩
noncomputable def dO (n:Nat) (l:List DictEntry):Obj:=⟨.type "dict",none,.dict l.toArray n,#[]⟩
noncomputable def kO (l:List Value):Obj:=⟨.type "code",none,.fields l.toArray,#[]⟩
noncomputable def zO (l:List Value):Obj:=⟨.none,none,.fields l.toArray,#[]⟩
def u0:Obj:=tO 0 []
def z0:Obj:=zO []
noncomputable def iO (c d:Nat):Obj:=⟨.ref c,some d,.plain,#[]⟩
def cO (a t1 b t2 t3:Nat) (l n:Int) (x:Value) (k:Int) (t4:Nat) (y:List Value):Obj:=kO ([v a t1,v b t2,v 1 t3,i l 0,i n 0,i 0 0,i 0 0,i 3 0,x,.bool true,i 181 0]++y++[i k 0,i l 0,v 1 t4])
def fO (s:Stmt) (q:Nat) (d m c:Value):Obj:=⟨.type "function",none,fnD s (nm q) 3 [] d .none .none m none c .none 0,#[]⟩
def gO (s:Stmt) (q:Nat):Obj:=⟨.none,none,fnD s (nm q) 0 [] .none .none .none .none none .none .none 0,#[]⟩
def q36 (P:Params):Obj:=dO 14 [e P 2 165 (v 182 284),e P 4 166 .none,e P 5 167 .none,e P 6 168 (.builtin "__main__.__loader__#opaque"),e P 7 169 .none,e P 8 170 (r 6),e P 9 171 (r 4),e P 10 173 (v 1 172),e P 11 174 .none,e P 168 216 (r 32),e P 169 232 (r 45),e P 170 257 (r 64),e P 183 283 (r 83),e P 184 318 (r 86)]
def q51 (P:Params):Obj:=xI (q36 P) [e P 219 427 (r 87)]
def q53 (P:Params):Obj:=xI (q51 P) [e P 256 429 (i 3 428),e P 257 431 (i 15 430),e P 258 433 (i 19 432),e P 259 435 (i 23 434),e P 260 437 (i 35 436),e P 261 439 (i 51 438),e P 262 441 (i 55 440),e P 263 443 (i 99 442),e P 264 445 (i 103 444),e P 265 447 (i 111 446),e P 266 449 (i 115 448),e P 267 451 (v 268 450),e P 269 460 (r 96)]
def q57 (P:Params):Obj:=xI (q53 P) [e P 270 721 (r 98)]
def q59 (P:Params):Obj:=xI (q57 P) [e P 304 772 (r 255),e P 305 818 (r 284),e P 306 832 (r 296),e P 307 841 (r 303)]
def q296 (P:Params):Obj:=xI (q59 P) [e P 413 4262 (r 1145)]
def q435 (P:Params):Obj:=dO 76 [e P 2 165 (v 457 4890),e P 4 166 .none,e P 5 167 .none,e P 6 168 (.builtin "__main__.__loader__#opaque"),e P 7 169 .none,e P 8 170 (r 6),e P 9 171 (r 4),e P 10 173 (v 1 172),e P 11 174 .none,e P 168 216 (r 32),e P 169 232 (r 45),e P 170 257 (r 64),e P 183 283 (r 83),e P 184 318 (r 86),e P 219 427 (r 87),e P 256 429 (i 3 428),e P 257 431 (i 15 430),e P 258 433 (i 19 432),e P 259 435 (i 23 434),e P 260 437 (i 35 436),e P 261 439 (i 51 438),e P 262 441 (i 55 440),e P 263 443 (i 99 442),e P 264 445 (i 103 444),e P 265 447 (i 111 446),e P 266 449 (i 115 448),e P 267 451 (v 268 450),e P 269 460 (r 96),e P 270 721 (r 98),e P 304 772 (r 255),e P 305 818 (r 284),e P 306 832 (r 296),e P 307 841 (r 303),e P 413 4262 (r 1145),e P 421 4500 (r 1151),e P 423 4555 (r 1155),e P 424 4600 (r 1168),e P 425 4607 (r 1183),e P 426 4622 (r 1190),e P 427 4629 (r 1197),e P 428 4636 (r 1204),e P 429 4647 (r 1211),e P 430 4655 (r 1218),e P 431 4663 (r 1225),e P 432 4674 (r 1232),e P 433 4688 (r 1239),e P 434 4697 (r 1246),e P 435 4703 (r 1251),e P 436 4711 (r 1258),e P 437 4724 (r 1265),e P 438 4748 (r 1266),e P 439 4750 (v 440 4749),e P 458 4752 (v 459 4751),e P 460 4756 (v 461 4755),e P 462 4758 (v 463 4757),e P 464 4767 (r 1273),e P 465 4778 (r 1280),e P 466 4787 (r 1287),e P 467 4798 (r 1294),e P 468 4810 (r 1301),e P 469 4823 (r 1308),e P 470 4829 (r 1313),e P 471 4835 (r 1318),e P 472 4845 (r 1325),e P 473 4859 (r 1332),e P 474 4869 (r 1339),e P 475 4878 (r 1346),e P 476 4889 (r 1353),e P 477 4893 (v 478 4892),e P 479 4895 (v 480 4894),e P 481 4897 (v 482 4896),e P 483 4898 (r 1354),e P 484 4904 (r 1355),e P 485 4909 (r 1356),e P 486 4919 (r 1357),e P 487 4921 (i 19 4920)]
def q528 (P:Params):Obj:=xI (q435 P) [e P 512 4925 (i 4294967296 4924),e P 513 5093 (r 1358),e P 514 5103 (r 1388),e P 515 5110 (r 1395)]
def q567 (P:Params):Obj:=xI (q528 P) [e P 549 5117 (r 1402),e P 550 5166 (r 1426)]
def q595 (P:Params):Obj:=xI (q567 P) [e P 560 5283 (r 1501),e P 561 5289 (r 1510),e P 562 5301 (r 1517),e P 563 5351 (r 1541)]
def q694 (P:Params):Obj:=xI (q595 P) [e P 602 5359 (r 1552)]
def o0 (P:Params):List (Nat×Obj):=[(12,z0),(13,kO [(v 0 182),(v 0 183),(v 1 184),(i 1 0),(i 0 0),(i 0 0),(i 0 0),(i 0 0),(r 11),(.bool false),(i 181 0),(r 12),.none,.none,.none,.none,(i 185 0),(i 1 0),(v 1 186)]),(3,dO 9 [e P 2 165 (v 3 164),e P 4 166 .none,e P 5 167 .none,e P 6 168 (.builtin "__main__.__loader__#opaque"),e P 7 169 .none,e P 8 170 (r 6),e P 9 171 (r 4),e P 10 173 (v 1 172),e P 11 174 .none]),(0,dO 159 [e P 2 1 (v 12 160),e P 4 2 (.builtin "builtins.__doc__:str#opaque"),e P 5 3 (.builtin "builtins.__package__:str#opaque"),e P 6 4 (.builtin "builtins.__loader__:shared#opaque"),e P 7 5 (.builtin "builtins.__spec__#opaque"),e P 13 6 (.builtin "__build_class__"),e P 14 7 (.builtin "__import__"),e P 15 8 (.builtin "abs"),e P 16 9 (.builtin "all"),e P 17 10 (.builtin "any"),e P 18 11 (.builtin "ascii"),e P 19 12 (.builtin "bin"),e P 20 13 (.builtin "breakpoint"),e P 21 14 (.builtin "callable"),e P 22 15 (.builtin "chr"),e P 23 16 (.builtin "compile"),e P 24 17 (.builtin "delattr"),e P 25 18 (.builtin "dir"),e P 26 19 (.builtin "divmod"),e P 27 20 (.builtin "eval"),e P 28 21 (.builtin "exec"),e P 29 22 (.builtin "format"),e P 30 23 (.builtin "getattr"),e P 31 24 (.builtin "globals"),e P 32 25 (.builtin "hasattr"),e P 33 26 (.builtin "hash"),e P 34 27 (.builtin "hex"),e P 35 28 (.builtin "id"),e P 36 29 (.builtin "input"),e P 37 30 (.builtin "isinstance"),e P 38 31 (.builtin "issubclass"),e P 39 32 (.builtin "iter"),e P 40 33 (.builtin "aiter"),e P 41 34 (.builtin "len"),e P 42 35 (.builtin "locals"),e P 43 36 (.builtin "max"),e P 44 37 (.builtin "min"),e P 45 38 (.builtin "next"),e P 46 39 (.builtin "anext"),e P 47 40 (.builtin "oct"),e P 48 41 (.builtin "ord"),e P 49 42 (.builtin "pow"),e P 50 43 (.builtin "print"),e P 51 44 (.builtin "repr"),e P 52 45 (.builtin "round"),e P 53 46 (.builtin "setattr"),e P 54 47 (.builtin "sorted"),e P 55 48 (.builtin "sum"),e P 56 49 (.builtin "vars"),e P 57 50 .none,e P 58 51 .ellipsis,e P 59 52 .notImplemented,e P 60 53 (.bool false),e P 61 54 (.bool true),e P 62 55 (.type "bool"),e P 63 56 (.type "memoryview"),e P 64 57 (.type "bytearray"),e P 65 58 (.type "bytes"),e P 66 59 (.type "classmethod"),e P 67 60 (.type "complex"),e P 68 61 (.type "dict"),e P 69 62 (.type "enumerate"),e P 70 63 (.type "filter"),e P 71 64 (.type "float"),e P 72 65 (.type "frozenset"),e P 73 66 (.type "property"),e P 74 67 (.type "int"),e P 75 68 (.type "list"),e P 76 69 (.type "map"),e P 77 70 (.type "object"),e P 78 71 (.type "range"),e P 79 72 (.type "reversed"),e P 80 73 (.type "set"),e P 81 74 (.type "slice"),e P 82 75 (.type "staticmethod"),e P 83 76 (.type "str"),e P 84 77 (.type "super"),e P 85 78 (.type "tuple"),e P 86 79 (.type "type"),e P 87 80 (.type "zip"),e P 88 81 (.bool true),e P 89 82 (.type "BaseException"),e P 90 83 (.type "BaseExceptionGroup"),e P 91 84 (.type "Exception"),e P 92 85 (.type "GeneratorExit"),e P 93 86 (.type "KeyboardInterrupt"),e P 94 87 (.type "SystemExit"),e P 95 88 (.type "ArithmeticError"),e P 96 89 (.type "AssertionError"),e P 97 90 (.type "AttributeError"),e P 98 91 (.type "BufferError"),e P 99 92 (.type "EOFError"),e P 100 93 (.type "ImportError"),e P 101 94 (.type "LookupError"),e P 102 95 (.type "MemoryError"),e P 103 96 (.type "NameError"),e P 104 97 (.type "OSError"),e P 105 98 (.type "ReferenceError"),e P 106 99 (.type "RuntimeError"),e P 107 100 (.type "StopAsyncIteration"),e P 108 101 (.type "StopIteration"),e P 109 102 (.type "SyntaxError"),e P 110 103 (.type "SystemError"),e P 111 104 (.type "TypeError"),e P 112 105 (.type "ValueError"),e P 113 106 (.type "Warning"),e P 114 107 (.type "FloatingPointError"),e P 115 108 (.type "OverflowError"),e P 116 109 (.type "ZeroDivisionError"),e P 117 110 (.type "BytesWarning"),e P 118 111 (.type "DeprecationWarning"),e P 119 112 (.type "EncodingWarning"),e P 120 113 (.type "FutureWarning"),e P 121 114 (.type "ImportWarning"),e P 122 115 (.type "PendingDeprecationWarning"),e P 123 116 (.type "ResourceWarning"),e P 124 117 (.type "RuntimeWarning"),e P 125 118 (.type "SyntaxWarning"),e P 126 119 (.type "UnicodeWarning"),e P 127 120 (.type "UserWarning"),e P 128 121 (.type "BlockingIOError"),e P 129 122 (.type "ChildProcessError"),e P 130 123 (.type "ConnectionError"),e P 131 124 (.type "FileExistsError"),e P 132 125 (.type "FileNotFoundError"),e P 133 126 (.type "InterruptedError"),e P 134 127 (.type "IsADirectoryError"),e P 135 128 (.type "NotADirectoryError"),e P 136 129 (.type "PermissionError"),e P 137 130 (.type "ProcessLookupError"),e P 138 131 (.type "TimeoutError"),e P 139 132 (.type "IndentationError"),e P 140 133 (.type "_IncompleteInputError"),e P 141 134 (.type "IndexError"),e P 142 135 (.type "KeyError"),e P 143 136 (.type "ModuleNotFoundError"),e P 144 137 (.type "NotImplementedError"),e P 145 138 (.type "PythonFinalizationError"),e P 146 139 (.type "RecursionError"),e P 147 140 (.type "UnboundLocalError"),e P 148 141 (.type "UnicodeError"),e P 149 142 (.type "BrokenPipeError"),e P 150 143 (.type "ConnectionAbortedError"),e P 151 144 (.type "ConnectionRefusedError"),e P 152 145 (.type "ConnectionResetError"),e P 153 146 (.type "TabError"),e P 154 147 (.type "UnicodeDecodeError"),e P 155 148 (.type "UnicodeEncodeError"),e P 156 149 (.type "UnicodeTranslateError"),e P 157 150 (.type "ExceptionGroup"),e P 158 151 (.type "OSError"),e P 159 152 (.type "OSError"),e P 160 153 (.builtin "open"),e P 161 154 (.builtin "builtins.quit#opaque"),e P 162 155 (.builtin "builtins.exit#opaque"),e P 163 156 (.builtin "builtins.copyright#opaque"),e P 164 157 (.builtin "builtins.credits#opaque"),e P 165 158 (.builtin "builtins.license#opaque"),e P 166 159 (.builtin "builtins.help#opaque")]),(2,⟨.none,none,(.dict #[] 0),#[]⟩),(4,⟨(.type "module"),(some 0),.plain,#[]⟩),(3,dO 12 [e P 2 165 (v 167 187),e P 4 166 .none,e P 5 167 .none,e P 6 168 (.builtin "__main__.__loader__#opaque"),e P 7 169 .none,e P 8 170 (r 6),e P 9 171 (r 4),e P 10 173 (v 1 172),e P 11 174 .none,e P 168 216 (r 32),e P 169 232 (r 45),e P 170 257 (r 64)]),(12,zO [(i 2 0),(i 0 0),(r 20),(i 7 0),(i 0 0),(r 41),(i 9 0),(i 0 0),(r 53)]),(15,tO 0 [(.type "ValueError")]),(22,tO 0 [(v 171 201)]),(23,u0),(24,z0),(25,tO 0 [(v 172 205),(v 173 206)]),(26,u0),(27,gO (mt 1 0) 174),(28,cO 175 202 174 203 204 4 2 (r 23) 207 208 [(r 24),.none,(r 25),(r 26),(r 27)]),(29,fO (mt 1 0) 174 (r 22) (v 167 187) (r 28)),(30,tO 0 [(v 173 210)]),(31,dO 3 [e P 176 196 (v 167 187),e P 177 200 (i 2 199),e P 175 209 (r 29),e P 178 211 (r 30),e P 179 213 (r 33),e P 4 214 .none]),(32,⟨(.type "type"),none,(.cls ⟨(nm 168),[(.type "ValueError")],[(r 32),(.type "ValueError"),(.type "Exception"),(.type "BaseException"),(.type "object")],31,(nm 168),true,[],[(r 45),(r 64)],false,none,false⟩),#[(some (r 15)),none,(some (v 168 189)),(some (v 168 197)),(some (.builtin "ValueError.__new__")),(some (.bool true))]⟩),(33,⟨(.type "getset_descriptor"),none,(.fields #[(v 179 212),(r 32),(.builtin "ExceptionGroup.__weakref__"),.none]),#[]⟩),(36,tO 0 [(r 32)]),(43,u0),(44,dO 2 [e P 176 224 (v 167 187),e P 177 228 (i 7 227),e P 178 229 (r 43),e P 4 230 .none]),(45,⟨(.type "type"),none,(.cls ⟨(nm 169),[(r 32)],[(r 45),(r 32),(.type "ValueError"),(.type "Exception"),(.type "BaseException"),(.type "object")],44,(nm 169),true,[],[],false,none,false⟩),#[(some (r 36)),none,(some (v 169 217)),(some (v 169 225)),(some (.builtin "ValueError.__new__")),(some (.bool true))]⟩),(48,tO 0 [(r 32)]),(55,u0),(56,z0),(57,tO 0 [(v 172 248),(v 180 249)]),(58,u0),(59,gO (mt 3 0) 181),(60,cO 175 245 181 246 247 11 2 (r 55) 250 251 [(r 56),.none,(r 57),(r 58),(r 59)])]
def o1 (P:Params):List (Nat×Obj):=[(61,fO (mt 3 0) 181 .none (v 167 187) (r 60)),(62,tO 0 [(v 180 253)]),(63,dO 2 [e P 176 240 (v 167 187),e P 177 244 (i 9 243),e P 175 252 (r 61),e P 178 254 (r 62),e P 4 255 .none]),(64,⟨(.type "type"),none,(.cls ⟨(nm 170),[(r 32)],[(r 64),(r 32),(.type "ValueError"),(.type "Exception"),(.type "BaseException"),(.type "object")],63,(nm 170),true,[],[],false,none,false⟩),#[(some (r 48)),none,(some (v 170 233)),(some (v 170 241)),(some (.builtin "ValueError.__new__")),(some (.bool true))]⟩),(3,q36 P),(12,zO [(i 2 0),(i 0 0),(r 20),(i 7 0),(i 0 0),(r 41),(i 9 0),(i 0 0),(r 53),(i 14 0),(i 0 0),(r 72)]),(32,⟨(.type "type"),none,(.cls ⟨(nm 168),[(.type "ValueError")],[(r 32),(.type "ValueError"),(.type "Exception"),(.type "BaseException"),(.type "object")],31,(nm 168),true,[],[(r 45),(r 64),(r 83)],false,none,false⟩),#[(some (r 15)),none,(some (v 168 189)),(some (v 168 197)),(some (.builtin "ValueError.__new__")),(some (.bool true))]⟩),(67,tO 0 [(r 32)]),(74,u0),(75,z0),(76,tO 0 [(v 172 273),(v 185 274),(v 173 275)]),(77,u0),(78,gO (mt 4 0) 186),(79,cO 175 270 186 271 272 16 3 (r 74) 276 277 [(r 75),.none,(r 76),(r 77),(r 78)]),(80,fO (mt 4 0) 186 .none (v 167 187) (r 79)),(81,tO 0 [(v 185 279)]),(82,dO 2 [e P 176 265 (v 167 187),e P 177 269 (i 14 268),e P 175 278 (r 80),e P 178 280 (r 81),e P 4 281 .none]),(83,⟨(.type "type"),none,(.cls ⟨(nm 183),[(r 32)],[(r 83),(r 32),(.type "ValueError"),(.type "Exception"),(.type "BaseException"),(.type "object")],82,(nm 183),true,[],[],false,none,false⟩),#[(some (r 67)),none,(some (v 183 258)),(some (v 183 266)),(some (.builtin "ValueError.__new__")),(some (.bool true))]⟩),(86,tO 0 [(v 187 286),(v 188 287),(v 189 288),(v 190 289),(v 191 290),(v 192 291),(v 193 292),(v 194 293),(v 195 294),(v 196 295),(v 197 296),(v 198 297),(v 199 298),(v 200 299),(v 201 300),(v 202 301),(v 203 302),(v 204 303),(v 205 304),(v 206 305),(v 207 306),(v 208 307),(v 209 308),(v 210 309),(v 211 310),(v 212 311),(v 213 312),(v 214 313),(v 215 314),(v 216 315),(v 217 316),(v 218 317)]),(3,q51 P),(87,dO 36 [e P 220 319 (i 256 320),e P 221 322 (i 260 323),e P 222 325 (i 261 326),e P 223 328 (i 262 329),e P 224 331 (i 320 332),e P 225 334 (i 321 335),e P 226 337 (i 322 338),e P 227 340 (i 323 341),e P 228 343 (i 324 344),e P 229 346 (i 384 347),e P 230 349 (i 768 350),e P 231 352 (i 769 353),e P 232 355 (i 770 356),e P 233 358 (i 771 359),e P 234 361 (i 772 362),e P 235 364 (i 773 365),e P 236 367 (i 774 368),e P 237 370 (i 832 371),e P 238 373 (i 833 374),e P 239 376 (i 834 377),e P 240 379 (i 835 380),e P 241 382 (i 836 383),e P 242 385 (i 2816 386),e P 243 388 (i 2818 389),e P 244 391 (i 2944 392),e P 245 394 (i 2946 395),e P 246 397 (i 3072 398),e P 247 400 (i 3073 401),e P 248 403 (i 3074 404),e P 249 406 (i 3200 407),e P 250 409 (i 3201 410),e P 251 412 (i 3202 413),e P 252 415 (i 3857 416),e P 253 418 (i 3858 419),e P 254 421 (i 3859 422),e P 255 423 (i 3860 424)]),(3,q53 P),(12,zO [(i 2 0),(i 0 0),(r 20),(i 7 0),(i 0 0),(r 41),(i 9 0),(i 0 0),(r 53),(i 14 0),(i 0 0),(r 72),(i 34 0),(i 0 0),(r 95)]),(95,cO 269 452 269 453 454 34 0 (r 90) 458 459 [(r 91),.none,(r 92),(r 93),(r 94)]),(96,fO (st 20) 269 .none (v 182 284) (r 95)),(3,q57 P),(98,dO 65 [e P 271 461 (i 8 462),e P 187 286 (i 0 465),e P 272 471 (i 0 465),e P 188 287 (i 1 473),e P 273 479 (i 1 473),e P 189 288 (i 2 481),e P 274 487 (i 2 481),e P 190 289 (i 3 489),e P 275 495 (i 3 489),e P 191 290 (i 4 497),e P 276 503 (i 4 497),e P 192 291 (i 5 505),e P 277 511 (i 5 505),e P 193 292 (i 6 513),e P 278 519 (i 6 513),e P 194 293 (i 7 521),e P 279 527 (i 7 521),e P 195 294 (i 8 529),e P 280 535 (i 8 529),e P 196 295 (i 9 537),e P 281 543 (i 9 537),e P 197 296 (i 10 545),e P 282 551 (i 10 545),e P 198 297 (i 11 553),e P 283 559 (i 11 553),e P 199 298 (i 12 561),e P 284 567 (i 12 561),e P 200 299 (i 13 569),e P 285 575 (i 13 569),e P 201 300 (i 14 577),e P 286 583 (i 14 577),e P 202 301 (i 15 585),e P 287 591 (i 15 585),e P 203 302 (i 16 593),e P 288 599 (i 16 593),e P 204 303 (i 17 601),e P 289 607 (i 17 601),e P 205 304 (i 18 609),e P 290 615 (i 18 609),e P 206 305 (i 19 617),e P 291 623 (i 19 617),e P 207 306 (i 20 625),e P 292 631 (i 20 625),e P 208 307 (i 21 633),e P 293 639 (i 21 633),e P 209 308 (i 22 641),e P 294 647 (i 22 641),e P 210 309 (i 23 649),e P 295 655 (i 23 649),e P 211 310 (i 24 657),e P 296 663 (i 24 657),e P 212 311 (i 25 665),e P 297 671 (i 25 665),e P 213 312 (i 26 673),e P 298 679 (i 26 673),e P 214 313 (i 27 681),e P 299 687 (i 27 681),e P 215 314 (i 28 689),e P 300 695 (i 28 689),e P 216 315 (i 29 697),e P 301 703 (i 29 697),e P 217 316 (i 30 705),e P 302 711 (i 30 705),e P 218 317 (i 31 713),e P 303 719 (i 31 713)]),(3,q59 P),(12,zO [(i 2 0),(i 0 0),(r 20),(i 7 0),(i 0 0),(r 41),(i 9 0),(i 0 0),(r 53),(i 14 0),(i 0 0),(r 72),(i 34 0),(i 0 0),(r 95),(i 41 0),(i 0 0),(r 236),(i 53 0),(i 0 0),(r 265),(i 64 0),(i 0 0),(r 295),(i 70 0),(i 0 0),(r 302)]),(238,tO 0 [(i 0 734),(i 0 735),(i 0 736),(i 0 737),(i 0 738)]),(239,u0),(240,z0)]
def o2 (P:Params):List (Nat×Obj):=[(241,tO 0 [(v 172 742),(v 308 743),(v 309 744),(v 310 745),(v 311 746),(v 312 747),(v 313 748)]),(242,u0),(243,gO (mt 22 0) 314),(244,cO 175 739 314 740 741 43 7 (r 239) 749 750 [(r 240),.none,(r 241),(r 242),(r 243)]),(245,fO (mt 22 0) 314 (r 238) (v 182 284) (r 244)),(246,u0),(247,z0),(248,tO 0 [(v 172 755)]),(249,u0),(250,gO (mt 22 1) 315),(251,cO 316 752 315 753 754 51 1 (r 246) 756 757 [(r 247),.none,(r 248),(r 249),(r 250)]),(252,fO (mt 22 1) 315 .none (v 182 284) (r 251)),(253,tO 0 [(v 313 759),(v 312 760),(v 308 761),(v 309 762),(v 310 763),(v 311 764)]),(254,dO 4 [e P 176 729 (v 182 284),e P 177 733 (i 41 732),e P 175 751 (r 245),e P 316 758 (r 252),e P 178 765 (r 253),e P 317 767 (r 256),e P 179 769 (r 257),e P 4 770 .none]),(255,⟨(.type "type"),none,(.cls ⟨(nm 304),[(.type "object")],[(r 255),(.type "object")],254,(nm 304),true,[],[],false,none,false⟩),#[none,none,(some (v 304 722)),(some (v 304 730)),(some (.builtin "object.__new__")),(some (.bool true))]⟩),(256,⟨(.type "getset_descriptor"),none,(.fields #[(v 317 766),(r 255),(.builtin "function.__dict__"),(.builtin "function.__dict__#set")]),#[]⟩),(257,⟨(.type "getset_descriptor"),none,(.fields #[(v 179 768),(r 255),(.builtin "ExceptionGroup.__weakref__"),.none]),#[]⟩),(267,tO 0 [(i 0 785),(i 0 786)]),(268,u0),(269,z0),(270,tO 0 [(v 172 790),(v 308 791),(v 318 792),(v 319 793),(v 320 794),(v 321 795)]),(271,u0),(272,gO (mt 23 0) 322),(273,cO 175 787 322 788 789 55 6 (r 268) 796 797 [(r 269),.none,(r 270),(r 271),(r 272)]),(274,fO (mt 23 0) 322 (r 267) (v 182 284) (r 273)),(275,u0),(276,z0),(277,tO 0 [(v 172 802)]),(278,u0),(279,gO (mt 23 1) 323),(280,cO 324 799 323 800 801 62 1 (r 275) 803 804 [(r 276),.none,(r 277),(r 278),(r 279)]),(281,fO (mt 23 1) 323 .none (v 182 284) (r 280))]
def o3 (P:Params):List (Nat×Obj):=[(282,tO 0 [(v 318 806),(v 308 807),(v 319 808),(v 321 809),(v 320 810)]),(283,dO 4 [e P 176 780 (v 182 284),e P 177 784 (i 53 783),e P 175 798 (r 274),e P 324 805 (r 281),e P 178 811 (r 282),e P 317 813 (r 285),e P 179 815 (r 286),e P 4 816 .none]),(284,⟨(.type "type"),none,(.cls ⟨(nm 305),[(.type "object")],[(r 284),(.type "object")],283,(nm 305),true,[],[],false,none,false⟩),#[none,none,(some (v 305 773)),(some (v 305 781)),(some (.builtin "object.__new__")),(some (.bool true))]⟩),(285,⟨(.type "getset_descriptor"),none,(.fields #[(v 317 812),(r 284),(.builtin "function.__dict__"),(.builtin "function.__dict__#set")]),#[]⟩),(286,⟨(.type "getset_descriptor"),none,(.fields #[(v 179 814),(r 284),(.builtin "ExceptionGroup.__weakref__"),.none]),#[]⟩),(289,tO 0 [(i 0 819)]),(295,cO 306 820 306 821 822 64 4 (r 290) 830 831 [(r 291),.none,(r 292),(r 293),(r 294)]),(296,fO (st 24) 306 (r 289) (v 182 284) (r 295)),(302,cO 307 833 307 834 835 70 0 (r 297) 839 840 [(r 298),.none,(r 299),(r 300),(r 301)]),(303,fO (st 25) 307 .none (v 182 284) (r 302)),(326,lO 6 [(r 335),(r 342),(r 357),(r 364),(r 371),(r 378)]),(334,dO 5 [e P 308 954 (v 325 935),e P 318 956 (v 326 928),e P 319 958 (i 99 442),e P 320 960 (i 0 943),e P 321 962 (i 0 819)]),(335,iO 284 334),(341,dO 5 [e P 308 974 (v 327 936),e P 318 976 (v 326 928),e P 319 978 (i 99 442),e P 320 980 (i 1 963),e P 321 982 (i 0 819)]),(342,iO 284 341),(356,dO 5 [e P 308 1002 (v 328 939),e P 318 1004 (v 326 928),e P 319 1006 (i 99 442),e P 320 1008 (i 4 991),e P 321 1010 (i 0 819)]),(357,iO 284 356),(363,dO 5 [e P 308 1022 (v 329 940),e P 318 1024 (v 326 928),e P 319 1026 (i 99 442),e P 320 1028 (i 5 1011),e P 321 1030 (i 0 819)]),(364,iO 284 363),(370,dO 5 [e P 308 1042 (v 330 941),e P 318 1044 (v 326 928),e P 319 1046 (i 99 442),e P 320 1048 (i 6 1031),e P 321 1050 (i 0 819)]),(371,iO 284 370),(377,dO 5 [e P 308 1062 (v 331 942),e P 318 1064 (v 326 928),e P 319 1066 (i 99 442),e P 320 1068 (i 7 1051),e P 321 1070 (i 0 819)]),(378,iO 284 377),(383,lO 5 [(r 392),(r 399),(r 406),(r 417),(r 424)]),(391,dO 5 [e P 308 1096 (v 335 1079),e P 318 1098 (v 336 1072),e P 319 1100 (i 3 428),e P 320 1102 (i 0 1085),e P 321 1104 (i 0 819)]),(392,iO 284 391),(398,dO 5 [e P 308 1116 (v 337 1080),e P 318 1118 (v 336 1072),e P 319 1120 (i 3 428),e P 320 1122 (i 1 1105),e P 321 1124 (i 0 819)]),(399,iO 284 398),(405,dO 5 [e P 308 1136 (v 338 1081),e P 318 1138 (v 336 1072),e P 319 1140 (i 3 428),e P 320 1142 (i 2 1125),e P 321 1144 (i 0 819)]),(406,iO 284 405),(416,dO 5 [e P 308 1160 (v 339 1083),e P 318 1162 (v 336 1072),e P 319 1164 (i 3 428),e P 320 1166 (i 4 1149),e P 321 1168 (i 0 819)]),(417,iO 284 416)]
def o4 (P:Params):List (Nat×Obj):=[(423,dO 5 [e P 308 1180 (v 340 1084),e P 318 1182 (v 336 1072),e P 319 1184 (i 3 428),e P 320 1186 (i 5 1169),e P 321 1188 (i 0 819)]),(424,iO 284 423),(429,lO 3 [(r 438),(r 445),(r 452)]),(437,dO 5 [e P 308 1211 (v 342 1197),e P 318 1213 (v 343 1190),e P 319 1215 (i 35 436),e P 320 1217 (i 0 1200),e P 321 1219 (i 0 819)]),(438,iO 284 437),(444,dO 5 [e P 308 1231 (v 344 1198),e P 318 1233 (v 343 1190),e P 319 1235 (i 35 436),e P 320 1237 (i 1 1220),e P 321 1239 (i 0 819)]),(445,iO 284 444),(451,dO 5 [e P 308 1251 (v 345 1199),e P 318 1253 (v 343 1190),e P 319 1255 (i 35 436),e P 320 1257 (i 2 1240),e P 321 1259 (i 0 819)]),(452,iO 284 451),(457,lO 6 [(r 466),(r 477),(r 484),(r 491),(r 502),(r 509)]),(465,dO 5 [e P 308 1287 (v 347 1268),e P 318 1289 (v 336 1261),e P 319 1291 (i 19 432),e P 320 1293 (i 0 1276),e P 321 1295 (i 0 819)]),(466,iO 284 465),(476,dO 5 [e P 308 1311 (v 348 1270),e P 318 1313 (v 336 1261),e P 319 1315 (i 19 432),e P 320 1317 (i 2 1300),e P 321 1319 (i 0 819)]),(477,iO 284 476),(483,dO 5 [e P 308 1331 (v 349 1271),e P 318 1333 (v 336 1261),e P 319 1335 (i 19 432),e P 320 1337 (i 3 1320),e P 321 1339 (i 0 819)]),(484,iO 284 483),(490,dO 5 [e P 308 1351 (v 350 1272),e P 318 1353 (v 336 1261),e P 319 1355 (i 19 432),e P 320 1357 (i 4 1340),e P 321 1359 (i 0 819)]),(491,iO 284 490),(501,dO 5 [e P 308 1375 (v 351 1274),e P 318 1377 (v 336 1261),e P 319 1379 (i 19 432),e P 320 1381 (i 6 1364),e P 321 1383 (i 0 819)]),(502,iO 284 501),(508,dO 5 [e P 308 1395 (v 352 1275),e P 318 1397 (v 336 1261),e P 319 1399 (i 19 432),e P 320 1401 (i 7 1384),e P 321 1403 (i 0 819)]),(509,iO 284 508),(514,lO 2 [(r 527),(r 546)]),(526,dO 5 [e P 308 1433 (v 354 1413),e P 318 1435 (v 355 1405),e P 319 1437 (i 19 432),e P 320 1439 (i 1 1422),e P 321 1441 (i 0 819)]),(527,iO 284 526),(545,dO 5 [e P 308 1465 (v 356 1417),e P 318 1467 (v 355 1405),e P 319 1469 (i 19 432),e P 320 1471 (i 5 1454),e P 321 1473 (i 0 819)]),(546,iO 284 545),(551,lO 1 [(r 580)]),(579,dO 5 [e P 308 1520 (v 358 1488),e P 318 1522 (v 355 1475),e P 319 1524 (i 19 432),e P 320 1526 (i 5 1509),e P 321 1528 (i 32 1476)]),(580,iO 284 579),(585,lO 8 [(r 594),(r 601),(r 608),(r 615),(r 622),(r 629),(r 636),(r 643)]),(593,dO 5 [e P 308 1556 (v 360 1537),e P 318 1558 (v 361 1530),e P 319 1560 (i 51 438),e P 320 1562 (i 0 1545),e P 321 1564 (i 0 819)])]
def o5 (P:Params):List (Nat×Obj):=[(594,iO 284 593),(600,dO 5 [e P 308 1576 (v 362 1538),e P 318 1578 (v 361 1530),e P 319 1580 (i 51 438),e P 320 1582 (i 1 1565),e P 321 1584 (i 0 819)]),(601,iO 284 600),(607,dO 5 [e P 308 1596 (v 363 1539),e P 318 1598 (v 361 1530),e P 319 1600 (i 51 438),e P 320 1602 (i 2 1585),e P 321 1604 (i 0 819)]),(608,iO 284 607),(614,dO 5 [e P 308 1616 (v 364 1540),e P 318 1618 (v 361 1530),e P 319 1620 (i 51 438),e P 320 1622 (i 3 1605),e P 321 1624 (i 0 819)]),(615,iO 284 614),(621,dO 5 [e P 308 1636 (v 365 1541),e P 318 1638 (v 361 1530),e P 319 1640 (i 51 438),e P 320 1642 (i 4 1625),e P 321 1644 (i 0 819)]),(622,iO 284 621),(628,dO 5 [e P 308 1656 (v 366 1542),e P 318 1658 (v 361 1530),e P 319 1660 (i 51 438),e P 320 1662 (i 5 1645),e P 321 1664 (i 0 819)]),(629,iO 284 628),(635,dO 5 [e P 308 1676 (v 367 1543),e P 318 1678 (v 361 1530),e P 319 1680 (i 51 438),e P 320 1682 (i 6 1665),e P 321 1684 (i 0 819)]),(636,iO 284 635),(642,dO 5 [e P 308 1696 (v 368 1544),e P 318 1698 (v 361 1530),e P 319 1700 (i 51 438),e P 320 1702 (i 7 1685),e P 321 1704 (i 0 819)]),(643,iO 284 642),(648,lO 2 [(r 657),(r 680)]),(656,dO 5 [e P 308 1731 (v 370 1714),e P 318 1733 (v 361 1706),e P 319 1735 (i 51 438),e P 320 1737 (i 0 1720),e P 321 1739 (i 32 1707)]),(657,iO 284 656),(679,dO 5 [e P 308 1767 (v 371 1719),e P 318 1769 (v 361 1706),e P 319 1771 (i 51 438),e P 320 1773 (i 5 1756),e P 321 1775 (i 32 1707)]),(680,iO 284 679),(685,lO 8 [(r 694),(r 701),(r 708),(r 715),(r 722),(r 729),(r 736),(r 743)]),(693,dO 5 [e P 308 1804 (v 373 1785),e P 318 1806 (v 361 1777),e P 319 1808 (i 51 438),e P 320 1810 (i 0 1793),e P 321 1812 (i 1 1778)]),(694,iO 284 693),(700,dO 5 [e P 308 1824 (v 374 1786),e P 318 1826 (v 361 1777),e P 319 1828 (i 51 438),e P 320 1830 (i 1 1813),e P 321 1832 (i 1 1778)]),(701,iO 284 700),(707,dO 5 [e P 308 1844 (v 375 1787),e P 318 1846 (v 361 1777),e P 319 1848 (i 51 438),e P 320 1850 (i 2 1833),e P 321 1852 (i 1 1778)]),(708,iO 284 707),(714,dO 5 [e P 308 1864 (v 376 1788),e P 318 1866 (v 361 1777),e P 319 1868 (i 51 438),e P 320 1870 (i 3 1853),e P 321 1872 (i 1 1778)]),(715,iO 284 714),(721,dO 5 [e P 308 1884 (v 377 1789),e P 318 1886 (v 361 1777),e P 319 1888 (i 51 438),e P 320 1890 (i 4 1873),e P 321 1892 (i 1 1778)]),(722,iO 284 721),(728,dO 5 [e P 308 1904 (v 378 1790),e P 318 1906 (v 361 1777),e P 319 1908 (i 51 438),e P 320 1910 (i 5 1893),e P 321 1912 (i 1 1778)])]
def o6 (P:Params):List (Nat×Obj):=[(729,iO 284 728),(735,dO 5 [e P 308 1924 (v 379 1791),e P 318 1926 (v 361 1777),e P 319 1928 (i 51 438),e P 320 1930 (i 6 1913),e P 321 1932 (i 1 1778)]),(736,iO 284 735),(742,dO 5 [e P 308 1944 (v 380 1792),e P 318 1946 (v 361 1777),e P 319 1948 (i 51 438),e P 320 1950 (i 7 1933),e P 321 1952 (i 1 1778)]),(743,iO 284 742),(748,lO 2 [(r 757),(r 764)]),(756,dO 5 [e P 308 1974 (v 382 1961),e P 318 1976 (v 382 1954),e P 319 1978 (i 15 430),e P 320 1980 (i 0 1963),e P 321 1982 (i 0 819)]),(757,iO 284 756),(763,dO 5 [e P 308 1994 (v 383 1962),e P 318 1996 (v 382 1954),e P 319 1998 (i 15 430),e P 320 2000 (i 1 1983),e P 321 2002 (i 0 819)]),(764,iO 284 763),(769,lO 3 [(r 782),(r 789),(r 796)]),(781,dO 5 [e P 308 2030 (v 385 2012),e P 318 2032 (v 386 2004),e P 319 2034 (i 115 448),e P 320 2036 (i 1 2019),e P 321 2038 (i 0 819)]),(782,iO 284 781),(788,dO 5 [e P 308 2050 (v 387 2013),e P 318 2052 (v 386 2004),e P 319 2054 (i 115 448),e P 320 2056 (i 2 2039),e P 321 2058 (i 0 819)]),(789,iO 284 788),(795,dO 5 [e P 308 2070 (v 388 2014),e P 318 2072 (v 386 2004),e P 319 2074 (i 115 448),e P 320 2076 (i 3 2059),e P 321 2078 (i 0 819)]),(796,iO 284 795),(801,lO 3 [(r 830),(r 837),(r 844)]),(829,dO 5 [e P 308 2126 (v 390 2092),e P 318 2128 (v 391 2080),e P 319 2130 (i 115 448),e P 320 2132 (i 5 2115),e P 321 2134 (i 0 819)]),(830,iO 284 829),(836,dO 5 [e P 308 2146 (v 392 2093),e P 318 2148 (v 391 2080),e P 319 2150 (i 115 448),e P 320 2152 (i 6 2135),e P 321 2154 (i 0 819)]),(837,iO 284 836),(843,dO 5 [e P 308 2166 (v 393 2094),e P 318 2168 (v 391 2080),e P 319 2170 (i 115 448),e P 320 2172 (i 7 2155),e P 321 2174 (i 0 819)]),(844,iO 284 843),(311,⟨(.type "frame"),none,(.dict #[e P 395 926 (r 324),e P 308 2205 (v 396 2203),e P 397 2206 (i 770 2204)] 3),#[]⟩),(312,dO 5 [e P 308 863 (v 398 854),e P 318 865 (v 399 855),e P 319 867 (i 55 440),e P 320 869 (i 0 785),e P 321 871 (i 0 786)]),(313,iO 284 312),(314,⟨(.type "frame"),none,(.dict #[e P 172 856 (r 313),e P 308 857 (v 398 854),e P 318 858 (v 399 855),e P 319 859 (i 55 440),e P 320 860 (i 0 785),e P 321 861 (i 0 786)] 6),#[]⟩),(315,dO 5 [e P 308 881 (v 400 872),e P 318 883 (v 399 873),e P 319 885 (i 23 434),e P 320 887 (i 0 785),e P 321 889 (i 0 786)]),(316,iO 284 315),(317,⟨(.type "frame"),none,(.dict #[e P 172 874 (r 316),e P 308 875 (v 400 872),e P 318 876 (v 399 873),e P 319 877 (i 23 434),e P 320 878 (i 0 785),e P 321 879 (i 0 786)] 6),#[]⟩),(318,dO 5 [e P 308 899 (v 401 890),e P 318 901 (v 402 891),e P 319 903 (i 111 446),e P 320 905 (i 0 785),e P 321 907 (i 0 786)])]
def o7 (P:Params):List (Nat×Obj):=[(319,iO 284 318),(320,⟨(.type "frame"),none,(.dict #[e P 172 892 (r 319),e P 308 893 (v 401 890),e P 318 894 (v 402 891),e P 319 895 (i 111 446),e P 320 896 (i 0 785),e P 321 897 (i 0 786)] 6),#[]⟩),(321,dO 5 [e P 308 917 (v 403 908),e P 318 919 (v 336 909),e P 319 921 (i 103 444),e P 320 923 (i 0 785),e P 321 925 (i 0 786)]),(322,iO 284 321),(323,⟨(.type "frame"),none,(.dict #[e P 172 910 (r 322),e P 308 911 (v 403 908),e P 318 912 (v 336 909),e P 319 913 (i 103 444),e P 320 914 (i 0 785),e P 321 915 (i 0 786)] 6),#[]⟩),(324,lO 18 [(r 313),(r 316),(r 319),(r 322),(r 335),(r 342),(r 357),(r 364),(r 371),(r 378),(r 392),(r 399),(r 406),(r 417),(r 424),(r 438),(r 445),(r 452),(r 466),(r 477),(r 484),(r 491),(r 502),(r 509),(r 527),(r 546),(r 580),(r 594),(r 601),(r 608),(r 615),(r 622),(r 629),(r 636),(r 643),(r 657),(r 680),(r 694),(r 701),(r 708),(r 715),(r 722),(r 729),(r 736),(r 743),(r 757),(r 764),(r 782),(r 789),(r 796),(r 830),(r 837),(r 844),(r 849),(r 862),(r 868),(r 874),(r 880),(r 886)]),(848,dO 5 [e P 308 2186 (v 404 2175),e P 318 2188 (v 405 2176),e P 319 2190 (i 115 448),e P 320 2192 (i 0 2177),e P 321 2194 (i 9 2178)]),(849,iO 284 848),(850,⟨(.type "frame"),none,(.dict #[e P 172 2179 (r 849),e P 308 2180 (v 404 2175),e P 318 2181 (v 405 2176),e P 319 2182 (i 115 448),e P 320 2183 (i 0 2177),e P 321 2184 (i 9 2178)] 6),#[]⟩),(851,tO 0 [(v 406 2195),(i 0 2196)]),(852,tO 0 [(v 407 2197),(i 1 2198)]),(853,tO 0 [(v 408 2199),(i 258 2200)]),(854,tO 0 [(v 409 2201),(i 261 2202)]),(855,tO 0 [(v 396 2203),(i 770 2204)]),(856,tO 0 [(r 851),(r 852),(r 853),(r 854),(r 855)]),(857,⟨(.type "tuple_iterator"),none,(.fields #[.none,(i 5 0)]),#[]⟩),(858,⟨(.type "tuple_iterator"),none,(.fields #[.none,(i 2 0)]),#[]⟩),(860,⟨(.type "StopIteration"),none,(.fields #[(r 859),.none,.none,.none,(.bool false),.none]),#[]⟩),(861,dO 5 [e P 308 2218 (v 406 2195),e P 318 2220 (v 410 2207),e P 319 2222 (i 115 2210),e P 320 2224 (i 0 785),e P 321 2226 (i 0 786)]),(862,iO 284 861),(863,⟨(.type "frame"),none,(.dict #[e P 172 2211 (r 862),e P 308 2212 (v 406 2195),e P 318 2213 (v 410 2207),e P 319 2214 (i 115 2210),e P 320 2215 (i 0 785),e P 321 2216 (i 0 786)] 6),#[]⟩),(864,⟨(.type "tuple_iterator"),none,(.fields #[.none,(i 2 0)]),#[]⟩),(866,⟨(.type "StopIteration"),none,(.fields #[(r 865),.none,.none,.none,(.bool false),.none]),#[]⟩),(867,dO 5 [e P 308 2240 (v 407 2197),e P 318 2242 (v 410 2229),e P 319 2244 (i 1048691 2232),e P 320 2246 (i 0 785),e P 321 2248 (i 0 786)]),(868,iO 284 867),(869,⟨(.type "frame"),none,(.dict #[e P 172 2233 (r 868),e P 308 2234 (v 407 2197),e P 318 2235 (v 410 2229),e P 319 2236 (i 1048691 2232),e P 320 2237 (i 0 785),e P 321 2238 (i 0 786)] 6),#[]⟩),(870,⟨(.type "tuple_iterator"),none,(.fields #[.none,(i 2 0)]),#[]⟩),(872,⟨(.type "StopIteration"),none,(.fields #[(r 871),.none,.none,.none,(.bool false),.none]),#[]⟩),(873,dO 5 [e P 308 2262 (v 408 2199),e P 318 2264 (v 410 2251),e P 319 2266 (i 270532723 2254),e P 320 2268 (i 0 785),e P 321 2270 (i 0 786)]),(874,iO 284 873),(875,⟨(.type "frame"),none,(.dict #[e P 172 2255 (r 874),e P 308 2256 (v 408 2199),e P 318 2257 (v 410 2251),e P 319 2258 (i 270532723 2254),e P 320 2259 (i 0 785),e P 321 2260 (i 0 786)] 6),#[]⟩),(876,⟨(.type "tuple_iterator"),none,(.fields #[.none,(i 2 0)]),#[]⟩)]
def o8 (P:Params):List (Nat×Obj):=[(878,⟨(.type "StopIteration"),none,(.fields #[(r 877),.none,.none,.none,(.bool false),.none]),#[]⟩),(879,dO 5 [e P 308 2284 (v 409 2201),e P 318 2286 (v 410 2273),e P 319 2288 (i 273678451 2276),e P 320 2290 (i 0 785),e P 321 2292 (i 0 786)]),(880,iO 284 879),(881,⟨(.type "frame"),none,(.dict #[e P 172 2277 (r 880),e P 308 2278 (v 409 2201),e P 318 2279 (v 410 2273),e P 319 2280 (i 273678451 2276),e P 320 2281 (i 0 785),e P 321 2282 (i 0 786)] 6),#[]⟩),(882,⟨(.type "tuple_iterator"),none,(.fields #[.none,(i 2 0)]),#[]⟩),(884,⟨(.type "StopIteration"),none,(.fields #[(r 883),.none,.none,.none,(.bool false),.none]),#[]⟩),(885,dO 5 [e P 308 2306 (v 396 2203),e P 318 2308 (v 410 2295),e P 319 2310 (i 807403635 2298),e P 320 2312 (i 0 785),e P 321 2314 (i 0 786)]),(886,iO 284 885),(887,⟨(.type "frame"),none,(.dict #[e P 172 2299 (r 886),e P 308 2300 (v 396 2203),e P 318 2301 (v 410 2295),e P 319 2302 (i 807403635 2298),e P 320 2303 (i 0 785),e P 321 2304 (i 0 786)] 6),#[]⟩),(889,⟨(.type "StopIteration"),none,(.fields #[(r 888),.none,.none,.none,(.bool false),.none]),#[]⟩),(890,⟨(.type "list_iterator"),none,(.fields #[(r 324),(i 0 0)]),#[]⟩),(891,dO 0 []),(892,dO 0 []),(890,⟨(.type "list_iterator"),none,(.fields #[.none,(i 59 0)]),#[]⟩),(891,dO 59 [e P 398 854 (r 313),e P 400 872 (r 316),e P 401 890 (r 319),e P 403 908 (r 322),e P 325 935 (r 335),e P 327 936 (r 342),e P 328 939 (r 357),e P 329 940 (r 364),e P 330 941 (r 371),e P 331 942 (r 378),e P 335 1079 (r 392),e P 337 1080 (r 399),e P 338 1081 (r 406),e P 339 1083 (r 417),e P 340 1084 (r 424),e P 342 1197 (r 438),e P 344 1198 (r 445),e P 345 1199 (r 452),e P 347 1268 (r 466),e P 348 1270 (r 477),e P 349 1271 (r 484),e P 350 1272 (r 491),e P 351 1274 (r 502),e P 352 1275 (r 509),e P 354 1413 (r 527),e P 356 1417 (r 546),e P 358 1488 (r 580),e P 360 1537 (r 594),e P 362 1538 (r 601),e P 363 1539 (r 608),e P 364 1540 (r 615),e P 365 1541 (r 622),e P 366 1542 (r 629),e P 367 1543 (r 636),e P 368 1544 (r 643),e P 370 1714 (r 657),e P 371 1719 (r 680),e P 373 1785 (r 694),e P 374 1786 (r 701),e P 375 1787 (r 708),e P 376 1788 (r 715),e P 377 1789 (r 722),e P 378 1790 (r 729),e P 379 1791 (r 736),e P 380 1792 (r 743),e P 382 1961 (r 757),e P 383 1962 (r 764),e P 385 2012 (r 782),e P 387 2013 (r 789),e P 388 2014 (r 796),e P 390 2092 (r 830),e P 392 2093 (r 837),e P 393 2094 (r 844),e P 404 2175 (r 849),e P 406 2195 (r 862),e P 407 2197 (r 868),e P 408 2199 (r 874),e P 409 2201 (r 880),e P 396 2203 (r 886)]),(892,dO 1 [e P 411 2316 (r 886)]),(895,⟨(.type "list_iterator"),none,(.fields #[(r 324),(i 0 0)]),#[]⟩),(896,dO 0 []),(897,dO 0 []),(895,⟨(.type "list_iterator"),none,(.fields #[.none,(i 59 0)]),#[]⟩),(896,dO 3 [⟨55,(i 55 440),(r 313)⟩,⟨23,(i 23 434),(r 316)⟩,⟨111,(i 111 446),(r 319)⟩]),(897,dO 1 [e P 411 2494 (r 886)]),(959,⟨(.type "list_iterator"),none,(.fields #[(r 324),(i 0 0)]),#[]⟩),(960,dO 0 []),(961,dO 0 []),(959,⟨(.type "list_iterator"),none,(.fields #[.none,(i 59 0)]),#[]⟩),(960,dO 29 [⟨103,(i 103 2778),(r 322)⟩,⟨99,(i 99 2797),(r 335)⟩,⟨4195,(i 4195 2816),(r 342)⟩,⟨16483,(i 16483 2835),(r 357)⟩,⟨20579,(i 20579 2854),(r 364)⟩,⟨24675,(i 24675 2873),(r 371)⟩,⟨28771,(i 28771 2892),(r 378)⟩,⟨3,(i 3 2911),(r 392)⟩,⟨4099,(i 4099 2930),(r 399)⟩,⟨8195,(i 8195 2949),(r 406)⟩,⟨16387,(i 16387 2968),(r 417)⟩,⟨20483,(i 20483 2987),(r 424)⟩,⟨35,(i 35 3006),(r 438)⟩,⟨4131,(i 4131 3025),(r 445)⟩,⟨8227,(i 8227 3044),(r 452)⟩,⟨19,(i 19 3063),(r 466)⟩,⟨8211,(i 8211 3082),(r 477)⟩,⟨12307,(i 12307 3101),(r 484)⟩,⟨16403,(i 16403 3120),(r 491)⟩,⟨24595,(i 24595 3139),(r 502)⟩,⟨28691,(i 28691 3158),(r 509)⟩,⟨15,(i 15 3345),(r 757)⟩,⟨4111,(i 4111 3364),(r 764)⟩,⟨4211,(i 4211 3383),(r 782)⟩,⟨8307,(i 8307 3402),(r 789)⟩,⟨12403,(i 12403 3421),(r 796)⟩,⟨20595,(i 20595 3440),(r 830)⟩,⟨24691,(i 24691 3459),(r 837)⟩,⟨28787,(i 28787 3478),(r 844)⟩]),(961,dO 1 [e P 411 2737 (r 886)]),(1052,⟨(.type "list_iterator"),none,(.fields #[(r 324),(i 0 0)]),#[]⟩),(1053,dO 0 []),(1054,dO 0 []),(1052,⟨(.type "list_iterator"),none,(.fields #[.none,(i 59 0)]),#[]⟩)]
def o9 (P:Params):List (Nat×Obj):=[(1053,dO 22 [⟨4115,(i 4115 3663),(r 527)⟩,⟨20499,(i 20499 3679),(r 546)⟩,⟨1073762323,(i 1073762323 3695),(r 580)⟩,⟨51,(i 51 3711),(r 594)⟩,⟨4147,(i 4147 3727),(r 601)⟩,⟨8243,(i 8243 3743),(r 608)⟩,⟨12339,(i 12339 3759),(r 615)⟩,⟨16435,(i 16435 3775),(r 622)⟩,⟨20531,(i 20531 3791),(r 629)⟩,⟨24627,(i 24627 3807),(r 636)⟩,⟨28723,(i 28723 3823),(r 643)⟩,⟨1073741875,(i 1073741875 3839),(r 657)⟩,⟨1073762355,(i 1073762355 3855),(r 680)⟩,⟨33554483,(i 33554483 3871),(r 694)⟩,⟨33558579,(i 33558579 3887),(r 701)⟩,⟨33562675,(i 33562675 3903),(r 708)⟩,⟨33566771,(i 33566771 3919),(r 715)⟩,⟨33570867,(i 33570867 3935),(r 722)⟩,⟨33574963,(i 33574963 3951),(r 729)⟩,⟨33579059,(i 33579059 3967),(r 736)⟩,⟨33583155,(i 33583155 3983),(r 743)⟩,⟨301990003,(i 301990003 4039),(r 849)⟩]),(1054,dO 1 [e P 411 3529 (r 886)]),(1138,⟨(.type "list_iterator"),none,(.fields #[(r 324),(i 0 0)]),#[]⟩),(1139,dO 0 []),(1140,dO 0 []),(1138,⟨(.type "list_iterator"),none,(.fields #[.none,(i 59 0)]),#[]⟩),(1139,dO 5 [⟨115,(i 115 2210),(r 862)⟩,⟨1048691,(i 1048691 2232),(r 868)⟩,⟨270532723,(i 270532723 2254),(r 874)⟩,⟨273678451,(i 273678451 2276),(r 880)⟩,⟨807403635,(i 807403635 2298),(r 886)⟩]),(1140,dO 1 [e P 411 4067 (r 886)]),(3,q296 P),(12,zO [(i 2 0),(i 0 0),(r 20),(i 7 0),(i 0 0),(r 41),(i 9 0),(i 0 0),(r 53),(i 14 0),(i 0 0),(r 72),(i 34 0),(i 0 0),(r 95),(i 41 0),(i 0 0),(r 236),(i 53 0),(i 0 0),(r 265),(i 64 0),(i 0 0),(r 295),(i 70 0),(i 0 0),(r 302),(i 88 0),(i 0 0),(r 309)]),(304,u0),(305,⟨(.type "builtin_function_or_method"),none,(.fields #[(.builtin "type.__prepare__"),(.type "type")]),#[]⟩),(306,dO 10 [e P 176 849 (v 182 284),e P 414 851 (v 413 850),e P 177 853 (i 88 852),e P 415 2315 (r 324),e P 416 2493 (r 891),e P 417 2736 (r 896),e P 418 3528 (r 960),e P 419 4066 (r 1053),e P 420 4254 (r 1139),e P 178 4255 (r 1143)]),(892,dO 2 []),(897,dO 2 []),(961,dO 2 []),(1054,dO 2 []),(1140,dO 2 []),(1143,u0),(1144,dO 4 [e P 176 849 (v 182 284),e P 177 853 (i 88 852),e P 415 2315 (r 324),e P 416 2493 (r 891),e P 417 2736 (r 896),e P 418 3528 (r 960),e P 419 4066 (r 1053),e P 420 4254 (r 1139),e P 178 4255 (r 1143),e P 317 4257 (r 1146),e P 179 4259 (r 1147),e P 4 4260 .none]),(1145,⟨(.type "type"),none,(.cls ⟨(nm 413),[(.type "object")],[(r 1145),(.type "object")],1144,(nm 413),true,[],[],false,none,false⟩),#[none,none,(some (v 413 842)),(some (v 413 850)),(some (.builtin "object.__new__")),(some (.bool true))]⟩),(1146,⟨(.type "getset_descriptor"),none,(.fields #[(v 317 4256),(r 1145),(.builtin "function.__dict__"),(.builtin "function.__dict__#set")]),#[]⟩),(1147,⟨(.type "getset_descriptor"),none,(.fields #[(v 179 4258),(r 1145),(.builtin "ExceptionGroup.__weakref__"),.none]),#[]⟩),(1148,⟨(.type "super"),none,(.fields #[(r 1145),(r 1145),(r 1145)]),#[]⟩),(1149,⟨(.type "builtin_function_or_method"),none,(.fields #[(.builtin "object.__init_subclass__"),(r 1145)]),#[]⟩),(1150,⟨(.type "list_iterator"),none,(.fields #[(r 324),(i 0 0)]),#[]⟩),(1151,dO 0 []),(1152,dO 0 []),(1150,⟨(.type "list_iterator"),none,(.fields #[.none,(i 59 0)]),#[]⟩),(1151,dO 59 [e P 398 854 (v 399 855),e P 400 872 (v 399 873),e P 401 890 (v 402 891),e P 403 908 (v 336 909),e P 325 935 (v 326 928),e P 327 936 (v 326 928),e P 328 939 (v 326 928),e P 329 940 (v 326 928),e P 330 941 (v 326 928),e P 331 942 (v 326 928),e P 335 1079 (v 336 1072),e P 337 1080 (v 336 1072),e P 338 1081 (v 336 1072),e P 339 1083 (v 336 1072),e P 340 1084 (v 336 1072),e P 342 1197 (v 343 1190),e P 344 1198 (v 343 1190),e P 345 1199 (v 343 1190),e P 347 1268 (v 336 1261),e P 348 1270 (v 336 1261),e P 349 1271 (v 336 1261),e P 350 1272 (v 336 1261),e P 351 1274 (v 336 1261),e P 352 1275 (v 336 1261),e P 354 1413 (v 355 1405),e P 356 1417 (v 355 1405),e P 358 1488 (v 355 1475),e P 360 1537 (v 361 1530),e P 362 1538 (v 361 1530),e P 363 1539 (v 361 1530),e P 364 1540 (v 361 1530),e P 365 1541 (v 361 1530),e P 366 1542 (v 361 1530),e P 367 1543 (v 361 1530),e P 368 1544 (v 361 1530),e P 370 1714 (v 361 1706),e P 371 1719 (v 361 1706),e P 373 1785 (v 361 1777),e P 374 1786 (v 361 1777),e P 375 1787 (v 361 1777),e P 376 1788 (v 361 1777),e P 377 1789 (v 361 1777),e P 378 1790 (v 361 1777),e P 379 1791 (v 361 1777),e P 380 1792 (v 361 1777),e P 382 1961 (v 382 1954),e P 383 1962 (v 382 1954),e P 385 2012 (v 386 2004),e P 387 2013 (v 386 2004),e P 388 2014 (v 386 2004),e P 390 2092 (v 391 2080),e P 392 2093 (v 391 2080),e P 393 2094 (v 391 2080),e P 404 2175 (v 405 2176),e P 406 2195 (v 410 2207),e P 407 2197 (v 410 2229),e P 408 2199 (v 410 2251),e P 409 2201 (v 410 2273),e P 396 2203 (v 410 2295)]),(1152,dO 1 [e P 411 4264 (r 886)]),(3,xI (q296 P) [e P 421 4500 (r 1151)])]
def o10 (P:Params):List (Nat×Obj):=[(1152,dO 2 []),(3,dO 52 [e P 2 165 (v 422 4725),e P 4 166 .none,e P 5 167 .none,e P 6 168 (.builtin "__main__.__loader__#opaque"),e P 7 169 .none,e P 8 170 (r 6),e P 9 171 (r 4),e P 10 173 (v 1 172),e P 11 174 .none,e P 168 216 (r 32),e P 169 232 (r 45),e P 170 257 (r 64),e P 183 283 (r 83),e P 184 318 (r 86),e P 219 427 (r 87),e P 256 429 (i 3 428),e P 257 431 (i 15 430),e P 258 433 (i 19 432),e P 259 435 (i 23 434),e P 260 437 (i 35 436),e P 261 439 (i 51 438),e P 262 441 (i 55 440),e P 263 443 (i 99 442),e P 264 445 (i 103 444),e P 265 447 (i 111 446),e P 266 449 (i 115 448),e P 267 451 (v 268 450),e P 269 460 (r 96),e P 270 721 (r 98),e P 304 772 (r 255),e P 305 818 (r 284),e P 306 832 (r 296),e P 307 841 (r 303),e P 413 4262 (r 1145),e P 421 4500 (r 1151),e P 423 4555 (r 1155),e P 424 4600 (r 1168),e P 425 4607 (r 1183),e P 426 4622 (r 1190),e P 427 4629 (r 1197),e P 428 4636 (r 1204),e P 429 4647 (r 1211),e P 430 4655 (r 1218),e P 431 4663 (r 1225),e P 432 4674 (r 1232),e P 433 4688 (r 1239),e P 434 4697 (r 1246),e P 435 4703 (r 1251),e P 436 4711 (r 1258),e P 437 4724 (r 1265),e P 438 4748 (r 1266),e P 439 4750 (v 440 4749)]),(12,zO [(i 2 0),(i 0 0),(r 20),(i 7 0),(i 0 0),(r 41),(i 9 0),(i 0 0),(r 53),(i 14 0),(i 0 0),(r 72),(i 34 0),(i 0 0),(r 95),(i 41 0),(i 0 0),(r 236),(i 53 0),(i 0 0),(r 265),(i 64 0),(i 0 0),(r 295),(i 70 0),(i 0 0),(r 302),(i 88 0),(i 0 0),(r 309),(i 98 0),(i 0 0),(r 1182),(i 102 0),(i 0 0),(r 1189),(i 117 0),(i 0 0),(r 1196),(i 119 0),(i 0 0),(r 1203),(i 121 0),(i 0 0),(r 1210),(i 141 0),(i 0 0),(r 1217),(i 144 0),(i 0 0),(r 1224),(i 147 0),(i 0 0),(r 1231),(i 159 0),(i 0 0),(r 1238),(i 189 0),(i 0 0),(r 1245),(i 194 0),(i 0 0),(r 1250),(i 196 0),(i 0 0),(r 1257),(i 204 0),(i 0 0),(r 1264)]),(1155,dO 12 [e P 361 4501 (r 1156),e P 336 4505 (r 1157),e P 343 4509 (r 1158),e P 326 4513 (r 1159),e P 399 4517 (r 1160),e P 402 4520 (r 1161),e P 355 4523 (r 1162),e P 382 4527 (r 1163),e P 386 4531 (r 1164),e P 391 4535 (r 1165),e P 405 4539 (r 1166),e P 410 4542 (r 1167)]),(1156,tO 0 [(v 309 4502),(v 310 4503),(v 311 4504)]),(1157,tO 0 [(v 309 4506),(v 310 4507),(v 312 4508)]),(1158,tO 0 [(v 310 4510),(v 311 4511),(v 312 4512)]),(1159,tO 0 [(v 310 4514),(v 311 4515),(v 312 4516)]),(1160,tO 0 [(v 309 4518),(v 312 4519)]),(1161,tO 0 [(v 309 4521),(v 312 4522)]),(1162,tO 0 [(v 309 4524),(v 310 4525),(v 312 4526)]),(1163,tO 0 [(v 309 4528),(v 310 4529),(v 312 4530)]),(1164,tO 0 [(v 309 4532),(v 310 4533),(v 313 4534)]),(1165,tO 0 [(v 309 4536),(v 312 4537),(v 313 4538)]),(1166,tO 0 [(v 310 4540),(v 311 4541)]),(1167,u0),(1168,dO 8 [e P 336 4556 (r 1169),e P 343 4561 (r 1170),e P 326 4566 (r 1171),e P 399 4571 (r 1172),e P 402 4575 (r 1173),e P 355 4580 (r 1174),e P 382 4584 (r 1175),e P 391 4588 (r 1176)]),(1169,tO 0 [(vi (-2048) 4558),(i 2047 4559),(i 1 4560)]),(1170,tO 0 [(vi (-2048) 4563),(i 2047 4564),(i 1 4565)]),(1171,tO 0 [(vi (-4096) 4568),(i 4094 4569),(i 2 4570)]),(1172,tO 0 [(i 0 4572),(i 1048575 4573),(i 1 4574)]),(1173,tO 0 [(vi (-1048576) 4577),(i 1048574 4578),(i 2 4579)]),(1174,tO 0 [(i 0 4581),(i 31 4582),(i 1 4583)]),(1175,tO 0 [(i 0 4585),(i 4095 4586),(i 1 4587)]),(1176,tO 0 [(i 0 4589),(i 31 4590),(i 1 4591)]),(1177,u0),(1178,z0),(1179,tO 0 [(v 308 4604)]),(1180,u0),(1181,gO (st 30) 425),(1182,cO 425 4601 425 4602 4603 98 1 (r 1177) 4605 4606 [(r 1178),.none,(r 1179),(r 1180),(r 1181)]),(1183,fO (st 30) 425 .none (v 182 284) (r 1182))]
def o11 (P:Params):List (Nat×Obj):=[(1184,u0),(1185,z0),(1186,tO 0 [(v 441 4611),(v 318 4612),(v 442 4613),(v 443 4614),(v 308 4615),(v 397 4616),(v 444 4617),(v 445 4618),(v 446 4619)]),(1187,u0),(1188,gO (st 31) 426),(1189,cO 426 4608 426 4609 4610 102 2 (r 1184) 4620 4621 [(r 1185),.none,(r 1186),(r 1187),(r 1188)]),(1190,fO (st 31) 426 .none (v 182 284) (r 1189)),(1191,u0),(1192,z0),(1193,tO 0 [(v 312 4626)]),(1194,u0),(1195,gO (st 32) 427),(1196,cO 427 4623 427 4624 4625 117 1 (r 1191) 4627 4628 [(r 1192),.none,(r 1193),(r 1194),(r 1195)]),(1197,fO (st 32) 427 .none (v 182 284) (r 1196)),(1198,u0),(1199,z0),(1200,tO 0 [(v 312 4633)]),(1201,u0),(1202,gO (st 33) 428),(1203,cO 428 4630 428 4631 4632 119 1 (r 1198) 4634 4635 [(r 1199),.none,(r 1200),(r 1201),(r 1202)]),(1204,fO (st 33) 428 .none (v 182 284) (r 1203)),(1205,u0),(1206,z0),(1207,tO 0 [(v 441 4640),(v 411 4641),(v 318 4642),(v 312 4643),(v 395 4644)]),(1208,u0),(1209,gO (st 34) 429),(1210,cO 429 4637 429 4638 4639 121 1 (r 1205) 4645 4646 [(r 1206),.none,(r 1207),(r 1208),(r 1209)]),(1211,fO (st 34) 429 .none (v 182 284) (r 1210)),(1212,u0),(1213,z0),(1214,tO 0 [(v 180 4651),(v 447 4652)]),(1215,u0)]
def o12 (P:Params):List (Nat×Obj):=[(1216,gO (st 35) 430),(1217,cO 430 4648 430 4649 4650 141 1 (r 1212) 4653 4654 [(r 1213),.none,(r 1214),(r 1215),(r 1216)]),(1218,fO (st 35) 430 .none (v 182 284) (r 1217)),(1219,u0),(1220,z0),(1221,tO 0 [(v 180 4659),(v 447 4660)]),(1222,u0),(1223,gO (st 36) 431),(1224,cO 431 4656 431 4657 4658 144 1 (r 1219) 4661 4662 [(r 1220),.none,(r 1221),(r 1222),(r 1223)]),(1225,fO (st 36) 431 .none (v 182 284) (r 1224)),(1226,u0),(1227,z0),(1228,tO 0 [(v 180 4667),(v 319 4668),(v 320 4669),(v 321 4670),(v 411 4671)]),(1229,u0),(1230,gO (st 37) 432),(1231,cO 432 4664 432 4665 4666 147 1 (r 1226) 4672 4673 [(r 1227),.none,(r 1228),(r 1229),(r 1230)]),(1232,fO (st 37) 432 .none (v 182 284) (r 1231)),(1233,u0),(1234,z0),(1235,tO 0 [(v 180 4678),(v 411 4679),(v 318 4680),(v 309 4681),(v 310 4682),(v 311 4683),(v 448 4684),(v 447 4685)]),(1236,u0),(1237,gO (st 38) 433),(1238,cO 433 4675 433 4676 4677 159 1 (r 1233) 4686 4687 [(r 1234),.none,(r 1235),(r 1236),(r 1237)]),(1239,fO (st 38) 433 .none (v 182 284) (r 1238)),(1240,u0),(1241,z0),(1242,tO 0 [(v 397 4692),(v 308 4693),(v 449 4694)]),(1243,u0),(1244,gO (st 39) 434),(1245,cO 434 4689 434 4690 4691 189 1 (r 1240) 4695 4696 [(r 1241),.none,(r 1242),(r 1243),(r 1244)]),(1246,fO (st 39) 434 .none (v 182 284) (r 1245)),(1247,u0)]
def o13 (P:Params):List (Nat×Obj):=[(1248,z0),(1249,gO (st 40) 435),(1250,cO 435 4698 435 4699 4700 194 1 (r 1247) 4701 4702 [(r 1248),.none,.none,.none,(r 1249)]),(1251,fO (st 40) 435 .none (v 182 284) (r 1250)),(1252,u0),(1253,z0),(1254,tO 0 [(v 441 4707),(v 312 4708)]),(1255,u0),(1256,gO (st 41) 436),(1257,cO 436 4704 436 4705 4706 196 1 (r 1252) 4709 4710 [(r 1253),.none,(r 1254),(r 1255),(r 1256)]),(1258,fO (st 41) 436 .none (v 182 284) (r 1257)),(1259,u0),(1260,z0),(1261,tO 0 [(v 441 4715),(v 318 4716),(v 308 4717),(v 312 4718),(v 309 4719),(v 310 4720),(v 311 4721)]),(1262,u0),(1263,gO (st 42) 437),(1264,cO 437 4712 437 4713 4714 204 1 (r 1259) 4722 4723 [(r 1260),.none,(r 1261),(r 1262),(r 1263)]),(1265,fO (st 42) 437 .none (v 182 284) (r 1264)),(1266,dO 7 [e P 450 4727 (i 10 4728),e P 451 4729 (i 9 4730),e P 452 4731 (i 13 4732),e P 453 4733 (i 0 4734),e P 454 4735 (i 92 4736),e P 455 4737 (i 39 4738),e P 456 4739 (i 34 4740)]),(3,q435 P),(12,zO [(i 2 0),(i 0 0),(r 20),(i 7 0),(i 0 0),(r 41),(i 9 0),(i 0 0),(r 53),(i 14 0),(i 0 0),(r 72),(i 34 0),(i 0 0),(r 95),(i 41 0),(i 0 0),(r 236),(i 53 0),(i 0 0),(r 265),(i 64 0),(i 0 0),(r 295),(i 70 0),(i 0 0),(r 302),(i 88 0),(i 0 0),(r 309),(i 98 0),(i 0 0),(r 1182),(i 102 0),(i 0 0),(r 1189),(i 117 0),(i 0 0),(r 1196),(i 119 0),(i 0 0),(r 1203),(i 121 0),(i 0 0),(r 1210),(i 141 0),(i 0 0),(r 1217),(i 144 0),(i 0 0),(r 1224),(i 147 0),(i 0 0),(r 1231),(i 159 0),(i 0 0),(r 1238),(i 189 0),(i 0 0),(r 1245),(i 194 0),(i 0 0),(r 1250),(i 196 0),(i 0 0),(r 1257),(i 204 0),(i 0 0),(r 1264),(i 234 0),(i 0 0),(r 1272),(i 238 0),(i 0 0),(r 1279),(i 245 0),(i 0 0),(r 1286),(i 250 0),(i 0 0),(r 1293),(i 263 0),(i 0 0),(r 1300),(i 281 0),(i 0 0),(r 1307),(i 294 0),(i 0 0),(r 1312),(i 296 0),(i 0 0),(r 1317),(i 298 0),(i 0 0),(r 1324),(i 307 0),(i 0 0),(r 1331),(i 327 0),(i 0 0),(r 1338),(i 332 0),(i 0 0),(r 1345),(i 340 0),(i 0 0),(r 1352)]),(1267,u0),(1268,z0),(1269,tO 0 [(v 488 4762),(v 185 4763),(v 489 4764)]),(1270,u0),(1271,gO (st 49) 464),(1272,cO 464 4759 464 4760 4761 234 2 (r 1267) 4765 4766 [(r 1268),.none,(r 1269),(r 1270),(r 1271)]),(1273,fO (st 49) 464 .none (v 422 4725) (r 1272)),(1274,u0),(1275,z0),(1276,tO 0 [(v 488 4771),(v 490 4772),(v 185 4773),(v 491 4774),(v 492 4775)]),(1277,u0)]
def o14 (P:Params):List (Nat×Obj):=[(1278,gO (st 50) 465),(1279,cO 465 4768 465 4769 4770 238 3 (r 1274) 4776 4777 [(r 1275),.none,(r 1276),(r 1277),(r 1278)]),(1280,fO (st 50) 465 .none (v 422 4725) (r 1279)),(1281,u0),(1282,z0),(1283,tO 0 [(v 488 4782),(v 185 4783),(v 490 4784)]),(1284,u0),(1285,gO (st 51) 466),(1286,cO 466 4779 466 4780 4781 245 2 (r 1281) 4785 4786 [(r 1282),.none,(r 1283),(r 1284),(r 1285)]),(1287,fO (st 51) 466 .none (v 422 4725) (r 1286)),(1288,u0),(1289,z0),(1290,tO 0 [(v 488 4791),(v 185 4792),(v 395 4793),(v 493 4794),(v 490 4795)]),(1291,u0),(1292,gO (st 52) 467),(1293,cO 467 4788 467 4789 4790 250 2 (r 1288) 4796 4797 [(r 1289),.none,(r 1290),(r 1291),(r 1292)]),(1294,fO (st 52) 467 .none (v 422 4725) (r 1293)),(1295,u0),(1296,z0),(1297,tO 0 [(v 488 4802),(v 185 4803),(v 395 4804),(v 490 4805),(v 492 4806),(v 489 4807)]),(1298,u0),(1299,gO (st 53) 468),(1300,cO 468 4799 468 4800 4801 263 2 (r 1295) 4808 4809 [(r 1296),.none,(r 1297),(r 1298),(r 1299)]),(1301,fO (st 53) 468 .none (v 422 4725) (r 1300)),(1302,u0),(1303,z0),(1304,tO 0 [(v 488 4814),(v 185 4815),(v 494 4816),(v 495 4817),(v 496 4818),(v 497 4819),(v 498 4820)]),(1305,u0),(1306,gO (st 54) 469),(1307,cO 469 4811 469 4812 4813 281 2 (r 1302) 4821 4822 [(r 1303),.none,(r 1304),(r 1305),(r 1306)]),(1308,fO (st 54) 469 .none (v 422 4725) (r 1307)),(1309,u0)]
def o15 (P:Params):List (Nat×Obj):=[(1310,z0),(1311,gO (st 55) 470),(1312,cO 470 4824 470 4825 4826 294 1 (r 1309) 4827 4828 [(r 1310),.none,.none,.none,(r 1311)]),(1313,fO (st 55) 470 .none (v 422 4725) (r 1312)),(1314,u0),(1315,z0),(1316,gO (st 56) 471),(1317,cO 471 4830 471 4831 4832 296 1 (r 1314) 4833 4834 [(r 1315),.none,.none,.none,(r 1316)]),(1318,fO (st 56) 471 .none (v 422 4725) (r 1317)),(1319,u0),(1320,z0),(1321,tO 0 [(v 488 4839),(v 490 4840),(v 185 4841),(v 492 4842)]),(1322,u0),(1323,gO (st 57) 472),(1324,cO 472 4836 472 4837 4838 298 3 (r 1319) 4843 4844 [(r 1320),.none,(r 1321),(r 1322),(r 1323)]),(1325,fO (st 57) 472 .none (v 422 4725) (r 1324)),(1326,u0),(1327,z0),(1328,tO 0 [(v 488 4849),(v 185 4850),(v 395 4851),(v 499 4852),(v 490 4853),(v 500 4854),(v 489 4855),(v 492 4856)]),(1329,u0),(1330,gO (st 58) 473),(1331,cO 473 4846 473 4847 4848 307 2 (r 1326) 4857 4858 [(r 1327),.none,(r 1328),(r 1329),(r 1330)]),(1332,fO (st 58) 473 .none (v 422 4725) (r 1331)),(1333,u0),(1334,z0),(1335,tO 0 [(v 488 4863),(v 185 4864),(v 499 4865),(v 501 4866)]),(1336,u0),(1337,gO (st 59) 474),(1338,cO 474 4860 474 4861 4862 327 2 (r 1333) 4867 4868 [(r 1334),.none,(r 1335),(r 1336),(r 1337)]),(1339,fO (st 59) 474 .none (v 422 4725) (r 1338)),(1340,u0),(1341,z0)]
def o16 (P:Params):List (Nat×Obj):=[(1342,tO 0 [(v 501 4873),(v 185 4874),(v 502 4875)]),(1343,u0),(1344,gO (st 60) 475),(1345,cO 475 4870 475 4871 4872 332 2 (r 1340) 4876 4877 [(r 1341),.none,(r 1342),(r 1343),(r 1344)]),(1346,fO (st 60) 475 .none (v 422 4725) (r 1345)),(1347,u0),(1348,z0),(1349,tO 0 [(v 496 4884),(v 503 4885),(v 447 4886)]),(1350,u0),(1351,gO (st 62) 476),(1352,cO 476 4881 476 4882 4883 340 2 (r 1347) 4887 4888 [(r 1348),.none,(r 1349),(r 1350),(r 1351)]),(1353,fO (st 62) 476 .none (v 504 4879) (r 1352)),(1354,tO 0 [(v 478 4892),(v 480 4894),(v 482 4896)]),(1355,tO 0 [(v 335 4899),(v 337 4900),(v 338 4901),(v 339 4902),(v 340 4903)]),(1356,tO 0 [(v 505 4905),(v 506 4906),(v 507 4907),(v 508 4908)]),(1357,dO 3 [e P 509 4910 (i 1 4911),e P 510 4912 (i 2 4913),e P 511 4914 (i 4 4915)]),(3,q528 P),(12,zO [(i 2 0),(i 0 0),(r 20),(i 7 0),(i 0 0),(r 41),(i 9 0),(i 0 0),(r 53),(i 14 0),(i 0 0),(r 72),(i 34 0),(i 0 0),(r 95),(i 41 0),(i 0 0),(r 236),(i 53 0),(i 0 0),(r 265),(i 64 0),(i 0 0),(r 295),(i 70 0),(i 0 0),(r 302),(i 88 0),(i 0 0),(r 309),(i 98 0),(i 0 0),(r 1182),(i 102 0),(i 0 0),(r 1189),(i 117 0),(i 0 0),(r 1196),(i 119 0),(i 0 0),(r 1203),(i 121 0),(i 0 0),(r 1210),(i 141 0),(i 0 0),(r 1217),(i 144 0),(i 0 0),(r 1224),(i 147 0),(i 0 0),(r 1231),(i 159 0),(i 0 0),(r 1238),(i 189 0),(i 0 0),(r 1245),(i 194 0),(i 0 0),(r 1250),(i 196 0),(i 0 0),(r 1257),(i 204 0),(i 0 0),(r 1264),(i 234 0),(i 0 0),(r 1272),(i 238 0),(i 0 0),(r 1279),(i 245 0),(i 0 0),(r 1286),(i 250 0),(i 0 0),(r 1293),(i 263 0),(i 0 0),(r 1300),(i 281 0),(i 0 0),(r 1307),(i 294 0),(i 0 0),(r 1312),(i 296 0),(i 0 0),(r 1317),(i 298 0),(i 0 0),(r 1324),(i 307 0),(i 0 0),(r 1331),(i 327 0),(i 0 0),(r 1338),(i 332 0),(i 0 0),(r 1345),(i 340 0),(i 0 0),(r 1352),(i 357 0),(i 0 0),(r 1394)]),(1358,dO 28 [e P 516 4926 (r 1359),e P 517 4932 (r 1360),e P 518 4938 (r 1361),e P 519 4944 (r 1362),e P 520 4950 (r 1363),e P 521 4956 (r 1364),e P 522 4962 (r 1365),e P 523 4968 (r 1366),e P 524 4974 (r 1367),e P 525 4980 (r 1368),e P 526 4986 (r 1369),e P 527 4992 (r 1370),e P 528 4998 (r 1371),e P 529 5004 (r 1372),e P 530 5010 (r 1373),e P 531 5016 (r 1374),e P 532 5022 (r 1375),e P 533 5028 (r 1377),e P 534 5033 (r 1378),e P 535 5037 (r 1379),e P 536 5042 (r 1380),e P 537 5047 (r 1381),e P 538 5052 (r 1382),e P 539 5057 (r 1383),e P 540 5062 (r 1384),e P 541 5067 (r 1385),e P 542 5072 (r 1386),e P 543 5077 (r 1387)]),(1359,tO 0 [(v 347 4927),(v 187 4928),(v 187 4929),(v 453 4930)]),(1360,tO 0 [(v 347 4933),(i 0 4934),(i 1 4935),(v 453 4936)]),(1361,tO 0 [(v 350 4939),(i 0 4940),(i 1 4941),(v 544 4942)]),(1362,tO 0 [(v 370 4945),(i 0 4946),(v 187 4947),(i 1 4948)]),(1363,tO 0 [(v 349 4951),(i 0 4952),(i 1 4953),(v 545 4954)]),(1364,tO 0 [(v 364 4957),(i 0 4958),(v 187 4959),(i 1 4960)]),(1365,tO 0 [(v 363 4963),(i 0 4964),(i 1 4965),(v 187 4966)]),(1366,tO 0 [(v 363 4969),(i 0 4970),(v 187 4971),(i 1 4972)]),(1367,tO 0 [(v 325 4975),(i 0 4976),(v 187 4977),(i 1 4978)]),(1368,tO 0 [(v 327 4981),(i 0 4982),(v 187 4983),(i 1 4984)]),(1369,tO 0 [(v 329 4987),(v 187 4988),(i 0 4989),(i 1 4990)]),(1370,tO 0 [(v 329 4993),(i 0 4994),(v 187 4995),(i 1 4996)]),(1371,tO 0 [(v 328 4999),(i 0 5000),(v 187 5001),(i 1 5002)])]
def o17 (P:Params):List (Nat×Obj):=[(1372,tO 0 [(v 328 5005),(v 187 5006),(i 0 5007),(i 1 5008)]),(1373,tO 0 [(v 328 5011),(i 1 5012),(i 0 5013),(i 2 5014)]),(1374,tO 0 [(v 329 5017),(i 1 5018),(i 0 5019),(i 2 5020)]),(1375,tO 0 [(v 330 5023),(i 1 5024),(i 0 5025),(i 2 5026)]),(1377,tO 0 [(v 331 5029),(i 1 5030),(i 0 5031),(i 2 5032)]),(1378,tO 0 [(v 401 5034),(v 187 5035),(i 0 5036)]),(1379,tO 0 [(v 403 5038),(v 187 5039),(i 0 5040),(v 453 5041)]),(1380,tO 0 [(v 403 5043),(v 187 5044),(v 188 5045),(v 453 5046)]),(1381,tO 0 [(v 387 5048),(i 0 5049),(i 1 5050),(v 187 5051)]),(1382,tO 0 [(v 385 5053),(v 187 5054),(i 0 5055),(i 1 5056)]),(1383,tO 0 [(v 387 5058),(v 187 5059),(i 0 5060),(i 1 5061)]),(1384,tO 0 [(v 388 5063),(v 187 5064),(i 0 5065),(i 1 5066)]),(1385,tO 0 [(v 390 5068),(v 187 5069),(i 0 5070),(i 1 5071)]),(1386,tO 0 [(v 392 5073),(v 187 5074),(i 0 5075),(i 1 5076)]),(1387,tO 0 [(v 393 5078),(v 187 5079),(i 0 5080),(i 1 5081)]),(1388,dO 3 [e P 546 5094 (i 2 5095),e P 547 5096 (i 1 5097),e P 548 5098 (i 1 5099)]),(1389,u0),(1390,z0),(1391,tO 0 [(v 496 5107)]),(1392,u0),(1393,gO (st 75) 515),(1394,cO 515 5104 515 5105 5106 357 1 (r 1389) 5108 5109 [(r 1390),.none,(r 1391),(r 1392),(r 1393)]),(1395,fO (st 75) 515 .none (v 457 4890) (r 1394)),(3,q567 P),(12,zO [(i 2 0),(i 0 0),(r 20),(i 7 0),(i 0 0),(r 41),(i 9 0),(i 0 0),(r 53),(i 14 0),(i 0 0),(r 72),(i 34 0),(i 0 0),(r 95),(i 41 0),(i 0 0),(r 236),(i 53 0),(i 0 0),(r 265),(i 64 0),(i 0 0),(r 295),(i 70 0),(i 0 0),(r 302),(i 88 0),(i 0 0),(r 309),(i 98 0),(i 0 0),(r 1182),(i 102 0),(i 0 0),(r 1189),(i 117 0),(i 0 0),(r 1196),(i 119 0),(i 0 0),(r 1203),(i 121 0),(i 0 0),(r 1210),(i 141 0),(i 0 0),(r 1217),(i 144 0),(i 0 0),(r 1224),(i 147 0),(i 0 0),(r 1231),(i 159 0),(i 0 0),(r 1238),(i 189 0),(i 0 0),(r 1245),(i 194 0),(i 0 0),(r 1250),(i 196 0),(i 0 0),(r 1257),(i 204 0),(i 0 0),(r 1264),(i 234 0),(i 0 0),(r 1272),(i 238 0),(i 0 0),(r 1279),(i 245 0),(i 0 0),(r 1286),(i 250 0),(i 0 0),(r 1293),(i 263 0),(i 0 0),(r 1300),(i 281 0),(i 0 0),(r 1307),(i 294 0),(i 0 0),(r 1312),(i 296 0),(i 0 0),(r 1317),(i 298 0),(i 0 0),(r 1324),(i 307 0),(i 0 0),(r 1331),(i 327 0),(i 0 0),(r 1338),(i 332 0),(i 0 0),(r 1345),(i 340 0),(i 0 0),(r 1352),(i 357 0),(i 0 0),(r 1394),(i 359 0),(i 0 0),(r 1401),(i 361 0),(i 0 0),(r 1408)]),(1396,u0),(1397,z0),(1398,tO 0 [(v 496 5114)]),(1399,u0),(1400,gO (st 76) 549),(1401,cO 549 5111 549 5112 5113 359 1 (r 1396) 5115 5116 [(r 1397),.none,(r 1398),(r 1399),(r 1400)]),(1402,fO (st 76) 549 .none (v 457 4890) (r 1401))]
def o18 (P:Params):List (Nat×Obj):=[(1410,u0),(1411,z0),(1412,tO 0 [(v 172 5133),(v 185 5134),(v 551 5135),(v 308 5136),(v 552 5137),(v 553 5138),(v 554 5139)]),(1413,u0),(1414,gO (mt 77 0) 555),(1415,cO 175 5130 555 5131 5132 363 7 (r 1410) 5140 5141 [(r 1411),.none,(r 1412),(r 1413),(r 1414)]),(1416,fO (mt 77 0) 555 .none (v 457 4890) (r 1415)),(1417,u0),(1418,z0),(1419,tO 0 [(v 172 5146),(v 444 5147),(v 556 5148)]),(1420,u0),(1421,gO (mt 77 1) 557),(1422,cO 558 5143 557 5144 5145 372 3 (r 1417) 5149 5150 [(r 1418),.none,(r 1419),(r 1420),(r 1421)]),(1423,fO (mt 77 1) 557 .none (v 457 4890) (r 1422)),(1424,tO 0 [(v 185 5152),(v 308 5153),(v 554 5154),(v 552 5155),(v 551 5156),(v 553 5157),(v 559 5158)]),(1425,dO 4 [e P 176 5125 (v 457 4890),e P 177 5129 (i 361 5128),e P 175 5142 (r 1416),e P 558 5151 (r 1423),e P 178 5159 (r 1424),e P 317 5161 (r 1427),e P 179 5163 (r 1428),e P 4 5164 .none]),(1426,⟨(.type "type"),none,(.cls ⟨(nm 550),[(.type "object")],[(r 1426),(.type "object")],1425,(nm 550),true,[],[],false,none,false⟩),#[none,none,(some (v 550 5118)),(some (v 550 5126)),(some (.builtin "object.__new__")),(some (.bool true))]⟩),(1427,⟨(.type "getset_descriptor"),none,(.fields #[(v 317 5160),(r 1426),(.builtin "function.__dict__"),(.builtin "function.__dict__#set")]),#[]⟩),(1428,⟨(.type "getset_descriptor"),none,(.fields #[(v 179 5162),(r 1426),(.builtin "ExceptionGroup.__weakref__"),.none]),#[]⟩),(3,q595 P),(12,zO [(i 2 0),(i 0 0),(r 20),(i 7 0),(i 0 0),(r 41),(i 9 0),(i 0 0),(r 53),(i 14 0),(i 0 0),(r 72),(i 34 0),(i 0 0),(r 95),(i 41 0),(i 0 0),(r 236),(i 53 0),(i 0 0),(r 265),(i 64 0),(i 0 0),(r 295),(i 70 0),(i 0 0),(r 302),(i 88 0),(i 0 0),(r 309),(i 98 0),(i 0 0),(r 1182),(i 102 0),(i 0 0),(r 1189),(i 117 0),(i 0 0),(r 1196),(i 119 0),(i 0 0),(r 1203),(i 121 0),(i 0 0),(r 1210),(i 141 0),(i 0 0),(r 1217),(i 144 0),(i 0 0),(r 1224),(i 147 0),(i 0 0),(r 1231),(i 159 0),(i 0 0),(r 1238),(i 189 0),(i 0 0),(r 1245),(i 194 0),(i 0 0),(r 1250),(i 196 0),(i 0 0),(r 1257),(i 204 0),(i 0 0),(r 1264),(i 234 0),(i 0 0),(r 1272),(i 238 0),(i 0 0),(r 1279),(i 245 0),(i 0 0),(r 1286),(i 250 0),(i 0 0),(r 1293),(i 263 0),(i 0 0),(r 1300),(i 281 0),(i 0 0),(r 1307),(i 294 0),(i 0 0),(r 1312),(i 296 0),(i 0 0),(r 1317),(i 298 0),(i 0 0),(r 1324),(i 307 0),(i 0 0),(r 1331),(i 327 0),(i 0 0),(r 1338),(i 332 0),(i 0 0),(r 1345),(i 340 0),(i 0 0),(r 1352),(i 357 0),(i 0 0),(r 1394),(i 359 0),(i 0 0),(r 1401),(i 361 0),(i 0 0),(r 1408),(i 375 0),(i 0 0),(r 1436),(i 497 0),(i 0 0),(r 1509),(i 499 0),(i 0 0),(r 1516),(i 509 0),(i 0 0),(r 1523)]),(1438,u0),(1439,z0),(1440,tO 0 [(v 172 5182),(v 564 5183),(v 565 5184),(v 488 5185),(v 308 5186),(v 185 5187)]),(1441,u0),(1442,gO (mt 78 0) 566),(1443,cO 175 5179 566 5180 5181 377 2 (r 1438) 5188 5189 [(r 1439),.none,(r 1440),(r 1441),(r 1442)]),(1444,fO (mt 78 0) 566 .none (v 457 4890) (r 1443)),(1445,u0),(1446,z0),(1447,gO (mt 78 1) 567),(1448,cO 568 5191 567 5192 5193 394 3 (r 1445) 5194 5195 [(r 1446),.none,.none,.none,(r 1447)])]
def o19 (P:Params):List (Nat×Obj):=[(1449,fO (mt 78 1) 567 .none (v 457 4890) (r 1448)),(1450,u0),(1451,z0),(1452,tO 0 [(v 172 5200),(v 308 5201),(v 185 5202),(v 490 5203)]),(1453,u0),(1454,gO (mt 78 2) 569),(1455,cO 570 5197 569 5198 5199 415 3 (r 1450) 5204 5205 [(r 1451),.none,(r 1452),(r 1453),(r 1454)]),(1456,fO (mt 78 2) 569 .none (v 457 4890) (r 1455)),(1457,u0),(1458,z0),(1459,tO 0 [(v 172 5210),(v 571 5211),(v 308 5212)]),(1460,u0),(1461,gO (mt 78 3) 572),(1462,cO 573 5207 572 5208 5209 424 2 (r 1457) 5213 5214 [(r 1458),.none,(r 1459),(r 1460),(r 1461)]),(1463,fO (mt 78 3) 572 .none (v 457 4890) (r 1462)),(1464,u0),(1465,z0),(1466,tO 0 [(v 172 5219),(v 571 5220)]),(1467,u0),(1468,gO (mt 78 4) 574),(1469,cO 360 5216 574 5217 5218 435 2 (r 1464) 5221 5222 [(r 1465),.none,(r 1466),(r 1467),(r 1468)]),(1470,fO (mt 78 4) 574 .none (v 457 4890) (r 1469)),(1471,u0),(1472,z0),(1473,tO 0 [(v 172 5227),(v 571 5228),(v 308 5229),(v 496 5230)]),(1474,u0),(1475,gO (mt 78 5) 575),(1476,cO 576 5224 575 5225 5226 440 2 (r 1471) 5231 5232 [(r 1472),.none,(r 1473),(r 1474),(r 1475)]),(1477,fO (mt 78 5) 575 .none (v 457 4890) (r 1476)),(1478,u0),(1479,z0),(1480,tO 0 [(v 172 5237),(v 571 5238),(v 397 5239)])]
def o20 (P:Params):List (Nat×Obj):=[(1481,u0),(1482,gO (mt 78 6) 577),(1483,cO 578 5234 577 5235 5236 460 2 (r 1478) 5240 5241 [(r 1479),.none,(r 1480),(r 1481),(r 1482)]),(1484,fO (mt 78 6) 577 .none (v 457 4890) (r 1483)),(1485,u0),(1486,z0),(1487,tO 0 [(v 172 5246),(v 571 5247),(v 395 5248),(v 488 5249)]),(1488,u0),(1489,gO (mt 78 7) 579),(1490,cO 580 5243 579 5244 5245 472 2 (r 1485) 5250 5251 [(r 1486),.none,(r 1487),(r 1488),(r 1489)]),(1491,fO (mt 78 7) 579 .none (v 457 4890) (r 1490)),(1492,u0),(1493,z0),(1494,tO 0 [(v 172 5256),(v 488 5257),(v 185 5258),(v 581 5259),(v 496 5260),(v 499 5261),(v 501 5262),(v 498 5263)]),(1495,u0),(1496,gO (mt 78 8) 582),(1497,cO 583 5253 582 5254 5255 482 4 (r 1492) 5264 5265 [(r 1493),.none,(r 1494),(r 1495),(r 1496)]),(1498,fO (mt 78 8) 582 .none (v 457 4890) (r 1497)),(1499,tO 0 [(v 584 5267),(v 585 5268),(v 586 5269),(v 306 5270),(v 551 5271),(v 587 5272),(v 553 5273),(v 588 5274),(v 589 5275)]),(1500,dO 4 [e P 176 5174 (v 457 4890),e P 177 5178 (i 375 5177),e P 175 5190 (r 1444),e P 568 5196 (r 1449),e P 570 5206 (r 1456),e P 573 5215 (r 1463),e P 360 5223 (r 1470),e P 576 5233 (r 1477),e P 578 5242 (r 1484),e P 580 5252 (r 1491),e P 583 5266 (r 1498),e P 178 5276 (r 1499),e P 317 5278 (r 1502),e P 179 5280 (r 1503),e P 4 5281 .none]),(1501,⟨(.type "type"),none,(.cls ⟨(nm 560),[(.type "object")],[(r 1501),(.type "object")],1500,(nm 560),true,[],[],false,none,false⟩),#[none,none,(some (v 560 5167)),(some (v 560 5175)),(some (.builtin "object.__new__")),(some (.bool true))]⟩),(1502,⟨(.type "getset_descriptor"),none,(.fields #[(v 317 5277),(r 1501),(.builtin "function.__dict__"),(.builtin "function.__dict__#set")]),#[]⟩),(1503,⟨(.type "getset_descriptor"),none,(.fields #[(v 179 5279),(r 1501),(.builtin "ExceptionGroup.__weakref__"),.none]),#[]⟩),(1506,u0),(1507,z0),(1508,gO (st 79) 561),(1509,cO 561 5284 561 5285 5286 497 2 (r 1506) 5287 5288 [(r 1507),.none,.none,.none,(r 1508)]),(1510,fO (st 79) 561 .none (v 457 4890) (r 1509)),(1511,u0),(1512,z0),(1513,tO 0 [(v 309 5293),(v 496 5294),(v 590 5295),(v 185 5296),(v 397 5297),(v 395 5298)]),(1514,u0)]
def o21 (P:Params):List (Nat×Obj):=[(1515,gO (st 80) 562),(1516,cO 562 5290 562 5291 5292 499 4 (r 1511) 5299 5300 [(r 1512),.none,(r 1513),(r 1514),(r 1515)]),(1517,fO (st 80) 562 .none (v 457 4890) (r 1516)),(1525,u0),(1526,z0),(1527,tO 0 [(v 172 5317),(v 488 5318),(v 591 5319),(v 592 5320),(v 593 5321),(v 594 5322),(v 585 5323)]),(1528,u0),(1529,gO (mt 81 0) 595),(1530,cO 175 5314 595 5315 5316 511 7 (r 1525) 5324 5325 [(r 1526),.none,(r 1527),(r 1528),(r 1529)]),(1531,fO (mt 81 0) 595 .none (v 457 4890) (r 1530)),(1532,u0),(1533,z0),(1534,tO 0 [(v 172 5330),(v 395 5331)]),(1535,u0),(1536,gO (mt 81 1) 596),(1537,cO 597 5327 596 5328 5329 520 1 (r 1532) 5332 5333 [(r 1533),.none,(r 1534),(r 1535),(r 1536)]),(1538,fO (mt 81 1) 596 .none (v 457 4890) (r 1537)),(1539,tO 0 [(v 591 5335),(v 598 5336),(v 599 5337),(v 585 5338),(v 594 5339),(v 488 5340),(v 600 5341),(v 592 5342),(v 601 5343)]),(1540,dO 4 [e P 176 5309 (v 457 4890),e P 177 5313 (i 509 5312),e P 175 5326 (r 1531),e P 597 5334 (r 1538),e P 178 5344 (r 1539),e P 317 5346 (r 1542),e P 179 5348 (r 1543),e P 4 5349 .none]),(1541,⟨(.type "type"),none,(.cls ⟨(nm 563),[(.type "object")],[(r 1541),(.type "object")],1540,(nm 563),true,[],[],false,none,false⟩),#[none,none,(some (v 563 5302)),(some (v 563 5310)),(some (.builtin "object.__new__")),(some (.bool true))]⟩),(1542,⟨(.type "getset_descriptor"),none,(.fields #[(v 317 5345),(r 1541),(.builtin "function.__dict__"),(.builtin "function.__dict__#set")]),#[]⟩),(1543,⟨(.type "getset_descriptor"),none,(.fields #[(v 179 5347),(r 1541),(.builtin "ExceptionGroup.__weakref__"),.none]),#[]⟩),(3,q694 P),(12,zO [(i 2 0),(i 0 0),(r 20),(i 7 0),(i 0 0),(r 41),(i 9 0),(i 0 0),(r 53),(i 14 0),(i 0 0),(r 72),(i 34 0),(i 0 0),(r 95),(i 41 0),(i 0 0),(r 236),(i 53 0),(i 0 0),(r 265),(i 64 0),(i 0 0),(r 295),(i 70 0),(i 0 0),(r 302),(i 88 0),(i 0 0),(r 309),(i 98 0),(i 0 0),(r 1182),(i 102 0),(i 0 0),(r 1189),(i 117 0),(i 0 0),(r 1196),(i 119 0),(i 0 0),(r 1203),(i 121 0),(i 0 0),(r 1210),(i 141 0),(i 0 0),(r 1217),(i 144 0),(i 0 0),(r 1224),(i 147 0),(i 0 0),(r 1231),(i 159 0),(i 0 0),(r 1238),(i 189 0),(i 0 0),(r 1245),(i 194 0),(i 0 0),(r 1250),(i 196 0),(i 0 0),(r 1257),(i 204 0),(i 0 0),(r 1264),(i 234 0),(i 0 0),(r 1272),(i 238 0),(i 0 0),(r 1279),(i 245 0),(i 0 0),(r 1286),(i 250 0),(i 0 0),(r 1293),(i 263 0),(i 0 0),(r 1300),(i 281 0),(i 0 0),(r 1307),(i 294 0),(i 0 0),(r 1312),(i 296 0),(i 0 0),(r 1317),(i 298 0),(i 0 0),(r 1324),(i 307 0),(i 0 0),(r 1331),(i 327 0),(i 0 0),(r 1338),(i 332 0),(i 0 0),(r 1345),(i 340 0),(i 0 0),(r 1352),(i 357 0),(i 0 0),(r 1394),(i 359 0),(i 0 0),(r 1401),(i 361 0),(i 0 0),(r 1408),(i 375 0),(i 0 0),(r 1436),(i 497 0),(i 0 0),(r 1509),(i 499 0),(i 0 0),(r 1516),(i 509 0),(i 0 0),(r 1523),(i 523 0),(i 0 0),(r 1551)]),(1546,u0),(1547,z0),(1548,tO 0 [(v 397 5355),(v 603 5356)]),(1549,u0),(1550,gO (st 82) 602),(1551,cO 602 5352 602 5353 5354 523 2 (r 1546) 5357 5358 [(r 1547),.none,(r 1548),(r 1549),(r 1550)]),(1552,fO (st 82) 602 .none (v 457 4890) (r 1551)),(3,xI (q694 P) [e P 604 5585 (r 1703)])]
def o22 (P:Params):List (Nat×Obj):=[(12,zO [(i 2 0),(i 0 0),(r 20),(i 7 0),(i 0 0),(r 41),(i 9 0),(i 0 0),(r 53),(i 14 0),(i 0 0),(r 72),(i 34 0),(i 0 0),(r 95),(i 41 0),(i 0 0),(r 236),(i 53 0),(i 0 0),(r 265),(i 64 0),(i 0 0),(r 295),(i 70 0),(i 0 0),(r 302),(i 88 0),(i 0 0),(r 309),(i 98 0),(i 0 0),(r 1182),(i 102 0),(i 0 0),(r 1189),(i 117 0),(i 0 0),(r 1196),(i 119 0),(i 0 0),(r 1203),(i 121 0),(i 0 0),(r 1210),(i 141 0),(i 0 0),(r 1217),(i 144 0),(i 0 0),(r 1224),(i 147 0),(i 0 0),(r 1231),(i 159 0),(i 0 0),(r 1238),(i 189 0),(i 0 0),(r 1245),(i 194 0),(i 0 0),(r 1250),(i 196 0),(i 0 0),(r 1257),(i 204 0),(i 0 0),(r 1264),(i 234 0),(i 0 0),(r 1272),(i 238 0),(i 0 0),(r 1279),(i 245 0),(i 0 0),(r 1286),(i 250 0),(i 0 0),(r 1293),(i 263 0),(i 0 0),(r 1300),(i 281 0),(i 0 0),(r 1307),(i 294 0),(i 0 0),(r 1312),(i 296 0),(i 0 0),(r 1317),(i 298 0),(i 0 0),(r 1324),(i 307 0),(i 0 0),(r 1331),(i 327 0),(i 0 0),(r 1338),(i 332 0),(i 0 0),(r 1345),(i 340 0),(i 0 0),(r 1352),(i 357 0),(i 0 0),(r 1394),(i 359 0),(i 0 0),(r 1401),(i 361 0),(i 0 0),(r 1408),(i 375 0),(i 0 0),(r 1436),(i 497 0),(i 0 0),(r 1509),(i 499 0),(i 0 0),(r 1516),(i 509 0),(i 0 0),(r 1523),(i 523 0),(i 0 0),(r 1551),(i 525 0),(i 0 0),(r 1558)]),(1560,u0),(1561,z0),(1562,tO 0 [(v 172 5375),(v 564 5376),(v 494 5377),(v 603 5378)]),(1563,u0),(1564,gO (mt 83 0) 605),(1565,cO 175 5372 605 5373 5374 527 4 (r 1560) 5379 5380 [(r 1561),.none,(r 1562),(r 1563),(r 1564)]),(1566,fO (mt 83 0) 605 .none (v 457 4890) (r 1565)),(1567,u0),(1568,z0),(1569,tO 0 [(v 172 5385),(v 571 5386)]),(1570,u0),(1571,gO (mt 83 1) 606),(1572,cO 607 5382 606 5383 5384 538 2 (r 1567) 5387 5388 [(r 1568),.none,(r 1569),(r 1570),(r 1571)]),(1573,fO (mt 83 1) 606 .none (v 457 4890) (r 1572)),(1574,u0),(1575,z0),(1576,tO 0 [(v 172 5393),(v 490 5394)]),(1577,u0),(1578,gO (mt 83 2) 608),(1579,cO 565 5390 608 5391 5392 541 2 (r 1574) 5395 5396 [(r 1575),.none,(r 1576),(r 1577),(r 1578)]),(1580,fO (mt 83 2) 608 .none (v 457 4890) (r 1579)),(1581,tO 0 [(i 0 5398)]),(1582,u0),(1583,z0),(1584,gO (mt 83 3) 609),(1585,cO 496 5399 609 5400 5401 544 4 (r 1582) 5402 5403 [(r 1583),.none,.none,.none,(r 1584)]),(1586,fO (mt 83 3) 609 (r 1581) (v 457 4890) (r 1585)),(1587,u0),(1588,z0),(1589,tO 0 [(v 172 5408),(v 501 5409),(v 571 5410),(v 581 5411),(v 488 5412),(v 610 5413)]),(1590,u0)]
def o23 (P:Params):List (Nat×Obj):=[(1591,gO (mt 83 4) 611),(1592,cO 501 5405 611 5406 5407 550 4 (r 1587) 5414 5415 [(r 1588),.none,(r 1589),(r 1590),(r 1591)]),(1593,fO (mt 83 4) 611 .none (v 457 4890) (r 1592)),(1594,u0),(1595,z0),(1596,gO (mt 83 5) 612),(1597,cO 613 5417 612 5418 5419 566 3 (r 1594) 5420 5421 [(r 1595),.none,.none,.none,(r 1596)]),(1598,fO (mt 83 5) 612 .none (v 457 4890) (r 1597)),(1599,u0),(1600,z0),(1601,tO 0 [(v 172 5426),(v 488 5427),(v 571 5428)]),(1602,u0),(1603,gO (mt 83 6) 614),(1604,cO 615 5423 614 5424 5425 577 3 (r 1599) 5429 5430 [(r 1600),.none,(r 1601),(r 1602),(r 1603)]),(1605,fO (mt 83 6) 614 .none (v 457 4890) (r 1604)),(1606,u0),(1607,z0),(1608,tO 0 [(v 172 5435),(v 488 5436),(v 571 5437),(v 496 5438)]),(1609,u0),(1610,gO (mt 83 7) 616),(1611,cO 617 5432 616 5433 5434 582 3 (r 1606) 5439 5440 [(r 1607),.none,(r 1608),(r 1609),(r 1610)]),(1612,fO (mt 83 7) 616 .none (v 457 4890) (r 1611)),(1613,u0),(1614,z0),(1615,tO 0 [(v 172 5445),(v 488 5446),(v 571 5447)]),(1616,u0),(1617,gO (mt 83 8) 618),(1618,cO 313 5442 618 5443 5444 586 3 (r 1613) 5448 5449 [(r 1614),.none,(r 1615),(r 1616),(r 1617)]),(1619,fO (mt 83 8) 618 .none (v 457 4890) (r 1618)),(1620,u0),(1621,z0),(1622,tO 0 [(v 172 5454),(v 488 5455),(v 571 5456),(v 490 5457),(v 619 5458)])]
def o24 (P:Params):List (Nat×Obj):=[(1623,u0),(1624,gO (mt 83 9) 620),(1625,cO 621 5451 620 5452 5453 589 3 (r 1620) 5459 5460 [(r 1621),.none,(r 1622),(r 1623),(r 1624)]),(1626,fO (mt 83 9) 620 .none (v 457 4890) (r 1625)),(1627,u0),(1628,z0),(1629,gO (mt 83 10) 622),(1630,cO 623 5462 622 5463 5464 596 3 (r 1627) 5465 5466 [(r 1628),.none,.none,.none,(r 1629)]),(1631,fO (mt 83 10) 622 .none (v 457 4890) (r 1630)),(1632,u0),(1633,z0),(1634,gO (mt 83 11) 624),(1635,cO 625 5468 624 5469 5470 601 4 (r 1632) 5471 5472 [(r 1633),.none,.none,.none,(r 1634)]),(1636,fO (mt 83 11) 624 .none (v 457 4890) (r 1635)),(1637,u0),(1638,z0),(1639,tO 0 [(v 172 5477),(v 626 5478),(v 627 5479),(v 571 5480)]),(1640,u0),(1641,gO (mt 83 12) 628),(1642,cO 558 5474 628 5475 5476 622 4 (r 1637) 5481 5482 [(r 1638),.none,(r 1639),(r 1640),(r 1641)]),(1643,fO (mt 83 12) 628 .none (v 457 4890) (r 1642)),(1644,u0),(1645,z0),(1646,tO 0 [(v 172 5487),(v 308 5488),(v 318 5489),(v 552 5490),(v 571 5491),(v 629 5492),(v 397 5493),(v 494 5494)]),(1647,u0),(1648,gO (mt 83 13) 630),(1649,cO 631 5484 630 5485 5486 626 5 (r 1644) 5495 5496 [(r 1645),.none,(r 1646),(r 1647),(r 1648)]),(1650,fO (mt 83 13) 630 .none (v 457 4890) (r 1649)),(1651,u0),(1652,z0),(1653,tO 0 [(v 172 5501),(v 308 5502),(v 552 5503),(v 571 5504),(v 397 5505),(v 494 5506),(v 309 5507),(v 310 5508)]),(1654,u0)]
def o25 (P:Params):List (Nat×Obj):=[(1655,gO (mt 83 14) 632),(1656,cO 633 5498 632 5499 5500 638 4 (r 1651) 5509 5510 [(r 1652),.none,(r 1653),(r 1654),(r 1655)]),(1657,fO (mt 83 14) 632 .none (v 457 4890) (r 1656)),(1658,u0),(1659,z0),(1660,gO (mt 83 15) 634),(1661,cO 635 5512 634 5513 5514 649 5 (r 1658) 5515 5516 [(r 1659),.none,.none,.none,(r 1660)]),(1662,fO (mt 83 15) 634 .none (v 457 4890) (r 1661)),(1663,u0),(1664,z0),(1665,gO (mt 83 16) 636),(1666,cO 637 5518 636 5519 5520 659 2 (r 1663) 5521 5522 [(r 1664),.none,.none,.none,(r 1665)]),(1667,fO (mt 83 16) 636 .none (v 457 4890) (r 1666)),(1668,u0),(1669,z0),(1670,tO 0 [(v 172 5527),(v 308 5528),(v 552 5529),(v 571 5530),(v 638 5531),(v 615 5532),(v 629 5533)]),(1671,u0),(1672,gO (mt 83 17) 639),(1673,cO 640 5524 639 5525 5526 673 4 (r 1668) 5534 5535 [(r 1669),.none,(r 1670),(r 1671),(r 1672)]),(1674,fO (mt 83 17) 639 .none (v 457 4890) (r 1673)),(1675,u0),(1676,z0),(1677,tO 0 [(v 172 5540),(v 571 5541),(v 395 5542),(v 441 5543),(v 641 5544)]),(1678,u0),(1679,gO (mt 83 18) 642),(1680,cO 502 5537 642 5538 5539 682 2 (r 1675) 5545 5546 [(r 1676),.none,(r 1677),(r 1678),(r 1679)]),(1681,fO (mt 83 18) 642 .none (v 457 4890) (r 1680)),(1682,u0),(1683,z0),(1684,tO 0 [(v 172 5551),(v 571 5552),(v 559 5553),(v 395 5554),(v 488 5555),(v 496 5556)]),(1685,u0),(1686,gO (mt 83 19) 643)]
def o26 (P:Params):List (Nat×Obj):=[(1687,cO 443 5548 643 5549 5550 697 2 (r 1682) 5557 5558 [(r 1683),.none,(r 1684),(r 1685),(r 1686)]),(1688,fO (mt 83 19) 643 .none (v 457 4890) (r 1687)),(1689,u0),(1690,z0),(1691,tO 0 [(v 172 5563),(v 571 5564),(v 496 5565)]),(1692,u0),(1693,gO (mt 83 20) 644),(1694,cO 645 5560 644 5561 5562 706 2 (r 1689) 5566 5567 [(r 1690),.none,(r 1691),(r 1692),(r 1693)]),(1695,fO (mt 83 20) 644 .none (v 457 4890) (r 1694)),(1696,u0),(1697,z0),(1698,gO (mt 83 21) 646),(1699,cO 647 5569 646 5570 5571 716 1 (r 1696) 5572 5573 [(r 1697),.none,.none,.none,(r 1698)]),(1700,fO (mt 83 21) 646 .none (v 457 4890) (r 1699)),(1701,tO 0 [(v 494 5575),(v 648 5576),(v 564 5577)]),(1702,dO 4 [e P 176 5367 (v 457 4890),e P 177 5371 (i 525 5370),e P 175 5381 (r 1566),e P 607 5389 (r 1573),e P 565 5397 (r 1580),e P 496 5404 (r 1586),e P 501 5416 (r 1593),e P 613 5422 (r 1598),e P 615 5431 (r 1605),e P 617 5441 (r 1612),e P 313 5450 (r 1619),e P 621 5461 (r 1626),e P 623 5467 (r 1631),e P 625 5473 (r 1636),e P 558 5483 (r 1643),e P 631 5497 (r 1650),e P 633 5511 (r 1657),e P 635 5517 (r 1662),e P 637 5523 (r 1667),e P 640 5536 (r 1674),e P 502 5547 (r 1681),e P 443 5559 (r 1688),e P 645 5568 (r 1695),e P 647 5574 (r 1700),e P 178 5578 (r 1701),e P 317 5580 (r 1704),e P 179 5582 (r 1705),e P 4 5583 .none]),(1703,⟨(.type "type"),none,(.cls ⟨(nm 604),[(.type "object")],[(r 1703),(.type "object")],1702,(nm 604),true,[],[],false,none,false⟩),#[none,none,(some (v 604 5360)),(some (v 604 5368)),(some (.builtin "object.__new__")),(some (.bool true))]⟩),(1704,⟨(.type "getset_descriptor"),none,(.fields #[(v 317 5579),(r 1703),(.builtin "function.__dict__"),(.builtin "function.__dict__#set")]),#[]⟩),(1705,⟨(.type "getset_descriptor"),none,(.fields #[(v 179 5581),(r 1703),(.builtin "ExceptionGroup.__weakref__"),.none]),#[]⟩),(3,dO 99 [e P 2 165 (v 649 5597),e P 4 166 .none,e P 5 167 .none,e P 6 168 (.builtin "__main__.__loader__#opaque"),e P 7 169 .none,e P 8 170 (r 6),e P 9 171 (r 4),e P 10 173 (v 1 172),e P 11 174 .none,e P 168 216 (r 32),e P 169 232 (r 45),e P 170 257 (r 64),e P 183 283 (r 83),e P 184 318 (r 86),e P 219 427 (r 87),e P 256 429 (i 3 428),e P 257 431 (i 15 430),e P 258 433 (i 19 432),e P 259 435 (i 23 434),e P 260 437 (i 35 436),e P 261 439 (i 51 438),e P 262 441 (i 55 440),e P 263 443 (i 99 442),e P 264 445 (i 103 444),e P 265 447 (i 111 446),e P 266 449 (i 115 448),e P 267 451 (v 268 450),e P 269 460 (r 96),e P 270 721 (r 98),e P 304 772 (r 255),e P 305 818 (r 284),e P 306 832 (r 296),e P 307 841 (r 303),e P 413 4262 (r 1145),e P 421 4500 (r 1151),e P 423 4555 (r 1155),e P 424 4600 (r 1168),e P 425 4607 (r 1183),e P 426 4622 (r 1190),e P 427 4629 (r 1197),e P 428 4636 (r 1204),e P 429 4647 (r 1211),e P 430 4655 (r 1218),e P 431 4663 (r 1225),e P 432 4674 (r 1232),e P 433 4688 (r 1239),e P 434 4697 (r 1246),e P 435 4703 (r 1251),e P 436 4711 (r 1258),e P 437 4724 (r 1265),e P 438 4748 (r 1266),e P 439 4750 (v 440 4749),e P 458 4752 (v 459 4751),e P 460 4756 (v 461 4755),e P 462 4758 (v 463 4757),e P 464 4767 (r 1273),e P 465 4778 (r 1280),e P 466 4787 (r 1287),e P 467 4798 (r 1294),e P 468 4810 (r 1301),e P 469 4823 (r 1308),e P 470 4829 (r 1313),e P 471 4835 (r 1318),e P 472 4845 (r 1325),e P 473 4859 (r 1332),e P 474 4869 (r 1339),e P 475 4878 (r 1346),e P 476 4889 (r 1353),e P 477 4893 (v 478 4892),e P 479 4895 (v 480 4894),e P 481 4897 (v 482 4896),e P 483 4898 (r 1354),e P 484 4904 (r 1355),e P 485 4909 (r 1356),e P 486 4919 (r 1357),e P 487 4921 (i 19 4920),e P 512 4925 (i 4294967296 4924),e P 513 5093 (r 1358),e P 514 5103 (r 1388),e P 515 5110 (r 1395),e P 549 5117 (r 1402),e P 550 5166 (r 1426),e P 560 5283 (r 1501),e P 561 5289 (r 1510),e P 562 5301 (r 1517),e P 563 5351 (r 1541),e P 602 5359 (r 1552),e P 604 5585 (r 1703),e P 650 5596 (r 1715),e P 651 5608 (r 1722),e P 652 5618 (r 1729),e P 653 5625 (r 1736),e P 654 5631 (r 1741),e P 655 5637 (r 1746),e P 656 5645 (r 1753),e P 657 5651 (r 1758),e P 658 5663 (r 1765),e P 659 5669 (r 1770),e P 660 5675 (r 1775)]),(12,zO [(i 2 0),(i 0 0),(r 20),(i 7 0),(i 0 0),(r 41),(i 9 0),(i 0 0),(r 53),(i 14 0),(i 0 0),(r 72),(i 34 0),(i 0 0),(r 95),(i 41 0),(i 0 0),(r 236),(i 53 0),(i 0 0),(r 265),(i 64 0),(i 0 0),(r 295),(i 70 0),(i 0 0),(r 302),(i 88 0),(i 0 0),(r 309),(i 98 0),(i 0 0),(r 1182),(i 102 0),(i 0 0),(r 1189),(i 117 0),(i 0 0),(r 1196),(i 119 0),(i 0 0),(r 1203),(i 121 0),(i 0 0),(r 1210),(i 141 0),(i 0 0),(r 1217),(i 144 0),(i 0 0),(r 1224),(i 147 0),(i 0 0),(r 1231),(i 159 0),(i 0 0),(r 1238),(i 189 0),(i 0 0),(r 1245),(i 194 0),(i 0 0),(r 1250),(i 196 0),(i 0 0),(r 1257),(i 204 0),(i 0 0),(r 1264),(i 234 0),(i 0 0),(r 1272),(i 238 0),(i 0 0),(r 1279),(i 245 0),(i 0 0),(r 1286),(i 250 0),(i 0 0),(r 1293),(i 263 0),(i 0 0),(r 1300),(i 281 0),(i 0 0),(r 1307),(i 294 0),(i 0 0),(r 1312),(i 296 0),(i 0 0),(r 1317),(i 298 0),(i 0 0),(r 1324),(i 307 0),(i 0 0),(r 1331),(i 327 0),(i 0 0),(r 1338),(i 332 0),(i 0 0),(r 1345),(i 340 0),(i 0 0),(r 1352),(i 357 0),(i 0 0),(r 1394),(i 359 0),(i 0 0),(r 1401),(i 361 0),(i 0 0),(r 1408),(i 375 0),(i 0 0),(r 1436),(i 497 0),(i 0 0),(r 1509),(i 499 0),(i 0 0),(r 1516),(i 509 0),(i 0 0),(r 1523),(i 523 0),(i 0 0),(r 1551),(i 525 0),(i 0 0),(r 1558),(i 728 0),(i 0 0),(r 1714),(i 733 0),(i 0 0),(r 1721),(i 740 0),(i 0 0),(r 1728),(i 748 0),(i 0 0),(r 1735),(i 760 0),(i 0 0),(r 1740),(i 763 0),(i 0 0),(r 1745),(i 770 0),(i 0 0),(r 1752),(i 775 0),(i 0 0),(r 1757),(i 777 0),(i 0 0),(r 1764),(i 789 0),(i 0 0),(r 1769),(i 821 0),(i 0 0),(r 1774)]),(1708,tO 0 [(i 0 5586),(i 4 5587)]),(1709,u0),(1710,z0),(1711,tO 0 [(v 564 5591),(v 494 5592),(v 603 5593)]),(1712,u0),(1713,gO (st 84) 650),(1714,cO 650 5588 650 5589 5590 728 3 (r 1709) 5594 5595 [(r 1710),.none,(r 1711),(r 1712),(r 1713)]),(1715,fO (st 84) 650 (r 1708) (v 457 4890) (r 1714)),(1716,u0),(1717,z0),(1718,tO 0 [(v 661 5602),(v 662 5603),(v 663 5604),(v 664 5605)])]
def o27 (P:Params):List (Nat×Obj):=[(1719,u0),(1720,gO (st 86) 651),(1721,cO 651 5599 651 5600 5601 733 1 (r 1716) 5606 5607 [(r 1717),.none,(r 1718),(r 1719),(r 1720)]),(1722,fO (st 86) 651 .none (v 649 5597) (r 1721)),(1723,u0),(1724,z0),(1725,tO 0 [(v 665 5612),(v 626 5613),(v 666 5614),(v 667 5615)]),(1726,u0),(1727,gO (st 87) 652),(1728,cO 652 5609 652 5610 5611 740 2 (r 1723) 5616 5617 [(r 1724),.none,(r 1725),(r 1726),(r 1727)]),(1729,fO (st 87) 652 .none (v 649 5597) (r 1728)),(1730,u0),(1731,z0),(1732,tO 0 [(v 395 5622)]),(1733,u0),(1734,gO (st 88) 653),(1735,cO 653 5619 653 5620 5621 748 0 (r 1730) 5623 5624 [(r 1731),.none,(r 1732),(r 1733),(r 1734)]),(1736,fO (st 88) 653 .none (v 649 5597) (r 1735)),(1737,u0),(1738,z0),(1739,gO (st 89) 654),(1740,cO 654 5626 654 5627 5628 760 0 (r 1737) 5629 5630 [(r 1738),.none,.none,.none,(r 1739)]),(1741,fO (st 89) 654 .none (v 649 5597) (r 1740)),(1742,u0),(1743,z0),(1744,gO (st 90) 655),(1745,cO 655 5632 655 5633 5634 763 0 (r 1742) 5635 5636 [(r 1743),.none,.none,.none,(r 1744)]),(1746,fO (st 90) 655 .none (v 649 5597) (r 1745)),(1747,u0),(1748,z0),(1749,tO 0 [(v 496 5641),(v 495 5642)]),(1750,u0)]
def o28 (P:Params):List (Nat×Obj):=[(1751,gO (st 91) 656),(1752,cO 656 5638 656 5639 5640 770 1 (r 1747) 5643 5644 [(r 1748),.none,(r 1749),(r 1750),(r 1751)]),(1753,fO (st 91) 656 .none (v 649 5597) (r 1752)),(1754,u0),(1755,z0),(1756,gO (st 92) 657),(1757,cO 657 5646 657 5647 5648 775 1 (r 1754) 5649 5650 [(r 1755),.none,.none,.none,(r 1756)]),(1758,fO (st 92) 657 .none (v 649 5597) (r 1757)),(1759,u0),(1760,z0),(1761,tO 0 [(v 665 5655),(v 312 5656),(v 668 5657),(v 309 5658),(v 310 5659),(v 648 5660)]),(1762,u0),(1763,gO (st 93) 658),(1764,cO 658 5652 658 5653 5654 777 1 (r 1759) 5661 5662 [(r 1760),.none,(r 1761),(r 1762),(r 1763)]),(1765,fO (st 93) 658 .none (v 649 5597) (r 1764)),(1766,u0),(1767,z0),(1768,gO (st 94) 659),(1769,cO 659 5664 659 5665 5666 789 4 (r 1766) 5667 5668 [(r 1767),.none,.none,.none,(r 1768)]),(1770,fO (st 94) 659 .none (v 649 5597) (r 1769)),(1771,u0),(1772,z0),(1773,gO (st 95) 660),(1774,cO 660 5670 660 5671 5672 821 1 (r 1771) 5673 5674 [(r 1772),.none,.none,.none,(r 1773)]),(1775,fO (st 95) 660 .none (v 649 5597) (r 1774)),(1,dO 2 [e P 12 162 (r 4),e P 3 163 (r 5)]),(5,⟨(.type "module"),(some 3),.plain,#[]⟩),(6,dO 0 []),(7,u0),(8,z0),(9,kO [(v 0 176),(v 0 177),(v 1 178),(i 1 0),(i 0 0),(i 0 0),(i 0 0),(i 0 0),(r 7),(.bool false),(i 175 0),(r 8),.none,.none,.none,.none,(i 179 0),(i 1 0),(v 1 180)]),(10,⟨(.type "frame"),none,.plain,#[(some (r 9)),(some (r 3)),(some (r 3)),none,(some (v 3 164)),none,(some (r 0))]⟩)]
end O
def hOL (P:Params):List (List (Nat×Obj)):=[O.o0 P,O.o1 P,O.o2 P,O.o3 P,O.o4 P,O.o5 P,O.o6 P,O.o7 P,O.o8 P,O.o9 P,O.o10 P,O.o11 P,O.o12 P,O.o13 P,O.o14 P,O.o15 P,O.o16 P,O.o17 P,O.o18 P,O.o19 P,O.o20 P,O.o21 P,O.o22 P,O.o23 P,O.o24 P,O.o25 P,O.o26 P,O.o27 P,O.o28 P]
def hob (P:Params) (k:Nat):Nat×Obj:=((hOL P).getD (k / 32) []).getD (k % 32) (0,O.z0)
def hxo (k:Nat) (P:Params):Obj:=(hob P k).2
noncomputable def hrn (P:Params):Nat->Nat->List (Nat×Obj)->List (Nat×Obj)
 | 0,_,l=>l
 | n+1,k,l=>hob P k::hrn P n (k+1) l
noncomputable def zJ (P:Params):List (Nat×Nat)->List (Nat×Obj)
 | []=>[]
 | p::l=>hrn P p.2 p.1 (zJ P l)
def Zt (P:Params):List (Nat×Obj):=zJ P []
def jT (P:Params):List (Nat×Obj):=zJ P [(0,1),(1,1)]
def zhA (w:World):Sd×Sd:=zb (zj (rv w) 60 Γ0 ⟨0,0,0,0⟩ [] none ((qmc PWt.main).bind fun v=>.pure (.done (.ret v))) (PT.of (Zt w.params)) 11 181 0x0 [] []) (.ok (.ret (.ref 13))) none (some ⟨0,0,0,0⟩) (jT w.params) 14 187
theorem eq_79 (w:World):za (zhA w):=by unfold za;kernel_rfl
def Zs (P:Params):List (Nat×Obj):=zJ P [(2,1)]
def jS (P:Params):List (Nat×Obj):=zJ P [(2,1)]
def zhz (w:World):Sd×Sd:=zb (zj (rv w) 53 Γ0 ⟨0,0,0,0⟩ [] none ((zix (.ref 13) mainNs mainNs).bind fun a=>.pure (.done (.ret (.ref a)))) (PT.of (Zs w.params)) 14 187 0x0 [] []) (.ok (.ret (.ref 14))) none (some ⟨0,0,0,0⟩) (jS w.params) 15 187
theorem eq_78 (w:World):za (zhz w):=by unfold za;kernel_rfl
def Zr (P:Params):List (Nat×Obj):=zJ P []
def jQ (P:Params):List (Nat×Obj):=zJ P []
def zhy (w:World):Sd×Sd:=zb (zj (rv w) 51 Γ1 ⟨0,0,0,0⟩ [] none ((qbs zD zk).bind fun _=>.pure (.done .next)) (PT.of (Zr w.params)) 15 187 0x0 [] []) (.ok .next) none (some ⟨0,0,0,0⟩) (jQ w.params) 15 187
theorem eq_77 (w:World):za (zhy w):=by unfold za;kernel_rfl
def Zq (P:Params):List (Nat×Obj):=zJ P [(3,1),(4,1),(2,1),(5,1),(0,1),(1,1)]
def jP (P:Params):List (Nat×Obj):=zJ P [(3,1),(4,1),(6,1),(5,1),(7,1),(1,1),(8,28)]
def zhx (w:World):Sd×Sd:=zb (zj (rv w) 738 Γ1 ⟨0,0,0,0⟩ [] none ((zU ((zD.drop 0).take 4) zk).bind fun f=>.pure (.done f)) (PT.of (Zq w.params)) 15 187 0x0 [] []) (.ok .next) none (some ⟨9,0,13,24⟩) (jP w.params) 67 258
theorem eq_93 (w:World):za (zhx w):=by unfold za;kernel_rfl
def Zp (P:Params):List (Nat×Obj):=zJ P [(3,1),(4,1),(6,1),(5,1),(7,1),(1,1),(18,1),(19,1)]
def jO (P:Params):List (Nat×Obj):=zJ P [(3,1),(4,1),(36,1),(5,1),(37,1),(1,1),(18,1),(38,13)]
def zhw (w:World):Sd×Sd:=zb (zj (rv w) 348 Γ1 ⟨9,0,13,24⟩ [] none ((zU ((zD.drop 4).take 3) zk).bind fun f=>.pure (.done f)) (PT.of (Zp w.params)) 67 258 0x0 [] []) (.ok .next) none (some ⟨20,0,20,3⟩) (jO w.params) 87 319
theorem eq_92 (w:World):za (zhw w):=by unfold za;kernel_rfl
def Zo (P:Params):List (Nat×Obj):=zJ P [(36,1)]
def jN (P:Params):List (Nat×Obj):=zJ P [(51,1),(52,1)]
def zhv (w:World):Sd×Sd:=zb (zj (rv w) 729 Γ1 ⟨20,0,20,3⟩ [] none ((zU ((zD.drop 7).take 1) zk).bind fun f=>.pure (.done f)) (PT.of (Zo w.params)) 87 319 0x41041041041041041041041041041041041041041041041041041 [] []) (.ok .next) none (some ⟨21,0,21,4⟩) (jN w.params) 90 428
theorem eq_91 (w:World):za (zhv w):=by unfold za;kernel_rfl
def Zn (P:Params):List (Nat×Obj):=zJ P [(51,1),(5,1),(37,1),(1,1)]
def jM (P:Params):List (Nat×Obj):=zJ P [(53,1),(5,1),(54,1),(1,1),(55,1),(56,1)]
def zhu (w:World):Sd×Sd:=zb (zj (rv w) 190 Γ1 ⟨21,0,21,4⟩ [] none ((zU ((zD.drop 8).take 13) zk).bind fun f=>.pure (.done f)) (PT.of (Zn w.params)) 90 428 0x0 [] []) (.ok .next) none (some ⟨34,0,39,16⟩) (jM w.params) 97 461
theorem eq_90 (w:World):za (zhu w):=by unfold za;kernel_rfl
def Zm (P:Params):List (Nat×Obj):=zJ P [(3,1),(4,1),(53,1),(50,1),(55,1),(56,1)]
def jL (P:Params):List (Nat×Obj):=zJ P [(3,1),(4,1),(57,1),(50,1),(55,1),(56,1),(58,1)]
def zht (w:World):Sd×Sd:=zb (zj (rv w) 6023 Γ1 ⟨34,0,39,16⟩ [] none ((zU ((zD.drop 21).take 1) zk).bind fun f=>.pure (.done f)) (PT.of (Zm w.params)) 97 461 0x504105041050410504105041050410504105041050410504105041050410504105041050410504105041050410504105041050410504105041050410504105041050410504105041050410504105041501 [] []) (.ok .next) none (some ⟨40,0,40,9⟩) (jL w.params) 231 722
theorem eq_89 (w:World):za (zht w):=by unfold za;kernel_rfl
def Zl (P:Params):List (Nat×Obj):=zJ P [(3,1),(4,1),(57,1),(5,1),(54,1),(1,1)]
def jK (P:Params):List (Nat×Obj):=zJ P [(3,1),(4,1),(59,1),(5,1),(60,1),(1,1),(61,45)]
def zhs (w:World):Sd×Sd:=zb (zj (rv w) 652 Γ1 ⟨40,0,40,9⟩ [] none ((zU ((zD.drop 22).take 4) zk).bind fun f=>.pure (.done f)) (PT.of (Zl w.params)) 231 722 0x0 [] []) (.ok .next) none (some ⟨70,0,87,16⟩) (jK w.params) 304 842
theorem eq_88 (w:World):za (zhs w):=by unfold za;kernel_rfl
def zcf (P:Params):List (Nat×Obj):=zJ P [(3,1),(4,1),(59,1),(81,1),(87,1),(88,1),(97,1),(98,1),(101,3)]
def JE (P:Params):List (Nat×Obj):=zJ P [(3,1),(4,1),(59,1),(81,1),(87,1),(88,1),(97,1),(98,1),(101,3),(106,13)]
def zgn:Ctx:=⟨(.call (.ref 296) ⟨[(vs (nm 332) 927),(vs (nm 326) 928),(vi 99 442)],[]⟩),none,none,[((.func (yW (st 25)) ⟨(yj (st 25)),311,3,[],(nm 333),(some 303),(.ref 302),(some 311),0⟩),⟨72,17,72,71⟩),((.body (yw (st 26)) ⟨(zX (st 26)),306,3,[],(nm 334),none,(.ref 309),(some 310),0⟩),⟨89,13,89,21⟩),((.body zD zk),⟨88,0,94,79⟩),((.builtin "claim.caller" ⟨[],[]⟩),⟨0,0,0,0⟩)],none⟩
def zhr (w:World):Sd×Sd:=zb (zj (rv w) 2573 zgn ⟨72,17,72,71⟩ [] (some 1000000) (zM zgn.1) (PT.of (zcf w.params)) 325 929 0x41000001040000041000001050504000004100000105400 [] []) (.ok (.ret (.ref 326))) none none (JE w.params) 382 1071
theorem eq_87 (w:World):za (zhr w):=by unfold za;kernel_rfl
def zkH (w:World):y6:=⟨zgn.code,zgn,⟨72,17,72,71⟩,zcf w.params,325,929,.ok (.ret (.ref 326)),JE w.params,382,1071⟩
def JD (P:Params):List (Nat×Obj):=zJ P [(3,1),(4,1),(59,1),(81,1),(87,1),(88,1),(97,1),(98,1),(101,3)]
def XS (P:Params):List (Nat×Obj):=zJ P [(3,1),(4,1),(59,1),(81,1),(87,1),(88,1),(97,1),(98,1),(101,3),(119,11)]
def zas:Ctx:=⟨(.call (.ref 296) ⟨[(vs (nm 341) 1071),(vs (nm 336) 1072),(vi 3 428)],[]⟩),none,none,[((.func (yW (st 25)) ⟨(yj (st 25)),311,3,[],(nm 333),(some 303),(.ref 302),(some 311),0⟩),⟨73,17,73,58⟩),((.body (yw (st 26)) ⟨(zX (st 26)),306,3,[],(nm 334),none,(.ref 309),(some 310),0⟩),⟨89,13,89,21⟩),((.body zD zk),⟨88,0,94,79⟩),((.builtin "claim.caller" ⟨[],[]⟩),⟨0,0,0,0⟩)],none⟩
def zdU (w:World):Sd×Sd:=zb (zj (rv w) 2098 zas ⟨73,17,73,58⟩ [] (some 1000000) (zM zas.1) (PT.of (JD w.params)) 382 1073 0x10400000414100000104000004100000105400 [] []) (.ok (.ret (.ref 383))) none none (XS w.params) 428 1189
theorem eq_53 (w:World):za (zdU w):=by unfold za;kernel_rfl
def zeI (w:World):y6:=⟨zas.code,zas,⟨73,17,73,58⟩,JD w.params,382,1073,.ok (.ret (.ref 383)),XS w.params,428,1189⟩
def JB (P:Params):List (Nat×Obj):=zJ P [(3,1),(4,1),(59,1),(81,1),(87,1),(88,1),(97,1),(98,1),(101,3)]
def XR (P:Params):List (Nat×Obj):=zJ P [(3,1),(4,1),(59,1),(81,1),(87,1),(88,1),(97,1),(98,1),(101,3),(130,7)]
def zar:Ctx:=⟨(.call (.ref 296) ⟨[(vs (nm 346) 1189),(vs (nm 343) 1190),(vi 35 436)],[]⟩),none,none,[((.func (yW (st 25)) ⟨(yj (st 25)),311,3,[],(nm 333),(some 303),(.ref 302),(some 311),0⟩),⟨74,17,74,49⟩),((.body (yw (st 26)) ⟨(zX (st 26)),306,3,[],(nm 334),none,(.ref 309),(some 310),0⟩),⟨89,13,89,21⟩),((.body zD zk),⟨88,0,94,79⟩),((.builtin "claim.caller" ⟨[],[]⟩),⟨0,0,0,0⟩)],none⟩
def zdT (w:World):Sd×Sd:=zb (zj (rv w) 1258 zar ⟨74,17,74,49⟩ [] (some 1000000) (zM zar.1) (PT.of (JB w.params)) 428 1191 0x104000004100000105400 [] []) (.ok (.ret (.ref 429))) none none (XR w.params) 456 1260
theorem eq_52 (w:World):za (zdT w):=by unfold za;kernel_rfl
def zeH (w:World):y6:=⟨zar.code,zar,⟨74,17,74,49⟩,JB w.params,428,1191,.ok (.ret (.ref 429)),XR w.params,456,1260⟩
def JA (P:Params):List (Nat×Obj):=zJ P [(3,1),(4,1),(59,1),(81,1),(87,1),(88,1),(97,1),(98,1),(101,3)]
def XQ (P:Params):List (Nat×Obj):=zJ P [(3,1),(4,1),(59,1),(81,1),(87,1),(88,1),(97,1),(98,1),(101,3),(137,13)]
def zaq:Ctx:=⟨(.call (.ref 296) ⟨[(vs (nm 353) 1260),(vs (nm 336) 1261),(vi 19 432)],[]⟩),none,none,[((.func (yW (st 25)) ⟨(yj (st 25)),311,3,[],(nm 333),(some 303),(.ref 302),(some 311),0⟩),⟨75,17,75,78⟩),((.body (yw (st 26)) ⟨(zX (st 26)),306,3,[],(nm 334),none,(.ref 309),(some 310),0⟩),⟨89,13,89,21⟩),((.body zD zk),⟨88,0,94,79⟩),((.builtin "claim.caller" ⟨[],[]⟩),⟨0,0,0,0⟩)],none⟩
def zdS (w:World):Sd×Sd:=zb (zj (rv w) 2573 zaq ⟨75,17,75,78⟩ [] (some 1000000) (zM zaq.1) (PT.of (JA w.params)) 456 1262 0x41000001050400000410000010400000414100000105400 [] []) (.ok (.ret (.ref 457))) none none (XQ w.params) 513 1404
theorem eq_10 (w:World):za (zdS w):=by unfold za;kernel_rfl
def zeG (w:World):y6:=⟨zaq.code,zaq,⟨75,17,75,78⟩,JA w.params,456,1262,.ok (.ret (.ref 457)),XQ w.params,513,1404⟩
def Jz (P:Params):List (Nat×Obj):=zJ P [(3,1),(4,1),(59,1),(81,1),(87,1),(88,1),(97,1),(98,1),(101,3)]
def XP (P:Params):List (Nat×Obj):=zJ P [(3,1),(4,1),(59,1),(81,1),(87,1),(88,1),(97,1),(98,1),(101,3),(150,5)]
def zap:Ctx:=⟨(.call (.ref 296) ⟨[(vs (nm 357) 1404),(vs (nm 355) 1405),(vi 19 432)],[]⟩),none,none,[((.func (yW (st 25)) ⟨(yj (st 25)),311,3,[],(nm 333),(some 303),(.ref 302),(some 311),0⟩),⟨76,17,76,66⟩),((.body (yw (st 26)) ⟨(zX (st 26)),306,3,[],(nm 334),none,(.ref 309),(some 310),0⟩),⟨89,13,89,21⟩),((.body zD zk),⟨88,0,94,79⟩),((.builtin "claim.caller" ⟨[],[]⟩),⟨0,0,0,0⟩)],none⟩
def zdR (w:World):Sd×Sd:=zb (zj (rv w) 1333 zap ⟨76,17,76,66⟩ [] (some 1000000) (zM zap.1) (PT.of (Jz w.params)) 513 1406 0x414141410000010505400 [] []) (.ok (.ret (.ref 514))) none none (XP w.params) 550 1474
theorem eq_9 (w:World):za (zdR w):=by unfold za;kernel_rfl
def zeF (w:World):y6:=⟨zap.code,zap,⟨76,17,76,66⟩,Jz w.params,513,1406,.ok (.ret (.ref 514)),XP w.params,550,1474⟩
def Jy (P:Params):List (Nat×Obj):=zJ P [(3,1),(4,1),(59,1),(81,1),(87,1),(88,1),(97,1),(98,1),(101,3)]
def XO (P:Params):List (Nat×Obj):=zJ P [(3,1),(4,1),(59,1),(81,1),(87,1),(88,1),(97,1),(98,1),(101,3),(155,3)]
def zao:Ctx:=⟨(.call (.ref 296) ⟨[(vs (nm 359) 1474),(vs (nm 355) 1475),(vi 19 432),(vi 32 1476)],[]⟩),none,none,[((.func (yW (st 25)) ⟨(yj (st 25)),311,3,[],(nm 333),(some 303),(.ref 302),(some 311),0⟩),⟨77,17,77,67⟩),((.body (yw (st 26)) ⟨(zX (st 26)),306,3,[],(nm 334),none,(.ref 309),(some 310),0⟩),⟨89,13,89,21⟩),((.body zD zk),⟨88,0,94,79⟩),((.builtin "claim.caller" ⟨[],[]⟩),⟨0,0,0,0⟩)],none⟩
def zdQ (w:World):Sd×Sd:=zb (zj (rv w) 1078 zao ⟨77,17,77,67⟩ [] (some 1000000) (zM zao.1) (PT.of (Jy w.params)) 550 1477 0x1050505050505400 [] []) (.ok (.ret (.ref 551))) none none (XO w.params) 584 1529
theorem eq_8 (w:World):za (zdQ w):=by unfold za;kernel_rfl
def zeE (w:World):y6:=⟨zao.code,zao,⟨77,17,77,67⟩,Jy w.params,550,1477,.ok (.ret (.ref 551)),XO w.params,584,1529⟩
def Jx (P:Params):List (Nat×Obj):=zJ P [(3,1),(4,1),(59,1),(81,1),(87,1),(88,1),(97,1),(98,1),(101,3)]
def XN (P:Params):List (Nat×Obj):=zJ P [(3,1),(4,1),(59,1),(81,1),(87,1),(88,1),(97,1),(98,1),(101,3),(158,17)]
def zan:Ctx:=⟨(.call (.ref 296) ⟨[(vs (nm 369) 1529),(vs (nm 361) 1530),(vi 51 438)],[]⟩),none,none,[((.func (yW (st 25)) ⟨(yj (st 25)),311,3,[],(nm 333),(some 303),(.ref 302),(some 311),0⟩),⟨78,17,78,75⟩),((.body (yw (st 26)) ⟨(zX (st 26)),306,3,[],(nm 334),none,(.ref 309),(some 310),0⟩),⟨89,13,89,21⟩),((.body zD zk),⟨88,0,94,79⟩),((.builtin "claim.caller" ⟨[],[]⟩),⟨0,0,0,0⟩)],none⟩
def zdP (w:World):Sd×Sd:=zb (zj (rv w) 3083 zan ⟨78,17,78,75⟩ [] (some 1000000) (zM zan.1) (PT.of (Jx w.params)) 584 1531 0x4100000104000004100000104000004100000104000004100000105400 [] []) (.ok (.ret (.ref 585))) none none (XN w.params) 647 1705
theorem eq_7 (w:World):za (zdP w):=by unfold za;kernel_rfl
def zeD (w:World):y6:=⟨zan.code,zan,⟨78,17,78,75⟩,Jx w.params,584,1531,.ok (.ret (.ref 585)),XN w.params,647,1705⟩
def Jw (P:Params):List (Nat×Obj):=zJ P [(3,1),(4,1),(59,1),(81,1),(87,1),(88,1),(97,1),(98,1),(101,3)]
def XM (P:Params):List (Nat×Obj):=zJ P [(3,1),(4,1),(59,1),(81,1),(87,1),(88,1),(97,1),(98,1),(101,3),(175,5)]
def zam:Ctx:=⟨(.call (.ref 296) ⟨[(vs (nm 372) 1705),(vs (nm 361) 1706),(vi 51 438),(vi 32 1707)],[]⟩),none,none,[((.func (yW (st 25)) ⟨(yj (st 25)),311,3,[],(nm 333),(some 303),(.ref 302),(some 311),0⟩),⟨79,17,79,63⟩),((.body (yw (st 26)) ⟨(zX (st 26)),306,3,[],(nm 334),none,(.ref 309),(some 310),0⟩),⟨89,13,89,21⟩),((.body zD zk),⟨88,0,94,79⟩),((.builtin "claim.caller" ⟨[],[]⟩),⟨0,0,0,0⟩)],none⟩
def zdO (w:World):Sd×Sd:=zb (zj (rv w) 1333 zam ⟨79,17,79,63⟩ [] (some 1000000) (zM zam.1) (PT.of (Jw w.params)) 647 1708 0x414141414100000105400 [] []) (.ok (.ret (.ref 648))) none none (XM w.params) 684 1776
theorem eq_6 (w:World):za (zdO w):=by unfold za;kernel_rfl
def zeC (w:World):y6:=⟨zam.code,zam,⟨79,17,79,63⟩,Jw w.params,647,1708,.ok (.ret (.ref 648)),XM w.params,684,1776⟩
def Jv (P:Params):List (Nat×Obj):=zJ P [(3,1),(4,1),(59,1),(81,1),(87,1),(88,1),(97,1),(98,1),(101,3)]
def XL (P:Params):List (Nat×Obj):=zJ P [(3,1),(4,1),(59,1),(81,1),(87,1),(88,1),(97,1),(98,1),(101,3),(180,17)]
def zal:Ctx:=⟨(.call (.ref 296) ⟨[(vs (nm 381) 1776),(vs (nm 361) 1777),(vi 51 438),(vi 1 1778)],[]⟩),none,none,[((.func (yW (st 25)) ⟨(yj (st 25)),311,3,[],(nm 333),(some 303),(.ref 302),(some 311),0⟩),⟨80,17,80,86⟩),((.body (yw (st 26)) ⟨(zX (st 26)),306,3,[],(nm 334),none,(.ref 309),(some 310),0⟩),⟨89,13,89,21⟩),((.body zD zk),⟨88,0,94,79⟩),((.builtin "claim.caller" ⟨[],[]⟩),⟨0,0,0,0⟩)],none⟩
def zdN (w:World):Sd×Sd:=zb (zj (rv w) 3083 zal ⟨80,17,80,86⟩ [] (some 1000000) (zM zal.1) (PT.of (Jv w.params)) 684 1779 0x4100000104000004100000104000004100000104000004100000105400 [] []) (.ok (.ret (.ref 685))) none none (XL w.params) 747 1953
theorem eq_5 (w:World):za (zdN w):=by unfold za;kernel_rfl
def zeB (w:World):y6:=⟨zal.code,zal,⟨80,17,80,86⟩,Jv w.params,684,1779,.ok (.ret (.ref 685)),XL w.params,747,1953⟩
def Ju (P:Params):List (Nat×Obj):=zJ P [(3,1),(4,1),(59,1),(81,1),(87,1),(88,1),(97,1),(98,1),(101,3)]
def XK (P:Params):List (Nat×Obj):=zJ P [(3,1),(4,1),(59,1),(81,1),(87,1),(88,1),(97,1),(98,1),(101,3),(197,5)]
def zak:Ctx:=⟨(.call (.ref 296) ⟨[(vs (nm 384) 1953),(vs (nm 382) 1954),(vi 15 430)],[]⟩),none,none,[((.func (yW (st 25)) ⟨(yj (st 25)),311,3,[],(nm 333),(some 303),(.ref 302),(some 311),0⟩),⟨81,17,81,59⟩),((.body (yw (st 26)) ⟨(zX (st 26)),306,3,[],(nm 334),none,(.ref 309),(some 310),0⟩),⟨89,13,89,21⟩),((.body zD zk),⟨88,0,94,79⟩),((.builtin "claim.caller" ⟨[],[]⟩),⟨0,0,0,0⟩)],none⟩
def zdM (w:World):Sd×Sd:=zb (zj (rv w) 893 zak ⟨81,17,81,59⟩ [] (some 1000000) (zM zak.1) (PT.of (Ju w.params)) 747 1955 0x4100000105400 [] []) (.ok (.ret (.ref 748))) none none (XK w.params) 768 2003
theorem eq_4 (w:World):za (zdM w):=by unfold za;kernel_rfl
def zeA (w:World):y6:=⟨zak.code,zak,⟨81,17,81,59⟩,Ju w.params,747,1955,.ok (.ret (.ref 748)),XK w.params,768,2003⟩
def Js (P:Params):List (Nat×Obj):=zJ P [(3,1),(4,1),(59,1),(81,1),(87,1),(88,1),(97,1),(98,1),(101,3)]
def XJ (P:Params):List (Nat×Obj):=zJ P [(3,1),(4,1),(59,1),(81,1),(87,1),(88,1),(97,1),(98,1),(101,3),(202,7)]
def zaj:Ctx:=⟨(.call (.ref 296) ⟨[(vs (nm 389) 2003),(vs (nm 386) 2004),(vi 115 448)],[]⟩),none,none,[((.func (yW (st 25)) ⟨(yj (st 25)),311,3,[],(nm 333),(some 303),(.ref 302),(some 311),0⟩),⟨82,17,82,63⟩),((.body (yw (st 26)) ⟨(zX (st 26)),306,3,[],(nm 334),none,(.ref 309),(some 310),0⟩),⟨89,13,89,21⟩),((.body zD zk),⟨88,0,94,79⟩),((.builtin "claim.caller" ⟨[],[]⟩),⟨0,0,0,0⟩)],none⟩
def zdL (w:World):Sd×Sd:=zb (zj (rv w) 1368 zaj ⟨82,17,82,63⟩ [] (some 1000000) (zM zaj.1) (PT.of (Js w.params)) 768 2005 0x10400000410000010505400 [] []) (.ok (.ret (.ref 769))) none none (XJ w.params) 800 2079
theorem eq_3 (w:World):za (zdL w):=by unfold za;kernel_rfl
def zez (w:World):y6:=⟨zaj.code,zaj,⟨82,17,82,63⟩,Js w.params,768,2005,.ok (.ret (.ref 769)),XJ w.params,800,2079⟩
def Jr (P:Params):List (Nat×Obj):=zJ P [(3,1),(4,1),(59,1),(81,1),(87,1),(88,1),(97,1),(98,1),(101,3)]
def XI (P:Params):List (Nat×Obj):=zJ P [(3,1),(4,1),(59,1),(81,1),(87,1),(88,1),(97,1),(98,1),(101,3),(209,7)]
def zai:Ctx:=⟨(.call (.ref 296) ⟨[(vs (nm 394) 2079),(vs (nm 391) 2080),(vi 115 448)],[]⟩),none,none,[((.func (yW (st 25)) ⟨(yj (st 25)),311,3,[],(nm 333),(some 303),(.ref 302),(some 311),0⟩),⟨83,17,83,75⟩),((.body (yw (st 26)) ⟨(zX (st 26)),306,3,[],(nm 334),none,(.ref 309),(some 310),0⟩),⟨89,13,89,21⟩),((.body zD zk),⟨88,0,94,79⟩),((.builtin "claim.caller" ⟨[],[]⟩),⟨0,0,0,0⟩)],none⟩
def zdJ (w:World):Sd×Sd:=zb (zj (rv w) 1808 zai ⟨83,17,83,75⟩ [] (some 1000000) (zM zai.1) (PT.of (Jr w.params)) 800 2081 0x1040000041000001050505050505400 [] []) (.ok (.ret (.ref 801))) none none (XI w.params) 848 2175
theorem eq_2 (w:World):za (zdJ w):=by unfold za;kernel_rfl
def zey (w:World):y6:=⟨zai.code,zai,⟨83,17,83,75⟩,Jr w.params,800,2081,.ok (.ret (.ref 801)),XI w.params,848,2175⟩
def Jq (P:Params):List (Nat×Obj):=zJ P [(3,1),(4,1),(59,1),(81,1),(87,1),(88,1),(97,1),(98,1),(101,5)]
def XH (P:Params):List (Nat×Obj):=zJ P [(3,1),(4,1),(59,1),(81,1),(87,1),(88,1),(97,1),(98,1),(101,5),(216,14),(106,110),(230,36)]
def zah:Ctx:=⟨(.call (.ref 303) ⟨[],[]⟩),none,none,[((.body (yw (st 26)) ⟨(zX (st 26)),306,3,[],(nm 334),none,(.ref 309),(some 310),0⟩),⟨89,13,89,21⟩),((.body zD zk),⟨88,0,94,79⟩),((.builtin "claim.caller" ⟨[],[]⟩),⟨0,0,0,0⟩)],none⟩
def zdI (w:World):Sd×Sd:=zb (zj (rv w) 3354 zah ⟨89,13,89,21⟩ [] (some 1000000) (zM zah.1) (PT.of (Jq w.params)) 311 854 0x400000040000004000000400000050000000000000000000000000000 [(32,zkH w),(1,zeI w),(1,zeH w),(1,zeG w),(1,zeF w),(1,zeE w),(1,zeD w),(1,zeC w),(1,zeB w),(1,zeA w),(1,zez w),(1,zey w)] []) (.ok (.ret (.ref 324))) none none (XH w.params) 890 2315
theorem eq_1 (w:World):za (zdI w):=by unfold za;kernel_rfl
def zex (w:World):y6:=⟨zah.code,zah,⟨89,13,89,21⟩,Jq w.params,311,854,.ok (.ret (.ref 324)),XH w.params,890,2315⟩
def YV (P:Params):List (Nat×Obj):=zJ P [(97,1),(98,1),(217,1),(218,1),(220,1),(221,1),(223,1),(224,1),(226,1),(227,1),(229,1),(107,12),(120,10),(131,6),(138,12),(151,4),(156,1),(157,1),(159,16),(176,4),(181,16),(198,4),(203,6),(210,6),(230,1),(231,1),(242,1),(243,1),(247,1),(248,1),(252,1),(253,1),(257,1),(258,1),(262,1),(263,1),(266,3)]
def XG (P:Params):List (Nat×Obj):=zJ P [(97,1),(98,1),(217,1),(218,1),(220,1),(221,1),(223,1),(224,1),(226,1),(227,1),(229,1),(107,12),(120,10),(131,6),(138,12),(151,4),(156,1),(157,1),(159,16),(176,4),(181,16),(198,4),(203,6),(210,6),(230,1),(231,1),(242,1),(243,1),(247,1),(248,1),(252,1),(253,1),(257,1),(258,1),(262,1),(263,1),(269,3)]
def Yg:Ctx:=⟨(.compStart (xg (mt 26 1)) 0 (.ref 890) (.ref 891) ⟨⟨.function,[((nm 412),.local),((nm 411),.local)],false,false,[]⟩,892,3,[],(nm 334),none,(.ref 309),(some 310),0⟩),none,none,[((.body (yw (st 26)) ⟨(zX (st 26)),306,3,[],(nm 334),none,(.ref 309),(some 310),0⟩),⟨90,46,90,52⟩),((.body zD zk),⟨88,0,94,79⟩),((.builtin "claim.caller" ⟨[],[]⟩),⟨0,0,0,0⟩)],none⟩
def Y5 (P:Params):List (Nat×Obj):=zJ P [(97,1),(98,1),(217,1),(218,1),(220,1),(221,1),(223,1),(224,1),(226,1),(227,1),(229,1),(107,12),(120,10),(131,6),(138,12),(151,4),(156,1),(157,1),(159,16),(176,4),(181,16),(198,4),(203,6),(210,6),(230,1),(231,1),(242,1),(243,1),(247,1),(248,1),(252,1),(253,1),(257,1),(258,1),(262,1),(263,1),(266,3)]
def jr (w:World):Sd×Sd:=zb (zj (rv (w.withFollow "comprehension-iter-twice" true)) 52 Yg ⟨90,46,90,52⟩ [] (some 0) (zM (.compStart (xg (mt 26 1)) 0 (.ref 890) (.ref 891) ⟨⟨.function,[((nm 412),.local),((nm 411),.local)],false,false,[]⟩,892,3,[],(nm 334),none,(.ref 309),(some 310),0⟩)) (PT.of (YV w.params)) 893 2316 0x0 [] []) (.again (.compLoop (xg (mt 26 1)) 0 (.ref 890) (.ref 891) ⟨⟨.function,[((nm 412),.local),((nm 411),.local)],false,false,[]⟩,892,3,[],(nm 334),none,(.ref 309),(some 310),0⟩)) (some Yg) none (Y5 w.params) 893 2316
theorem eq_504 (w:World):za (jr w):=by unfold za;kernel_rfl
def qW (w:World):Sd×Sd:=zb (zj (rv (w.withFollow "comprehension-iter-twice" false)) 62 Yg ⟨90,46,90,52⟩ [] (some 0) (zM (.compStart (xg (mt 26 1)) 0 (.ref 890) (.ref 891) ⟨⟨.function,[((nm 412),.local),((nm 411),.local)],false,false,[]⟩,892,3,[],(nm 334),none,(.ref 309),(some 310),0⟩)) (PT.of (YV w.params)) 893 2316 0x4 [] []) (.again (.compLoop (xg (mt 26 1)) 0 (.ref 890) (.ref 891) ⟨⟨.function,[((nm 412),.local),((nm 411),.local)],false,false,[]⟩,892,3,[],(nm 334),none,(.ref 309),(some 310),0⟩)) (some Yg) none (Y5 w.params) 893 2316
theorem eq_522 (w:World):za (qW w):=by unfold za;kernel_rfl
def js (w:World) (p:Pos):Sd×Sd:=zb (zj (rv w) 3194 (Yg.goto (.compLoop (xg (mt 26 1)) 0 (.ref 890) (.ref 891) ⟨⟨.function,[((nm 412),.local),((nm 411),.local)],false,false,[]⟩,892,3,[],(nm 334),none,(.ref 309),(some 310),0⟩)) p [] (some 1000000) (zM (.compLoop (xg (mt 26 1)) 0 (.ref 890) (.ref 891) ⟨⟨.function,[((nm 412),.local),((nm 411),.local)],false,false,[]⟩,892,3,[],(nm 334),none,(.ref 309),(some 310),0⟩)) (PT.of (Y5 w.params)) 893 2316 0x404040404040404040404040404040404040404040404040404040404040404040404040404040404040404040404040404040404040404040404 [] []) (.ok .next) none none (XG w.params) 895 2493
theorem eq_505 (w:World) (p:Pos):za (js w p):=by unfold za;kernel_rfl
def zew (w:World):y6:=⟨Yg.code,Yg,⟨90,46,90,52⟩,YV w.params,893,2316,.ok .next,XG w.params,895,2493⟩
def YU (P:Params):List (Nat×Obj):=zJ P [(97,1),(98,1),(217,1),(218,1),(220,1),(221,1),(223,1),(224,1),(226,1),(227,1),(229,1),(107,12),(120,10),(131,6),(138,12),(151,4),(156,1),(157,1),(159,16),(176,4),(181,16),(198,4),(203,6),(210,6),(230,1),(231,1),(242,1),(243,1),(247,1),(248,1),(252,1),(253,1),(257,1),(258,1),(262,1),(263,1),(272,3)]
def XF (P:Params):List (Nat×Obj):=zJ P [(97,1),(98,1),(217,1),(218,1),(220,1),(221,1),(223,1),(224,1),(226,1),(227,1),(229,1),(107,12),(120,10),(131,6),(138,12),(151,4),(156,1),(157,1),(159,16),(176,4),(181,16),(198,4),(203,6),(210,6),(230,1),(231,1),(242,1),(243,1),(247,1),(248,1),(252,1),(253,1),(257,1),(258,1),(262,1),(263,1),(275,3)]
def Yf:Ctx:=⟨(.compStart (xg (mt 26 2)) 0 (.ref 895) (.ref 896) ⟨⟨.function,[((nm 412),.local),((nm 411),.local)],false,false,[]⟩,897,3,[],(nm 334),none,(.ref 309),(some 310),0⟩),none,none,[((.body (yw (st 26)) ⟨(zX (st 26)),306,3,[],(nm 334),none,(.ref 309),(some 310),0⟩),⟨91,50,91,56⟩),((.body zD zk),⟨88,0,94,79⟩),((.builtin "claim.caller" ⟨[],[]⟩),⟨0,0,0,0⟩)],none⟩
def Y4 (P:Params):List (Nat×Obj):=zJ P [(97,1),(98,1),(217,1),(218,1),(220,1),(221,1),(223,1),(224,1),(226,1),(227,1),(229,1),(107,12),(120,10),(131,6),(138,12),(151,4),(156,1),(157,1),(159,16),(176,4),(181,16),(198,4),(203,6),(210,6),(230,1),(231,1),(242,1),(243,1),(247,1),(248,1),(252,1),(253,1),(257,1),(258,1),(262,1),(263,1),(272,3)]
def jp (w:World):Sd×Sd:=zb (zj (rv (w.withFollow "comprehension-iter-twice" true)) 52 Yf ⟨91,50,91,56⟩ [] (some 0) (zM (.compStart (xg (mt 26 2)) 0 (.ref 895) (.ref 896) ⟨⟨.function,[((nm 412),.local),((nm 411),.local)],false,false,[]⟩,897,3,[],(nm 334),none,(.ref 309),(some 310),0⟩)) (PT.of (YU w.params)) 898 2494 0x0 [] []) (.again (.compLoop (xg (mt 26 2)) 0 (.ref 895) (.ref 896) ⟨⟨.function,[((nm 412),.local),((nm 411),.local)],false,false,[]⟩,897,3,[],(nm 334),none,(.ref 309),(some 310),0⟩)) (some Yf) none (Y4 w.params) 898 2494
theorem eq_514 (w:World):za (jp w):=by unfold za;kernel_rfl
def qV (w:World):Sd×Sd:=zb (zj (rv (w.withFollow "comprehension-iter-twice" false)) 62 Yf ⟨91,50,91,56⟩ [] (some 0) (zM (.compStart (xg (mt 26 2)) 0 (.ref 895) (.ref 896) ⟨⟨.function,[((nm 412),.local),((nm 411),.local)],false,false,[]⟩,897,3,[],(nm 334),none,(.ref 309),(some 310),0⟩)) (PT.of (YU w.params)) 898 2494 0x4 [] []) (.again (.compLoop (xg (mt 26 2)) 0 (.ref 895) (.ref 896) ⟨⟨.function,[((nm 412),.local),((nm 411),.local)],false,false,[]⟩,897,3,[],(nm 334),none,(.ref 309),(some 310),0⟩)) (some Yf) none (Y4 w.params) 898 2494
theorem eq_521 (w:World):za (qV w):=by unfold za;kernel_rfl
def jq (w:World) (p:Pos):Sd×Sd:=zb (zj (rv w) 3577 (Yf.goto (.compLoop (xg (mt 26 2)) 0 (.ref 895) (.ref 896) ⟨⟨.function,[((nm 412),.local),((nm 411),.local)],false,false,[]⟩,897,3,[],(nm 334),none,(.ref 309),(some 310),0⟩)) p [] (some 1000000) (zM (.compLoop (xg (mt 26 2)) 0 (.ref 895) (.ref 896) ⟨⟨.function,[((nm 412),.local),((nm 411),.local)],false,false,[]⟩,897,3,[],(nm 334),none,(.ref 309),(some 310),0⟩)) (PT.of (Y4 w.params)) 898 2494 0x51451451451451451451451451451451451451451451451451451451451451451451451451451451451454514 [] []) (.ok .next) none none (XF w.params) 959 2736
theorem eq_515 (w:World) (p:Pos):za (jq w p):=by unfold za;kernel_rfl
def zev (w:World):y6:=⟨Yf.code,Yf,⟨91,50,91,56⟩,YU w.params,898,2494,.ok .next,XF w.params,959,2736⟩
def YT (P:Params):List (Nat×Obj):=zJ P [(4,1),(94,1),(95,1),(97,1),(98,1),(217,1),(218,1),(220,1),(221,1),(223,1),(224,1),(226,1),(227,1),(229,1),(107,12),(120,10),(131,6),(138,12),(151,4),(156,1),(157,1),(159,16),(176,4),(181,16),(198,4),(203,6),(210,6),(230,1),(231,1),(242,1),(243,1),(247,1),(248,1),(252,1),(253,1),(257,1),(258,1),(262,1),(263,1),(278,3)]
def XE (P:Params):List (Nat×Obj):=zJ P [(4,1),(94,1),(95,1),(97,1),(98,1),(217,1),(218,1),(220,1),(221,1),(223,1),(224,1),(226,1),(227,1),(229,1),(107,12),(120,10),(131,6),(138,12),(151,4),(156,1),(157,1),(159,16),(176,4),(181,16),(198,4),(203,6),(210,6),(230,1),(231,1),(242,1),(243,1),(247,1),(248,1),(252,1),(253,1),(257,1),(258,1),(262,1),(263,1),(281,3)]
def Ye:Ctx:=⟨(.compStart (xg (mt 26 3)) 0 (.ref 959) (.ref 960) ⟨⟨.function,[((nm 412),.local),((nm 411),.local)],false,false,[]⟩,961,3,[],(nm 334),none,(.ref 309),(some 310),0⟩),none,none,[((.body (yw (st 26)) ⟨(zX (st 26)),306,3,[],(nm 334),none,(.ref 309),(some 310),0⟩),⟨92,50,92,56⟩),((.body zD zk),⟨88,0,94,79⟩),((.builtin "claim.caller" ⟨[],[]⟩),⟨0,0,0,0⟩)],none⟩
def Y3 (P:Params):List (Nat×Obj):=zJ P [(4,1),(94,1),(95,1),(97,1),(98,1),(217,1),(218,1),(220,1),(221,1),(223,1),(224,1),(226,1),(227,1),(229,1),(107,12),(120,10),(131,6),(138,12),(151,4),(156,1),(157,1),(159,16),(176,4),(181,16),(198,4),(203,6),(210,6),(230,1),(231,1),(242,1),(243,1),(247,1),(248,1),(252,1),(253,1),(257,1),(258,1),(262,1),(263,1),(278,3)]
def jn (w:World):Sd×Sd:=zb (zj (rv (w.withFollow "comprehension-iter-twice" true)) 52 Ye ⟨92,50,92,56⟩ [] (some 0) (zM (.compStart (xg (mt 26 3)) 0 (.ref 959) (.ref 960) ⟨⟨.function,[((nm 412),.local),((nm 411),.local)],false,false,[]⟩,961,3,[],(nm 334),none,(.ref 309),(some 310),0⟩)) (PT.of (YT w.params)) 962 2737 0x0 [] []) (.again (.compLoop (xg (mt 26 3)) 0 (.ref 959) (.ref 960) ⟨⟨.function,[((nm 412),.local),((nm 411),.local)],false,false,[]⟩,961,3,[],(nm 334),none,(.ref 309),(some 310),0⟩)) (some Ye) none (Y3 w.params) 962 2737
theorem eq_512 (w:World):za (jn w):=by unfold za;kernel_rfl
def qU (w:World):Sd×Sd:=zb (zj (rv (w.withFollow "comprehension-iter-twice" false)) 62 Ye ⟨92,50,92,56⟩ [] (some 0) (zM (.compStart (xg (mt 26 3)) 0 (.ref 959) (.ref 960) ⟨⟨.function,[((nm 412),.local),((nm 411),.local)],false,false,[]⟩,961,3,[],(nm 334),none,(.ref 309),(some 310),0⟩)) (PT.of (YT w.params)) 962 2737 0x4 [] []) (.again (.compLoop (xg (mt 26 3)) 0 (.ref 959) (.ref 960) ⟨⟨.function,[((nm 412),.local),((nm 411),.local)],false,false,[]⟩,961,3,[],(nm 334),none,(.ref 309),(some 310),0⟩)) (some Ye) none (Y3 w.params) 962 2737
theorem eq_520 (w:World):za (qU w):=by unfold za;kernel_rfl
def jo (w:World) (p:Pos):Sd×Sd:=zb (zj (rv w) 8028 (Ye.goto (.compLoop (xg (mt 26 3)) 0 (.ref 959) (.ref 960) ⟨⟨.function,[((nm 412),.local),((nm 411),.local)],false,false,[]⟩,961,3,[],(nm 334),none,(.ref 309),(some 310),0⟩)) p [] (some 1000000) (zM (.compLoop (xg (mt 26 3)) 0 (.ref 959) (.ref 960) ⟨⟨.function,[((nm 412),.local),((nm 411),.local)],false,false,[]⟩,961,3,[],(nm 334),none,(.ref 309),(some 310),0⟩)) (PT.of (Y3 w.params)) 962 2737 0x5551554555155455515544555115544555115511551155115445515545551554555155455515545551554555155455515545551554555155455515545551554444444444444451144511111111111151151151151151151115545551554 [] []) (.ok .next) none none (XE w.params) 1052 3528
theorem eq_513 (w:World) (p:Pos):za (jo w p):=by unfold za;kernel_rfl
def zeu (w:World):y6:=⟨Ye.code,Ye,⟨92,50,92,56⟩,YT w.params,962,2737,.ok .next,XE w.params,1052,3528⟩
def YS (P:Params):List (Nat×Obj):=zJ P [(4,1),(94,1),(95,1),(97,1),(98,1),(217,1),(218,1),(220,1),(221,1),(223,1),(224,1),(226,1),(227,1),(229,1),(107,12),(120,10),(131,6),(138,12),(151,4),(156,1),(157,1),(159,16),(176,4),(181,16),(198,4),(203,6),(210,6),(230,1),(231,1),(242,1),(243,1),(247,1),(248,1),(252,1),(253,1),(257,1),(258,1),(262,1),(263,1),(284,3)]
def XD (P:Params):List (Nat×Obj):=zJ P [(4,1),(94,1),(95,1),(97,1),(98,1),(217,1),(218,1),(220,1),(221,1),(223,1),(224,1),(226,1),(227,1),(229,1),(107,12),(120,10),(131,6),(138,12),(151,4),(156,1),(157,1),(159,16),(176,4),(181,16),(198,4),(203,6),(210,6),(230,1),(231,1),(242,1),(243,1),(247,1),(248,1),(252,1),(253,1),(257,1),(258,1),(262,1),(263,1),(287,3)]
def Yd:Ctx:=⟨(.compStart (xg (mt 26 4)) 0 (.ref 1052) (.ref 1053) ⟨⟨.function,[((nm 412),.local),((nm 411),.local)],false,false,[]⟩,1054,3,[],(nm 334),none,(.ref 309),(some 310),0⟩),none,none,[((.body (yw (st 26)) ⟨(zX (st 26)),306,3,[],(nm 334),none,(.ref 309),(some 310),0⟩),⟨93,52,93,58⟩),((.body zD zk),⟨88,0,94,79⟩),((.builtin "claim.caller" ⟨[],[]⟩),⟨0,0,0,0⟩)],none⟩
def Y2 (P:Params):List (Nat×Obj):=zJ P [(4,1),(94,1),(95,1),(97,1),(98,1),(217,1),(218,1),(220,1),(221,1),(223,1),(224,1),(226,1),(227,1),(229,1),(107,12),(120,10),(131,6),(138,12),(151,4),(156,1),(157,1),(159,16),(176,4),(181,16),(198,4),(203,6),(210,6),(230,1),(231,1),(242,1),(243,1),(247,1),(248,1),(252,1),(253,1),(257,1),(258,1),(262,1),(263,1),(284,3)]
def jl (w:World):Sd×Sd:=zb (zj (rv (w.withFollow "comprehension-iter-twice" true)) 52 Yd ⟨93,52,93,58⟩ [] (some 0) (zM (.compStart (xg (mt 26 4)) 0 (.ref 1052) (.ref 1053) ⟨⟨.function,[((nm 412),.local),((nm 411),.local)],false,false,[]⟩,1054,3,[],(nm 334),none,(.ref 309),(some 310),0⟩)) (PT.of (YS w.params)) 1055 3529 0x0 [] []) (.again (.compLoop (xg (mt 26 4)) 0 (.ref 1052) (.ref 1053) ⟨⟨.function,[((nm 412),.local),((nm 411),.local)],false,false,[]⟩,1054,3,[],(nm 334),none,(.ref 309),(some 310),0⟩)) (some Yd) none (Y2 w.params) 1055 3529
theorem eq_510 (w:World):za (jl w):=by unfold za;kernel_rfl
def qT (w:World):Sd×Sd:=zb (zj (rv (w.withFollow "comprehension-iter-twice" false)) 62 Yd ⟨93,52,93,58⟩ [] (some 0) (zM (.compStart (xg (mt 26 4)) 0 (.ref 1052) (.ref 1053) ⟨⟨.function,[((nm 412),.local),((nm 411),.local)],false,false,[]⟩,1054,3,[],(nm 334),none,(.ref 309),(some 310),0⟩)) (PT.of (YS w.params)) 1055 3529 0x4 [] []) (.again (.compLoop (xg (mt 26 4)) 0 (.ref 1052) (.ref 1053) ⟨⟨.function,[((nm 412),.local),((nm 411),.local)],false,false,[]⟩,1054,3,[],(nm 334),none,(.ref 309),(some 310),0⟩)) (some Yd) none (Y2 w.params) 1055 3529
theorem eq_519 (w:World):za (qT w):=by unfold za;kernel_rfl
def jm (w:World) (p:Pos):Sd×Sd:=zb (zj (rv w) 6458 (Yd.goto (.compLoop (xg (mt 26 4)) 0 (.ref 1052) (.ref 1053) ⟨⟨.function,[((nm 412),.local),((nm 411),.local)],false,false,[]⟩,1054,3,[],(nm 334),none,(.ref 309),(some 310),0⟩)) p [] (some 1000000) (zM (.compLoop (xg (mt 26 4)) 0 (.ref 1052) (.ref 1053) ⟨⟨.function,[((nm 412),.local),((nm 411),.local)],false,false,[]⟩,1054,3,[],(nm 334),none,(.ref 309),(some 310),0⟩)) (PT.of (Y2 w.params)) 1055 3529 0x1515151515115151515151515151511111111111111111111111111111111111111445114545454545454545454545454545454545454545454545454 [] []) (.ok .next) none none (XD w.params) 1138 4066
theorem eq_511 (w:World) (p:Pos):za (jm w p):=by unfold za;kernel_rfl
def zet (w:World):y6:=⟨Yd.code,Yd,⟨93,52,93,58⟩,YS w.params,1055,3529,.ok .next,XD w.params,1138,4066⟩
def YR (P:Params):List (Nat×Obj):=zJ P [(97,1),(98,1),(217,1),(218,1),(220,1),(221,1),(223,1),(224,1),(226,1),(227,1),(229,1),(107,12),(120,10),(131,6),(138,12),(151,4),(156,1),(157,1),(159,16),(176,4),(181,16),(198,4),(203,6),(210,6),(230,1),(231,1),(242,1),(243,1),(247,1),(248,1),(252,1),(253,1),(257,1),(258,1),(262,1),(263,1),(290,3)]
def XC (P:Params):List (Nat×Obj):=zJ P [(97,1),(98,1),(217,1),(218,1),(220,1),(221,1),(223,1),(224,1),(226,1),(227,1),(229,1),(107,12),(120,10),(131,6),(138,12),(151,4),(156,1),(157,1),(159,16),(176,4),(181,16),(198,4),(203,6),(210,6),(230,1),(231,1),(242,1),(243,1),(247,1),(248,1),(252,1),(253,1),(257,1),(258,1),(262,1),(263,1),(293,3)]
def Yc:Ctx:=⟨(.compStart (xg (mt 26 5)) 0 (.ref 1138) (.ref 1139) ⟨⟨.function,[((nm 412),.local),((nm 411),.local)],false,false,[]⟩,1140,3,[],(nm 334),none,(.ref 309),(some 310),0⟩),none,none,[((.body (yw (st 26)) ⟨(zX (st 26)),306,3,[],(nm 334),none,(.ref 309),(some 310),0⟩),⟨94,46,94,52⟩),((.body zD zk),⟨88,0,94,79⟩),((.builtin "claim.caller" ⟨[],[]⟩),⟨0,0,0,0⟩)],none⟩
def Y1 (P:Params):List (Nat×Obj):=zJ P [(97,1),(98,1),(217,1),(218,1),(220,1),(221,1),(223,1),(224,1),(226,1),(227,1),(229,1),(107,12),(120,10),(131,6),(138,12),(151,4),(156,1),(157,1),(159,16),(176,4),(181,16),(198,4),(203,6),(210,6),(230,1),(231,1),(242,1),(243,1),(247,1),(248,1),(252,1),(253,1),(257,1),(258,1),(262,1),(263,1),(290,3)]
def jj (w:World):Sd×Sd:=zb (zj (rv (w.withFollow "comprehension-iter-twice" true)) 52 Yc ⟨94,46,94,52⟩ [] (some 0) (zM (.compStart (xg (mt 26 5)) 0 (.ref 1138) (.ref 1139) ⟨⟨.function,[((nm 412),.local),((nm 411),.local)],false,false,[]⟩,1140,3,[],(nm 334),none,(.ref 309),(some 310),0⟩)) (PT.of (YR w.params)) 1141 4067 0x0 [] []) (.again (.compLoop (xg (mt 26 5)) 0 (.ref 1138) (.ref 1139) ⟨⟨.function,[((nm 412),.local),((nm 411),.local)],false,false,[]⟩,1140,3,[],(nm 334),none,(.ref 309),(some 310),0⟩)) (some Yc) none (Y1 w.params) 1141 4067
theorem eq_508 (w:World):za (jj w):=by unfold za;kernel_rfl
def qS (w:World):Sd×Sd:=zb (zj (rv (w.withFollow "comprehension-iter-twice" false)) 62 Yc ⟨94,46,94,52⟩ [] (some 0) (zM (.compStart (xg (mt 26 5)) 0 (.ref 1138) (.ref 1139) ⟨⟨.function,[((nm 412),.local),((nm 411),.local)],false,false,[]⟩,1140,3,[],(nm 334),none,(.ref 309),(some 310),0⟩)) (PT.of (YR w.params)) 1141 4067 0x4 [] []) (.again (.compLoop (xg (mt 26 5)) 0 (.ref 1138) (.ref 1139) ⟨⟨.function,[((nm 412),.local),((nm 411),.local)],false,false,[]⟩,1140,3,[],(nm 334),none,(.ref 309),(some 310),0⟩)) (some Yc) none (Y1 w.params) 1141 4067
theorem eq_518 (w:World):za (qS w):=by unfold za;kernel_rfl
def jk (w:World) (p:Pos):Sd×Sd:=zb (zj (rv w) 2823 (Yc.goto (.compLoop (xg (mt 26 5)) 0 (.ref 1138) (.ref 1139) ⟨⟨.function,[((nm 412),.local),((nm 411),.local)],false,false,[]⟩,1140,3,[],(nm 334),none,(.ref 309),(some 310),0⟩)) p [] (some 1000000) (zM (.compLoop (xg (mt 26 5)) 0 (.ref 1138) (.ref 1139) ⟨⟨.function,[((nm 412),.local),((nm 411),.local)],false,false,[]⟩,1140,3,[],(nm 334),none,(.ref 309),(some 310),0⟩)) (PT.of (Y1 w.params)) 1141 4067 0x14514514444444444444444444444444444444444444444444444444444444 [] []) (.ok .next) none none (XC w.params) 1143 4254
theorem eq_509 (w:World) (p:Pos):za (jk w p):=by unfold za;kernel_rfl
def zes (w:World):y6:=⟨Yc.code,Yc,⟨94,46,94,52⟩,YR w.params,1141,4067,.ok .next,XC w.params,1143,4254⟩
def qx (P:Params):List (Nat×Obj):=zJ P [(3,1),(4,1),(59,1),(5,1),(60,1),(1,1),(81,1),(87,1),(88,1),(94,1),(95,1),(97,1),(98,1),(101,5)]
def qH (P:Params):List (Nat×Obj):=zJ P [(3,1),(4,1),(296,1),(5,1),(297,1),(1,1),(81,1),(87,1),(88,1),(94,1),(95,1),(97,1),(98,1),(101,5),(298,3),(216,14),(106,110),(230,36),(269,1),(270,1),(301,1),(275,1),(276,1),(302,1),(281,1),(282,1),(303,1),(287,1),(288,1),(304,1),(293,1),(294,1),(305,8)]
def zdH (w:World):Sd×Sd:=zb (zj (rv w) 413 Γ1 ⟨70,0,87,16⟩ [] none ((zU ((zD.drop 26).take 1) zk).bind fun f=>.pure (.done f)) (PT.of (qx w.params)) 304 842 0x1111100 [(4,zex w),(1,zew w),(1,zev w),(1,zeu w),(1,zet w),(1,zes w)] []) (.ok .next) none (some ⟨88,0,94,79⟩) (qH w.params) 1150 4263
theorem eq_30 (w:World):za (zdH w):=by unfold za;kernel_rfl
def YQ (P:Params):List (Nat×Obj):=zJ P [(97,1),(98,1),(217,1),(218,1),(220,1),(221,1),(223,1),(224,1),(226,1),(227,1),(229,1),(107,12),(120,10),(131,6),(138,12),(151,4),(156,1),(157,1),(159,16),(176,4),(181,16),(198,4),(203,6),(210,6),(230,1),(231,1),(242,1),(243,1),(247,1),(248,1),(252,1),(253,1),(257,1),(258,1),(262,1),(263,1),(313,3)]
def XB (P:Params):List (Nat×Obj):=zJ P [(97,1),(98,1),(217,1),(218,1),(220,1),(221,1),(223,1),(224,1),(226,1),(227,1),(229,1),(107,12),(120,10),(131,6),(138,12),(151,4),(156,1),(157,1),(159,16),(176,4),(181,16),(198,4),(203,6),(210,6),(230,1),(231,1),(242,1),(243,1),(247,1),(248,1),(252,1),(253,1),(257,1),(258,1),(262,1),(263,1),(316,3)]
def Yb:Ctx:=⟨(.compStart (xg (st 27)) 0 (.ref 1150) (.ref 1151) ⟨⟨.function,[((nm 412),.local),((nm 411),.local)],false,false,[]⟩,1152,3,[],(nm 171),none,(.ref 13),(some 14),0⟩),none,none,[((.body zD zk),⟨95,47,95,59⟩),((.builtin "claim.caller" ⟨[],[]⟩),⟨0,0,0,0⟩)],none⟩
def Y0 (P:Params):List (Nat×Obj):=zJ P [(97,1),(98,1),(217,1),(218,1),(220,1),(221,1),(223,1),(224,1),(226,1),(227,1),(229,1),(107,12),(120,10),(131,6),(138,12),(151,4),(156,1),(157,1),(159,16),(176,4),(181,16),(198,4),(203,6),(210,6),(230,1),(231,1),(242,1),(243,1),(247,1),(248,1),(252,1),(253,1),(257,1),(258,1),(262,1),(263,1),(313,3)]
def jh (w:World):Sd×Sd:=zb (zj (rv (w.withFollow "comprehension-iter-twice" true)) 52 Yb ⟨95,47,95,59⟩ [] (some 0) (zM (.compStart (xg (st 27)) 0 (.ref 1150) (.ref 1151) ⟨⟨.function,[((nm 412),.local),((nm 411),.local)],false,false,[]⟩,1152,3,[],(nm 171),none,(.ref 13),(some 14),0⟩)) (PT.of (YQ w.params)) 1153 4264 0x0 [] []) (.again (.compLoop (xg (st 27)) 0 (.ref 1150) (.ref 1151) ⟨⟨.function,[((nm 412),.local),((nm 411),.local)],false,false,[]⟩,1152,3,[],(nm 171),none,(.ref 13),(some 14),0⟩)) (some Yb) none (Y0 w.params) 1153 4264
theorem eq_506 (w:World):za (jh w):=by unfold za;kernel_rfl
def qR (w:World):Sd×Sd:=zb (zj (rv (w.withFollow "comprehension-iter-twice" false)) 62 Yb ⟨95,47,95,59⟩ [] (some 0) (zM (.compStart (xg (st 27)) 0 (.ref 1150) (.ref 1151) ⟨⟨.function,[((nm 412),.local),((nm 411),.local)],false,false,[]⟩,1152,3,[],(nm 171),none,(.ref 13),(some 14),0⟩)) (PT.of (YQ w.params)) 1153 4264 0x4 [] []) (.again (.compLoop (xg (st 27)) 0 (.ref 1150) (.ref 1151) ⟨⟨.function,[((nm 412),.local),((nm 411),.local)],false,false,[]⟩,1152,3,[],(nm 171),none,(.ref 13),(some 14),0⟩)) (some Yb) none (Y0 w.params) 1153 4264
theorem eq_526 (w:World):za (qR w):=by unfold za;kernel_rfl
def ji (w:World) (p:Pos):Sd×Sd:=zb (zj (rv w) 4197 (Yb.goto (.compLoop (xg (st 27)) 0 (.ref 1150) (.ref 1151) ⟨⟨.function,[((nm 412),.local),((nm 411),.local)],false,false,[]⟩,1152,3,[],(nm 171),none,(.ref 13),(some 14),0⟩)) p [] (some 1000000) (zM (.compLoop (xg (st 27)) 0 (.ref 1150) (.ref 1151) ⟨⟨.function,[((nm 412),.local),((nm 411),.local)],false,false,[]⟩,1152,3,[],(nm 171),none,(.ref 13),(some 14),0⟩)) (PT.of (Y0 w.params)) 1153 4264 0x404040404040404040404040404040404040404040404040404040404040404040404040404040404040404040404040404040404040404040404 [] []) (.ok .next) none none (XB w.params) 1155 4500
theorem eq_507 (w:World) (p:Pos):za (ji w p):=by unfold za;kernel_rfl
def zer (w:World):y6:=⟨Yb.code,Yb,⟨95,47,95,59⟩,YQ w.params,1153,4264,.ok .next,XB w.params,1155,4500⟩
def qw (P:Params):List (Nat×Obj):=zJ P [(4,1),(296,1),(97,1),(98,1),(217,1),(218,1),(220,1),(221,1),(223,1),(224,1),(226,1),(227,1),(229,1),(107,12),(120,10),(131,6),(138,12),(151,4),(156,1),(157,1),(159,16),(176,4),(181,16),(198,4),(203,6),(210,6),(230,1),(231,1),(242,1),(243,1),(247,1),(248,1),(252,1),(253,1),(257,1),(258,1),(262,1),(263,1),(307,1),(308,1)]
def qG (P:Params):List (Nat×Obj):=zJ P [(4,1),(319,1),(97,1),(98,1),(217,1),(218,1),(220,1),(221,1),(223,1),(224,1),(226,1),(227,1),(229,1),(107,12),(120,10),(131,6),(138,12),(151,4),(156,1),(157,1),(159,16),(176,4),(181,16),(198,4),(203,6),(210,6),(230,1),(231,1),(242,1),(243,1),(247,1),(248,1),(252,1),(253,1),(257,1),(258,1),(262,1),(263,1),(307,1),(308,1),(316,1),(317,1),(320,1)]
def zdG (w:World):Sd×Sd:=zb (zj (rv w) 93 Γ1 ⟨88,0,94,79⟩ [] none ((zU ((zD.drop 27).take 1) zk).bind fun f=>.pure (.done f)) (PT.of (qw w.params)) 1150 4263 0x1 [(2,zer w)] []) (.ok .next) none (some ⟨95,0,95,7⟩) (qG w.params) 1155 4501
theorem eq_29 (w:World):za (zdG w):=by unfold za;kernel_rfl
def qv (P:Params):List (Nat×Obj):=zJ P [(319,1),(5,1),(297,1),(1,1)]
def qF (P:Params):List (Nat×Obj):=zJ P [(321,1),(5,1),(322,1),(1,1),(323,112)]
def zdE (w:World):Sd×Sd:=zb (zj (rv w) 1006 Γ1 ⟨95,0,95,7⟩ [] none ((zU ((zD.drop 28).take 18) zk).bind fun f=>.pure (.done f)) (PT.of (qv w.params)) 1155 4501 0x104104104100000000104104104104041041041041041041 [] []) (.ok .next) none (some ⟨230,0,230,7⟩) (qF w.params) 1267 4751
theorem eq_28 (w:World):za (zdE w):=by unfold za;kernel_rfl
def qu (P:Params):List (Nat×Obj):=zJ P [(321,1),(5,1),(322,1),(1,1)]
def qE (P:Params):List (Nat×Obj):=zJ P [(435,1),(5,1),(436,1),(1,1),(437,91)]
def zdD (w:World):Sd×Sd:=zb (zj (rv w) 659 Γ1 ⟨230,0,230,7⟩ [] none ((zU ((zD.drop 46).take 26) zk).bind fun f=>.pure (.done f)) (PT.of (qu w.params)) 1267 4751 0x1041000000000000 [] []) (.ok .next) none (some ⟨353,0,353,3⟩) (qE w.params) 1358 4922
theorem eq_27 (w:World):za (zdD w):=by unfold za;kernel_rfl
def qt (P:Params):List (Nat×Obj):=zJ P [(435,1),(5,1),(436,1),(1,1)]
def qD (P:Params):List (Nat×Obj):=zJ P [(528,1),(5,1),(529,1),(1,1),(530,37)]
def zdC (w:World):Sd×Sd:=zb (zj (rv w) 792 Γ1 ⟨353,0,353,3⟩ [] none ((zU ((zD.drop 72).take 4) zk).bind fun f=>.pure (.done f)) (PT.of (qt w.params)) 1358 4922 0x10410104104104104104104104104104104104104104104 [] []) (.ok .next) none (some ⟨357,0,358,39⟩) (qD w.params) 1396 5111
theorem eq_26 (w:World):za (zdC w):=by unfold za;kernel_rfl
def qs (P:Params):List (Nat×Obj):=zJ P [(3,1),(4,1),(528,1),(5,1),(529,1),(1,1)]
def qC (P:Params):List (Nat×Obj):=zJ P [(3,1),(4,1),(567,1),(5,1),(568,1),(1,1),(569,26)]
def zdB (w:World):Sd×Sd:=zb (zj (rv w) 346 Γ1 ⟨357,0,358,39⟩ [] none ((zU ((zD.drop 76).take 2) zk).bind fun f=>.pure (.done f)) (PT.of (qs w.params)) 1396 5111 0x0 [] []) (.ok .next) none (some ⟨361,0,374,64⟩) (qC w.params) 1431 5167
theorem eq_25 (w:World):za (zdB w):=by unfold za;kernel_rfl
def qr (P:Params):List (Nat×Obj):=zJ P [(3,1),(4,1),(567,1),(5,1),(568,1),(1,1)]
def qB (P:Params):List (Nat×Obj):=zJ P [(3,1),(4,1),(595,1),(5,1),(596,1),(1,1),(597,97)]
def zdA (w:World):Sd×Sd:=zb (zj (rv w) 878 Γ1 ⟨361,0,374,64⟩ [] none ((zU ((zD.drop 78).take 4) zk).bind fun f=>.pure (.done f)) (PT.of (qr w.params)) 1431 5167 0x0 [] []) (.ok .next) none (some ⟨509,0,522,88⟩) (qB w.params) 1546 5352
theorem eq_24 (w:World):za (zdA w):=by unfold za;kernel_rfl
def qq (P:Params):List (Nat×Obj):=zJ P [(595,1),(5,1),(596,1),(1,1)]
def qA (P:Params):List (Nat×Obj):=zJ P [(694,1),(5,1),(695,1),(1,1),(696,7)]
def zdz (w:World):Sd×Sd:=zb (zj (rv w) 81 Γ1 ⟨509,0,522,88⟩ [] none ((zU ((zD.drop 82).take 1) zk).bind fun f=>.pure (.done f)) (PT.of (qq w.params)) 1546 5352 0x0 [] []) (.ok .next) none (some ⟨523,0,524,35⟩) (qA w.params) 1553 5360
theorem eq_23 (w:World):za (zdz w):=by unfold za;kernel_rfl
def qp (P:Params):List (Nat×Obj):=zJ P [(3,1),(4,1),(694,1),(5,1),(695,1),(1,1)]
def qz (P:Params):List (Nat×Obj):=zJ P [(3,1),(4,1),(703,1),(5,1),(704,1),(1,1),(705,146)]
def zdy (w:World):Sd×Sd:=zb (zj (rv w) 961 Γ1 ⟨523,0,524,35⟩ [] none ((zU ((zD.drop 83).take 1) zk).bind fun f=>.pure (.done f)) (PT.of (qp w.params)) 1553 5360 0x0 [] []) (.ok .next) none (some ⟨525,0,727,103⟩) (qz w.params) 1708 5586
theorem eq_22 (w:World):za (zdy w):=by unfold za;kernel_rfl
def qo (P:Params):List (Nat×Obj):=zJ P [(703,1),(5,1),(704,1),(1,1)]
def qy (P:Params):List (Nat×Obj):=zJ P [(851,1),(5,1),(852,1),(1,1),(853,68)]
def zdx (w:World):Sd×Sd:=zb (zj (rv w) 381 Γ1 ⟨525,0,727,103⟩ [] none ((zU ((zD.drop 84).take 12) zk).bind fun f=>.pure (.done f)) (PT.of (qo w.params)) 1708 5586 0x0 [] []) (.ok .next) none (some ⟨821,0,836,15⟩) (qy w.params) 1776 5676
theorem eq_21 (w:World):za (zdx w):=by unfold za;kernel_rfl
def finL (P:Params):List (Nat×Obj):=zJ P [(3,1),(921,1),(4,1),(851,1),(5,1),(922,6),(8,11),(38,1),(20,16),(39,12),(52,1),(58,1),(61,40),(217,1),(218,1),(220,1),(221,1),(223,1),(224,1),(226,1),(227,1),(229,1),(107,12),(120,10),(131,6),(138,12),(151,4),(156,1),(157,1),(159,16),(176,4),(181,16),(198,4),(203,6),(210,6),(230,1),(231,1),(242,1),(243,1),(247,1),(248,1),(252,1),(253,1),(257,1),(258,1),(262,1),(263,1),(270,1),(276,1),(282,1),(288,1),(294,1),(306,5),(317,1),(323,112),(437,91),(530,37),(569,26),(597,97),(696,7),(705,146),(853,68)]
theorem V_k9 (w:World) (R:yk):(zkH w).Valid (model PW w) R:=by
 have h:=eq_87 w
 unfold zhr at h
 unfold zkH
 exact eq_928 ze rfl h
theorem eq_475 (w:World) (R:yk):(zeI w).Valid (model PW w) R:=by
 have h:=eq_53 w
 unfold zdU at h
 unfold zeI
 exact eq_928 ze rfl h
theorem eq_474 (w:World) (R:yk):(zeH w).Valid (model PW w) R:=by
 have h:=eq_52 w
 unfold zdT at h
 unfold zeH
 exact eq_928 ze rfl h
theorem eq_473 (w:World) (R:yk):(zeG w).Valid (model PW w) R:=by
 have h:=eq_10 w
 unfold zdS at h
 unfold zeG
 exact eq_928 ze rfl h
theorem eq_472 (w:World) (R:yk):(zeF w).Valid (model PW w) R:=by
 have h:=eq_9 w
 unfold zdR at h
 unfold zeF
 exact eq_928 ze rfl h
theorem eq_471 (w:World) (R:yk):(zeE w).Valid (model PW w) R:=by
 have h:=eq_8 w
 unfold zdQ at h
 unfold zeE
 exact eq_928 ze rfl h
theorem eq_470 (w:World) (R:yk):(zeD w).Valid (model PW w) R:=by
 have h:=eq_7 w
 unfold zdP at h
 unfold zeD
 exact eq_928 ze rfl h
theorem eq_469 (w:World) (R:yk):(zeC w).Valid (model PW w) R:=by
 have h:=eq_6 w
 unfold zdO at h
 unfold zeC
 exact eq_928 ze rfl h
theorem eq_468 (w:World) (R:yk):(zeB w).Valid (model PW w) R:=by
 have h:=eq_5 w
 unfold zdN at h
 unfold zeB
 exact eq_928 ze rfl h
theorem eq_467 (w:World) (R:yk):(zeA w).Valid (model PW w) R:=by
 have h:=eq_4 w
 unfold zdM at h
 unfold zeA
 exact eq_928 ze rfl h
theorem eq_466 (w:World) (R:yk):(zez w).Valid (model PW w) R:=by
 have h:=eq_3 w
 unfold zdL at h
 unfold zez
 exact eq_928 ze rfl h
theorem eq_465 (w:World) (R:yk):(zey w).Valid (model PW w) R:=by
 have h:=eq_2 w
 unfold zdJ at h
 unfold zey
 exact eq_928 ze rfl h
theorem eq_464 (w:World) (R:yk):(zex w).Valid (model PW w) R:=by
 have h:=eq_1 w
 unfold zdI at h
 unfold zex
 exact eq_928 (zn (V_k9 w R) (zn (eq_475 w R) (zn (eq_474 w R) (zn (eq_473 w R) (zn (eq_472 w R) (zn (eq_471 w R) (zn (eq_470 w R) (zn (eq_469 w R) (zn (eq_468 w R) (zn (eq_467 w R) (zn (eq_466 w R) (zn (eq_465 w R) ze)))))))))))) rfl h
theorem eq_463 (w:World) (R:yk):(zew w).Valid (model PW w) R:=by
 have h1:=eq_504 w
 have h2:=eq_522 w
 have h3:=fun p=>eq_505 w p
 unfold jr at h1
 unfold qW at h2
 unfold js at h3
 unfold zew
 exact eq_883 rfl (by kernel_rfl) h1 h2 h3
theorem eq_414 (w:World) (R:yk):(zev w).Valid (model PW w) R:=by
 have h1:=eq_514 w
 have h2:=eq_521 w
 have h3:=fun p=>eq_515 w p
 unfold jp at h1
 unfold qV at h2
 unfold jq at h3
 unfold zev
 exact eq_883 rfl (by kernel_rfl) h1 h2 h3
theorem eq_413 (w:World) (R:yk):(zeu w).Valid (model PW w) R:=by
 have h1:=eq_512 w
 have h2:=eq_520 w
 have h3:=fun p=>eq_513 w p
 unfold jn at h1
 unfold qU at h2
 unfold jo at h3
 unfold zeu
 exact eq_883 rfl (by kernel_rfl) h1 h2 h3
theorem eq_412 (w:World) (R:yk):(zet w).Valid (model PW w) R:=by
 have h1:=eq_510 w
 have h2:=eq_519 w
 have h3:=fun p=>eq_511 w p
 unfold jl at h1
 unfold qT at h2
 unfold jm at h3
 unfold zet
 exact eq_883 rfl (by kernel_rfl) h1 h2 h3
theorem eq_411 (w:World) (R:yk):(zes w).Valid (model PW w) R:=by
 have h1:=eq_508 w
 have h2:=eq_518 w
 have h3:=fun p=>eq_509 w p
 unfold jj at h1
 unfold qS at h2
 unfold jk at h3
 unfold zes
 exact eq_883 rfl (by kernel_rfl) h1 h2 h3
theorem eq_410 (w:World) (R:yk):(zer w).Valid (model PW w) R:=by
 have h1:=eq_506 w
 have h2:=eq_526 w
 have h3:=fun p=>eq_507 w p
 unfold jh at h1
 unfold qR at h2
 unfold ji at h3
 unfold zer
 exact eq_883 rfl (by kernel_rfl) h1 h2 h3
def yx (P:Params):List (Nat×Obj):=zJ P [(3,1),(921,1),(4,1),(2,1),(5,1),(922,6)]
def T_0 (P:Params):PT:=PT.of (yx P)
theorem E_k0 (w:World):((Zt w.params).map (fun q=>(T_0 w.params).get q.1))=(Zt w.params).map fun q=>some q.2:=by kernel_rfl
theorem S_k0 (w:World):(Zt w.params).all (fun q=>zv (jT w.params) q.1)=true:=by kernel_rfl
def T_1 (P:Params):PT:=(T_0 P).puts (jT P)
theorem E_k1 (w:World):((Zs w.params).map (fun q=>(T_1 w.params).get q.1))=(Zs w.params).map fun q=>some q.2:=by kernel_rfl
theorem S_k1 (w:World):(Zs w.params).all (fun q=>zv (jS w.params) q.1)=true:=by kernel_rfl
def T_2 (P:Params):PT:=(T_1 P).puts (jS P)
theorem E_k2 (w:World):((Zr w.params).map (fun q=>(T_2 w.params).get q.1))=(Zr w.params).map fun q=>some q.2:=by kernel_rfl
theorem S_k2 (w:World):(Zr w.params).all (fun q=>zv (jQ w.params) q.1)=true:=by kernel_rfl
def T_3 (P:Params):PT:=(T_2 P).puts (jQ P)
theorem E_k3 (w:World):((Zq w.params).map (fun q=>(T_3 w.params).get q.1))=(Zq w.params).map fun q=>some q.2:=by kernel_rfl
theorem S_k3 (w:World):(Zq w.params).all (fun q=>zv (jP w.params) q.1)=true:=by kernel_rfl
def T_4 (P:Params):PT:=(T_3 P).puts (jP P)
theorem E_k4 (w:World):((Zp w.params).map (fun q=>(T_4 w.params).get q.1))=(Zp w.params).map fun q=>some q.2:=by kernel_rfl
theorem S_k4 (w:World):(Zp w.params).all (fun q=>zv (jO w.params) q.1)=true:=by kernel_rfl
def T_5 (P:Params):PT:=(T_4 P).puts (jO P)
theorem E_k5 (w:World):((Zo w.params).map (fun q=>(T_5 w.params).get q.1))=(Zo w.params).map fun q=>some q.2:=by kernel_rfl
theorem S_k5 (w:World):(Zo w.params).all (fun q=>zv (jN w.params) q.1)=true:=by kernel_rfl
def T_6 (P:Params):PT:=(T_5 P).puts (jN P)
theorem E_k6 (w:World):((Zn w.params).map (fun q=>(T_6 w.params).get q.1))=(Zn w.params).map fun q=>some q.2:=by kernel_rfl
theorem S_k6 (w:World):(Zn w.params).all (fun q=>zv (jM w.params) q.1)=true:=by kernel_rfl
def T_7 (P:Params):PT:=(T_6 P).puts (jM P)
theorem E_k7 (w:World):((Zm w.params).map (fun q=>(T_7 w.params).get q.1))=(Zm w.params).map fun q=>some q.2:=by kernel_rfl
theorem S_k7 (w:World):(Zm w.params).all (fun q=>zv (jL w.params) q.1)=true:=by kernel_rfl
def T_8 (P:Params):PT:=(T_7 P).puts (jL P)
theorem E_k8 (w:World):((Zl w.params).map (fun q=>(T_8 w.params).get q.1))=(Zl w.params).map fun q=>some q.2:=by kernel_rfl
theorem S_k8 (w:World):(Zl w.params).all (fun q=>zv (jK w.params) q.1)=true:=by kernel_rfl
def T_9 (P:Params):PT:=(T_8 P).puts (jK P)
theorem eq_462 (w:World):((qx w.params).map (fun q=>(T_9 w.params).get q.1))=(qx w.params).map fun q=>some q.2:=by kernel_rfl
theorem eq_444 (w:World):(qx w.params).all (fun q=>zv (qH w.params) q.1)=true:=by kernel_rfl
def zbo (P:Params):PT:=(T_9 P).puts (qH P)
theorem eq_461 (w:World):((qw w.params).map (fun q=>(zbo w.params).get q.1))=(qw w.params).map fun q=>some q.2:=by kernel_rfl
theorem eq_488 (w:World):(qw w.params).all (fun q=>zv (qG w.params) q.1)=true:=by kernel_rfl
def zbn (P:Params):PT:=(zbo P).puts (qG P)
theorem eq_460 (w:World):((qv w.params).map (fun q=>(zbn w.params).get q.1))=(qv w.params).map fun q=>some q.2:=by kernel_rfl
theorem eq_487 (w:World):(qv w.params).all (fun q=>zv (qF w.params) q.1)=true:=by kernel_rfl
def zbm (P:Params):PT:=(zbn P).puts (qF P)
theorem eq_459 (w:World):((qu w.params).map (fun q=>(zbm w.params).get q.1))=(qu w.params).map fun q=>some q.2:=by kernel_rfl
theorem eq_486 (w:World):(qu w.params).all (fun q=>zv (qE w.params) q.1)=true:=by kernel_rfl
def zbl (P:Params):PT:=(zbm P).puts (qE P)
theorem eq_458 (w:World):((qt w.params).map (fun q=>(zbl w.params).get q.1))=(qt w.params).map fun q=>some q.2:=by kernel_rfl
theorem eq_485 (w:World):(qt w.params).all (fun q=>zv (qD w.params) q.1)=true:=by kernel_rfl
def zbk (P:Params):PT:=(zbl P).puts (qD P)
theorem eq_457 (w:World):((qs w.params).map (fun q=>(zbk w.params).get q.1))=(qs w.params).map fun q=>some q.2:=by kernel_rfl
theorem eq_484 (w:World):(qs w.params).all (fun q=>zv (qC w.params) q.1)=true:=by kernel_rfl
def zbj (P:Params):PT:=(zbk P).puts (qC P)
theorem eq_456 (w:World):((qr w.params).map (fun q=>(zbj w.params).get q.1))=(qr w.params).map fun q=>some q.2:=by kernel_rfl
theorem eq_483 (w:World):(qr w.params).all (fun q=>zv (qB w.params) q.1)=true:=by kernel_rfl
def zbi (P:Params):PT:=(zbj P).puts (qB P)
theorem eq_455 (w:World):((qq w.params).map (fun q=>(zbi w.params).get q.1))=(qq w.params).map fun q=>some q.2:=by kernel_rfl
theorem eq_482 (w:World):(qq w.params).all (fun q=>zv (qA w.params) q.1)=true:=by kernel_rfl
def zbh (P:Params):PT:=(zbi P).puts (qA P)
theorem eq_454 (w:World):((qp w.params).map (fun q=>(zbh w.params).get q.1))=(qp w.params).map fun q=>some q.2:=by kernel_rfl
theorem eq_481 (w:World):(qp w.params).all (fun q=>zv (qz w.params) q.1)=true:=by kernel_rfl
def zbg (P:Params):PT:=(zbh P).puts (qz P)
theorem eq_453 (w:World):((qo w.params).map (fun q=>(zbg w.params).get q.1))=(qo w.params).map fun q=>some q.2:=by kernel_rfl
theorem eq_480 (w:World):(qo w.params).all (fun q=>zv (qy w.params) q.1)=true:=by kernel_rfl
def qe (P:Params):PT:=(zbg P).puts (qy P)
structure TW (w:World) (i:Nat) (Q:Flow->Pos->Shared->Prop) (E:Value->Pos->Shared->Prop) (p:Pos) (s:Shared):Prop where
 out:Sem.wp (model PW w) Γ1 (execs (zD.drop i) zk) Q E p s
theorem eq_937 {w:World} {R:yk} {T:PT} {i j k:Nat} (hk:k=i+j) {p q:Pos} {n:Nat} {pre post:List (Nat×Obj)} {sz tk sz' tk':Nat} {hs:Nat} {as:List (Nat×y6)} (hAs:∀x∈as,x.2.Valid (model PW w) R)
  (h:za (zb (zj (rv w) n Γ1 p [] none ((zU ((zD.drop i).take j) zk).bind fun f=>.pure (.done f)) (PT.of pre) sz tk hs as []) (.ok .next) none (some q) post sz' tk'))
  (e:(pre.map (fun q=>T.get q.1))=pre.map fun q=>some q.2) (sub:pre.all (fun q=>zv post q.1)=true)
  {Q:Flow->Pos->Shared->Prop} {E:Value->Pos->Shared->Prop} {s:Shared} (G:yB R T sz tk s) (hQ:∀s',yB R (T.puts post) sz' tk' s'->TW w k Q E q s'):TW w i Q E p s:=
 ⟨eq_38 hk hAs (by rw [eq_13];exact h) e sub G fun s' G'=>(hQ s' G').out⟩
theorem eq_290 (w:World) (R:yk) {Q:Flow->Pos->Shared->Prop} {E:Value->Pos->Shared->Prop} {s:Shared} (G:yB R (T_3 w.params) 15 187 s) (hQ:∀s',yB R (T_4 w.params) 67 258 s'->TW w 4 Q E ⟨9,0,13,24⟩ s'):TW w 0 Q E ⟨0,0,0,0⟩ s:=by
 have h:=eq_93 w
 unfold zhx at h
 exact eq_937 (T:=T_3 w.params) (pre:=Zq w.params) (post:=jP w.params) rfl ze h (E_k3 w) (S_k3 w) G (fun s' G'=>hQ s' (by unfold T_4;exact G'))
theorem eq_289 (w:World) (R:yk) {Q:Flow->Pos->Shared->Prop} {E:Value->Pos->Shared->Prop} {s:Shared} (G:yB R (T_4 w.params) 67 258 s) (hQ:∀s',yB R (T_5 w.params) 87 319 s'->TW w 7 Q E ⟨20,0,20,3⟩ s'):TW w 4 Q E ⟨9,0,13,24⟩ s:=by
 have h:=eq_92 w
 unfold zhw at h
 exact eq_937 (T:=T_4 w.params) (pre:=Zp w.params) (post:=jO w.params) rfl ze h (E_k4 w) (S_k4 w) G (fun s' G'=>hQ s' (by unfold T_5;exact G'))
theorem eq_288 (w:World) (R:yk) {Q:Flow->Pos->Shared->Prop} {E:Value->Pos->Shared->Prop} {s:Shared} (G:yB R (T_5 w.params) 87 319 s) (hQ:∀s',yB R (T_6 w.params) 90 428 s'->TW w 8 Q E ⟨21,0,21,4⟩ s'):TW w 7 Q E ⟨20,0,20,3⟩ s:=by
 have h:=eq_91 w
 unfold zhv at h
 exact eq_937 (T:=T_5 w.params) (pre:=Zo w.params) (post:=jN w.params) rfl ze h (E_k5 w) (S_k5 w) G (fun s' G'=>hQ s' (by unfold T_6;exact G'))
theorem eq_287 (w:World) (R:yk) {Q:Flow->Pos->Shared->Prop} {E:Value->Pos->Shared->Prop} {s:Shared} (G:yB R (T_6 w.params) 90 428 s) (hQ:∀s',yB R (T_7 w.params) 97 461 s'->TW w 21 Q E ⟨34,0,39,16⟩ s'):TW w 8 Q E ⟨21,0,21,4⟩ s:=by
 have h:=eq_90 w
 unfold zhu at h
 exact eq_937 (T:=T_6 w.params) (pre:=Zn w.params) (post:=jM w.params) rfl ze h (E_k6 w) (S_k6 w) G (fun s' G'=>hQ s' (by unfold T_7;exact G'))
theorem eq_286 (w:World) (R:yk) {Q:Flow->Pos->Shared->Prop} {E:Value->Pos->Shared->Prop} {s:Shared} (G:yB R (T_7 w.params) 97 461 s) (hQ:∀s',yB R (T_8 w.params) 231 722 s'->TW w 22 Q E ⟨40,0,40,9⟩ s'):TW w 21 Q E ⟨34,0,39,16⟩ s:=by
 have h:=eq_89 w
 unfold zht at h
 exact eq_937 (T:=T_7 w.params) (pre:=Zm w.params) (post:=jL w.params) rfl ze h (E_k7 w) (S_k7 w) G (fun s' G'=>hQ s' (by unfold T_8;exact G'))
theorem eq_285 (w:World) (R:yk) {Q:Flow->Pos->Shared->Prop} {E:Value->Pos->Shared->Prop} {s:Shared} (G:yB R (T_8 w.params) 231 722 s) (hQ:∀s',yB R (T_9 w.params) 304 842 s'->TW w 26 Q E ⟨70,0,87,16⟩ s'):TW w 22 Q E ⟨40,0,40,9⟩ s:=by
 have h:=eq_88 w
 unfold zhs at h
 exact eq_937 (T:=T_8 w.params) (pre:=Zl w.params) (post:=jK w.params) rfl ze h (E_k8 w) (S_k8 w) G (fun s' G'=>hQ s' (by unfold T_9;exact G'))
theorem eq_212 (w:World) (R:yk) {Q:Flow->Pos->Shared->Prop} {E:Value->Pos->Shared->Prop} {s:Shared} (G:yB R (T_9 w.params) 304 842 s) (hQ:∀s',yB R (zbo w.params) 1150 4263 s'->TW w 27 Q E ⟨88,0,94,79⟩ s'):TW w 26 Q E ⟨70,0,87,16⟩ s:=by
 have h:=eq_30 w
 unfold zdH at h
 exact eq_937 (T:=T_9 w.params) (pre:=qx w.params) (post:=qH w.params) rfl (zn (eq_464 w R) (zn (eq_463 w R) (zn (eq_414 w R) (zn (eq_413 w R) (zn (eq_412 w R) (zn (eq_411 w R) ze)))))) h (eq_462 w) (eq_444 w) G (fun s' G'=>hQ s' (by unfold zbo;exact G'))
theorem eq_211 (w:World) (R:yk) {Q:Flow->Pos->Shared->Prop} {E:Value->Pos->Shared->Prop} {s:Shared} (G:yB R (zbo w.params) 1150 4263 s) (hQ:∀s',yB R (zbn w.params) 1155 4501 s'->TW w 28 Q E ⟨95,0,95,7⟩ s'):TW w 27 Q E ⟨88,0,94,79⟩ s:=by
 have h:=eq_29 w
 unfold zdG at h
 exact eq_937 (T:=zbo w.params) (pre:=qw w.params) (post:=qG w.params) rfl (zn (eq_410 w R) ze) h (eq_461 w) (eq_488 w) G (fun s' G'=>hQ s' (by unfold zbn;exact G'))
theorem eq_175 (w:World) (R:yk) {Q:Flow->Pos->Shared->Prop} {E:Value->Pos->Shared->Prop} {s:Shared} (G:yB R (zbn w.params) 1155 4501 s) (hQ:∀s',yB R (zbm w.params) 1267 4751 s'->TW w 46 Q E ⟨230,0,230,7⟩ s'):TW w 28 Q E ⟨95,0,95,7⟩ s:=by
 have h:=eq_28 w
 unfold zdE at h
 exact eq_937 (T:=zbn w.params) (pre:=qv w.params) (post:=qF w.params) rfl ze h (eq_460 w) (eq_487 w) G (fun s' G'=>hQ s' (by unfold zbm;exact G'))
theorem eq_174 (w:World) (R:yk) {Q:Flow->Pos->Shared->Prop} {E:Value->Pos->Shared->Prop} {s:Shared} (G:yB R (zbm w.params) 1267 4751 s) (hQ:∀s',yB R (zbl w.params) 1358 4922 s'->TW w 72 Q E ⟨353,0,353,3⟩ s'):TW w 46 Q E ⟨230,0,230,7⟩ s:=by
 have h:=eq_27 w
 unfold zdD at h
 exact eq_937 (T:=zbm w.params) (pre:=qu w.params) (post:=qE w.params) rfl ze h (eq_459 w) (eq_486 w) G (fun s' G'=>hQ s' (by unfold zbl;exact G'))
theorem eq_173 (w:World) (R:yk) {Q:Flow->Pos->Shared->Prop} {E:Value->Pos->Shared->Prop} {s:Shared} (G:yB R (zbl w.params) 1358 4922 s) (hQ:∀s',yB R (zbk w.params) 1396 5111 s'->TW w 76 Q E ⟨357,0,358,39⟩ s'):TW w 72 Q E ⟨353,0,353,3⟩ s:=by
 have h:=eq_26 w
 unfold zdC at h
 exact eq_937 (T:=zbl w.params) (pre:=qt w.params) (post:=qD w.params) rfl ze h (eq_458 w) (eq_485 w) G (fun s' G'=>hQ s' (by unfold zbk;exact G'))
theorem eq_172 (w:World) (R:yk) {Q:Flow->Pos->Shared->Prop} {E:Value->Pos->Shared->Prop} {s:Shared} (G:yB R (zbk w.params) 1396 5111 s) (hQ:∀s',yB R (zbj w.params) 1431 5167 s'->TW w 78 Q E ⟨361,0,374,64⟩ s'):TW w 76 Q E ⟨357,0,358,39⟩ s:=by
 have h:=eq_25 w
 unfold zdB at h
 exact eq_937 (T:=zbk w.params) (pre:=qs w.params) (post:=qC w.params) rfl ze h (eq_457 w) (eq_484 w) G (fun s' G'=>hQ s' (by unfold zbj;exact G'))
theorem eq_171 (w:World) (R:yk) {Q:Flow->Pos->Shared->Prop} {E:Value->Pos->Shared->Prop} {s:Shared} (G:yB R (zbj w.params) 1431 5167 s) (hQ:∀s',yB R (zbi w.params) 1546 5352 s'->TW w 82 Q E ⟨509,0,522,88⟩ s'):TW w 78 Q E ⟨361,0,374,64⟩ s:=by
 have h:=eq_24 w
 unfold zdA at h
 exact eq_937 (T:=zbj w.params) (pre:=qr w.params) (post:=qB w.params) rfl ze h (eq_456 w) (eq_483 w) G (fun s' G'=>hQ s' (by unfold zbi;exact G'))
theorem eq_170 (w:World) (R:yk) {Q:Flow->Pos->Shared->Prop} {E:Value->Pos->Shared->Prop} {s:Shared} (G:yB R (zbi w.params) 1546 5352 s) (hQ:∀s',yB R (zbh w.params) 1553 5360 s'->TW w 83 Q E ⟨523,0,524,35⟩ s'):TW w 82 Q E ⟨509,0,522,88⟩ s:=by
 have h:=eq_23 w
 unfold zdz at h
 exact eq_937 (T:=zbi w.params) (pre:=qq w.params) (post:=qA w.params) rfl ze h (eq_455 w) (eq_482 w) G (fun s' G'=>hQ s' (by unfold zbh;exact G'))
theorem eq_169 (w:World) (R:yk) {Q:Flow->Pos->Shared->Prop} {E:Value->Pos->Shared->Prop} {s:Shared} (G:yB R (zbh w.params) 1553 5360 s) (hQ:∀s',yB R (zbg w.params) 1708 5586 s'->TW w 84 Q E ⟨525,0,727,103⟩ s'):TW w 83 Q E ⟨523,0,524,35⟩ s:=by
 have h:=eq_22 w
 unfold zdy at h
 exact eq_937 (T:=zbh w.params) (pre:=qp w.params) (post:=qz w.params) rfl ze h (eq_454 w) (eq_481 w) G (fun s' G'=>hQ s' (by unfold zbg;exact G'))
theorem eq_168 (w:World) (R:yk) {Q:Flow->Pos->Shared->Prop} {E:Value->Pos->Shared->Prop} {s:Shared} (G:yB R (zbg w.params) 1708 5586 s) (hQ:∀s',yB R (qe w.params) 1776 5676 s'->TW w 96 Q E ⟨821,0,836,15⟩ s'):TW w 84 Q E ⟨525,0,727,103⟩ s:=by
 have h:=eq_21 w
 unfold zdx at h
 exact eq_937 (T:=zbg w.params) (pre:=qo w.params) (post:=qy w.params) rfl ze h (eq_453 w) (eq_480 w) G (fun s' G'=>hQ s' (by unfold qe;exact G'))
theorem eq_74:zD.drop 96=[]:=by kernel_rfl
theorem eq_37 (w:World) {Q:Flow->Pos->Shared->Prop} {E:Value->Pos->Shared->Prop} {p:Pos} {s:Shared} (h:Q .next p s):TW w 96 Q E p s:=⟨by rw [eq_74];exact h⟩
theorem eq_17 (w:World) (R:yk) {Q:Flow->Pos->Shared->Prop} {E:Value->Pos->Shared->Prop} {s:Shared} (G:yB R (T_3 w.params) 15 187 s) (hQ:∀s',yB R (qe w.params) 1776 5676 s'->Q .next ⟨821,0,836,15⟩ s'):TW w 0 Q E ⟨0,0,0,0⟩ s:=by
 refine eq_290 w R G ?_
 clear G
 intro s G
 refine eq_289 w R G ?_
 clear G
 intro s G
 refine eq_288 w R G ?_
 clear G
 intro s G
 refine eq_287 w R G ?_
 clear G
 intro s G
 refine eq_286 w R G ?_
 clear G
 intro s G
 refine eq_285 w R G ?_
 clear G
 intro s G
 refine eq_212 w R G ?_
 clear G
 intro s G
 refine eq_211 w R G ?_
 clear G
 intro s G
 refine eq_175 w R G ?_
 clear G
 intro s G
 refine eq_174 w R G ?_
 clear G
 intro s G
 refine eq_173 w R G ?_
 clear G
 intro s G
 refine eq_172 w R G ?_
 clear G
 intro s G
 refine eq_171 w R G ?_
 clear G
 intro s G
 refine eq_170 w R G ?_
 clear G
 intro s G
 refine eq_169 w R G ?_
 clear G
 intro s G
 refine eq_168 w R G ?_
 clear G
 intro s G
 exact eq_37 w (hQ s G)
def kF (P:Params):Frag:=finL P
end Mine
end
section
open PySem PySem.W PySem.Calls PyProof.Rows
set_option genInjectivity false
set_option genSizeOf false
namespace Mine
structure zY (w:World) (top:Heap):Prop where
 X:(kF w.params).In top
 sys:top.get? sysModules≠none
 nolim:top.NoLimit
 bi:∃mb,top.Ns builtinsNs mb/\∀x:Str,x≠"__name__"->mb x=bootBuiltins x
def Γl:Ctx:=⟨.builtin "claim.caller" {},none,none,[],none⟩
def zen (w:World) (top:Heap):Prop:=∀(s:Shared) (v:Value) (l:List Int),l.length<=63->(∀a o,top.get? a=some o->s.heap.get? a=some o)->Well w.params s.heap v (.list (l.map .int))->
 ∀p,Sem.wp (model PW w) Γl (PySem.call (.ref 1775) [v]) (fun x _ s'=>x=.bool true/\(∀a o,s.heap.get? a=some o->s'.heap.get? a=some o)/\s'.gens=s.gens/\s'.os=s.os) (fun _ _ _=>False) p s
noncomputable def wt0:World×Heap:=Classical.epsilon (h:=⟨⟨fun _ _=>0,⟨fun _=>0,fun _=>0,id,fun _=>0,fun _ _=>0,fun _=>true,fun _=>0,.refcount,.text,fun _=>0,fun _=>none,fun _=>false,fun _ _ _=>true,fun _ _ _=>true,true,fun _=>false,fun _=>none,fun _=>none,fun _ _ _=>0,fun _ _=>none,fun _=>none,fun _=>(0,false,Str.empty),fun _=>none,id,fun _=>false⟩⟩,default⟩) fun p=>zY p.1 p.2/\¬ zen p.1 p.2
def w0:World:=wt0.1
def zC:Heap:=wt0.2
def M0:Model:=model PW w0
inductive zZ where
 | tup | lst
 | dcs (ks:List (List Nat))
 | dci (ks:List Int)
 | ins (C:Nat) (ks:List Nat)
 | vw (ks:List (List Nat))
 | rng (a b c:Int)
inductive V where
 | none
 | bool (b:Bool)
 | int (i:Int)
 | str (s:List Nat)
 | byt (b:List UInt8)
 | nd (t:zZ) (l:List V)
 | ref (i:Nat)
 | fn (n:Nat)
abbrev Hp:=List V
abbrev Lo:=Nat->Option V
abbrev QE:=V->Hp->Prop
noncomputable def Sx (l:List Nat):Str:=⟨l.toArray⟩
noncomputable def X2 (l:List Nat):Nat:=l.foldr (fun c n=>Nat.add (Nat.succ c) (Nat.mul 130 n)) 0
def xE (x:Str):Nat:=X2 x.cps.toList
noncomputable def asc (x:Str):Bool:=x.cps.toList.all fun c=>Nat.blt c 129
def Nm (x:Str) (i:Nat):Prop:=asc x=true/\xE x=i
inductive Kn where
 | no | fz | pr | ow
noncomputable def jH:List DictEntry->List Nat->Prop
 | [],ks=>ks=[]
 | e::es,ks=>∃x k r,ks=k::r/\Nm x k/\(∃t,e.key=.str x t)/\jH es r
noncomputable def zbq {K:Type} [DecidableEq K] (knd:PySem.KeyKind PW w0 K) (a:Addr) (o:Obj) (kvs:List (K×Value)):Prop:=
 (a == sysModules)=false/\∃es ep,o.ExactDict/\o.data=.dict es ep/\KeysOf knd es/\Pairs knd es.toList kvs/\(kvs.map (·.1)).Nodup
noncomputable def fnT:List Value:=[.builtin "abs",.builtin "all",.builtin "any",.builtin "hex",.builtin "isinstance",.builtin "len",.builtin "max",.builtin "min",.builtin "ord",.builtin "sorted",.builtin "sum",.type "bool",.type "bytearray",.type "bytes",.type "dict",.type "int",.type "list",.type "str",.type "range",.builtin "str.strip",.builtin "str.find",.builtin "str.index",.builtin "str.rindex",.builtin "str.lower",.builtin "str.split",.builtin "str.replace",.builtin "str.join",.builtin "list.append",.builtin "dict.get",.builtin "dict.items",.builtin "bytearray.extend",.ref 1145,.ref 1183,.ref 1190,.ref 1197,.ref 1204,.ref 1218,.ref 1225,.ref 281,.ref 1211,.ref 1232,.ref 255,.ref 1239,.ref 1246,.ref 1251,.ref 1258,.ref 1265,.ref 252,.ref 1273,.ref 1287,.ref 1294,.ref 1308,.ref 1346,.ref 1313,.ref 1318,.ref 1325,.ref 1332,.ref 1339,.ref 1593,.ref 1586,.ref 1605,.ref 1612,.ref 1619,.ref 1631,.ref 1643,.ref 1626,.ref 1650,.ref 1657,.ref 1662,.ref 1636,.ref 1510,.ref 1667,.ref 1688,.ref 1681,.ref 1426,.ref 1477,.ref 1470,.ref 1449,.ref 1501,.ref 1552,.ref 1703,.ref 1541,.ref 1700,.ref 1715,.ref 1722,.ref 1729,.ref 1753,.ref 1758,.ref 1741,.ref 1746,.ref 1736,.ref 1765,.ref 1770]
noncomputable def fnV (n:Nat):Value:=fnT.getD n .none
noncomputable def Shp (t:zZ) (a dx:Addr) (o od:Obj) (ys:List Value):Prop:=match t with
 | .tup=>o.cls=.type "tuple"/\∃n,o.data=.seq ys.toArray n
 | .lst=>∃n,o={ cls:=.type "list",data:=.seq ys.toArray n }
 | .dcs ks=>∃kvs,zbq (PySem.strKind PW w0) a o kvs/\kvs.map (·.1)=ks.map Sx/\kvs.map (·.2)=ys
 | .dci ks=>∃kvs,zbq (PySem.intKind PW w0) a o kvs/\kvs.map (·.1)=ks/\kvs.map (·.2)=ys
 | .ins C ks=>∃es n,o=instObj C dx/\od=dictOf es n/\jH es ks/\es.map (·.val)=ys
 | .vw ks=>o={ cls:=.type "dict_items",data:=.fields #[.ref dx] }/\∃kvs,zbq (PySem.strKind PW w0) dx od kvs/\kvs.map (·.1)=ks.map Sx/\kvs.map (·.2)=ys
 | .rng i j k=>(∃t u v,o={ cls:=.type "range",data:=.fields #[.int i t,.int j u,.int k v] })/\ys=[]
section
variable (h:Heap) (κ:Addr->Kn) (L:List (Addr×Addr))
def z7 (t:zZ) (a dx:Addr) (ys:List Value):Prop:=∃o od,h.get? a=some o/\h.get? dx=some od/\Shp t a dx o od ys
mutual
noncomputable def Den:V->Value->Prop
 | .none,x=>x=.none
 | .bool b,x=>x=.bool b
 | .int i,x=>∃t,x=.int i t
 | .str l,x=>∃t,x=.str (Sx l) t
 | .byt l,x=>∃t,x=.bytes l.toArray t
 | .nd t l,x=>∃a dx ys,x=.ref a/\κ a=.fz/\κ dx=.fz/\z7 h t a dx ys/\xd l ys
 | .ref i,x=>∃p,L[i]?=some p/\x=.ref p.1
 | .fn n,x=>x=fnV n
noncomputable def xd:List V->List Value->Prop
 | [],xs=>xs=[]
 | v::l,xs=>∃y ys,xs=y::ys/\Den v y/\xd l ys
end
noncomputable def xb (p:Addr×Addr) (v:V):Prop:=match v with
 | .nd t l=>∃ys,z7 h t p.1 p.2 ys/\xd h κ L l ys
 | .byt b=>p.2=p.1/\h.get? p.1=some { cls:=.type "bytearray",data:=.bytearray b.toArray }
 | _=>False
end
structure Inv (h:Heap) (H:Hp) (κ:Addr->Kn) (L:List (Addr×Addr)):Prop where
 alive:∀a,κ a≠.no->h.get? a≠none
 top:∀a o,zC.get? a=some o->κ a=.fz/\h.get? a=some o
 len:H.length=L.length
 obj:∀(i:Nat) (o:V) (p:Addr×Addr),H[i]?=some o->L[i]?=some p->κ p.1=.ow/\κ p.2=.ow/\xb h κ L p o
 apart:∀(i j:Nat) (p q:Addr×Addr),L[i]?=some p->L[j]?=some q->i≠j->p.1≠q.1/\p.1≠q.2/\p.2≠q.1/\p.2≠q.2
structure G where
 s:Shared
 H:Hp
 κ:Addr->Kn
 L:List (Addr×Addr)
 ok:Inv s.heap H κ L
abbrev G.D (g:G):V->Value->Prop:=Den g.s.heap g.κ g.L
abbrev G.DL (g:G):List V->List Value->Prop:=xd g.s.heap g.κ g.L
structure zei (s s':Shared):Prop where
 gens:s'.gens=s.gens
 drawn:s'.drawn=s.drawn
 os:s'.os=s.os
theorem zei.refl (s:Shared):zei s s:=⟨rfl,rfl,rfl⟩
structure Le (X:List Addr) (g g1:G):Prop where
 k:∀a,g.κ a≠.no->g1.κ a=g.κ a
 f:∀a,g.κ a=.fz->g1.s.heap.get? a=g.s.heap.get? a
 p:∀a,g.κ a=.pr->a∉X->g1.s.heap.get? a=g.s.heap.get? a
 l:g.L <+: g1.L
 m:zei g.s g1.s
theorem Le.refl {X:List Addr} {g:G}:Le X g g:=⟨fun _ _=>rfl,fun _ _=>rfl,fun _ _ _=>rfl,List.prefix_rfl,zei.refl _⟩
theorem yJ {k:Kn} (h:k=.fz):k≠.no:=fun e=>nomatch h.symm.trans e
theorem zF {k:Kn} (h:k=.pr):k≠.no:=fun e=>nomatch h.symm.trans e
theorem Le.trans {X:List Addr} {a b c:G} (x:Le X a b) (y:Le X b c):Le X a c:=
 ⟨fun p n=>(y.k p fun e=>n ((x.k p n).symm.trans e)).trans (x.k p n),fun p e=>(y.f p ((x.k p (yJ e)).trans e)).trans (x.f p e),fun p e n=>(y.p p ((x.k p (zF e)).trans e) n).trans (x.p p e n),x.l.trans y.l,
  ⟨y.m.gens.trans x.m.gens,y.m.drawn.trans x.m.drawn,y.m.os.trans x.m.os⟩⟩
theorem Le.wide {X Y:List Addr} {a b:G} (x:Le X a b) (h:∀a∈X,a∈Y):Le Y a b:=⟨x.k,x.f,fun p e n=>x.p p e fun q=>n (h p q),x.l,x.m⟩
theorem Le.all {X:List Addr} {a b:G} (x:Le [] a b):Le X a b:=x.wide fun _ q=>nomatch q
theorem Le.get {X:List Addr} {g g1:G} (l:Le X g g1) {i:Nat} {p:Addr×Addr} (h:g.L[i]?=some p):g1.L[i]?=some p:=
 Exists.elim l.l fun t e=>e▸(List.getElem?_append_left (List.getElem?_eq_some_iff.mp h).1).trans h
structure Kp (h:Heap) (κ:Addr->Kn) (L:List (Addr×Addr)) (h':Heap) (κ':Addr->Kn) (L':List (Addr×Addr)):Prop where
 f:∀a,κ a=.fz->κ' a=.fz/\h'.get? a=h.get? a
 l:∀(i:Nat) (p:Addr×Addr),L[i]?=some p->L'[i]?=some p
theorem Le.kp {X:List Addr} {g g1:G} (l:Le X g g1):Kp g.s.heap g.κ g.L g1.s.heap g1.κ g1.L:=⟨fun a e=>⟨(l.k a (yJ e)).trans e,l.f a e⟩,fun _ _=>l.get⟩
theorem z7.to {h h':Heap} {t:zZ} {a dx:Addr} {ys:List Value} (d:z7 h t a dx ys) (e1:h'.get? a=h.get? a) (e2:h'.get? dx=h.get? dx):z7 h' t a dx ys:=
 d.imp fun _=>.imp fun _ d=>⟨e1.trans d.1,e2.trans d.2.1,d.2.2⟩
section
variable {h h':Heap} {κ κ':Addr->Kn} {L L':List (Addr×Addr)} (k:Kp h κ L h' κ' L')
include k
mutual
theorem Den.mono:∀(v:V) (x:Value),Den h κ L v x->Den h' κ' L' v x
 | .none=>fun _ d=>d
 | .bool _=>fun _ d=>d
 | .int _=>fun _ d=>d
 | .str _=>fun _ d=>d
 | .byt _=>fun _ d=>d
 | .nd _ l=>fun _ d=>d.imp fun _=>.imp fun _=>.imp fun ys d=>⟨d.1,(k.f _ d.2.1).1,(k.f _ d.2.2.1).1,d.2.2.2.1.to (k.f _ d.2.1).2 (k.f _ d.2.2.1).2,xd.mono l ys d.2.2.2.2⟩
 | .ref _=>fun _ d=>d.imp fun _ d=>⟨k.l _ _ d.1,d.2⟩
 | .fn _=>fun _ d=>d
theorem xd.mono:∀(l:List V) (xs:List Value),xd h κ L l xs->xd h' κ' L' l xs
 | []=>fun _ d=>d
 | v::l=>fun _ d=>d.imp fun y=>.imp fun ys d=>⟨d.1,Den.mono v y d.2.1,xd.mono l ys d.2.2⟩
end
theorem xb.mono {p:Addr×Addr} (v:V) (e1:h'.get? p.1=h.get? p.1) (e2:h'.get? p.2=h.get? p.2):xb h κ L p v->xb h' κ' L' p v:=V.casesOn (motive_1:=fun v=>xb h κ L p v->xb h' κ' L' p v) v id (fun _=>id) (fun _=>id) (fun _=>id) (fun _ d=>⟨d.1,e1.trans d.2⟩)
 (fun _ _ d=>d.imp fun _ d=>⟨d.1.to e1 e2,xd.mono k _ _ d.2⟩) (fun _=>id) fun _=>id
end
theorem Le.den {X:List Addr} {a b:G} {v:V} {x:Value} (l:Le X a b) (d:a.D v x):b.D v x:=Den.mono l.kp v x d
theorem Le.denL {X:List Addr} {a b:G} {v:List V} {x:List Value} (l:Le X a b) (d:a.DL v x):b.DL v x:=xd.mono l.kp v x d
theorem zf {h:Heap} {κ:Addr->Kn} {L:List (Addr×Addr)}:∀{l:List V} {xs:List Value},xd h κ L l xs->xs.length=l.length
 | []=>fun d=>congrArg List.length (show _=[] from d)
 | _::_=>fun d=>d.elim fun _ d=>d.elim fun _ d=>d.1▸congrArg (·+1) (zf d.2.2)
noncomputable def Kn.or (k nu:Kn):Kn:=k.casesOn nu .fz .pr .ow
theorem Kn.or_e (k nu:Kn):k≠.no->k.or nu=k:=k.casesOn (motive:=fun k=>k≠.no->k.or nu=k) (fun n=>(n rfl).elim) (fun _=>rfl) (fun _=>rfl) fun _=>rfl
theorem Kn.or_n (k nu:Kn):k.or nu≠.no->nu≠.no∨k≠.no:=k.casesOn (motive:=fun k=>k.or nu≠.no->nu≠.no∨k≠.no) .inl (fun _=>.inr (nomatch ·)) (fun _=>.inr (nomatch ·)) fun _=>.inr (nomatch ·)
theorem zl4 {g:G} {h':Heap} {nu:Addr->Kn} {X:List Addr} (sm:∀a,g.κ a≠.no->(g.κ a=.pr->a∉X)->h'.get? a=g.s.heap.get? a):Kp g.s.heap g.κ g.L h' (fun a=>(g.κ a).or (nu a)) g.L:=
 ⟨fun a f=>⟨(Kn.or_e _ _ (yJ f)).trans f,sm a (yJ f) fun q=>nomatch f.symm.trans q⟩,fun _ _ h=>h⟩
theorem Inv.nx {g:G} {h':Heap} (nu:Addr->Kn) (X:List Addr) (al:∀a,nu a≠.no∨g.κ a≠.no->h'.get? a≠none) (sm:∀a,g.κ a≠.no->(g.κ a=.pr->a∉X)->h'.get? a=g.s.heap.get? a) :
  Inv h' g.H (fun a=>(g.κ a).or (nu a)) g.L:=
 have k:=zl4 (nu:=nu) sm
 have o:∀{a},g.κ a=.ow->(g.κ a).or (nu a)=.ow/\h'.get? a=g.s.heap.get? a:=fun {a} q=>⟨(Kn.or_e _ _ fun z=>nomatch q.symm.trans z).trans q,sm a (fun z=>nomatch q.symm.trans z) fun z=>nomatch q.symm.trans z⟩
 ⟨fun a n=>al a (Kn.or_n _ _ n),fun a x h=>have y:=g.ok.top a x h;⟨(k.f a y.1).1,(k.f a y.1).2.trans y.2⟩,g.ok.len,
  fun i x p h1 h2=>have c:=g.ok.obj i x p h1 h2;⟨(o c.1).1,(o c.2.1).1,xb.mono k x (o c.1).2 (o c.2.1).2 c.2.2⟩,g.ok.apart⟩
end Mine
end
section
open PySem PySem.W PySem.Calls PyProof.Rows
open Sem (wp)
set_option genInjectivity false
set_option genSizeOf false
namespace Mine
noncomputable def qL:Code->Bool
 | .builtin id _=>Builtin.Bytes.decodersThatHold.contains id
 | _=>false
def jv (Γ:Ctx):Prop:=qL Γ.code=false/\∀x∈Γ.below,qL x.1=false
theorem jv.goto {Γ:Ctx} (h:jv Γ) {c:Code} (hc:qL c=false):jv (Γ.goto c):=⟨hc,h.2⟩
theorem jv.enter {Γ:Ctx} (h:jv Γ) {c:Code} {hd:Option Value} {p:Pos} (hc:qL c=false):jv (Γ.enter c hd p):=
 ⟨hc,fun x hx=>(List.mem_cons.mp hx).elim (fun e=>e▸h.1) fun hx=>h.2 x hx⟩
def J {α:Type} (A:Around) (t:Sem α) (Q:α->Shared->Prop) (s:Shared):Prop:=∀Γ p,Γ.In A->jv Γ->wp M0 Γ t (fun a _ s'=>Q a s') (fun _ _ _=>False) p s
def JC (A:Around) (c:Code) (R:Result->Shared->Prop) (s:Shared):Prop:=∀Γ p,Γ.code=c->Γ.Below A->jv Γ->wpCode M0 Γ R p s
abbrev y9:Value->Shared->Prop:=fun _ _=>False
section
variable {α β:Type} {A:Around} {s:Shared}
theorem J.of {t:Sem α} {Q:α->Shared->Prop} (h:wpAny (model PW w0) A t Q y9 s):J A t Q s:=fun Γ p hΓ _=>h Γ p hΓ
theorem J.pure {a:α} {Q:α->Shared->Prop} (h:Q a s):J A (Pure.pure a) Q s:=fun _ _ _ _=>h
theorem J.mono {t:Sem α} {Q Q':α->Shared->Prop} (h:J A t Q s) (hQ:∀a s,Q a s->Q' a s):J A t Q' s:=fun Γ p hΓ k=>Sem.wp_mono M0 Γ t (fun a _ s=>hQ a s) (fun _ _ _=>id) p s (h Γ p hΓ k)
theorem JC.mono {c:Code} {R R':Result->Shared->Prop} (h:JC A c R s) (hR:∀r s,R r s->R' r s):JC A c R' s:=fun Γ p hc hΓ k=>wpCode_mono hR (h Γ p hc hΓ k)
theorem J.bind {m:Sem α} {f:α->Sem β} {Q:β->Shared->Prop} (h:J A m (fun a s'=>J A (f a) Q s') s):J A (m >>= f) Q s:=fun Γ p hΓ k=>by
 rw [Sem.wp_bind']
 exact Sem.wp_mono M0 Γ m (fun a p' s' h'=>h' Γ p' hΓ k) (fun _ _ _=>id) p s (h Γ p hΓ k)
theorem J.run {c:Code} {Q:Flow->Shared->Prop} (hd:qL c=false) (hc:JC A c (fun r s'=>Except.casesOn r (fun _=>False) fun f=>Q f s') s):J A (PySem.run c) Q s:=
 fun Γ p hΓ k=>by
  rw [Sem.wp_run]
  exact wpCode_mono (fun r s' h=>by cases r<;>exact h) (hc _ p rfl (hΓ.enter c none p (by intro x;cases x)) (k.enter hd))
def Rt (Q:Value->Shared->Prop) (r:Result) (s:Shared):Prop:=match r with
 | .ok (.ret v)=>Q v s
 | _=>False
theorem J.call {f:Value} {xs:List Value} {Q:Value->Shared->Prop} (hc:JC A (.call f ⟨xs,[]⟩) (Rt Q) s):J A (PySem.call f xs) Q s:=fun Γ p hΓ k=>by
 show wp M0 Γ (runValue _) _ _ p s
 rw [Sem.wp_runValue]
 exact wpCode_mono (fun r s' h=>by rcases r with e | (_ | _ | _ | _)<;>exact h) (hc _ p rfl (hΓ.enter _ none p (by intro x;cases x)) (k.enter rfl))
def Fn (A:Around) (R:Result->Shared->Prop) (fin:Fin) (s:Shared):Prop:=match fin with
 | .done f=>R (.ok f) s
 | .again c=>c.quiet=true/\qL c=false/\JC A c R s
theorem JC.tree {c:Code} {R:Result->Shared->Prop} (h:J (A.under c) (M0.den c) (Fn A R) s):JC A c R s:=fun Γ p hc hΓ k=>by
 rw [wpCode_iff_wp,hc]
 refine Sem.wp_mono M0 Γ _ (fun fin p' s' h'=>?_) (fun _ _ _ h'=>h'.elim) p s (h Γ p (hc▸hΓ.in) k)
 cases fin with
 | done f=>exact h'
 | again c'=>exact ⟨h'.1,h'.2.2 (Γ.goto c') p' rfl (hΓ.goto c') (k.goto h'.2.1)⟩
theorem JC.loop {c:Code} {R:Result->Shared->Prop} (hq:c.quiet=true) (hd:qL c=false) (I:Nat->Shared->Prop)
  (turn:∀n,(∀m s,m < n->I m s->JC A c R s)->∀s,I n s->J (A.under c) (M0.den c) (Fn A R) s) (n:Nat):∀s,I n s->JC A c R s:=
 Nat.strongRecOn n fun n ih s h=>JC.tree (turn n (fun m s q r=>ih m q s r) s h)
theorem J.eq {t t':Sem α} {Q:α->Shared->Prop} (e:t=t') (h:J A t' Q s):J A t Q s:=e▸h
theorem J.at {q:Pos} {k:Unit->Sem α} {Q:α->Shared->Prop} (h:J A (k ()) Q s):J A (standAt q >>= k) Q s:=J.bind (.of (wpAny_standAt h))
theorem J.hold {vs:List Value} {m:Sem α} {Q:α->Shared->Prop} (h:J A m Q s):J A (holding vs m) Q s:=fun Γ p hΓ k=>by rw [Sem.wp_holding];exact h Γ p hΓ k
theorem J.keep {vs:List Value} {m:Sem α} {Q:α->Shared->Prop} (h:J A m Q s):J A (m.keep vs) Q s:=fun Γ p hΓ k=>by rw [Sem.wp_keep];exact h Γ p hΓ k
theorem J.oper {vs:List Value} {m:Sem Value} {Q:Value->Shared->Prop} (h:J A m Q s):J A (operate vs m) Q s:=fun Γ p hΓ k=>by rw [Sem.wp_operate];exact h Γ p hΓ k
theorem J.rel {vs ks:List Value} {k:Unit->Sem α} {Q:α->Shared->Prop} (h:J A (k ()) Q s):J A (release vs ks >>= k) Q s:=J.bind (.of (wpAny_release h))
theorem J.on {m:Sem α} {k:Value->Sem Unit} {Q:α->Shared->Prop} (h:J A m Q s):J A (m.onRaise k) Q s:=fun Γ p hΓ hk=>by
 rw [Sem.wp_onRaise]
 exact Sem.wp_mono M0 Γ m (fun _ _ _=>id) (fun _ _ _ h'=>h'.elim) p s (h Γ p hΓ hk)
theorem J.att {m:Sem α} {Q:Except Value α->Shared->Prop} (h:J A m (fun a=>Q (.ok a)) s):J A m.attempt Q s:=fun Γ p hΓ k=>by
 rw [Sem.wp_attempt]
 exact Sem.wp_mono M0 Γ m (fun _ _ _=>id) (fun _ _ _ h'=>h'.elim) p s (h Γ p hΓ k)
theorem J.bm {m:Sem α} {f:α->Sem β} {Q:β->Shared->Prop} {P:α->Shared->Prop} (h:J A m P s) (k:∀a s,P a s->J A (f a) Q s):J A (m >>= f) Q s:=J.bind (h.mono k)
end
end Mine
end
section
open PySem PySem.W PySem.Calls PyProof.Rows
set_option genInjectivity false
set_option genSizeOf false
namespace Mine
theorem zh {g:G} {v:V} {x:Value} {vs:List V} {xs:List Value} (d:g.D v x) (r:g.DL vs xs):g.DL (v::vs) (x::xs):=⟨x,xs,rfl,d,r⟩
theorem zp {g:G} {i:Int} {t:Tok}:g.D (.int i) (.int i t):=⟨t,rfl⟩
noncomputable def chk {α:Sort _} (d:α) (b:Bool) (k:b=true->α):α:=Bool.casesOn (motive:=fun b=>(b=true->α)->α) b (fun _=>d) (fun k=>k rfl) k
abbrev Rv (x:Value):Type:={ v:V // ∀g:G,g.D v x }
noncomputable def rdL (f:∀x,Option (Rv x)):(xs:List Value)->Option { l:List V // ∀g:G,g.DL l xs }
 | []=>some ⟨[],fun _=>rfl⟩
 | x::xs=>(f x).bind fun v=>(rdL f xs).map fun l=>⟨v.1::l.1,fun g=>zh (v.2 g) (l.2 g)⟩
noncomputable def reh (e:DictEntry):DictEntry:=match e.key with
 | .str s t=>⟨PyData.keyHash w0.params s,.str s t,e.val⟩
 | .int i t=>⟨hashInt i,.int i t,e.val⟩
 | _=>e
noncomputable def Ym (e:DictEntry):Option { s:Str // ∃t,e.key=.str s t }:=match e with
 | ⟨_,.str s t,_⟩=>some ⟨s,t,rfl⟩
 | _=>none
noncomputable def keyI (e:DictEntry):Option { s:Int // ∃t,e.key=.int s t }:=match e with
 | ⟨_,.int s t,_⟩=>some ⟨s,t,rfl⟩
 | _=>none
def Ky {K:Type} [DecidableEq K] (knd:PySem.KeyKind PW w0 K) (e:DictEntry):Type:={ s:K // knd.is s e.key=true/\(e=reh e->e.hash=knd.hash s) }
theorem ky_s {e:DictEntry} {s:Str} (h:∃t,e.key=.str s t):(PySem.strKind PW w0).is s e.key=true/\(e=reh e->e.hash=(PySem.strKind PW w0).hash s):=h.elim fun t z=>⟨by rw [z];exact beq_self_eq_true s,fun r=>(congrArg DictEntry.hash r).trans (by unfold reh;rw [z];rfl)⟩
theorem ky_i {e:DictEntry} {s:Int} (h:∃t,e.key=.int s t):(PySem.intKind PW w0).is s e.key=true/\(e=reh e->e.hash=(PySem.intKind PW w0).hash s):=h.elim fun t z=>⟨by rw [z];exact beq_self_eq_true s,fun r=>(congrArg DictEntry.hash r).trans (by unfold reh;rw [z];rfl)⟩
structure SK {K:Type} [DecidableEq K] (knd:PySem.KeyKind PW w0 K) (es:List DictEntry) where
 kvs:List (K×Value)
 p:(∀e∈es,e=reh e)->∀e∈es,∃k,knd.is k e.key=true/\e.hash=knd.hash k
 q:Pairs knd es kvs
 v:kvs.map (·.2)=es.map (·.val)
noncomputable def skO {K:Type} [DecidableEq K] {knd:PySem.KeyKind PW w0 K} (f:∀e,Option (Ky knd e)):(es:List DictEntry)->Option (SK knd es)
 | []=>some ⟨[],fun _ _=>nofun,.nil,rfl⟩
 | e::es=>(f e).bind fun s=>(skO f es).map fun r=>⟨(s.1,e.val)::r.kvs,fun h e' m=>(List.mem_cons.mp m).elim (fun q=>q▸⟨s.1,s.2.1,s.2.2 (h e (.head _))⟩) (r.p (fun e m=>h e (.tail _ m)) e'),.cons s.2.1 rfl r.q,congrArg (e.val::·) r.v⟩
noncomputable def nkO:(es:List DictEntry)->Option { ks:List Nat // jH es ks }
 | []=>some ⟨[],rfl⟩
 | e::es=>(Ym e).bind fun s=>chk none (asc s.1) fun h=>(nkO es).map fun r=>⟨xE s.1::r.1,s.1,xE s.1,r.1,rfl,⟨h,rfl⟩,s.2,r.2⟩
section
variable {K:Frag} (X:K.In zC) {a:Addr} {o:Obj} (h:K.lookup a=some o)
include X h
theorem eq_607 (g:G):g.κ a=.fz/\g.s.heap.get? a=some o:=g.ok.top a o (X a o h)
theorem eq_869 {dx:Addr} {od:Obj} {t:zZ} {l:List V} {ys:List Value} (h2:K.lookup dx=some od) (d:Shp t a dx o od ys) (r:∀g:G,g.DL l ys):∀g:G,g.D (.nd t l) (.ref a):=fun g=>have z1:=eq_607 X h g;have z2:=eq_607 X h2 g;⟨a,dx,ys,rfl,z1.1,z2.1,⟨o,od,z1.2,z2.2,d⟩,r g⟩
end
theorem eq_200 {kvs:List (Str×Value)}:kvs.map (·.1)=(kvs.map fun p=>p.1.cps.toList).map Sx:=(List.map_map (f:=fun p:Str×Value=>p.1.cps.toList) (g:=Sx) (l:=kvs)).symm
section
variable {K:Frag} (X:K.In zC) (f:∀x,Option (Rv x)) (a:Addr)
def rdQ (c:String) (xs:Array Value) (m:Nat) (sl:Array (Option Value)) (h:K.lookup a=some ⟨.type c,none,.seq xs m,sl⟩):Option (Rv (.ref a)):=
 if e:c="list"/\sl=#[] then (rdL f xs.toList).map fun l=>⟨.nd .lst l.1,eq_869 X h h ⟨m,by rw [e.1,e.2]⟩ l.2⟩
 else if e:c="tuple" then (rdL f xs.toList).map fun l=>⟨.nd .tup l.1,eq_869 X h h ⟨by rw [e],m,rfl⟩ l.2⟩ else none
def rdD (c:String) (es:Array DictEntry) (m:Nat) (sl:Array (Option Value)) (h:K.lookup a=some ⟨.type c,none,.dict es m,sl⟩) (hr:∀e∈es.toList,e=reh e):Option (Rv (.ref a)):=
 if e:(c="dict"/\sl=#[])/\(a == sysModules)=false then
  have D:∀{K:Type} [DecidableEq K] {knd:PySem.KeyKind PW w0 K} (r:SK knd es.toList),(r.kvs.map (·.1)).Nodup->zbq knd a ⟨.type c,none,.dict es m,sl⟩ r.kvs:=fun r n=>⟨e.2,es,m,⟨congrArg Value.type e.1.1,rfl,e.1.2⟩,rfl,fun x q=>r.p hr x (Array.mem_toList_iff.mpr q),r.q,n⟩
  Option.casesOn (motive:=fun _=>Option (Rv (.ref a))) (skO (knd:=PySem.strKind PW w0) (fun e=>(Ym e).map fun s=>⟨s.1,ky_s s.2⟩) es.toList)
   ((skO (knd:=PySem.intKind PW w0) (fun e=>(keyI e).map fun s=>⟨s.1,ky_i s.2⟩) es.toList).bind fun r=>if n:(r.kvs.map (·.1)).Nodup then (rdL f (es.toList.map (·.val))).map fun l=>⟨.nd (.dci (r.kvs.map (·.1))) l.1,eq_869 X h h ⟨r.kvs,D r n,rfl,r.v⟩ l.2⟩ else none)
   fun r=>if n:(r.kvs.map (·.1)).Nodup then (rdL f (es.toList.map (·.val))).map fun l=>⟨.nd (.dcs (r.kvs.map fun p=>p.1.cps.toList)) l.1,eq_869 X h h ⟨r.kvs,D r n,eq_200,r.v⟩ l.2⟩ else none
 else none
noncomputable def rdI (C dx:Addr) (sl:Array (Option Value)) (h:K.lookup a=some ⟨.ref C,some dx,.plain,sl⟩):Option (Rv (.ref a)):=if e:sl=#[] then
  Option.casesOn (motive:=fun o=>K.lookup dx=o->Option (Rv (.ref a))) (K.lookup dx) (fun _=>none) (fun od h2=>match od,h2 with
   | ⟨.type c,none,.dict es m,s2⟩,h2=>if e2:c="dict"/\s2=#[] then (nkO es.toList).bind fun ks=>(rdL f (es.toList.map (·.val))).map fun l=>⟨.nd (.ins C ks.1) l.1,eq_869 X h h2 ⟨es.toList,m,by rw [e],by rw [e2.1,e2.2],ks.2,rfl⟩ l.2⟩ else none
   | _,_=>none) rfl
 else none
noncomputable def rdO (dl:List Addr) (hr:∀a∈dl,∀o es ep,K.lookup a=some o->o.data=.dict es ep->∀e∈es.toList,e=reh e) (o:Obj) (h:K.lookup a=some o):Option (Rv (.ref a)):=match o,h with
 | ⟨.type c,none,.seq xs m,sl⟩,h=>rdQ X f a c xs m sl h
 | ⟨.type c,none,.dict es m,sl⟩,h=>if e:a∈dl then rdD X f a c es m sl h (hr a e _ _ _ h rfl) else none
 | ⟨.ref C,some dx,.plain,sl⟩,h=>rdI X f a C dx sl h
 | _,_=>none
end
noncomputable def rdV {K:Frag} (X:K.In zC) (dl:List Addr) (hr:∀a∈dl,∀o es ep,K.lookup a=some o->o.data=.dict es ep->∀e∈es.toList,e=reh e):Nat->∀x,Option (Rv x)
 | 0=>fun _=>none
 | n+1=>fun x=>match x with
  | .none=>some ⟨.none,fun _=>rfl⟩
  | .bool b=>some ⟨.bool b,fun _=>rfl⟩
  | .int i t=>some ⟨.int i,fun _=>zp⟩
  | .str s t=>some ⟨.str s.cps.toList,fun _=>⟨t,rfl⟩⟩
  | .ref a=>Option.casesOn (motive:=fun o=>K.lookup a=o->Option (Rv (.ref a))) (K.lookup a) (fun _=>none) (fun o h=>rdO X (rdV X dl hr n) a dl hr o h) rfl
  | _=>none
noncomputable def yH:List DictEntry:=match (kF w0.params).lookup 3 with
 | some ⟨_,_,.dict es _,_⟩=>es.toList
 | _=>[]
noncomputable def dl:List Addr:=by
 refine (?f:(s:List Addr)->((kF w0.params).filterMap fun p=>match p.2.data with | .dict _ _=>some p.1 | _=>none)=s->List Addr) ?s ?h
 case h=>conv=>lhs;reduce
 case f=>exact fun s _=>s
def Hr:Prop:=∀a∈dl,∀o es ep,(kF w0.params).lookup a=some o->o.data=.dict es ep->∀e∈es.toList,e=reh e
noncomputable def gvN:List Nat:=[1259376,185961688,146447149,408074902798491,408626969539171,152718877,24143958877,3365519717378,897267759290440876859,3139042008262,3139013427763,6904560382285543983,185993684,24146577604,188258285,2582089376965,152787006,154965808,24168411891,24431901862,53093063858043384]
def gvc (X:(kF w0.params).In zC) (hr:Hr):List (Nat×V):=yH.filterMap fun e=>(Ym e).bind fun s=>if gvN.contains (xE s.1) then (rdV X dl hr 8 e.val).map fun v=>(xE s.1,v.1) else none
noncomputable def gvl:List (Nat×V):=by
 refine (?f:(s:List (Nat×V))->(∀X hr,gvc X hr=s)->List (Nat×V)) ?s ?h
 case h=>intro X hr;conv=>lhs;reduce
 case f=>exact fun s _=>s
theorem eq_380 (X:(kF w0.params).In zC) (hr:Hr):gvc X hr=gvl:=by kernel_rfl
noncomputable def caN:List (Nat×Addr):=[(340791740857167,891),(5753800216554204167,896),(43699870483109167,960),(781112077812987982167,1053),(20163230578,1139)]
def cac (X:(kF w0.params).In zC) (hr:Hr):List (Nat×V):=caN.filterMap fun p=>(rdV X dl hr 8 (.ref p.2)).map fun v=>(p.1,v.1)
noncomputable def cal:List (Nat×V):=by
 refine (?f:(s:List (Nat×V))->(∀X hr,cac X hr=s)->List (Nat×V)) ?s ?h
 case h=>intro X hr;conv=>lhs;reduce
 case f=>exact fun s _=>s
theorem eq_442 (X:(kF w0.params).In zC) (hr:Hr):cac X hr=cal:=by kernel_rfl
noncomputable def ob {α:Type} (o:Option α) (k:α->Prop):Prop:=Option.casesOn (motive:=fun _=>Prop) o False k
noncomputable def ifb (b:Bool) (A B:Prop):Prop:=Bool.casesOn (motive:=fun _=>Prop) b B A
abbrev wh (p:Prop) [d:Decidable p] (Q:Prop):Prop:=ifb (decide p) Q False
noncomputable abbrev wo {α:Type} (p:Prop) [d:Decidable p] (o:Option α):Option α:=Bool.casesOn (motive:=fun _=>Option α) (decide p) none o
noncomputable abbrev bo {α β:Type} (o:Option α) (k:α->Option β):Option β:=Option.casesOn (motive:=fun _=>Option β) o none k
theorem zl {α:Type} {P:Prop} {x:α} (h:none=some x):P:=nomatch h
theorem yg {α:Type} {o:Option α} {k:α->Prop}:ob o k->∃x,o=some x/\k x:=Option.casesOn (motive:=fun o=>ob o k->∃x,o=some x/\k x) o False.elim fun x h=>⟨x,rfl,h⟩
theorem zc {α β:Type} {o:Option α} {k:α->Option β} {y:β}:bo o k=some y->∃x,o=some x/\k x=some y:=Option.casesOn (motive:=fun o=>bo o k=some y->∃x,o=some x/\k x=some y) o zl fun x h=>⟨x,rfl,h⟩
theorem eq_909 {b:Bool} {A B:Prop}:ifb b A B->(b=true/\A)∨(b=false/\B):=Bool.casesOn (motive:=fun b=>ifb b A B->(b=true/\A)∨(b=false/\B)) b (fun h=>.inr ⟨rfl,h⟩) fun h=>.inl ⟨rfl,h⟩
theorem eq_900 {p Q:Prop} [d:Decidable p] (h:wh p Q):p/\Q:=(eq_909 h).elim (fun h=>⟨of_decide_eq_true h.1,h.2⟩) fun h=>h.2.elim
theorem zm {α:Type} {p:Prop} [d:Decidable p] {o:Option α} {x:α}:wo p o=some x->p/\o=some x:=Decidable.casesOn (motive:=fun d=>@wo α p d o=some x->p/\o=some x) d (fun _=>zl) fun q h=>⟨q,h⟩
theorem oc {α β:Type} {o:Option α} {A:Option β} {B:α->Option β} {y:β}:Option.casesOn (motive:=fun _=>Option β) o A B=some y->(o=none/\A=some y)∨∃x,o=some x/\B x=some y:=Option.casesOn (motive:=fun o=>Option.casesOn (motive:=fun _=>Option β) o A B=some y->(o=none/\A=some y)∨∃x,o=some x/\B x=some y) o (fun h=>.inl ⟨rfl,h⟩) fun x h=>.inr ⟨x,rfl,h⟩
theorem eq_898 {α:Type} {o:Option α} {k:α->Prop} {x:α} (e:o=some x) (h:k x):ob o k:=e▸h
noncomputable def xB (v:V):Option Int:=V.casesOn (motive_1:=fun _=>Option Int) v none (fun _=>none) some (fun _=>none) (fun _=>none) (fun _ _=>none) (fun _=>none) fun _=>none
noncomputable def yM (v:V):Option (List Nat):=V.casesOn (motive_1:=fun _=>Option (List Nat)) v none (fun _=>none) (fun _=>none) some (fun _=>none) (fun _ _=>none) (fun _=>none) fun _=>none
noncomputable def asY (v:V):Option (List UInt8):=V.casesOn (motive_1:=fun _=>Option (List UInt8)) v none (fun _=>none) (fun _=>none) (fun _=>none) some (fun _ _=>none) (fun _=>none) fun _=>none
noncomputable def asB (v:V):Option Bool:=V.casesOn (motive_1:=fun _=>Option Bool) v none some (fun _=>none) (fun _=>none) (fun _=>none) (fun _ _=>none) (fun _=>none) fun _=>none
noncomputable def asN (v:V):Option (zZ×List V):=V.casesOn (motive_1:=fun _=>Option (zZ×List V)) v none (fun _=>none) (fun _=>none) (fun _=>none) (fun _=>none) (fun t l=>some (t,l)) (fun _=>none) fun _=>none
noncomputable def asR (v:V):Option Nat:=V.casesOn (motive_1:=fun _=>Option Nat) v none (fun _=>none) (fun _=>none) (fun _=>none) (fun _=>none) (fun _ _=>none) some fun _=>none
noncomputable def asF (v:V):Option Nat:=V.casesOn (motive_1:=fun _=>Option Nat) v none (fun _=>none) (fun _=>none) (fun _=>none) (fun _=>none) (fun _ _=>none) (fun _=>none) some
def nv (v:V) (H:Hp):Option (zZ×List V):=V.casesOn (motive_1:=fun _=>Option (zZ×List V)) v none (fun _=>none) (fun _=>none) (fun _=>none) (fun _=>none) (fun t l=>some (t,l)) (fun i=>bo H[i]? asN) fun _=>none
noncomputable def zZ.seq (t:zZ):Nat:=zZ.casesOn (motive:=fun _=>Nat) t 1 2 (fun _=>0) (fun _=>0) (fun _ _=>0) (fun _=>0) fun _ _ _=>0
noncomputable def zZ.dks (t:zZ):Option (List (List Nat)):=zZ.casesOn (motive:=fun _=>Option (List (List Nat))) t none none some (fun _=>none) (fun _ _=>none) (fun _=>none) fun _ _ _=>none
noncomputable def zZ.iks (t:zZ):Option (List Int):=zZ.casesOn (motive:=fun _=>Option (List Int)) t none none (fun _=>none) some (fun _ _=>none) (fun _=>none) fun _ _ _=>none
noncomputable def zZ.ink (t:zZ):Option (Nat×List Nat):=zZ.casesOn (motive:=fun _=>Option (Nat×List Nat)) t none none (fun _=>none) (fun _=>none) (fun C ks=>some (C,ks)) (fun _=>none) fun _ _ _=>none
noncomputable def zP {α:Type} [DecidableEq α]:List α->List V->α->Option V
 | []=>fun _ _=>none
 | k::ks=>fun vs x=>List.casesOn (motive:=fun _=>Option V) vs none fun v vs=>bif decide (k=x) then some v else zP ks vs x
noncomputable def put {α:Type} [DecidableEq α]:List α->List V->α->V->List α×List V
 | []=>fun _ x y=>([x],[y])
 | k::ks=>fun vs x y=>List.casesOn (motive:=fun _=>List α×List V) vs ([x],[y]) fun v vs=>bif decide (k=x) then (k::ks,y::vs) else (k::(put ks vs x y).1,v::(put ks vs x y).2)
noncomputable def zB {α β:Type} (f:α->Option β):List α->Option (List β)
 | []=>some []
 | a::r=>bo (f a) fun b=>bo (zB f r) fun r=>some (b::r)
noncomputable def upd (lo:Lo) (x:Nat) (v:V):Lo:=fun j=>bif Nat.beq j x then some v else lo j
noncomputable def bindL:List Nat->List V->Lo->Option Lo
 | []=>fun vs lo=>List.casesOn (motive:=fun _=>Option Lo) vs (some lo) fun _ _=>none
 | x::xs=>fun vs lo=>List.casesOn (motive:=fun _=>Option Lo) vs none fun v vs=>bindL xs vs (upd lo x v)
noncomputable def l0 {β:Type} (vs:List V) (k:Option β):Option β:=List.casesOn (motive:=fun _=>Option β) vs k fun _ _=>none
noncomputable def lc {β:Type} (vs:List V) (k:V->List V->Option β):Option β:=List.casesOn (motive:=fun _=>Option β) vs none k
abbrev l1 {β:Type} (vs:List V) (k:V->Option β):Option β:=lc vs fun a r=>l0 r (k a)
abbrev l2 {β:Type} (vs:List V) (k:V->V->Option β):Option β:=lc vs fun a r=>l1 r (k a)
abbrev l3 {β:Type} (vs:List V) (k:V->V->V->Option β):Option β:=lc vs fun a r=>l2 r (k a)
abbrev ii {β:Type} (a b:V) (k:Int->Int->Option β):Option β:=bo (xB a) fun x=>bo (xB b) fun y=>k x y
def sq (v:V) (H:Hp):Option (List V):=bo (nv v H) fun p=>wo (p.1.seq=2) (some p.2)
def sqs (v:V) (H:Hp):Option (List V):=bo (nv v H) fun p=>wo (p.1.seq≠0) (some p.2)
def dv (v:V) (H:Hp):Option (List (List Nat)×List V):=bo (nv v H) fun p=>bo p.1.dks fun ks=>some (ks,p.2)
def iv (v:V) (H:Hp):Option (Nat×List Nat×List V):=bo (nv v H) fun p=>Prod.casesOn (motive:=fun _=>Option (Nat×List Nat×List V)) p fun t l=>bo t.ink fun q=>Prod.casesOn (motive:=fun _=>Option (Nat×List Nat×List V)) q fun C ks=>some (C,ks,l)
def zkD (a b:V) (H:Hp):Option V:=bo (sq a H) fun x=>bo (sq b H) fun y=>wo (x.length+y.length<=100000) (some (.nd .lst (x++y)))
def addF (a b:V) (H:Hp):Option V:=V.casesOn (motive_1:=fun _=>Option V) a none (fun _=>none) (fun x=>bo (xB b) fun y=>some (.int (x+y))) (fun x=>bo (yM b) fun y=>wo (x.length+y.length<=100000) (some (.str (x++y))))
 (fun x=>bo (asY b) fun y=>wo (x.length+y.length<=100000) (some (.byt (x++y)))) (fun t l=>zkD (.nd t l) b H) (fun i=>zkD (.ref i) b H) fun _=>none
noncomputable def zcG (y:Int):Bool:=Int.casesOn (motive:=fun _=>Bool) y (fun n=>(List.range 13).any fun k=>Nat.beq (n+1) (2 ^ k)) fun _=>false
def jb (x y:Int):Int:=bif zcG y then x % (y+1) else Builtin.bitAnd x y
noncomputable def zgc (op:Operator) (x y:Int):Option Int:=match op with
 | .Sub=>some (x - y)
 | .Mult=>wo (x.natAbs < 1152921504606846976∨y.natAbs < 1152921504606846976) (some (x * y))
 | .FloorDiv=>wo (0 < y) (wo (y.natAbs < 1073741824) (some (x / y)))
 | .Mod=>wo (0 < y) (some (x % y))
 | .LShift=>wo (0<=y) (wo (y<=1000000) (wo (x.natAbs < 18446744073709551616) (some (x * 2 ^ y.toNat))))
 | .RShift=>wo (0<=y) (some (x / 2 ^ y.toNat))
 | .BitAnd=>some (jb x y)
 | .BitOr=>some (Builtin.bitOr x y)
 | .Pow=>wo (0<=y) (wo (y<=1000000) (wo (x.natAbs < 18446744073709551616) (some (x ^ y.toNat))))
 | _=>none
noncomputable def JY (op:Operator):Bool:=match op with
 | .Add=>true
 | _=>false
def zd4 (op:Operator) (a b:V) (H:Hp):Option V:=Bool.casesOn (motive:=fun _=>Option V) (JY op) (ii a b fun x y=>bo (zgc op x y) fun z=>some (.int z)) (addF a b H)
noncomputable def QU (v:V):Bool:=V.casesOn (motive_1:=fun _=>Bool) v true (fun _=>false) (fun _=>false) (fun _=>false) (fun _=>false) (fun _ _=>false) (fun _=>false) fun _=>false
noncomputable def isN (v:V):Option Bool:=V.casesOn (motive_1:=fun _=>Option Bool) v (some true) (fun _=>some false) (fun _=>some false) (fun _=>some false) (fun _=>some false) (fun _ _=>some false) (fun _=>some false) fun _=>none
noncomputable def sqD (t:zZ) (ds:List PyData):Option PyData:=zZ.casesOn (motive:=fun _=>Option PyData) t (some (.tuple ds)) (some (.list ds)) (fun _=>none) (fun _=>none) (fun _ _=>none) (fun _=>none) fun _ _ _=>none
mutual
noncomputable def toD:V->Option PyData
 | .none=>some .none
 | .bool b=>some (.bool b)
 | .int i=>some (.int i)
 | .str s=>some (.str (Sx s))
 | .byt _=>none
 | .nd t l=>bo (zhT l) (sqD t)
 | .ref _=>none
 | .fn _=>none
noncomputable def zhT:List V->Option (List PyData)
 | []=>some []
 | v::l=>bo (toD v) fun d=>bo (zhT l) fun r=>some (d::r)
end
def eqF (a b:V):Option Bool:=Option.casesOn (motive:=fun _=>Option Bool) (xB a) (Option.casesOn (motive:=fun _=>Option Bool) (yM a)
  (bo (toD a) fun x=>bo (toD b) fun y=>wo (SeqAt.shaped x=true) (wo (SeqAt.shaped y=true) (some (PyData.eqv x y)))) fun x=>bo (yM b) fun y=>some (decide (x=y))) fun x=>bo (xB b) fun y=>some (decide (x=y))
noncomputable def eqD (kb:List (List Nat)) (vb:List V):List (List Nat)->List V->Bool
 | []=>fun _=>true
 | k::ks=>fun vs=>List.casesOn (motive:=fun _=>Bool) vs false fun v vs=>Option.casesOn (motive:=fun _=>Bool) (bo (xB v) fun x=>bo (zP kb vb k) fun u=>bo (xB u) fun y=>wo (x=y) (some ())) false fun _=>eqD kb vb ks vs
def neF (a b:V) (H:Hp):Option Bool:=Option.casesOn (motive:=fun _=>Option Bool) (dv a H) (bo (eqF a b) fun r=>some (!r)) fun p=>bo (dv b H) fun q=>wo (p.1.length=q.1.length) (wo (eqD q.1 q.2 p.1 p.2=true) (some false))
def inN (p:zZ×List V) (x:V):Option Bool:=Option.casesOn (motive:=fun _=>Option Bool) p.1.iks
  (bo (yM x) fun s=>Option.casesOn (motive:=fun _=>Option Bool) p.1.dks (wo (p.1.seq≠0) (bo (zB yM p.2) fun ss=>some (decide (s∈ss)))) fun ks=>some (decide (s∈ks)))
  fun ks=>bo (xB x) fun i=>some (decide (i∈ks))
def inF (x b:V) (H:Hp):Option Bool:=Option.casesOn (motive:=fun _=>Option Bool) (yM b) (bo (nv b H) fun p=>inN p x) fun y=>bo (yM x) fun s=>wo (s.length=1) (some (decide (s.headD 0∈y)))
noncomputable def zf7 (op:CmpOp) (a b:V) (H:Hp):Option Bool:=match op with
 | .Lt=>ii a b fun x y=>some (decide (x < y))
 | .LtE=>ii a b fun x y=>some (decide (x<=y))
 | .Gt=>ii a b fun x y=>some (decide (x > y))
 | .GtE=>ii a b fun x y=>some (decide (x ≥ y))
 | .Eq=>eqF a b
 | .NotEq=>neF a b H
 | .Is=>wo (QU b=true) (isN a)
 | .IsNot=>wo (QU b=true) (bo (isN a) fun r=>some (!r))
 | .In=>inF a b H
 | .NotIn=>bo (inF a b H) fun r=>some (!r)
def truF (v:V):Option Bool:=V.casesOn (motive_1:=fun _=>Option Bool) v (some false) some (fun i=>some (decide (i≠0))) (fun s=>wo (s.length<=1000000) (some (decide (s≠[])))) (fun _=>none) (fun _ _=>none) (fun _=>none) fun _=>none
noncomputable def nrm (n:Nat) (i:Int):Nat:=(max (0:Int) (min (if i < 0 then i+n else i) n)).toNat
noncomputable def nrO (n d:Nat) (o:Option Int):Nat:=Option.casesOn (motive:=fun _=>Nat) o d (nrm n)
noncomputable def cut {α:Type} (l:List α) (lo hi:Option Int):List α:=(l.take (nrO l.length l.length hi)).drop (nrO l.length 0 lo)
noncomputable def at_ {α:Type} (l:List α) (i:Int):Option α:=Bool.casesOn (motive:=fun _=>Option α) (decide (i < 0)) l[i.toNat]? (wo (0<=i+l.length) l[(i+l.length).toNat]?)
def subN (p:zZ×List V) (i:V):Option V:=Option.casesOn (motive:=fun _=>Option V) p.1.dks (Option.casesOn (motive:=fun _=>Option V) p.1.iks
  (wo (p.1.seq≠0) (bo (xB i) fun i=>wo (p.2.length<=1000000) (at_ p.2 i))) fun ks=>bo (xB i) fun k=>zP ks p.2 k) fun ks=>bo (yM i) fun k=>zP ks p.2 k
def zat (a i:V) (H:Hp):Option V:=Option.casesOn (motive:=fun _=>Option V) (yM a) (Option.casesOn (motive:=fun _=>Option V) (asY a)
  (bo (nv a H) fun p=>subN p i) fun s=>bo (xB i) fun i=>wo (s.length<=1000000) (wo (0<=i) (bo s[i.toNat]? fun c=>some (.int c.toNat)))) fun s=>bo (xB i) fun i=>wo (s.length<=1000000) (bo (at_ s i) fun c=>some (.str [c]))
def zay (a:V) (lo hi:Option Int):Option V:=Option.casesOn (motive:=fun _=>Option V) (yM a) (bo (asN a) fun p=>wo (p.1.seq=2) (wo (p.2.length<=1000000) (some (.nd .lst (cut p.2 lo hi)))))
  fun s=>wo (s.length<=100000) (some (.str (cut s lo hi)))
noncomputable def zaN (n:Nat):List Nat:=(Nat.toDigits 10 n).map Char.toNat
def yc (i:Int):List Nat:=bif decide (i < 0) then 45::zaN i.natAbs else zaN i.natAbs
def fmtF (v:V):Option (List Nat):=Option.casesOn (motive:=fun _=>Option (List Nat)) (xB v) (bo (yM v) fun s=>wo (s.length<=100000) (some s)) fun i=>wo (i.natAbs < 18446744073709551616) (wo ((yc i).length<=100000) (some (yc i)))
noncomputable def q7:List (List Nat)->List V->List V
 | []=>fun _=>[]
 | k::ks=>fun vs=>List.casesOn (motive:=fun _=>List V) vs [] fun v vs=>.nd .tup [.str k,v]::q7 ks vs
noncomputable def Xf:Nat->List V->List V
 | _,[]=>[]
 | n,v::l=>.nd .tup [.int n,v]::Xf (n+1) l
def itN (tp:Bool) (p:zZ×List V):Option (List V×Option Nat):=zZ.casesOn (motive:=fun _=>Option (List V×Option Nat)) p.1 (some (p.2,none)) (some (p.2,none)) (fun _=>none) (fun _=>none) (fun _ _=>none) (fun ks=>wo (tp=true) (some (q7 ks p.2,none)))
  fun a b c=>wo (0 < c/\c<=1000/\-1000000<=a/\a<=1000000/\-1000000<=b/\b<=1000000) (some ((List.range ((b - a+c - 1) / c).toNat).map fun k:Nat=>.int (a+c * (k:Int)),none))
def itV (tp:Bool) (v:V) (H:Hp):Option (List V×Option Nat):=Option.casesOn (motive:=fun _=>Option (List V×Option Nat)) (yM v) (Option.casesOn (motive:=fun _=>Option (List V×Option Nat)) (asN v) (bo (asR v) fun i=>bo H[i]? fun o=>bo (asN o) fun p=>wo (p.1.seq=2) (some (p.2,some i))) (itN tp)) fun s=>some (s.map fun c=>.str [c],none)
def enV (v:V):Option (List V×Option Nat):=Option.casesOn (motive:=fun _=>Option (List V×Option Nat)) (yM v) (bo (asN v) fun p=>wo (p.1.seq=2) (some (Xf 0 p.2,none))) fun s=>some (Xf 0 (s.map fun c=>.str [c]),none)
def itX (tp md:Bool) (v:V) (H:Hp):Option (List V×Option Nat):=Bool.casesOn (motive:=fun _=>Option (List V×Option Nat)) md (itV tp v H) (wo (tp=true) (enV v))
def gd (src:Option Nat) (l:List V) (H:Hp) (Q:Prop):Prop:=Option.casesOn (motive:=fun _=>Prop) src Q fun i=>H[i]?=some (.nd .lst l)/\Q
noncomputable def zi9 (v:V):Bool:=V.casesOn (motive_1:=fun _=>Bool) v true (fun _=>true) (fun _=>true) (fun _=>true) (fun _=>true) (fun _ _=>false) (fun _=>false) fun _=>false
noncomputable def zZ.kd (t:zZ):Nat:=zZ.casesOn (motive:=fun _=>Nat) t 0 2 (fun _=>3) (fun _=>4) (fun C _=>C+10) (fun _=>0) fun _ _ _=>0
def kdN (m:Nat) (p:zZ×List V):Option Nat:=Option.casesOn (motive:=fun _=>Option Nat) p.1.ink (some p.1.kd) fun q=>bif q.2.contains m then none else some p.1.kd
def kdV (m:Nat) (v:V) (H:Hp):Option Nat:=Option.casesOn (motive:=fun _=>Option Nat) (yM v) (Option.casesOn (motive:=fun _=>Option Nat) (nv v H) (bo (asR v) fun i=>bo H[i]? fun o=>bo (asY o) fun _=>some 5) (kdN m)) fun _=>some 1
noncomputable def zaE:Nat->List V->List V->Option (List V×List V)
 | 0,acc,st=>some (acc,st)
 | n+1,acc,st=>List.casesOn (motive:=fun _=>Option (List V×List V)) st none fun v st=>zaE n (v::acc) st
noncomputable def hlf:Nat->Nat
 | 0=>0
 | 1=>0
 | n+2=>hlf n+1
noncomputable def prs:Nat->List V->Option (List (List Nat)×List V)
 | 0,vs=>List.casesOn (motive:=fun _=>Option (List (List Nat)×List V)) vs (some ([],[])) fun _ _=>none
 | n+1,vs=>List.casesOn (motive:=fun _=>Option (List (List Nat)×List V)) vs none fun k vs=>List.casesOn (motive:=fun _=>Option (List (List Nat)×List V)) vs none fun v vs=>bo (yM k) fun s=>bo (prs n vs) fun p=>Prod.casesOn (motive:=fun _=>Option (List (List Nat)×List V)) p fun a b=>some (s::a,v::b)
abbrev zG:=List V->Hp->QE->Prop
noncomputable def hc (vs:List V) (k:V->List V->Prop):Prop:=List.casesOn (motive:=fun _=>Prop) vs False k
def h1 (vs:List V) (k:V->Prop):Prop:=hc vs fun a r=>List.casesOn (motive:=fun _=>Prop) r (k a) fun _ _=>False
noncomputable def zcd {α β:Type} [DecidableEq α]:List α->List V->α->V->(List α->List V->β)->β
 | []=>fun _ x y K=>K [x] [y]
 | k::ks=>fun vs x y K=>List.casesOn (motive:=fun _=>β) vs (K [x] [y]) fun v vs=>bif decide (k=x) then K (k::ks) (y::vs) else zcd ks vs x y fun a b=>K (k::a) (v::b)
noncomputable def Xv {α β:Type}:List α->Nat->α->(List α->β)->β
 | [],_,_=>fun K=>K []
 | _::t,0,v=>fun K=>K (v::t)
 | h::t,n+1,v=>fun K=>Xv t n v fun t=>K (h::t)
noncomputable def Qx {α β:Type}:List α->α->Nat->(Nat->List α->β)->β
 | []=>fun v n K=>K n [v]
 | h::t=>fun v n K=>Qx t v (n+1) fun m t=>K m (h::t)
theorem eq_772 {α β:Type} [DecidableEq α]:∀(ks:List α) (vs:List V) (x:α) (y:V) (K:List α->List V->β),zcd ks vs x y K=K (put ks vs x y).1 (put ks vs x y).2
 | [],_,_,_,_=>rfl
 | _::_,[],_,_,_=>rfl
 | k::ks,v::vs,x,y,K=>by
  have ih:=eq_772 ks vs x y fun a b=>K (k::a) (v::b)
  show (bif decide (k=x) then K (k::ks) (y::vs) else zcd ks vs x y fun a b=>K (k::a) (v::b))=K (bif decide (k=x) then (k::ks,y::vs) else (k::(put ks vs x y).1,v::(put ks vs x y).2)).1 (bif decide (k=x) then (k::ks,y::vs) else (k::(put ks vs x y).1,v::(put ks vs x y).2)).2
  rw [ih]
  cases decide (k=x)<;>rfl
theorem eq_903 {α β:Type}:∀(l:List α) (n:Nat) (v:α) (K:List α->β),Xv l n v K=K (l.set n v)
 | [],_,_,_=>rfl
 | _::_,0,_,_=>rfl
 | h::t,n+1,v,K=>eq_903 t n v fun t=>K (h::t)
theorem eq_570 {α β:Type}:∀(l:List α) (v:α) (n:Nat) (K:Nat->List α->β),Qx l v n K=K (n+l.length) (l++[v])
 | [],_,_,_=>rfl
 | h::t,v,n,K=>(eq_570 t v (n+1) fun m t=>K m (h::t)).trans (by rw [Nat.add_assoc,Nat.add_comm 1];rfl)
theorem eq_750 {α β:Type} {l:List α} {v:α} {K:Nat->List α->β}:Qx l v 0 K=K l.length (l++[v]):=(eq_570 l v 0 K).trans (by rw [Nat.zero_add])
noncomputable def lC {α β:Type} (d:β) (l:List α) (k:α->List α->β):β:=List.casesOn (motive:=fun _=>β) l d k
def Bl (F:List V->Hp->Option V):zG:=fun vs H Q=>ob (F vs H) fun v=>Q v H
def Be (F:List V->Hp->Option V):zG:=fun vs H Q=>∃v,F vs H=some v/\Q v H
def zfs (vs:List V) (H:Hp):Option V:=l1 vs fun v=>Option.casesOn (motive:=fun _=>Option V) (yM v) (Option.casesOn (motive:=fun _=>Option V) (asY v) (bo (sqs v H) fun l=>wo (l.length<=1000000) (some (.int l.length))) fun b=>wo (b.length<=1000000) (some (.int b.length))) fun s=>wo (s.length<=1000000) (some (.int s.length))
def ordF (vs:List V) (H:Hp):Option V:=l1 vs fun v=>bo (yM v) fun s=>List.casesOn (motive:=fun _=>Option V) s none fun c r=>List.casesOn (motive:=fun _=>Option V) r (some (.int c)) fun _ _=>none
noncomputable def zW (i:Int):List Nat:=(if i < 0 then [45] else [])++[48,120]++(Nat.toDigits 16 i.natAbs).map Char.toNat
def zjl (vs:List V) (H:Hp):Option V:=l1 vs fun v=>bo (xB v) fun i=>wo ((zW i).length<=100000) (some (.str (zW i)))
def absF (vs:List V) (H:Hp):Option V:=l1 vs fun v=>bo (xB v) fun i=>some (.int (if i < 0 then -i else i))
def zh1 (vs:List V) (H:Hp):Option V:=l1 vs fun v=>bo (xB v) fun i=>wo (i.natAbs < 18446744073709551616) (some (.str (yc i)))
def maxF (vs:List V) (H:Hp):Option V:=l2 vs fun a b=>ii a b fun x y=>some (.int (if y > x then y else x))
def minF (vs:List V) (H:Hp):Option V:=l2 vs fun a b=>ii a b fun x y=>some (.int (if y < x then y else x))
def isiF (vs:List V) (_:Hp):Option V:=l2 vs fun v t=>bo (asF t) fun k=>bo (xB v) fun _=>bif Nat.beq k 15 then some (.bool true) else bif Nat.beq k 11 then some (.bool false) else none
def zkC (vs:List V) (H:Hp):Option V:=l1 vs fun v=>bo (sq v H) fun l=>bo (zB asB l) fun bs=>some (.bool (bs.all id))
def anyF (vs:List V) (H:Hp):Option V:=l1 vs fun v=>bo (sq v H) fun l=>bo (zB asB l) fun bs=>some (.bool (bs.any id))
def sumF (vs:List V) (H:Hp):Option V:=l1 vs fun v=>bo (sq v H) fun l=>bo (zB xB l) fun is=>some (.int is.sum)
def zgV (vs:List V) (_:Hp):Option V:=l1 vs fun v=>bo (asN v) fun p=>wo (p.1.seq≠0) (wo (p.2.length<=100000) (some (.nd .lst p.2)))
def bytF (vs:List V) (H:Hp):Option V:=l1 vs fun v=>bo (sq v H) fun l=>bo (zB xB l) fun is=>wo ((∀n∈is,0<=n/\n < 256)/\is.length<=100000) (some (.byt (is.map fun n=>n.toNat.toUInt8)))
def appS:zG:=fun vs H Q=>hc vs fun o r=>h1 r fun v=>ob (asR o) fun i=>ob (nv o H) fun p=>wh (p.1.seq=2/\p.2.length<=1000000) (Xv H i (.nd .lst (p.2++[v])) (Q .none))
def getF (vs:List V) (H:Hp):Option V:=lc vs fun d r=>bo (nv d H) fun p=>Option.casesOn (motive:=fun _=>Option V) p.1.dks (bo p.1.iks fun ks=>l1 r fun k=>bo (xB k) fun i=>some ((zP ks p.2 i).getD .none)) fun ks=>l2 r fun k x=>bo (yM k) fun s=>some ((zP ks p.2 s).getD x)
def itmF (vs:List V) (_:Hp):Option V:=l1 vs fun v=>bo (asN v) fun p=>bo p.1.dks fun ks=>some (.nd (.vw ks) p.2)
def rngF (vs:List V) (_:Hp):Option V:=bo (zB xB vs) fun is=>lC none is fun a r=>lC (some (.nd (.rng 0 a 1) [])) r fun b r=>lC (some (.nd (.rng a b 1) [])) r fun k r=>lC (wo (0 < k/\k<=1000) (some (.nd (.rng a b k) []))) r fun _ _=>none
def sgn (v:V):Option Nat:=bo (yM v) fun s=>lC none s fun c r=>lC (some c) r fun _ _=>none
noncomputable def yb (c:Nat):Nat->List Nat->List Nat
 | _,[]=>[]
 | k,a::r=>bif Nat.beq a c then k::yb c (k+1) r else yb c (k+1) r
noncomputable def zS (c:Nat):List Nat->List Nat->List (List Nat)
 | cur,[]=>[cur]
 | cur,a::r=>bif Nat.beq a c then cur::zS c [] r else zS c (cur++[a]) r
def xF (c:Nat) (l:List Nat):List (List Nat):=zS c [] l
noncomputable def zz (c:Nat) (l:List Nat):List Nat:=((l.dropWhile (· == c)).reverse.dropWhile (· == c)).reverse
def y4 (c:Nat) (l:List Nat):Int:=lC (-1) (yb c 0 l) fun i _=>(i:Int)
def xc (vs:List V) (k:List Nat->Nat->Option V):Option V:=l2 vs fun a b=>bo (yM a) fun x=>bo (sgn b) fun c=>k x c
def zbI (vs:List V) (_:Hp):Option V:=xc vs fun x c=>wo (x.length<=100000) (some (.str (zz c x)))
def zhh (vs:List V) (_:Hp):Option V:=xc vs fun x c=>some (.int (y4 c x))
def indF (vs:List V) (_:Hp):Option V:=xc vs fun x c=>bo (yb c 0 x).head? fun i=>some (.int (i:Int))
def zgH (vs:List V) (_:Hp):Option V:=xc vs fun x c=>bo (yb c 0 x).getLast? fun i=>some (.int (i:Int))
noncomputable def X5 (c:Nat):Bool:=Nat.blt 32 c&&(Nat.blt c 127&&(Nat.blt c 65||Nat.blt 90 c))
def ziR (vs:List V) (_:Hp):Option V:=l1 vs fun a=>bo (yM a) fun x=>wo (x.length<=100000) (wo (x.all X5=true) (some (.str x)))
def zif (vs:List V) (_:Hp):Option V:=xc vs fun x c=>wo (c < 256) (wo (x.length<=100000) (some (.nd .lst ((xF c x).map .str))))
def repF (vs:List V) (_:Hp):Option V:=lc vs fun a r=>l2 r fun b y=>bo (yM a) fun x=>bo (sgn b) fun c=>bo (yM y) fun _=>wo (c∉x) (some (.str x))
def joiF (vs:List V) (_:Hp):Option V:=l2 vs fun a b=>bo (yM a) fun s=>wo (s=[]) (bo (asN b) fun p=>wo (p.1.seq=2) (bo (zB yM p.2) fun ss=>wo (ss.length<=1000/\∀y∈ss,y.length<=1000) (some (.str ss.flatten))))
def zks (vs:List V) (H:Hp):Option V:=l1 vs fun v=>Option.casesOn (motive:=fun _=>Option V) (bo (asR v) fun i=>bo H[i]? asY) (bytF vs H) fun b=>wo (b.length<=100000) (some (.byt b))
def byaS:zG:=fun vs H Q=>List.casesOn (motive:=fun _=>Prop) vs (Qx H (.byt []) 0 fun m H=>Q (.ref m) H) fun _ _=>False
def extS:zG:=fun vs H Q=>hc vs fun o r=>h1 r fun v=>ob (asR o) fun i=>ob (bo H[i]? asY) fun b=>ob (asY v) fun c=>wh (b.length+c.length<=1000) (Xv H i (.byt (b++c)) (Q .none))
def intF (vs:List V) (_:Hp):Option V:=l1 vs fun v=>bo (yM v) fun s=>wo (zaN (s.foldl (fun n c=>n * 10+(c - 48)) 0)=s/\s.foldl (fun n c=>n * 10+(c - 48)) 0 < 1000000) (some (.int (s.foldl (fun n c=>n * 10+(c - 48)) 0:Nat)))
def twV (v:V):Option (List Nat×V):=bo (asN v) fun p=>wo (p.1.seq=1) (lC none p.2 fun a r=>lC none r fun b r=>lC (bo (yM a) fun s=>some (s,b)) r fun _ _=>none)
def dicF (vs:List V) (H:Hp):Option V:=l1 vs fun v=>bo (sq v H) fun l=>bo (zB twV l) fun q=>wo ((q.map (·.1)).Nodup/\q.length<=1000) (some (.nd (.dcs (q.map (·.1))) (q.map (·.2))))
noncomputable def Xx {α:Type} (lt:Nat->Nat->Bool) (n:Nat):KasT α->Option α
 | .ret a=>some a
 | .ask i j k=>wo (i < n/\j < n/\i≠j) (Xx lt n (k (lt i j)))
noncomputable def ltS (ns:List (List Nat)) (i j:Nat):Bool:=decide (ns.getD i [] < ns.getD j [])
def srI (p:zZ×List V):Option (List V):=zZ.casesOn (motive:=fun _=>Option (List V)) p.1 none (some p.2) (fun _=>none) (fun _=>none) (fun _ _=>none) (fun ks=>some (q7 ks p.2)) fun _ _ _=>none
def twI (v:V):Option (List Nat):=bo (twV v) fun p=>bo (xB p.2) fun _=>some p.1
def zbN (vs:List V) (_:Hp):Option V:=l1 vs fun v=>bo (asN v) fun p=>bo (srI p) fun l=>lC (some (.nd .lst [])) l fun _ _=>bo (zB twI l) fun ns=>wo (2<=l.length/\l.length < 64/\ns.Nodup) (bo (Xx (ltS ns) ns.length (kas_sort ns.length)) fun p=>some (.nd .lst (p.toList.map fun i=>l.getD i .none)))
noncomputable def spB:List zG:=[Bl absF,Bl zkC,Bl anyF,Bl zjl,Bl isiF,Bl zfs,Bl maxF,Bl minF,Bl ordF,Be zbN,Bl sumF,fun _ _ _=>False,byaS,Bl zks,Be dicF,Bl intF,Bl zgV,Bl zh1,Bl rngF,Bl zbI,Bl zhh,Bl indF,Bl zgH,Bl ziR,Bl zif,Bl repF,Bl joiF,appS,Bl getF,Bl itmF,extS]
noncomputable def gvT:List (Nat×V):=gvl++[(1973368,.fn 0),(1856368,.fn 1),(2076328,.fn 2),(2058265,.fn 3),(1089886371514656533586,.fn 4),(1889269,.fn 5),(2057750,.fn 6),(1889790,.fn 7),(1721962,.fn 8),(3779450527176,.fn 9),(1874456,.fn 10),(241380459,.fn 11),(10013967723980367259,.fn 12),(33356847259,.fn 13),(258752881,.fn 14),(1991836,.fn 15),(259023289,.fn 16),(1958826,.fn 17),(29362596755,.fn 18),(31968257306,.fn 31),(65175168912950966,.fn 32),(31067317550,.fn 33),(2464374613411257419269132306,.fn 34),(156956283950972929132306,.fn 35),(41647930966650250405434522395144,.fn 36),(2652561198771462288522395144,.fn 37),(3816282978532,.fn 39),(1090938697889546146783,.fn 40),(154219350530668751573904,.fn 41),(3816282977361,.fn 42),(74003629596840680,.fn 43),(74003629596872676,.fn 44),(1250661340182859609263,.fn 45),(501347486267277,.fn 46),(161101500651674744117550,.fn 48),(226050339,.fn 49),(3779450525353,.fn 50),(65175168904399570,.fn 51),(141875946148386181062483,.fn 52),(496446976284586,.fn 53),(68872655971430586,.fn 54),(63915592819738108,.fn 55),(65175172905138108,.fn 56),(141684174729256516525851,.fn 57),(9617396763791584669,.fn 70),(29353657661,.fn 74),(3816004263844,.fn 78),(29395568768,.fn 79),(33071082018,.fn 80),(534620736945831,.fn 81),(64533316964869578,.fn 83),(76470011662570466,.fn 84),(8388699151653970466,.fn 85),(76421966348370466,.fn 86),(20948689113353205885570466,.fn 87),(354032846005387863730351370466,.fn 88),(9535200808607870466,.fn 89),(161123855433808006070466,.fn 90),(1089886390296389770466,.fn 91),(1090778037552022670466,.fn 92)]
noncomputable def gv (i:Nat):Option V:=gvT.lookup i
noncomputable def mtT:List (Nat×Nat×Nat):=[(1,32508770826,19),(1,223786783,20),(1,34784625436,21),(1,4522001306795,22),(1,33071286669,23),(1,33651108906,24),(1,496075679176075,25),(1,245673067,26),(2,3781988028488,27),(3,1990664,28),(4,1990664,28),(3,33374169116,29),(5,3781988097132,30),(294,29072762783,38),(265,4336086620683,47),(1713,243578108,58),(1713,29393320959,59),(1713,72657506561512975,60),(1713,4373490764357,61),(1713,1958680,62),(1713,9608616426650609263,63),(1713,223634171,64),(1713,29072677239,65),(1713,33670931566,66),(1713,8394346111150377406,67),(1713,529791348498606,68),(1713,31937262483,69),(1713,20943279921359868751573936,71),(1713,564209065097451,72),(1713,4340641254412,73),(1511,501347453346596,75),(1511,1720128,76),(1511,223566575,77),(1713,534620736945863,82)]
def mtd (k m:Nat):Option Nat:=(mtT.find? fun p=>Nat.beq p.1 k&&Nat.beq p.2.1 m).map (·.2.2)
noncomputable def atT:List (Nat×Nat):=[(255,225965851),(255,13245),(255,860195),(255,877095),(255,1873406),(255,1958680),(284,225965851),(284,223786788),(284,3816282978802),(284,29101070167),(284,511191001928476),(1426,225983789),(1426,33070965962),(1426,225965851),(1426,73279937025473602),(1426,539964814012376),(1426,4373516926202),(1426,226186596),(1501,33356946596),(1501,4338931803668),(1501,539964814012376),(1501,4338356069949),(1501,63872635909097451),(1501,256726456),(1501,63872713909239532),(1501,4336352457693),(1501,33070965962),(1703,3816004263876),(1703,226067239),(1703,225813750),(1541,259107277),(1541,217296141),(1541,33378780883),(1541,8393718364680367277),(1541,8393718364638556141),(1541,1091183387408142580883),(1541,563989145397976),(1541,63872713909239532),(1541,35099066832)]
def at0 (c f:Nat):Bool:=atT.any fun p=>Nat.beq p.1 c&&Nat.beq p.2 f
noncomputable def ca (c f:Nat):Option V:=bif Nat.beq c 31 then cal.lookup f else none
inductive Op where
 | cst (v:V) | glo (i:Nat)
 | bin (op:Operator) | inp | neg | not | tru | isb
 | cmp (op:CmpOp)
 | att (f:Nat) | sub | sbd | slc (lo hi:Bool)
 | tup | lst (own:Bool) | dct (own:Bool)
 | join | fv | pce
 | sta (f:Nat) | sti
inductive Code where
 | n | dead
 | o (p:Op) (n:Nat) (r:Code)
 | loc (x:Nat) (r:Code)
 | set (x:Nat) (r:Code)
 | spl (n:Nat) (r:Code)
 | rev (xs:List Nat) (r:Code)
 | drop (r:Code)
 | dup (n:Nat) (r:Code)
 | rot (n:Nat) (r:Code)
 | call (n:Nat) (r:Code)
 | fnk (r:Code)
 | mth (m:Nat) (r:Code)
 | cmp2 (op:CmpOp) (r:Code)
 | ite (a b r:Code)
 | comp (md:Bool) (elt ifs:Code) (tgt cap:List Nat) (r:Code)
 | for (md:Bool) (tgt:List Nat) (b r:Code)
 | whl (t b r:Code)
 | ret | brk | cnt
def setA (o v:V) (f:Nat) (H:Hp):Option Hp:=bo (asR o) fun i=>bo (iv o H) fun p=>Prod.casesOn (motive:=fun _=>Option Hp) p fun C p=>Prod.casesOn (motive:=fun _=>Option Hp) p fun ks vs=>wo (ks.length<=900) (wo (at0 C f=true) (zcd ks vs f v fun a b=>Xv H i (.nd (.ins C a) b) some))
def setI (o k v:V) (H:Hp):Option Hp:=bo (asR o) fun i=>bo (nv o H) fun p=>Option.casesOn (motive:=fun _=>Option Hp) p.1.dks
  (wo (p.1.seq=2) (bo (xB k) fun j=>wo (0<=j/\j.toNat < p.2.length/\p.2.length<=100000) (Xv p.2 j.toNat v fun l=>Xv H i (.nd .lst l) some)))
  fun ks=>bo (yM k) fun s=>wo (ks.length<=1000) (zcd ks p.2 s v fun a b=>Xv H i (.nd (.dcs a) b) some)
def zfo {β:Type} (b:Bool) (vs:List V) (k:Option Int->List V->Option β):Option β:=Bool.casesOn (motive:=fun _=>Option β) b (k none vs) (lc vs fun v vs=>bo (xB v) fun i=>k (some i) vs)
def Yk (own:Bool) (v:V) (H:Hp):V×Hp:=Bool.casesOn (motive:=fun _=>V×Hp) own (v,H) (Qx H v 0 fun m H=>(.ref m,H))
theorem zcs {v:V} {H:Hp}:Yk true v H=(.ref H.length,H++[v]):=eq_750
def attF (a:V) (f:Nat) (H:Hp):Option V:=Option.casesOn (motive:=fun _=>Option V) (asF a) (bo (iv a H) fun p=>wo (at0 p.1 f=true) (bo (zP p.2.1 p.2.2 f) fun v=>Option.casesOn (motive:=fun _=>Option V) (asF v) (some v) fun _=>none)) fun c=>ca c f
def hr (H:Hp) (o:Option V):Option (V×Hp):=bo o fun v=>some (v,H)
noncomputable def yK (p:Op) (vs:List V) (H:Hp):Option (V×Hp):=match p with
 | .cst v=>hr H (l0 vs (some v))
 | .glo i=>hr H (l0 vs (gv i))
 | .bin op=>hr H (l2 vs fun a b=>zd4 op a b H)
 | .inp=>hr H (l2 vs fun a b=>ii a b fun x y=>some (.int (x+y)))
 | .neg=>hr H (l1 vs fun a=>bo (xB a) fun i=>some (.int (-i)))
 | .not=>hr H (l1 vs fun a=>bo (asB a) fun b=>some (.bool (!b)))
 | .tru=>hr H (l1 vs fun a=>bo (truF a) fun b=>some (.bool b))
 | .isb=>hr H (l1 vs fun a=>bo (asB a) fun b=>some (.bool b))
 | .cmp op=>hr H (l2 vs fun a b=>bo (zf7 op a b H) fun r=>some (.bool r))
 | .att f=>hr H (l1 vs fun a=>attF a f H)
 | .sub=>hr H (l2 vs fun a i=>zat a i H)
 | .sbd=>hr H (l2 vs fun a i=>bo (dv a H) fun p=>bo (yM i) fun k=>zP p.1 p.2 k)
 | .slc l h=>hr H (lc vs fun a r=>zfo l r fun lo r=>zfo h r fun hi r=>l0 r (zay a lo hi))
 | .tup=>wo (vs.length<=30) (some (.nd .tup vs,H))
 | .lst own=>wo (vs.length<=30) (some (Yk own (.nd .lst vs) H))
 | .dct own=>bo (prs (hlf vs.length) vs) fun p=>Prod.casesOn (motive:=fun _=>Option (V×Hp)) p fun ks us=>wo ks.Nodup (wo (ks.length<=15) (some (Yk own (.nd (.dcs ks) us) H)))
 | .join=>bo (zB yM vs) fun ss=>some (.str ss.flatten,H)
 | .pce=>hr H (l1 vs fun a=>bo (yM a) fun s=>wo (s.length<=1000) (some (.str s)))
 | .fv=>hr H (l1 vs fun a=>bo (fmtF a) fun s=>some (.str s))
 | .sta f=>l2 vs fun v o=>bo (setA o v f H) fun H=>some (.none,H)
 | .sti=>l3 vs fun v o k=>bo (setI o k v H) fun H=>some (.none,H)
inductive Jp where
 | brk | cnt
 | ret (v:V)
abbrev Kt:=List V->Lo->Hp->Prop
abbrev Jt:=Jp->Lo->Hp->Prop
noncomputable def noJ:Jt:=fun _ _ _=>False
def lpJ (A Q:Lo->Hp->Prop) (J:Jt):Jt:=fun j lo H=>Jp.casesOn (motive:=fun _=>Prop) j (Q lo H) (A lo H) fun v=>J (.ret v) lo H
def x8 (tgt:List Nat) (v:V) (lo:Lo):Option Lo:=List.casesOn (motive:=fun _=>Option Lo) tgt none fun x r=>List.casesOn (motive:=fun _=>Option Lo) r (some (upd lo x v)) fun _ _=>bo (asN v) fun p=>wo (p.1.seq≠0) (bindL tgt p.2 lo)
noncomputable def jy (bind:V->Lo->Option Lo) (body:Lo->Hp->Kt->Jt->Prop) (g:Hp->Prop->Prop) (Q:Lo->Hp->Prop) (J:Jt):List V->Lo->Hp->Prop
 | []=>fun lo H=>g H (Q lo H)
 | v::r=>fun lo H=>g H (ob (bind v lo) fun lo1=>body lo1 H (fun _=>jy bind body g Q J r) (lpJ (jy bind body g Q J r) Q J))
noncomputable def xO (bind:V->Lo->Option Lo) (t e:Lo->Hp->Kt->Prop) (g:Hp->Prop->Prop):List V->Lo->Hp->(List V->Hp->Prop)->Prop
 | []=>fun _ H Q=>g H (Q [] H)
 | v::r=>fun lo H Q=>g H (ob (bind v lo) fun lo1=>t lo1 H fun st _ H1=>h1 st fun b=>ob (asB b) fun b=>ifb b (e lo1 H1 fun st _ H2=>h1 st fun x=>xO bind t e g r lo1 H2 fun vs=>Q (x::vs)) (xO bind t e g r lo1 H1 Q))
noncomputable def Qz (t:Lo->Hp->Kt->Prop) (b:Lo->Hp->Kt->Jt->Prop) (Q:Lo->Hp->Prop) (J:Jt):Nat->Lo->Hp->Prop
 | 0=>fun _ _=>False
 | n+1=>fun lo H=>t lo H fun st _ H1=>h1 st fun c=>ob (asB c) fun c=>ifb c (b lo H1 (fun _=>Qz t b Q J n) (lpJ (Qz t b Q J n) Q J)) (Q lo H1)
structure Hold (P:Prop):Prop where
 p:P
noncomputable def zci (cap:List Nat) (lo:Lo):Lo:=fun j=>bif cap.contains j then lo j else none
noncomputable def Rc (cs:Nat->zG):Code->List V->Lo->Hp->Kt->Jt->Prop
 | .n=>fun st lo H K _=>K st lo H
 | .dead=>fun _ _ _ _ _=>False
 | .o p n r=>fun st lo H K J=>ob (zaE n [] st) fun q=>Prod.casesOn (motive:=fun _=>Prop) q fun vs st=>ob (yK p vs H) fun x=>Prod.casesOn (motive:=fun _=>Prop) x fun v H=>Rc cs r (v::st) lo H K J
 | .call n r=>fun st lo H K J=>ob (zaE n [] st) fun q=>Prod.casesOn (motive:=fun _=>Prop) q fun us st=>hc us fun f vs=>ob (asF f) fun i=>cs i vs H fun v H=>Rc cs r (v::st) lo H K J
 | .fnk r=>fun st lo H K J=>hc st fun v _=>ob (asF v) fun _=>Rc cs r st lo H K J
 | .loc x r=>fun st lo H K J=>ob (lo x) fun v=>Rc cs r (v::st) lo H K J
 | .set x r=>fun st lo H K J=>hc st fun v st=>Rc cs r st (upd lo x v) H K J
 | .spl n r=>fun st lo H K J=>hc st fun v st=>ob (sqs v H) fun l=>wh (l.length=n) (Rc cs r (l++st) lo H K J)
 | .rev xs r=>fun st lo H K J=>hc st fun v st=>ob (sqs v H) fun l=>wh (l.length=xs.length) (ob (bindL xs.reverse l.reverse lo) fun lo=>Rc cs r st lo H K J)
 | .drop r=>fun st lo H K J=>hc st fun v st=>ifb (zi9 v) (Rc cs r st lo H K J) False
 | .dup n r=>fun st lo H K J=>Rc cs r (st.take n++st) lo H K J
 | .rot n r=>fun st lo H K J=>hc st fun v st=>Rc cs r (st.take n++v::st.drop n) lo H K J
 | .mth x r=>fun st lo H K J=>hc st fun v st=>ob (kdV x v H) fun k=>ob (mtd k x) fun i=>Rc cs r (v::.fn i::st) lo H K J
 | .cmp2 op r=>fun st lo H K J=>hc st fun y st=>hc st fun x st=>ob (zf7 op x y H) fun b=>Rc cs r (.bool b::y::st) lo H K J
 | .ite a b r=>fun st lo H K J=>hc st fun c st=>ob (asB c) fun c=>ifb c (Rc cs a st lo H (fun st lo H=>Rc cs r st lo H K J) J) (Rc cs b st lo H (fun st lo H=>Rc cs r st lo H K J) J)
 | .comp md e t tgt cap r=>fun st lo H K J=>hc st fun v st=>ob (itX (Nat.blt 1 tgt.length) md v H) fun p=>Prod.casesOn (motive:=fun _=>Prop) p fun l i=>wh (l.length<=100000) (xO (x8 tgt) (fun lo H K=>Rc cs t [] lo H K noJ) (fun lo H K=>Rc cs e [] lo H K noJ) (gd i l) l (zci cap lo) H fun vs H=>Rc cs r (.nd .lst vs::st) lo H K J)
 | .for md tgt b r=>fun st lo H K J=>hc st fun v st=>ob (itX (Nat.blt 1 tgt.length) md v H) fun p=>Prod.casesOn (motive:=fun _=>Prop) p fun l i=>wh (l.length<=1000000) (Hold (jy (x8 tgt) (fun lo H K J=>Rc cs b [] lo H K J) (gd i l) (fun lo H=>Rc cs r st lo H K J) J l lo H))
 | .whl t b r=>fun st lo H K J=>∃n,Qz (fun lo H K=>Rc cs t [] lo H K noJ) (fun lo H K J=>Rc cs b [] lo H K J) (fun lo H=>Rc cs r st lo H K J) J n lo H
 | .ret=>fun st lo H _ J=>hc st fun v _=>J (.ret v) lo H
 | .brk=>fun _ lo H _ J=>J .brk lo H
 | .cnt=>fun _ lo H _ J=>J .cnt lo H
noncomputable def kN (Q:QE):Kt:=fun _ _ H=>Q .none H
def jR (Q:QE):Jt:=fun j _ H=>Jp.casesOn (motive:=fun _=>Prop) j False False fun v=>Q v H
def fnS (cs:Nat->zG) (k:Nat) (ps:List Nat) (dv:List V) (b:Code):zG:=fun vs H Q=>ifb (Nat.beq vs.length k) (Rc cs b [] (fun j=>zP ps (vs++dv) j) H (kN Q) (jR Q)) False
def mkS (C:Nat) (sp:zG):zG:=fun vs H Q=>Qx H (.nd (.ins C []) []) 0 fun m H=>sp (.ref m::vs) H fun v H=>ifb (QU v) (Q (.ref m) H) False
noncomputable def fzV:Nat->Hp->V->Option V
 | 0=>fun _ _=>none
 | n+1=>fun H v=>V.casesOn (motive_1:=fun _=>Option V) v (some .none) (fun b=>some (.bool b)) (fun i=>some (.int i)) (fun s=>some (.str s)) (fun b=>some (.byt b)) (fun t l=>bo (zB (fzV n H) l) fun l=>some (.nd t l))
   (fun i=>bo H[i]? fun o=>bo (asN o) fun p=>bo (zB (fzV n H) p.2) fun l=>some (.nd p.1 l)) fun i=>some (.fn i)
def Qy (P:List V->V->Prop):zG:=fun vs H Q=>∃us v,zB (fzV 6 []) vs=some us/\P us v/\Q v H
namespace Q
def u (s:String):List Nat:=s.toList.map Char.toNat
def U (s:String):Nat:=X2 (u s)
noncomputable def at_ {α:Type} (d:α) (l:List (List α)) (i:Nat):α:=(l.getD (i / 24) []).getD (i % 24) d
noncomputable def cT:List Code:=by
 refine (?f:(z:List Code)->(((fun (S:String->V) (N:List (List Nat))=>(fun (T:List (List V)) (nn:Nat->Nat)=>(fun (k g a sa l s m:Nat->Code->Code) (sc:Bool->Bool->Code->Code) (t j:Nat->Code->Code) (li d:Bool->Nat->Code->Code) (rv:List Nat->Code->Code) (cm:Bool->Code->Code->List Nat->List Nat->Code->Code) (fo:Bool->List Nat->Code->Code->Code) (y w:Code->Code->Code->Code) (sp c du ro:Nat->Code->Code) (x f:Code->Code) (c2:CmpOp->Code->Code) (n r dead brk cnt:Code) (su mu fd md sl sr ba bo pw ad lt le gt ge eq ne is isn im ni i p v tr no ng st ip ib sd:Code->Code)=>
[l 1<|g 43<|a 114<|ni<|y dead n<|g 43<|a 114<|l 1<|i<|r,
g 156<|l 4<|i<|s 115<|k 76<|l 14<|a 7<|k 77<|l 14<|a 11<|k 78<|l 14<|a 19<|k 46<|l 14<|a 5<|k 25<|l 14<|a 28<|d false 10<|s 90<|l 90<|m 67<|c 2<|fo false [1,25] (g 116<|f<|l 25<|g 117<|c 3<|tr<|no<|y (k 1<|n) (g 116<|f<|l 25<|g 157<|c 3<|tr<|y (k 1<|n) (k 2<|n)<|n)<|y dead n<|l 1<|l 115<|ni<|y (l 25<|k 0<|ne<|y dead n<|n) (l 1<|k 46<|eq<|y (g 158<|l 4<|i<|sp 3<|s 91<|s 118<|s 119<|l 91<|l 25<|c2 .LtE<|y (l 118<|le<|n) (x<|k 2<|n)<|no<|y (k 1<|n) (l 25<|l 119<|md<|k 0<|ne<|y (k 1<|n) (k 2<|n)<|n)<|y dead n<|n) (k 0<|l 25<|c2 .LtE<|y (l 1<|k 25<|eq<|y (k 20<|n) (k 17<|n)<|lt<|n) (x<|k 2<|n)<|no<|y dead n<|n)<|n)<|n)<|n,
l 5<|k 16<|sr<|k 3<|ba<|k 14<|sl<|l 5<|k 26<|sr<|k 47<|ba<|k 24<|sl<|bo<|l 5<|k 3<|sr<|k 10<|ba<|k 12<|sl<|bo<|l 5<|k 33<|sr<|k 3<|ba<|k 18<|sl<|bo<|r,
l 5<|k 8<|sr<|k 3<|ba<|k 14<|sl<|l 5<|k 3<|sr<|k 48<|ba<|k 49<|sl<|bo<|l 5<|k 33<|sr<|k 3<|ba<|k 8<|sl<|bo<|l 5<|k 16<|sr<|k 27<|ba<|k 16<|sl<|bo<|r,
l 16<|k 18<|sr<|k 3<|ba<|k 33<|sl<|l 16<|k 12<|sr<|k 10<|ba<|k 3<|sl<|bo<|l 16<|k 24<|sr<|k 47<|ba<|k 26<|sl<|bo<|s 44<|l 16<|k 14<|sr<|tr<|y (l 44<|k 20<|su<|n) (l 44<|n)<|r,
l 16<|k 16<|sr<|k 27<|ba<|k 16<|sl<|l 16<|k 8<|sr<|k 3<|ba<|k 33<|sl<|bo<|l 16<|k 49<|sr<|k 48<|ba<|k 3<|sl<|bo<|s 44<|l 16<|k 14<|sr<|tr<|y (l 44<|k 80<|su<|n) (l 44<|n)<|r,
l 0<|a 72<|k 24<|sl<|l 0<|a 42<|k 16<|sl<|bo<|l 0<|a 66<|bo<|r,
g 92<|f<|l 14<|a 1<|c 2<|s 20<|l 20<|a 4<|l 14<|a 5<|t 2<|rv [4,5]<|g 159<|f<|l 14<|l 4<|c 3<|x<|l 20<|m 160<|c 2<|l 14<|a 7<|k 18<|sl<|bo<|l 14<|a 11<|k 10<|sl<|bo<|l 14<|a 19<|k 8<|sl<|bo<|s 10<|l 4<|k 28<|k 34<|k 13<|t 3<|im<|y (l 10<|l 5<|k 79<|ba<|k 8<|sl<|bo<|r) n<|l 4<|k 29<|eq<|y (l 10<|l 5<|k 26<|sr<|k 50<|ba<|k 24<|sl<|bo<|l 5<|k 14<|ba<|k 18<|sl<|bo<|r) n<|l 4<|k 30<|eq<|y (l 10<|g 161<|f<|l 5<|c 2<|bo<|r) n<|l 4<|k 35<|eq<|y (l 10<|l 5<|k 16<|sl<|bo<|r) n<|l 4<|k 31<|eq<|y (l 10<|g 162<|f<|l 5<|c 2<|bo<|r) n<|l 4<|k 21<|eq<|y (l 10<|l 14<|a 28<|k 8<|sl<|bo<|r) n<|l 4<|k 32<|eq<|y (l 10<|l 14<|a 28<|k 8<|sl<|bo<|l 5<|k 10<|sl<|bo<|r) n<|l 10<|r,
l 16<|k 50<|ba<|s 66<|l 66<|g 43<|a 120<|im<|y (g 43<|a 120<|l 66<|i<|r) n<|l 16<|k 81<|ba<|s 42<|l 42<|g 43<|a 121<|im<|y (g 43<|a 121<|l 42<|i<|r) n<|l 16<|k 82<|ba<|s 72<|l 72<|g 43<|a 122<|im<|y (g 43<|a 122<|l 72<|i<|s 20<|l 20<|a 4<|k 22<|eq<|y (l 16<|k 18<|sr<|k 14<|ba<|tr<|y (k 1<|n) (k 2<|n)<|n) (k 2<|n)<|y (k 36<|n) (l 20<|n)<|r) n<|g 43<|a 163<|m 123<|l 16<|c 3<|r,
l 1<|l 0<|sa 1<|x<|l 7<|l 0<|sa 7<|x<|l 11<|l 0<|sa 11<|x<|l 19<|l 0<|sa 19<|x<|l 5<|l 0<|sa 5<|x<|l 28<|l 0<|sa 28<|x<|n,
l 16<|k 0<|lt<|y (k 1<|n) (l 16<|k 17<|sr<|tr<|y (k 1<|n) (k 2<|n)<|n)<|y dead n<|g 164<|f<|l 16<|c 2<|s 20<|l 20<|k 36<|is<|y dead n<|l 20<|a 4<|l 16<|k 18<|sr<|k 14<|ba<|l 16<|k 10<|sr<|k 14<|ba<|l 16<|k 8<|sr<|k 14<|ba<|t 4<|sp 4<|s 4<|s 7<|s 11<|s 19<|l 16<|k 8<|sr<|s 53<|l 4<|k 28<|eq<|y (g 9<|f<|l 20<|a 1<|l 7<|l 11<|k 0<|l 53<|k 39<|ba<|tr<|y (l 53<|k 20<|su<|n) (l 53<|n)<|c 6<|r) n<|l 4<|k 37<|eq<|y (g 9<|f<|l 20<|a 1<|l 7<|l 11<|l 19<|c 5<|r) n<|l 4<|k 30<|eq<|y (g 9<|f<|l 20<|a 1<|k 0<|l 11<|l 19<|g 165<|f<|l 16<|c 2<|c 6<|r) n<|l 4<|k 29<|eq<|y (l 16<|k 24<|sr<|k 26<|sl<|l 7<|bo<|s 44<|g 9<|f<|l 20<|a 1<|k 0<|l 11<|l 19<|l 16<|k 14<|sr<|tr<|y (l 44<|k 20<|su<|n) (l 44<|n)<|c 6<|r) n<|l 4<|k 35<|eq<|y (g 9<|f<|l 20<|a 1<|l 7<|k 0<|k 0<|l 16<|k 16<|sr<|c 6<|r) n<|l 4<|k 31<|eq<|y (g 9<|f<|l 20<|a 1<|l 7<|k 0<|k 0<|g 166<|f<|l 16<|c 2<|c 6<|r) n<|l 4<|k 34<|eq<|y (g 9<|f<|l 20<|a 1<|l 7<|l 11<|k 0<|l 19<|c 6<|r) n<|l 4<|k 13<|eq<|y (g 9<|f<|l 20<|a 1<|l 7<|l 11<|k 0<|l 53<|c 6<|r) n<|l 4<|k 21<|eq<|y (g 9<|f<|l 20<|a 1<|l 7<|l 11<|k 0<|k 0<|l 53<|c 7<|r) n<|l 4<|k 32<|eq<|y (g 9<|f<|l 20<|a 1<|l 7<|k 0<|k 0<|l 11<|l 53<|c 7<|r) n<|l 4<|k 22<|eq<|y (g 9<|f<|l 20<|a 1<|k 0<|l 11<|l 19<|c 5<|n) (g 9<|f<|l 20<|a 1<|c 2<|n)<|r,
g 73<|m 67<|c 2<|fo false [1,124] (l 124<|l 25<|eq<|y (l 1<|r) n<|n)<|g 93<|f<|l 25<|c 2<|r,
k 11<|m 125<|g 74<|cm true (l 21<|n) (l 75<|k 15<|l 8<|su<|sr<|k 3<|ba<|tr<|n) [8,21] [75]<|c 3<|r,
l 14<|a 5<|s 5<|l 14<|a 7<|k 0<|eq<|y (l 14<|a 11<|k 0<|eq<|y (k 1<|n) (k 2<|n)<|n) (k 2<|n)<|y (l 14<|a 1<|k 51<|eq<|y (l 5<|k 0<|eq<|y (k 1<|n) (k 2<|n)<|n) (k 2<|n)<|y (k 51<|r) n<|l 14<|a 1<|k 13<|eq<|y (l 5<|k 38<|lt<|y (l 5<|k 10<|ba<|tr<|y (l 5<|k 7<|sr<|tr<|y (k 1<|n) (k 2<|n)<|n) (k 2<|n)<|n) (k 2<|n)<|n) (k 2<|n)<|y (k 52<|g 126<|f<|l 5<|k 7<|sr<|c 2<|ad<|k 6<|ad<|g 126<|f<|l 5<|k 10<|ba<|c 2<|ad<|r) n<|n) n<|k 40<|g 93<|f<|g 76<|f<|l 14<|c 2<|c 2<|ad<|r,
g 92<|f<|l 14<|a 1<|c 2<|a 4<|l 14<|a 1<|l 14<|a 5<|t 3<|rv [4,1,5]<|g 77<|l 14<|a 7<|i<|g 77<|l 14<|a 11<|i<|g 77<|l 14<|a 19<|i<|t 3<|rv [7,11,19]<|l 4<|k 37<|eq<|y (l 1<|v<|p<|k 4<|p<|l 7<|v<|p<|k 6<|p<|l 11<|v<|p<|k 6<|p<|l 19<|v<|p<|j 7<|r) n<|l 4<|k 28<|eq<|y (l 1<|k 41<|eq<|y (k 1<|n) (g 92<|f<|l 1<|c 2<|a 66<|g 167<|eq<|y (k 1<|n) (k 2<|n)<|n)<|y (k 1<|n) (k 2<|n)<|n) (k 2<|n)<|y (l 1<|v<|p<|k 4<|p<|l 7<|v<|p<|k 6<|p<|l 5<|v<|p<|k 19<|p<|l 11<|v<|p<|k 23<|p<|j 8<|r) n<|l 4<|k 28<|k 34<|t 2<|im<|y (l 1<|v<|p<|k 4<|p<|l 7<|v<|p<|k 6<|p<|l 11<|v<|p<|k 6<|p<|l 5<|v<|p<|j 7<|r) n<|l 4<|k 29<|eq<|y (l 1<|v<|p<|k 4<|p<|l 19<|v<|p<|k 6<|p<|l 5<|v<|p<|k 19<|p<|l 11<|v<|p<|k 23<|p<|j 8<|r) n<|l 4<|k 30<|eq<|y (l 1<|v<|p<|k 4<|p<|l 11<|v<|p<|k 6<|p<|l 19<|v<|p<|k 6<|p<|l 5<|v<|p<|j 7<|r) n<|l 4<|k 35<|eq<|y (l 1<|v<|p<|k 4<|p<|l 7<|v<|p<|k 6<|p<|g 93<|f<|l 5<|c 2<|v<|p<|j 5<|r) n<|l 4<|k 31<|eq<|y (l 1<|v<|p<|k 4<|p<|l 7<|v<|p<|k 6<|p<|l 5<|v<|p<|j 5<|r) n<|l 4<|k 21<|eq<|y (l 1<|v<|p<|k 4<|p<|l 7<|v<|p<|k 6<|p<|g 127<|f<|l 14<|a 28<|c 2<|v<|p<|k 6<|p<|l 11<|v<|p<|j 7<|r) n<|l 4<|k 32<|eq<|y (l 1<|v<|p<|k 4<|p<|l 7<|v<|p<|k 6<|p<|g 127<|f<|l 14<|a 28<|c 2<|v<|p<|k 6<|p<|l 5<|v<|p<|j 7<|r) n<|l 4<|k 22<|eq<|y (l 1<|v<|p<|k 4<|p<|l 11<|v<|p<|k 6<|p<|l 19<|v<|p<|j 5<|r) n<|l 4<|k 13<|eq<|y (g 168<|f<|l 14<|c 2<|n) (l 1<|n)<|r,
l 0<|a 1<|l 0<|a 7<|l 0<|a 11<|l 0<|a 19<|l 0<|a 5<|l 0<|a 28<|t 6<|r,
l 2<|fo false [21] (k 17<|g 169<|f<|l 21<|c 2<|c2 .LtE<|y (k 83<|le<|n) (x<|k 2<|n)<|no<|y (l 21<|k 53<|ne<|y (k 1<|n) (k 2<|n)<|n) (k 2<|n)<|y dead n<|n)<|n,
k 0<|s 8<|w (l 8<|g 15<|f<|l 2<|c 2<|lt<|y (l 2<|l 8<|i<|k 85<|ne<|y (k 1<|n) (k 2<|n)<|n) (k 2<|n)<|n) (l 2<|l 8<|i<|g 129<|im<|y (g 94<|f<|l 2<|l 8<|l 22<|c 4<|n) (l 8<|k 3<|ad<|n)<|s 8<|n)<|l 2<|l 8<|sc false true<|m 170<|k 53<|k 4<|c 4<|m 45<|k 4<|c 3<|r,
l 2<|k 11<|eq<|y (li true 0<|r) n<|li true 0<|k 0<|k 0<|t 3<|rv [10,78,8]<|w (l 8<|g 15<|f<|l 2<|c 2<|lt<|n) (l 2<|l 8<|i<|k 86<|eq<|y (l 10<|m 31<|l 2<|l 78<|l 8<|sc true true<|m 45<|k 4<|c 3<|c 3<|x<|l 8<|k 3<|ad<|s 78<|n) n<|l 2<|l 8<|i<|g 129<|im<|y (g 94<|f<|l 2<|l 8<|l 22<|c 4<|n) (l 8<|k 3<|ad<|n)<|s 8<|n)<|l 10<|m 31<|l 2<|l 78<|sc true false<|m 45<|k 4<|c 3<|c 3<|x<|k 11<|l 10<|im<|y dead n<|l 10<|r,
k 42<|l 2<|t 2<|rv [17,35]<|l 2<|k 5<|sc false true<|k 54<|k 87<|k 88<|k 89<|t 4<|im<|y (l 2<|k 3<|i<|k 90<|im<|y (k 9<|n) (k 5<|n)<|l 2<|k 5<|sc true false<|m 130<|c 2<|t 2<|rv [17,35]<|n) n<|k 0<|s 12<|l 35<|fo false [131] (k 55<|m 171<|l 131<|c 3<|s 95<|k 0<|l 95<|c2 .LtE<|y (l 17<|lt<|n) (x<|k 2<|n)<|no<|y dead n<|l 12<|l 17<|mu<|l 95<|ad<|s 12<|n)<|l 35<|k 11<|eq<|y (k 1<|n) (l 17<|k 42<|eq<|y (g 15<|f<|l 35<|c 2<|k 3<|gt<|y (l 35<|k 0<|i<|k 91<|eq<|y (k 1<|n) (k 2<|n)<|n) (k 2<|n)<|n) (k 2<|n)<|y (k 1<|n) (k 2<|n)<|n)<|y dead n<|l 12<|r,
l 24<|k 0<|i<|k 56<|eq<|y (g 173<|f<|l 24<|l 22<|c 3<|s 48<|g 15<|f<|l 48<|c 2<|k 3<|ne<|y dead n<|l 48<|k 0<|i<|r) n<|g 174<|f<|l 24<|l 22<|c 3<|r,
l 2<|k 11<|ne<|ib<|y (l 2<|k 0<|i<|g 96<|ni<|ib<|y (g 97<|f<|l 2<|cm false (l 21<|g 132<|im<|n) (k 1<|n) [21] []<|c 2<|ib<|y (l 2<|k 43<|ne<|n) (k 2<|n)<|n) (k 2<|n)<|n) (k 2<|n)<|r,
g 15<|f<|l 2<|c 2<|k 3<|gt<|ib<|y (l 2<|k 3<|ng<|i<|k 92<|im<|ib<|y (g 97<|f<|l 2<|k 3<|ng<|sc false true<|cm false (l 21<|g 96<|im<|n) (k 1<|n) [21] []<|c 2<|n) (k 2<|n)<|n) (k 2<|n)<|r,
l 2<|l 8<|i<|k 56<|eq<|y (g 94<|f<|l 2<|l 8<|l 22<|c 4<|r) n<|l 8<|s 26<|w (l 26<|g 15<|f<|l 2<|c 2<|lt<|y (l 2<|l 26<|i<|g 132<|im<|y (k 1<|n) (k 2<|n)<|n) (k 2<|n)<|n) (l 26<|k 3<|ip<|s 26<|n)<|l 26<|l 8<|eq<|y dead n<|l 26<|r,
li true 0<|k 3<|k 0<|k 1<|t 4<|sp 4<|s 10<|s 37<|s 8<|s 59<|w (l 8<|g 15<|f<|l 2<|c 2<|lt<|n) (l 2<|l 8<|i<|s 21<|l 21<|k 93<|im<|y (l 59<|tr<|no<|y (k 3<|k 1<|t 2<|sp 2<|s 37<|s 59<|n) n<|l 21<|k 94<|eq<|y (l 37<|ng<|n) (l 37<|n)<|s 37<|l 8<|k 3<|ip<|s 8<|n) (l 21<|k 4<|eq<|y (l 8<|k 3<|ip<|s 8<|n) (l 59<|tr<|no<|y dead (g 172<|f<|l 2<|l 8<|l 22<|c 4<|s 26<|l 10<|m 31<|l 37<|l 2<|l 8<|l 26<|sc true true<|t 2<|c 3<|x<|k 3<|l 26<|k 2<|t 3<|rv [37,8,59]<|n)<|n)<|n)<|n)<|l 59<|tr<|y dead n<|l 10<|r,
g 133<|f<|l 2<|l 22<|c 3<|fo false [37,24] (l 24<|k 43<|eq<|y (k 1<|n) (g 98<|f<|l 24<|c 2<|tr<|y (k 1<|n) (g 134<|f<|l 24<|c 2<|tr<|y (k 1<|n) (k 2<|n)<|n)<|n)<|y (k 1<|r) n<|n)<|k 2<|r,
l 24<|k 43<|eq<|y (l 0<|m 143<|l 3<|c 3<|r) n<|l 24<|l 0<|a 23<|a 68<|im<|y (l 0<|m 61<|l 0<|a 23<|a 68<|l 24<|i<|c 3<|r) n<|l 24<|l 0<|a 23<|a 69<|im<|y (l 70<|k 100<|gt<|y dead n<|l 0<|a 23<|a 69<|l 24<|i<|sp 2<|s 2<|s 144<|l 0<|m 12<|l 2<|l 144<|l 70<|k 3<|ad<|c 5<|r) n<|g 134<|f<|l 24<|c 2<|tr<|y (l 0<|m 196<|l 24<|l 3<|c 4<|r) n<|g 98<|f<|l 24<|c 2<|tr<|y dead n<|g 197<|f<|l 24<|l 3<|a 22<|c 3<|r,
l 2<|k 7<|sc false true<|k 97<|k 98<|t 2<|im<|y (l 2<|k 3<|ng<|i<|k 23<|eq<|y (k 1<|n) (k 2<|n)<|n) (k 2<|n)<|y (l 0<|m 12<|l 2<|k 7<|k 3<|ng<|sc true true<|m 45<|k 4<|c 3<|l 3<|l 70<|c 5<|s 12<|l 2<|k 3<|i<|k 99<|eq<|y (g 194<|f<|l 12<|c 2<|n) (g 195<|f<|l 12<|c 2<|n)<|r) n<|g 142<|f<|g 133<|f<|l 2<|l 3<|a 22<|c 3<|cm false (l 37<|l 0<|m 24<|l 24<|l 3<|l 70<|c 5<|mu<|n) (k 1<|n) [37,24] [70,3,0]<|c 2<|r,
l 2<|g 107<|ni<|y dead n<|g 107<|l 2<|i<|r,
l 0<|m 12<|l 2<|l 3<|c 4<|s 12<|g 198<|f<|l 2<|l 3<|a 22<|c 3<|tr<|y (l 12<|l 0<|m 143<|l 3<|c 3<|su<|n) (l 12<|n)<|r,
l 2<|g 73<|im<|y (g 73<|l 2<|i<|n) (l 0<|m 12<|l 2<|l 3<|c 4<|n)<|r,
l 2<|k 11<|eq<|y (k 1<|n) (g 200<|f<|l 2<|cm false (l 21<|g 74<|ni<|n) (k 1<|n) [21] []<|c 2<|tr<|y (k 1<|n) (k 2<|n)<|n)<|y dead n<|g 142<|f<|g 74<|cm false (k 3<|k 15<|g 74<|m 101<|l 21<|c 3<|su<|sl<|n) (l 21<|l 2<|im<|n) [21] [2]<|c 2<|r,
l 63<|l 109<|ne<|y dead n<|n,
l 2<|k 3<|ng<|i<|k 23<|ne<|y (k 1<|n) (k 19<|l 2<|ni<|y (k 1<|n) (k 2<|n)<|n)<|y dead n<|l 2<|m 199<|k 19<|c 3<|s 8<|l 2<|l 8<|sc false true<|m 45<|k 4<|c 3<|s 50<|l 50<|k 11<|eq<|y (k 0<|n) (l 0<|m 12<|l 50<|l 3<|c 4<|n)<|l 0<|m 33<|l 2<|l 8<|k 3<|ad<|k 3<|ng<|sc true true<|m 45<|k 4<|c 3<|l 3<|c 4<|t 2<|r,
l 1<|k 64<|eq<|y (g 15<|f<|l 6<|c 2<|k 3<|eq<|y (k 1<|n) (k 2<|n)<|n) (k 2<|n)<|y (g 9<|f<|l 1<|k 3<|k 0<|k 0<|l 0<|m 108<|l 6<|k 0<|i<|l 3<|c 4<|c 6<|r) n<|l 0<|m 56<|g 15<|f<|l 6<|c 2<|k 5<|l 3<|c 5<|x<|l 0<|m 33<|l 6<|k 0<|i<|l 3<|c 4<|s 30<|l 4<|k 29<|eq<|y (l 0<|m 145<|l 6<|k 3<|i<|l 3<|c 4<|sp 2<|s 25<|s 17<|g 9<|f<|l 1<|k 0<|l 17<|l 30<|l 25<|c 6<|r) n<|l 4<|k 31<|eq<|y (g 9<|f<|l 1<|l 30<|k 0<|k 0<|l 0<|m 108<|l 6<|k 3<|i<|l 3<|c 4<|c 6<|r) n<|g 9<|f<|l 1<|l 30<|k 0<|k 0<|l 0<|m 12<|l 6<|k 3<|i<|l 3<|c 4<|c 6<|r,
l 1<|k 41<|eq<|y (g 15<|f<|l 6<|c 2<|k 3<|eq<|y (k 19<|l 6<|k 0<|i<|ni<|y (k 1<|n) (k 2<|n)<|n) (k 2<|n)<|n) (k 2<|n)<|y (g 9<|f<|l 1<|k 3<|l 0<|m 33<|l 6<|k 0<|i<|l 3<|c 4<|k 0<|k 0<|c 6<|r) n<|l 1<|g 204<|im<|y (k 1<|n) (l 1<|k 41<|eq<|y (g 15<|f<|l 6<|c 2<|k 5<|eq<|y (k 1<|n) (k 2<|n)<|n) (k 2<|n)<|y (k 1<|n) (k 2<|n)<|n)<|y (l 0<|m 56<|g 15<|f<|l 6<|c 2<|k 5<|l 3<|c 5<|x<|l 0<|m 145<|l 6<|k 3<|i<|l 3<|c 4<|sp 2<|s 25<|s 17<|g 9<|f<|l 1<|l 0<|m 33<|l 6<|k 0<|i<|l 3<|c 4<|l 17<|k 0<|l 25<|c 6<|r) n<|l 0<|m 56<|g 15<|f<|l 6<|c 2<|k 15<|l 3<|c 5<|x<|l 0<|m 33<|l 6<|k 0<|i<|l 3<|c 4<|l 0<|m 33<|l 6<|k 3<|i<|l 3<|c 4<|t 2<|rv [7,11]<|g 9<|f<|l 1<|l 7<|l 11<|k 0<|l 0<|m 12<|l 6<|k 5<|i<|l 3<|c 4<|c 6<|r,
l 4<|k 22<|eq<|y (g 15<|f<|l 6<|c 2<|k 5<|le<|y (k 1<|n) (k 2<|n)<|n) (k 2<|n)<|y (l 6<|cm false (l 0<|m 33<|l 2<|l 3<|c 4<|n) (k 1<|n) [2] [3,0]<|k 0<|k 0<|li false 2<|ad<|s 58<|g 9<|f<|l 1<|k 0<|l 58<|k 0<|i<|l 58<|k 3<|i<|c 5<|r) n<|l 1<|k 13<|eq<|y (g 15<|f<|l 6<|c 2<|k 5<|eq<|y (k 1<|n) (k 2<|n)<|n) (k 2<|n)<|y (l 0<|m 146<|l 6<|k 0<|i<|l 3<|c 4<|l 0<|m 146<|l 6<|k 3<|i<|l 3<|c 4<|t 2<|rv [30,40]<|g 9<|f<|l 1<|k 0<|k 0<|k 0<|l 30<|k 7<|sl<|l 40<|bo<|c 6<|r) n<|l 0<|m 56<|g 15<|f<|l 6<|c 2<|k 0<|l 3<|c 5<|x<|l 1<|k 13<|eq<|y (g 9<|f<|l 1<|k 0<|k 0<|k 0<|k 27<|c 6<|n) (g 9<|f<|l 1<|c 2<|n)<|r,
g 137<|l 1<|i<|g 15<|f<|l 6<|c 2<|t 2<|rv [4,63]<|l 4<|k 37<|k 30<|k 21<|k 32<|t 4<|im<|y (l 0<|m 56<|l 63<|k 15<|l 3<|c 5<|x<|n) n<|l 4<|k 37<|eq<|y (l 6<|cm false (l 0<|m 33<|l 2<|l 3<|c 4<|n) (k 1<|n) [2] [3,0]<|sp 3<|s 7<|s 11<|s 19<|g 9<|f<|l 1<|l 7<|l 11<|l 19<|c 5<|r) n<|l 4<|k 30<|eq<|y (l 0<|m 33<|l 6<|k 0<|i<|l 3<|c 4<|l 0<|m 33<|l 6<|k 3<|i<|l 3<|c 4<|t 2<|rv [11,19]<|g 9<|f<|l 1<|k 0<|l 11<|l 19<|l 0<|m 108<|l 6<|k 5<|i<|l 3<|c 4<|c 6<|r) n<|l 4<|k 21<|k 32<|t 2<|im<|y (l 0<|m 33<|l 6<|k 0<|i<|l 3<|c 4<|l 0<|m 28<|l 6<|k 3<|i<|l 3<|c 4<|t 2<|rv [7,25]<|l 4<|k 21<|eq<|y (g 9<|f<|l 1<|l 7<|l 0<|m 33<|l 6<|k 5<|i<|l 3<|c 4<|k 0<|k 0<|l 25<|c 7<|r) n<|g 9<|f<|l 1<|l 7<|k 0<|k 0<|l 0<|m 12<|l 6<|k 5<|i<|l 3<|c 4<|l 25<|c 7<|r) n<|l 4<|k 35<|k 31<|k 29<|t 3<|im<|y (l 0<|m 201<|l 1<|l 4<|l 6<|l 3<|c 6<|r) n<|l 4<|k 28<|k 34<|t 2<|im<|y (l 0<|m 202<|l 1<|l 6<|l 3<|c 5<|r) n<|l 0<|m 203<|l 1<|l 4<|l 6<|l 3<|c 6<|r,
g 104<|f<|g 34<|f<|l 189<|c 2<|cm false (l 12<|k 12<|l 8<|mu<|sr<|k 27<|ba<|n) (k 1<|n) [8] [12]<|c 2<|r,
l 3<|a 1<|l 3<|a 6<|t 2<|sp 2<|s 1<|s 6<|l 1<|k 63<|eq<|y (l 0<|m 12<|l 6<|k 3<|i<|l 3<|c 4<|s 12<|g 136<|f<|l 0<|m 33<|l 6<|k 0<|i<|l 3<|c 4<|l 12<|l 3<|a 49<|k 12<|eq<|l 3<|a 22<|c 5<|r) n<|l 1<|g 103<|im<|y (l 0<|m 83<|l 1<|l 6<|l 3<|c 5<|r) n<|l 1<|g 102<|im<|y (g 102<|l 1<|i<|s 110<|dead) n<|l 0<|m 205<|l 1<|l 6<|l 3<|c 5<|li false 1<|r,
g 80<|l 3<|a 1<|i<|k 65<|t 2<|rv [49,10]<|l 3<|a 6<|fo false [2] (l 0<|m 12<|l 2<|l 3<|c 4<|s 12<|k 3<|ng<|k 12<|l 49<|mu<|k 3<|su<|sl<|l 12<|c2 .LtE<|y (k 3<|k 12<|l 49<|mu<|sl<|lt<|n) (x<|k 2<|n)<|no<|y dead n<|l 10<|g 147<|f<|l 12<|l 49<|c 3<|ad<|s 10<|n)<|l 10<|r,
l 3<|a 1<|g 80<|im<|y (l 0<|m 90<|l 3<|c 3<|r) n<|l 3<|a 1<|k 60<|k 61<|k 62<|t 3<|im<|y (l 0<|a 23<|m 135<|l 3<|c 3<|r) n<|l 3<|a 1<|k 57<|k 58<|k 59<|t 3<|im<|y (l 0<|m 206<|l 3<|c 3<|r) n<|k 65<|s 10<|l 0<|m 207<|l 3<|c 3<|fo false [14] (l 10<|g 147<|f<|g 76<|f<|l 14<|c 2<|k 7<|c 3<|ad<|s 10<|n)<|l 10<|r,
l 22<|l 0<|sa 22<|x<|l 60<|l 0<|sa 60<|x<|l 1<|l 0<|sa 1<|x<|l 6<|l 0<|sa 6<|x<|l 38<|l 0<|sa 38<|x<|l 99<|l 0<|sa 99<|x<|k 0<|l 0<|sa 49<|x<|n,
l 3<|a 1<|s 1<|l 1<|k 57<|k 58<|k 59<|t 3<|im<|y (l 0<|m 188<|l 3<|c 3<|r) n<|l 0<|a 38<|g 39<|eq<|y dead n<|l 1<|g 80<|im<|y (g 15<|f<|l 3<|a 6<|c 2<|k 0<|eq<|y dead n<|g 80<|l 1<|i<|g 15<|f<|l 3<|a 6<|c 2<|mu<|r) n<|l 1<|k 60<|k 61<|k 62<|t 3<|im<|y (g 15<|f<|l 0<|m 135<|l 3<|c 3<|c 2<|r) n<|l 1<|k 63<|eq<|y (l 3<|m 56<|k 5<|k 5<|c 4<|x<|l 0<|m 81<|l 3<|a 6<|k 3<|i<|l 3<|a 22<|k 0<|c 5<|s 12<|l 12<|k 36<|is<|y (k 12<|n) (k 7<|g 15<|f<|g 136<|f<|k 0<|l 12<|k 2<|l 3<|a 22<|c 5<|c 2<|mu<|n)<|r) n<|l 1<|g 137<|ni<|y (l 1<|g 102<|ni<|y (l 1<|g 103<|ni<|y (k 1<|n) (k 2<|n)<|n) (k 2<|n)<|n) (k 2<|n)<|y dead n<|l 1<|g 103<|im<|y (k 12<|n) (k 7<|n)<|r,
l 0<|m 187<|l 3<|c 3<|l 3<|sa 49<|x<|l 0<|a 100<|m 31<|l 3<|c 3<|x<|l 0<|a 54<|l 0<|a 38<|du 2<|sd<|l 3<|a 49<|ip<|ro 2<|st<|x<|n,
w (k 44<|l 2<|im<|n) (l 2<|l 2<|m 101<|k 44<|c 3<|sc false true<|m 45<|k 4<|c 3<|s 50<|g 98<|f<|l 50<|c 2<|tr<|no<|y (l 50<|k 11<|ne<|y (g 97<|f<|l 50<|cm false (l 21<|g 96<|im<|n) (k 1<|n) [21] []<|c 2<|tr<|y (k 1<|n) (k 2<|n)<|n) (k 2<|n)<|no<|y (k 1<|n) (k 2<|n)<|n) (k 2<|n)<|y (brk) n<|l 0<|m 180<|l 50<|l 22<|c 4<|x<|l 2<|l 2<|m 101<|k 44<|c 3<|k 3<|ad<|sc true false<|m 45<|k 4<|c 3<|s 2<|n)<|l 2<|k 11<|eq<|y (k 36<|r) n<|l 2<|m 32<|k 4<|c 3<|k 0<|i<|s 1<|g 181<|f<|l 2<|g 15<|f<|l 1<|c 2<|sc true false<|m 45<|k 4<|c 3<|l 22<|c 3<|s 6<|l 0<|du 1<|a 60<|k 3<|ip<|ro 1<|sa 60<|x<|g 182<|f<|l 22<|l 0<|a 60<|l 1<|m 130<|c 2<|l 6<|l 0<|a 38<|l 0<|a 54<|l 0<|a 38<|i<|c 7<|s 3<|l 3<|a 1<|g 183<|im<|y (l 3<|m 56<|k 0<|k 0<|c 4<|x<|l 3<|a 1<|l 0<|sa 38<|x<|n) (l 3<|a 1<|g 184<|im<|y (l 0<|m 185<|l 3<|c 3<|x<|n) (l 0<|m 186<|l 3<|c 3<|x<|n)<|n)<|n,
g 46<|k 0<|g 47<|k 0<|g 39<|k 0<|d true 6<|l 0<|sa 54<|x<|g 46<|k 7<|g 47<|k 7<|g 39<|k 7<|d true 6<|l 0<|sa 79<|x<|g 46<|l 0<|sa 38<|x<|d false 0<|l 0<|sa 68<|x<|d false 0<|l 0<|sa 176<|x<|d false 0<|l 0<|sa 69<|x<|li true 0<|l 0<|sa 55<|x<|li true 0<|l 0<|sa 100<|x<|k 0<|l 0<|sa 60<|x<|l 23<|m 32<|k 95<|c 3<|fo true [61,2] (g 177<|f<|l 2<|l 61<|k 3<|ad<|c 3<|x<|l 0<|m 178<|g 179<|f<|l 2<|l 61<|k 3<|ad<|c 3<|l 61<|k 3<|ad<|c 4<|x<|n)<|l 0<|a 55<|fo false [1,22] (l 1<|l 0<|a 68<|ni<|y (l 1<|l 0<|a 69<|ni<|y (k 1<|n) (k 2<|n)<|n) (k 2<|n)<|y dead n<|n)<|n,
l 25<|l 25<|ng<|l 62<|md<|ad<|r,
l 23<|l 0<|sa 23<|x<|g 46<|l 17<|d true 2<|l 0<|sa 17<|x<|l 17<|l 23<|a 79<|g 46<|i<|md<|k 0<|ne<|y dead n<|g 140<|f<|l 17<|l 23<|a 54<|g 46<|i<|ad<|g 193<|f<|l 62<|l 23<|a 79<|g 47<|i<|c 3<|c 3<|l 0<|a 17<|g 47<|st<|x<|g 140<|f<|l 0<|a 17<|g 47<|i<|l 23<|a 54<|g 47<|i<|ad<|l 23<|a 79<|g 39<|i<|c 3<|l 0<|a 17<|g 39<|st<|x<|l 17<|k 0<|lt<|y (k 1<|n) (l 0<|a 17<|g 39<|i<|l 23<|a 54<|g 39<|i<|ad<|g 141<|gt<|y (k 1<|n) (k 2<|n)<|n)<|y dead n<|g 46<|g 106<|f<|c 1<|g 47<|g 106<|f<|c 1<|g 39<|g 106<|f<|c 1<|d true 6<|l 0<|sa 29<|x<|n,
l 2<|l 0<|sa 2<|x<|l 138<|l 0<|sa 138<|x<|l 82<|l 0<|sa 82<|x<|l 105<|sp 3<|l 0<|sa 139<|x<|l 0<|sa 190<|x<|l 0<|sa 191<|x<|l 57<|l 0<|sa 57<|x<|l 55<|l 0<|sa 55<|x<|l 57<|m 123<|k 96<|l 0<|a 139<|c 4<|l 0<|sa 192<|x<|n,
l 0<|a 23<|a 100<|fo false [3] (l 0<|a 29<|l 3<|a 38<|i<|m 208<|l 0<|m 48<|l 3<|c 3<|c 3<|x<|n)<|d false 0<|s 57<|l 0<|a 23<|a 68<|m 67<|c 2<|fo false [1,8] (l 0<|m 61<|l 8<|c 3<|l 57<|l 1<|st<|x<|n)<|l 0<|a 23<|a 69<|m 67<|c 2<|fo false [1,110] (l 0<|m 12<|l 1<|l 110<|k 3<|i<|c 4<|g 141<|k 3<|su<|ba<|l 57<|l 1<|st<|x<|n)<|g 111<|f<|l 0<|a 23<|a 55<|cm false (l 1<|n) (k 1<|n) [1,22] []<|c 2<|s 55<|l 0<|a 17<|g 46<|i<|l 0<|a 17<|g 47<|i<|l 0<|a 17<|g 39<|i<|t 3<|s 105<|l 0<|a 23<|a 54<|g 39<|i<|s 82<|g 209<|f<|g 104<|f<|l 0<|a 29<|g 46<|i<|c 2<|g 104<|f<|l 0<|a 29<|g 47<|i<|c 2<|l 82<|l 105<|l 57<|l 55<|c 7<|r,
l 62<|k 3<|lt<|y (k 1<|n) (l 62<|l 62<|k 3<|su<|ba<|k 0<|ne<|y (k 1<|n) (k 2<|n)<|n)<|y dead n<|g 210<|f<|g 211<|f<|l 23<|c 2<|l 17<|l 62<|c 4<|m 212<|c 2<|r,
k 101<|k 0<|t 2<|sp 2<|s 84<|s 85<|l 112<|k 102<|sc false true<|fo false [86] (l 84<|k 66<|mu<|l 86<|k 103<|mu<|ad<|k 18<|ad<|k 104<|md<|s 84<|l 85<|k 0<|eq<|y (g 148<|f<|l 86<|c 2<|k 42<|k 105<|pw<|ge<|y (k 1<|n) (k 2<|n)<|n) (k 2<|n)<|y (g 148<|f<|l 86<|c 2<|s 85<|n) n<|n)<|l 85<|l 84<|k 0<|li true 3<|r,
l 13<|k 0<|i<|k 0<|gt<|y (l 13<|k 0<|i<|l 63<|md<|s 149<|l 13<|k 0<|i<|l 63<|fd<|l 13<|k 0<|st<|x<|l 149<|r) n<|l 13<|k 5<|i<|k 3<|ad<|l 13<|k 5<|st<|x<|l 13<|k 3<|i<|k 106<|l 13<|k 5<|i<|mu<|ad<|k 67<|ad<|k 26<|pw<|k 107<|md<|s 150<|l 150<|k 66<|mu<|k 108<|l 13<|k 5<|i<|mu<|ad<|k 15<|pw<|k 109<|md<|k 110<|fd<|l 63<|md<|r,
k 11<|s 35<|w (l 12<|k 0<|gt<|y (k 1<|n) (l 35<|k 11<|eq<|y (k 1<|n) (k 2<|n)<|n)<|n) (k 55<|l 12<|k 9<|md<|i<|l 35<|ad<|l 12<|k 9<|fd<|t 2<|rv [35,12]<|n)<|k 54<|l 35<|ad<|r,
k 11<|m 125<|g 34<|f<|k 7<|c 2<|cm false (k 140<|k 141<|k 142<|k 143<|li false 4<|l 18<|i<|n) (l 75<|k 5<|k 15<|l 18<|su<|pw<|fd<|k 5<|md<|k 3<|eq<|n) [18] [75]<|c 3<|r,
k 123<|k 124<|k 125<|k 126<|k 127<|k 128<|k 129<|k 130<|k 131<|k 132<|li false 10<|g 34<|f<|k 12<|c 2<|cm false (k 133<|g 41<|f<|l 18<|c 2<|ad<|n) (k 1<|n) [18] []<|ad<|s 10<|l 10<|g 34<|f<|k 5<|k 16<|c 3<|cm false (k 134<|g 41<|f<|l 18<|c 2<|ad<|n) (k 1<|n) [18] []<|ad<|g 34<|f<|k 15<|k 18<|c 3<|cm false (k 135<|g 41<|f<|l 18<|c 2<|ad<|n) (k 1<|n) [18] []<|ad<|r,
k 136<|s 2<|l 2<|k 137<|ad<|s 2<|l 2<|k 138<|ad<|s 2<|l 2<|k 139<|ad<|s 2<|l 2<|m 32<|k 4<|c 3<|s 71<|g 34<|f<|k 0<|g 15<|f<|l 71<|c 2<|k 5<|c 4<|cm false (g 117<|f<|l 71<|l 18<|i<|c 2<|l 71<|l 18<|k 3<|ad<|i<|t 2<|n) (k 1<|n) [18] [71]<|r,
k 13<|k 13<|li true 1<|t 2<|k 68<|k 111<|m 32<|k 4<|c 3<|t 2<|li true 2<|s 10<|l 10<|m 31<|k 45<|k 112<|m 32<|k 4<|c 3<|t 2<|c 3<|x<|l 10<|m 31<|k 69<|k 113<|m 32<|k 4<|c 3<|t 2<|c 3<|x<|l 10<|m 31<|k 70<|k 114<|m 32<|k 4<|c 3<|t 2<|c 3<|x<|l 10<|m 31<|k 71<|k 115<|m 32<|k 4<|c 3<|t 2<|c 3<|x<|l 10<|m 31<|k 72<|k 116<|m 32<|k 4<|c 3<|t 2<|c 3<|x<|l 10<|m 31<|k 73<|k 117<|m 32<|k 4<|c 3<|t 2<|c 3<|x<|l 10<|m 31<|k 74<|k 64<|li true 1<|t 2<|c 3<|x<|l 10<|m 31<|k 25<|k 118<|m 32<|k 4<|c 3<|t 2<|c 3<|x<|l 10<|m 31<|k 75<|k 119<|m 32<|k 4<|c 3<|t 2<|c 3<|x<|l 10<|k 22<|k 120<|li true 1<|t 2<|k 121<|k 122<|m 32<|k 4<|c 3<|t 2<|li true 2<|ad<|r,
k 9<|k 12<|k 10<|k 3<|g 27<|f<|l 13<|k 9<|c 3<|li false 4<|g 27<|f<|l 13<|k 7<|c 3<|i<|mu<|k 7<|k 10<|k 0<|g 27<|f<|l 13<|k 9<|c 3<|li false 4<|g 27<|f<|l 13<|k 7<|c 3<|i<|ad<|s 5<|g 27<|f<|l 13<|k 7<|c 3<|s 151<|l 151<|k 15<|eq<|y (g 27<|f<|l 13<|k 17<|c 3<|g 27<|f<|l 13<|k 17<|c 3<|l 5<|k 38<|g 27<|f<|l 13<|k 9<|c 3<|mu<|ad<|t 3<|rv [7,11,5]<|g 9<|f<|k 13<|l 7<|l 11<|k 0<|l 5<|c 6<|s 29<|l 7<|k 0<|gt<|y (k 1<|n) (l 11<|k 0<|gt<|y (k 1<|n) (l 5<|k 27<|gt<|y (k 1<|n) (l 5<|k 9<|md<|k 0<|eq<|y (k 1<|n) (l 5<|k 9<|lt<|y (k 1<|n) (k 2<|n)<|n)<|n)<|n)<|n)<|y (l 29<|k 40<|g 87<|f<|l 5<|k 5<|k 8<|pw<|mu<|l 11<|k 5<|k 10<|pw<|mu<|ad<|l 7<|k 5<|k 18<|pw<|mu<|ad<|k 10<|ad<|c 2<|ad<|t 2<|r) n<|n) n<|g 9<|f<|k 13<|k 0<|k 0<|k 0<|l 5<|c 6<|s 29<|l 5<|k 9<|md<|k 0<|eq<|y (k 1<|n) (l 5<|k 9<|lt<|y (k 1<|n) (k 2<|n)<|n)<|y (l 29<|k 40<|g 87<|f<|l 5<|k 5<|k 8<|pw<|mu<|k 10<|ad<|c 2<|ad<|t 2<|r) n<|l 29<|k 52<|g 152<|f<|l 5<|k 9<|fd<|c 2<|ad<|k 6<|ad<|g 152<|f<|l 5<|k 9<|md<|c 2<|ad<|t 2<|r,
l 4<|k 13<|eq<|y (g 213<|f<|l 13<|c 2<|r) n<|g 34<|f<|k 15<|c 2<|cm false (g 27<|f<|l 13<|k 17<|c 3<|n) (k 1<|n) [18] [13]<|g 27<|f<|l 13<|k 5<|k 8<|pw<|c 3<|li false 1<|ad<|sp 4<|s 7<|s 36<|s 64<|s 65<|l 65<|k 20<|md<|k 39<|su<|k 39<|ng<|k 144<|k 0<|li false 4<|g 27<|f<|l 13<|k 7<|c 3<|i<|s 51<|k 5<|l 65<|mu<|k 5<|k 8<|pw<|su<|k 5<|k 8<|pw<|ng<|k 5<|k 8<|pw<|k 5<|su<|k 0<|li false 4<|g 27<|f<|l 13<|k 7<|c 3<|i<|s 83<|l 52<|l 7<|i<|l 52<|l 36<|i<|l 52<|l 64<|i<|t 3<|rv [30,40,42]<|l 4<|k 68<|eq<|y (g 9<|f<|l 1<|l 7<|l 36<|l 64<|c 5<|l 1<|k 4<|ad<|l 30<|ad<|k 6<|ad<|l 40<|ad<|k 6<|ad<|l 42<|ad<|t 2<|r) n<|l 4<|k 45<|k 69<|li false 2<|im<|y (l 4<|k 45<|eq<|y (l 51<|n) (l 65<|k 17<|md<|n)<|s 5<|g 9<|f<|l 1<|l 7<|l 36<|k 0<|l 5<|c 6<|l 1<|k 4<|ad<|l 30<|ad<|k 6<|ad<|l 40<|ad<|k 6<|ad<|g 41<|f<|l 5<|c 2<|ad<|t 2<|r) n<|l 4<|k 70<|eq<|y (g 9<|f<|l 1<|l 7<|l 36<|k 0<|l 51<|c 6<|l 1<|k 4<|ad<|l 30<|ad<|k 6<|ad<|g 41<|f<|l 51<|c 2<|ad<|k 19<|ad<|l 40<|ad<|k 23<|ad<|t 2<|r) n<|l 4<|k 71<|eq<|y (g 9<|f<|l 1<|k 0<|l 36<|l 64<|l 51<|c 6<|l 1<|k 4<|ad<|l 42<|ad<|k 6<|ad<|g 41<|f<|l 51<|c 2<|ad<|k 19<|ad<|l 40<|ad<|k 23<|ad<|t 2<|r) n<|l 4<|k 72<|eq<|y (g 9<|f<|l 1<|k 0<|l 36<|l 64<|l 51<|k 5<|fd<|k 5<|mu<|c 6<|l 1<|k 4<|ad<|l 40<|ad<|k 6<|ad<|l 42<|ad<|k 6<|ad<|g 41<|f<|l 51<|k 5<|fd<|k 5<|mu<|c 2<|ad<|t 2<|r) n<|l 4<|k 73<|eq<|y (g 9<|f<|l 1<|l 7<|k 0<|k 0<|l 65<|c 6<|l 1<|k 4<|ad<|l 30<|ad<|k 6<|ad<|g 87<|f<|l 65<|c 2<|ad<|t 2<|r) n<|l 4<|k 74<|eq<|y (g 9<|f<|l 1<|l 7<|k 0<|k 0<|l 83<|c 6<|l 1<|k 4<|ad<|l 30<|ad<|k 6<|ad<|g 41<|f<|l 83<|c 2<|ad<|t 2<|r) n<|l 4<|k 25<|k 75<|li false 2<|im<|y (g 153<|f<|c 1<|s 58<|g 27<|f<|l 13<|k 15<|c 3<|k 0<|gt<|y (l 58<|g 27<|f<|l 13<|g 15<|f<|l 58<|c 2<|c 3<|i<|k 0<|i<|n) (g 27<|f<|l 13<|k 20<|c 3<|n)<|s 28<|l 58<|cm false (l 88<|n) (l 89<|l 28<|eq<|n) [89,88] [28]<|g 87<|f<|l 28<|c 2<|li false 1<|ad<|s 81<|l 4<|k 25<|eq<|y (g 9<|f<|l 1<|l 7<|l 36<|k 0<|k 0<|l 28<|c 7<|l 1<|k 4<|ad<|l 30<|ad<|k 6<|ad<|l 81<|k 0<|i<|ad<|k 6<|ad<|l 40<|ad<|t 2<|r) n<|g 9<|f<|l 1<|l 7<|k 0<|k 0<|l 36<|l 28<|c 7<|l 1<|k 4<|ad<|l 30<|ad<|k 6<|ad<|l 81<|k 0<|i<|ad<|k 6<|ad<|g 41<|f<|l 36<|c 2<|ad<|t 2<|r) n<|l 4<|k 22<|eq<|y (g 9<|f<|l 1<|k 0<|l 36<|l 64<|c 5<|l 1<|k 4<|ad<|l 40<|ad<|k 6<|ad<|l 42<|ad<|t 2<|r) n<|g 9<|f<|l 1<|c 2<|l 1<|t 2<|r,
g 214<|f<|l 112<|c 2<|g 215<|f<|c 1<|g 216<|f<|c 1<|t 3<|sp 3<|s 13<|s 52<|s 154<|g 217<|f<|g 77<|c 2<|l 52<|ne<|y (k 1<|n) (g 111<|f<|g 73<|m 67<|c 2<|c 2<|g 111<|f<|g 153<|f<|c 1<|cm false (l 88<|l 89<|t 2<|n) (k 1<|n) [89,88] []<|c 2<|ne<|y (k 1<|n) (k 2<|n)<|n)<|y (k 2<|r) n<|g 218<|f<|g 34<|f<|k 17<|c 2<|cm false (l 52<|l 18<|i<|l 18<|t 2<|n) (k 1<|n) [18] [52]<|g 34<|f<|k 17<|c 2<|cm false (k 145<|g 41<|f<|l 18<|c 2<|ad<|l 18<|t 2<|n) (k 1<|n) [18] []<|ad<|k 146<|k 12<|t 2<|li false 1<|ad<|c 2<|s 109<|g 107<|l 109<|ne<|y (k 2<|r) n<|g 34<|f<|k 5<|g 219<|f<|k 5<|g 15<|f<|l 112<|c 2<|mu<|k 8<|c 3<|ad<|c 2<|fo false [220] (l 154<|g 27<|f<|l 13<|k 67<|c 3<|i<|sp 2<|s 4<|s 113<|g 221<|f<|l 13<|l 4<|l 113<|g 27<|f<|l 13<|g 15<|f<|l 113<|c 2<|c 3<|i<|l 52<|c 5<|sp 2<|s 29<|s 2<|g 222<|f<|l 29<|c 2<|l 2<|ne<|y (k 1<|n) (g 223<|f<|g 76<|f<|l 29<|c 2<|c 2<|m 155<|c 2<|l 29<|m 155<|c 2<|ne<|y (k 1<|n) (k 2<|n)<|n)<|y (k 2<|r) n<|g 224<|f<|l 2<|k 7<|g 27<|f<|l 13<|k 147<|c 3<|mu<|c 3<|a 2<|s 48<|g 34<|f<|k 7<|c 2<|cm false (l 48<|l 18<|i<|n) (k 1<|n) [18] [48]<|g 34<|f<|k 7<|c 2<|cm false (g 76<|f<|l 29<|c 2<|k 38<|l 18<|pw<|fd<|k 38<|md<|n) (k 1<|n) [18] [29]<|ne<|y (k 1<|n) (g 15<|f<|l 48<|c 2<|k 7<|ne<|y (k 1<|n) (k 2<|n)<|n)<|y (k 2<|r) n<|n)<|k 1<|r])
 (fun i r=>.o (.cst (at_ .none T i)) 0 r)
 (fun i r=>.o (.glo (nn i)) 0 r)
 (fun i r=>.o (.att (nn i)) 1 r)
 (fun i r=>.o (.sta (nn i)) 2 r)
 (fun i r=>.loc (nn i) r)
 (fun i r=>.set (nn i) r)
 (fun i r=>.mth (nn i) r)
 (fun a b r=>.o (.slc a b) (cond a 2 1+cond b 1 0) r)
 (fun i r=>.o .tup i r)
 (fun i r=>.o .join i r)
 (fun b i r=>.o (.lst b) i r)
 (fun b i r=>.o (.dct b) i r)
 (fun xs r=>.rev (xs.map nn) r)
 (fun b e t xs ys r=>.comp b e t (xs.map nn) (ys.map nn) r)
 (fun b xs e r=>.for b (xs.map nn) e r)
 (fun a b r=>.ite a b r)
 (fun a b r=>.whl a b r)
 (fun i r=>.spl i r)
 (fun i r=>.call i r)
 (fun i r=>.dup i r)
 (fun i r=>.rot i r)
 (fun r=>.drop r)
 (fun r=>.fnk r)
 (fun o r=>.cmp2 o r)
 (.n)
 (.ret)
 (.dead)
 (.brk)
 (.cnt)
 (fun r=>.o (.bin .Sub) 2 r)
 (fun r=>.o (.bin .Mult) 2 r)
 (fun r=>.o (.bin .FloorDiv) 2 r)
 (fun r=>.o (.bin .Mod) 2 r)
 (fun r=>.o (.bin .LShift) 2 r)
 (fun r=>.o (.bin .RShift) 2 r)
 (fun r=>.o (.bin .BitAnd) 2 r)
 (fun r=>.o (.bin .BitOr) 2 r)
 (fun r=>.o (.bin .Pow) 2 r)
 (fun r=>.o (.bin .Add) 2 r)
 (fun r=>.o (.cmp .Lt) 2 r)
 (fun r=>.o (.cmp .LtE) 2 r)
 (fun r=>.o (.cmp .Gt) 2 r)
 (fun r=>.o (.cmp .GtE) 2 r)
 (fun r=>.o (.cmp .Eq) 2 r)
 (fun r=>.o (.cmp .NotEq) 2 r)
 (fun r=>.o (.cmp .Is) 2 r)
 (fun r=>.o (.cmp .IsNot) 2 r)
 (fun r=>.o (.cmp .In) 2 r)
 (fun r=>.o (.cmp .NotIn) 2 r)
 (fun r=>.o .sub 2 r)
 (fun r=>.o .pce 1 r)
 (fun r=>.o .fv 1 r)
 (fun r=>.o .tru 1 r)
 (fun r=>.o .not 1 r)
 (fun r=>.o .neg 1 r)
 (fun r=>.o .sti 3 r)
 (fun r=>.o .inp 2 r)
 (fun r=>.o .isb 1 r)
 (fun r=>.o .sbd 2 r))
[[.int 0,.bool true,.bool false,.int 1,S " ",.int 2,S ", ",.int 4,.int 20,.int 16,.int 15,S "",.int 8,S "fence",.int 31,.int 3,.int 12,.int 32,.int 7,S "(",.int 4096,S "CSR",S "flush",S ")"],
[.int 25,S "csr",.int 5,.int 255,S "I",S "S",S "B",S "J",S "CSRI",.int 11,S "shift",S "U",.none,S "R",.int 256,.int 2048,S ".word ",S "jalr",.int 10,S ".",S ":",S "number",S "imm",.int 63],
[.int 1023,.int 21,.int 127,S "fence.i",S "fence ",S "\t",S "0x",S "0123456789abcdef",S "'",S ".space",S ".zero",S ".align",S ".ascii",S ".asciz",S ".string",S "li",S "jal",.byt [],.int 48271,.int 13,S "three",S "amount",S "load",S "store"],
[S "branch",S "upper",S "jump",S "csri",S "rd",S "rs1",S "rs2",.int 4095,.int 1048576,.int 28799,.int 4261441663,.int 126,S "\\",S "#",S ",",S "0X",S "0b",S "0B",S "xX",S "0",S "bf",S "+-",S "-",S "\n"],
[S "_start",S "%hi(",S "%lo(",S "h",.int 9,.int 43,.int 24,.int 69621,.int 2147483629,.int 18,.int 15485867,.int 2147483647,.int 7919,.int 2147483587,.int 64,S "add sub sll slt sltu xor srl sra or and mul mulh mulhsu mulhu div divu rem remu",S "addi slti sltiu xori ori andi",S "slli srli srai",S "lb lh lw lbu lhu jalr",S "sb sh sw",S "beq bne blt bge bltu bgeu",S "lui auipc",S "csrrw csrrs csrrc",S "csrrwi csrrsi csrrci"],
[S "sfence.vma",S "alone",S "ecall ebreak mret sret wfi fence.i",S "zero",S "ra",S "sp",S "gp",S "tp",S "t0",S "t1",S "t2",S "s0",S "s1",S "a",S "s",S "t",S "256 sstatus 260 sie 261 stvec 262 scounteren 320 sscratch 321 sepc 322 scause 323 stval 324 sip 384 satp 768 mstatus",S " 769 misa 770 medeleg 771 mideleg 772 mie 773 mtvec 774 mcounteren 832 mscratch 833 mepc 834 mcause 835 mtval",S " 836 mip 2816 mcycle 2818 minstret 2944 mcycleh 2946 minstreth 3072 cycle 3073 time 3074 instret 3200 cycleh",S " 3201 timeh 3202 instreth 3857 mvendorid 3858 marchid 3859 mimpid 3860 mhartid",S "i",S "o",S "r",S "w"],
[.int 2047,S "x",S "fp",.int 1000]] (fun i=>at_ 0 N i)) (fun s=>.str (u s))
[[U "self",U "name",U "text",U "piece",U "kind",U "imm",U "operands",U "rd",U "place",U "Instruction",U "found",U "rs1",U "value",U "box",U "instruction",U "len",U "word",U "base",U "k",U "rs2",U "shape",U "letter",U "line",U "source"],
[U "atom",U "number",U "end",U "_law_take",U "csr",U "made",U "first",U "append",U "split",U "register",U "range",U "figures",U "one",U "sign",U "section",U "ZEROS",U "second",U "str",U "third",U "Known",U "low",U "strip",U "TEXT",U "DATA"],
[U "octets",U "size",U "front",U "small",U "titles",U "high",U "sizes",U "exported",U "need",U "symbols",U "rows",U "wanted",U "order",U "at",U "align",U "many",U "other",U "drawn",U "opcode",U "items",U "labels",U "sums",U "depth",U "parts"],
[U "seventh",U "CSRS",U "SETS",U "bits",U "encode",U "ABI",U "begin",U "aligns",U "SIZES",U "known",U "zeros",U "far",U "seed",U "great",U "cell",U "_law_hex",U "told",U "number_of",U "numbers",U "least",U "shape_of",U "hex",U "quoted_end",U "part"],
[U "FIGURES",U "all",U "is_name",U "offset",U "pieces",U "index",U "TURNED",U "WIDE",U "bytes",U "bases",U "bytearray",U "REGISTERS",U "target",U "due",U "row",U "sorted",U "script",U "some",U "BY_NAME",U "used",U "isinstance",U "int",U "greatest",U "step"],
[U "BY_OPCODE",U "BY_THIRD",U "BY_SEVENTH",U "get",U "own",U "join",U "set_text",U "csr_text",U "quote",U "QUOTES",U "lower",U "figure",U "NAME_SIGNS",U "atoms_of",U "is_local",U "string_of",U "load_number",U "FORMATS",U "data",U "text_base",U "above",U "MEMORY",U "sum",U "here"],
[U "home",U "based",U "fence_set",U "low_first",U "abs",U "digit",U "mix",U "odd",U "_law_letters",U "_law_csrs",U "groups",U "fields",U "USED",U "bool",U "RANGES",U "check",U "fixed",U "spread_branch",U "spread_jump",U "WHOLE",U "find_shape",U "gathered_branch",U "gathered_jump",U "LOAD"],
[U "fence_text",U "ord",U "replace",U "find",U "atom_end",U "octets_in",U "whole_of",U "most",U "numbered",U "check_signs",U "read",U "bare",U "label",U "parted",U "Piece",U "SECTIONS",U "QUIET",U "quiet",U "add",U "size_of",U "room_of",U "count",U "data_base",U "zeros_base"],
[U "entry",U "max",U "high_part",U "low_part",U "local",U "plain_value",U "names_place",U "rindex",U "any",U "short",U "immediate",U "special",U "LOADS",U "plain",U "room",U "instructions",U "extend",U "Program",U "Maker",U "Source",U "program",U "_law_fence",U "_law_box",U "_law_registers"],
[U "_law_groups",U "list",U "dict",U "min",U "turn",U "_law_scene",U "text_of",U "decode",U "assemble"]])=z)->List Code) ?s ?h
 case h=>conv=>lhs;reduce
 case f=>exact fun z _=>z
end Q
noncomputable def cd (i:Nat):Code:=Q.cT.getD i .n
inductive Kd where
 | R | I | S | B | U | J | sh | fe | cw | ci | fl | sy
noncomputable def kc {α:Type} (k:Kd) (a b c d e f g h i j l m:α):α:=Kd.casesOn (motive:=fun _=>α) k a b c d e f g h i j l m
noncomputable def Z6:List Kd:=[.R,.I,.S,.B,.U,.J,.sh,.fe,.cw,.ci,.fl,.sy]
noncomputable def kdS:List (List Nat):=by
 refine (?f:(z:List (List Nat))->(["R","I","S","B","U","J","shift","fence","CSR","CSRI","flush","system"].map Q.u=z)->List (List Nat)) ?s ?h
 case h=>conv=>lhs;reduce
 case f=>exact fun z _=>z
noncomputable def Kd.i (k:Kd):Nat:=kc k 0 1 2 3 4 5 6 7 8 9 10 11
def Kd.s (k:Kd):List Nat:=kdS.getD k.i []
def Kd.u (k:Kd):List Bool:=kc k [true,true,true,false,false] [true,true,false,true,false] [false,true,true,true,false] [false,true,true,true,false] [true,false,false,true,false] [true,false,false,true,false] [true,true,false,true,false] [true,true,false,true,false] [true,true,false,false,true] [true,false,false,true,true] [false,true,true,false,false] [false,false,false,false,false]
def Kd.rg (k:Kd):Int×Int×Int:=kc k (0,0,1) (-2048,2047,1) (-2048,2047,1) (-4096,4094,2) (0,1048575,1) (-1048576,1048574,2) (0,31,1) (0,4095,1) (0,0,1) (0,31,1) (0,0,1) (0,0,1)
def fld (u:Bool) (r:Int×Int×Int) (x:Int):Prop:=Bool.casesOn (motive:=fun _=>Prop) u (x=0) (r.1<=x/\x<=r.2.1/\x % r.2.2=0)
abbrev Row:=List Nat×Kd×Int×Int×Int
structure Ix where
 n:List Nat
 k:Kd
 op:Int
 t:Int
 s:Int
 rd:Int
 r1:Int
 r2:Int
 im:Int
 cs:Int
noncomputable def gc (f:Nat):V:=((ca 31 f).getD .none)
def dK (v:V):List (List Nat):=(bo (asN v) fun p=>p.1.dks).getD []
def dI (v:V):List Int:=(bo (asN v) fun p=>p.1.iks).getD []
def dV (v:V):List V:=(bo (asN v) fun p=>some p.2).getD []
noncomputable def sO (v:V):List Nat:=(yM v).getD []
noncomputable def iO (v:V):Int:=(xB v).getD 0
noncomputable def kdO (s:List Nat):Kd:=Z6.getD (kdS.findIdx fun x=>decide (x=s)) .sy
def rowV (v:V):Row:=(sO ((dV v).getD 0 .none),kdO (sO ((dV v).getD 1 .none)),iO ((dV v).getD 2 .none),iO ((dV v).getD 3 .none),iO ((dV v).getD 4 .none))
noncomputable def yu:List Row:=by
 refine (?f:(z:List Row)->((dV (gc (Q.U "BY_NAME"))).map rowV=z)->List Row) ?s ?h
 case h=>conv=>lhs;reduce
 case f=>exact fun z _=>z
noncomputable def nmT:List (List Nat):=by
 refine (?f:(z:List (List Nat))->([["name","rd","rs1","rs2","imm","csr"],["name","kind","opcode","third","seventh"],["sizes","aligns","section","labels","numbered","sums","exported","pieces","order"],["line","order","name","operands","section","offset","size"],
  ["source","base","made"],["text","data","zeros","text_base","data_base","zeros_base","symbols","exported","entry"]].map (·.map Q.U)=z)->List (List Nat)) ?s ?h
 case h=>conv=>lhs;reduce
 case f=>exact fun z _=>z
noncomputable def txT:List (List Nat):=by
 refine (?f:(z:List (List Nat))->([".text",".data",".bss",".word","jalr","fence","fence.i"].map Q.u=z)->List (List Nat)) ?s ?h
 case h=>conv=>lhs;reduce
 case f=>exact fun z _=>z
noncomputable abbrev ins (C i:Nat) (l:List V):V:=.nd (.ins C (nmT.getD i [])) l
noncomputable abbrev tx (i:Nat):List Nat:=txT.getD i []
def xK (i:Ix):V:=ins 255 0 [.str i.n,.int i.rd,.int i.r1,.int i.r2,.int i.im,.int i.cs]
def Xu (i:Ix):V:=ins 284 1 [.str i.n,.str i.k.s,.int i.op,.int i.t,.int i.s]
structure Ok (i:Ix):Prop where
 row:(i.n,i.k,i.op,i.t,i.s)∈yu
 rd:fld (i.k.u.getD 0 false) (0,31,1) i.rd
 r1:fld (i.k.u.getD 1 false) (0,31,1) i.r1
 r2:fld (i.k.u.getD 2 false) (0,31,1) i.r2
 im:fld (i.k.u.getD 3 false) i.k.rg i.im
 cs:fld (i.k.u.getD 4 false) (0,4095,1) i.cs
abbrev Lw:=List (Nat×Nat×Int)
noncomputable def yA:Lw->Nat
 | []=>0
 | p::r=>(p.2.2.toNat <<< p.1) ||| yA r
noncomputable def lvB (k:Kd) (op t s rd r1 r2:Int):Lw:=[(25,kc k 7 0 0 0 0 0 7 0 0 0 7 0,s),(12,kc k 3 3 3 3 0 0 3 3 3 3 3 0,t),(0,kc k 7 7 7 7 7 7 7 7 7 7 7 32,op),(7,bif k.u.getD 0 false then 5 else 0,rd),(15,bif k.u.getD 1 false then 5 else 0,r1),(20,bif k.u.getD 2 false then 5 else 0,r2)]
noncomputable def lvX (k:Kd) (im cs:Int):Lw:=
 kc k [] [(20,12,im % 4096)] [(25,7,im / 2 ^ 5 % 128),(7,5,im % 32)] [(31,1,im / 2 ^ 12 % 2),(25,6,im / 2 ^ 5 % 64),(8,4,im / 2 ^ 1 % 16),(7,1,im / 2 ^ 11 % 2)] [(12,20,im)]
  [(31,1,im / 2 ^ 20 % 2),(21,10,im / 2 ^ 1 % 1024),(20,1,im / 2 ^ 11 % 2),(12,8,im / 2 ^ 12 % 256)] [(20,5,im % 4096)] [(20,12,im % 4096)] [(20,12,cs)] [(20,12,cs),(15,5,im)] [] []
noncomputable def lv (i:Ix):Lw:=lvB i.k i.op i.t i.s i.rd i.r1 i.r2++lvX i.k i.im i.cs
def z8 (i:Ix):Int:=(yA (lv i):Nat)
noncomputable def YO:List (List Nat):=by
 refine (?f:(z:List (List Nat))->((dV ((gv (Q.U "ABI")).getD .none)).map sO=z)->List (List Nat)) ?s ?h
 case h=>conv=>lhs;reduce
 case f=>exact fun z _=>z
noncomputable def reg (r:Int):List Nat:=YO.getD r.toNat []
def csV:V:=(gv (Q.U "CSRS")).getD .none
noncomputable def csK:List (List Nat):=by
 refine (?f:(z:List (List Nat))->(dK csV=z)->List (List Nat)) ?s ?h
 case h=>conv=>lhs;reduce
 case f=>exact fun z _=>z
noncomputable def csI:List Int:=by
 refine (?f:(z:List Int)->((dV csV).map iO=z)->List Int) ?s ?h
 case h=>conv=>lhs;reduce
 case f=>exact fun z _=>z
noncomputable def csF:List (List Nat)->List Int->Int->List Nat->List Nat
 | []=>fun _ _ d=>d
 | k::ks=>fun vs x d=>lC d vs fun v vs=>bif decide (v=x) then k else csF ks vs x d
def ZP (x:Int):List Nat:=csF csK csI x (zW x)
noncomputable def yD (b:Int):List Nat:=((([(0,105),(1,111),(2,114),(3,119)]:List (Nat×Nat)).filter fun p=>decide (b / 2 ^ (3 - p.1) % 2=1))).map (·.2)
def qJ (v r:Int):List Nat:=yc v++40::(reg r++[41])
inductive yG where
 | rg (r:Int) | dc (v:Int) | hx (v:Int) | mm (v r:Int) | cs (x:Int) | st (b:Int)
noncomputable def yG.t (o:yG):List Nat:=yG.casesOn (motive:=fun _=>List Nat) o reg yc zW qJ ZP yD
def qn (r:Int):Prop:=0<=r/\r < 32
def B64:Nat:=18446744073709551616
def yh (v:Int):Prop:=v.natAbs < B64
def yG.ok (o:yG):Prop:=yG.casesOn (motive:=fun _=>Prop) o qn yh (fun v=>0<=v/\yh v) (fun v r=>yh v/\qn r) (fun x=>0<=x/\x < 4096) fun b=>0 < b/\b < 16
noncomputable def xJ (i:Ix):Bool:=decide (i.n=tx 4)||decide (i.op=3)
noncomputable def zck (i:Ix):List yG:=
 kc i.k [.rg i.rd,.rg i.r1,.rg i.r2] (bif xJ i then [.rg i.rd,.mm i.im i.r1] else [.rg i.rd,.rg i.r1,.dc i.im]) [.rg i.r2,.mm i.im i.r1] [.rg i.r1,.rg i.r2,.dc i.im] [.rg i.rd,.hx i.im] [.rg i.rd,.dc i.im]
  [.rg i.rd,.rg i.r1,.dc i.im] [] [.rg i.rd,.cs i.cs,.rg i.r1] [.rg i.rd,.cs i.cs,.dc i.im] [.rg i.r1,.rg i.r2] []
noncomputable def yI (i:Ix):Bool:=decide (i.rd=0)&&(decide (i.r1=0)&&(decide (i.im < 256)&&(decide (i.im % 16≠0)&&decide (16<=i.im))))
noncomputable def Qg (k:Kd):Bool:=kc k false false false false false false false true false false false false
def ln (i:Ix):List Nat×List yG:=bif Qg i.k then bif decide (i.n=tx 6) then (i.n,[]) else bif yI i then (i.n,[.st (i.im / 16),.st (i.im % 16)]) else (tx 3,[.hx (z8 i)]) else (i.n,zck i)
def Sc (i:Ix):Prop:=i.n=tx 6->i.rd=0/\i.r1=0/\i.im=0
noncomputable def yZ:List yG->List Nat
 | []=>[]
 | o::r=>o.t++lC [] r fun _ _=>44::32::yZ r
def lnT (p:List Nat×List yG):List Nat:=p.1++lC [] p.2 fun _ _=>32::yZ p.2
noncomputable def aln (c:Nat):Bool:=(Nat.ble 48 c&&Nat.ble c 57)||(Nat.ble 97 c&&Nat.ble c 122)
noncomputable def okc (c:Nat):Bool:=aln c||[32,40,41,44,45,46].contains c
def jc (m:Nat) (a:List Nat):Prop:=a=zaN m∨a=zW m
def Z9 (v:Int) (x:List Nat):Prop:=yh v/\(x=yc v∨(0<=v/\x=zW v))
noncomputable def le4 (w:Int):List UInt8:=[w % 256,w / 256 % 256,w / 65536 % 256,w / 16777216 % 256].map fun n=>n.toNat.toUInt8
def opV (l:List yG):V:=.nd .lst (l.map fun o=>.str o.t)
noncomputable def eD:V:=.nd (.dcs []) []
noncomputable def dc3 (a b c:V):V:=.nd (.dcs [tx 0,tx 1,tx 2]) [a,b,c]
def pie (p:List Nat×List yG) (z:Int):V:=ins 1426 3 [.int 1,.int 1,.str p.1,opV p.2,.str (tx 0),.int 0,.int z]
def srcV (o:Int):V:=ins 1501 2 [.ref 1,.ref 2,.str (tx 0),eD,eD,eD,.ref 3,.ref 4,.int o]
def hP (p:List Nat×List yG):Hp:=[srcV 1,dc3 (.int 0) (.int 0) (.int 0),dc3 (.int 4) (.int 4) (.int 4),.nd .lst [],.nd .lst [],pie p 0]
def hB (p:List Nat×List yG):Hp:=[srcV 1,dc3 (.int 4) (.int 0) (.int 0),dc3 (.int 4) (.int 4) (.int 4),.nd .lst [],.nd .lst [.ref 5],pie p 4]
def hC (p:List Nat×List yG) (b:Int):Hp:=hB p++[ins 1703 4 [.ref 0,.ref 7,.ref 11],dc3 (.int b) (.int (b+4)) (.int (b+4)),.byt [],.byt [],.byt [],dc3 (.ref 8) (.ref 9) (.ref 10)]
def prgV (t:List UInt8) (b:Int):V:=ins 1541 5 [.byt t,.byt [],.int 0,.int b,.int (b+4),.int (b+4),eD,.nd .lst [],.int b]
def zR (n:Nat) (H:Hp):Prop:=∃(g s c:Int) (tl:Hp),H=.nd .lst [.int g,.int s,.int c]::tl/\0<=g/\(0<=s/\s < 2147483629)/\0<=c/\c<=n
noncomputable def xj:List (List Nat)->List Int->List V
 | []=>fun _=>[]
 | k::ks=>fun vs=>lC [] vs fun v vs=>.nd .tup [.int v,.str k]::xj ks vs
noncomputable def y8:List (List Nat×List (List Nat)):=by
 refine (?f:(z:List (List Nat×List (List Nat)))->([("fence","fence"),("three","add sub sll slt sltu xor srl sra or and mul mulh mulhsu mulhu div divu rem remu"),("number","addi slti sltiu xori ori andi"),("amount","slli srli srai"),("load","lb lh lw lbu lhu jalr"),("store","sb sh sw"),("branch","beq bne blt bge bltu bgeu"),
  ("upper","lui auipc"),("jump","jal"),("csr","csrrw csrrs csrrc"),("csri","csrrwi csrrsi csrrci"),("flush","sfence.vma"),("alone","ecall ebreak mret sret wfi fence.i")].map (fun p=>(Q.u p.1,xF 32 (Q.u p.2)))=z)->List (List Nat×List (List Nat))) ?s ?h
 case h=>conv=>lhs;reduce
 case f=>exact fun z _=>z
noncomputable def Zd (l:List (List Nat)):V:=.nd .lst (l.map .str)
noncomputable def Yn:V:=.nd .lst (y8.map fun p=>.nd .tup [.str p.1,Zd p.2])
def Xw (i:Ix):V:=.nd .tup [xK i,.str (lnT (ln i))]
noncomputable def bad:zG:=fun _ _ _=>False
def sI (P:Ix->Prop) (a:Ix->List V) (v:Ix->V):zG:=fun vs H Q=>∃i,Ok i/\P i/\vs=a i/\Q (v i) H
def sN (P:Int->Prop) (a:Int->List V) (v:Int->V):zG:=fun vs H Q=>∃x,P x/\vs=a x/\Q (v x) H
def sT (P:List Nat->V->V->List V->Prop):zG:=fun vs H Q=>∃x l v,P x l v vs/\Q v H
def sM (P:List V->V->Prop):zG:=fun vs H Q=>∃p b v,H=hC p b/\P vs v/\Q v (hC p b)
def zaJ (vs:List V) (_:Hp):Option V:=lc vs fun n r=>bo (yM n) fun s=>bo (zB xB r) fun _=>wo (r.length=0∨r.length=3∨r.length=4∨r.length=5) (some (ins 255 0 (n::(r++(List.replicate (5 - r.length) (.int 0))))))
def any (_:Ix):Prop:=True
def Ln (p:List Nat×List yG):Prop:=∃i,Ok i/\Sc i/\p=ln i
noncomputable def sNum (P:List Nat->List V->Prop):zG:=fun vs H Q=>∃m a,jc m a/\m < B64/\P a vs/\Q (.int m) H
noncomputable def pT:List (Nat×List Nat):=by
 refine (?f:(z:List (Nat×List Nat))->([(0,[]),(1,["name"]),(2,["instruction","kind"]),(1,["imm"]),(1,["imm"]),(1,["word"]),(1,["word"]),(1,["self"]),(1,["instruction"]),(1,["word"]),(7,["self","name","rd","rs1","rs2","imm","csr"]),(1,["word"]),(1,["number"]),(1,["bits"]),(1,["instruction"]),(1,["instruction"]),(1,["self"]),(2,["text","line"]),(2,["text","line"]),(2,["text","line"]),(2,["text","line"]),(2,["atom","line"]),(1,["text"]),(1,["text"]),(3,["text","place","line"]),(2,["text","line"]),(2,["text","line"]),(4,["self","atom","piece","depth"]),(3,["self","text","piece","depth"]),(3,["self","text","piece"]),(3,["self","text","piece"]),(3,["self","text","piece"]),(3,["self","text","piece"]),(4,["self","many","due","piece"]),(3,["self","text","piece"]),(5,["self","name","kind","operands","piece"]),(4,["self","name","operands","piece"]),(5,["self","name","kind","operands","piece"]),(4,["self","name","operands","piece"]),(2,["value","count"]),(2,["self","piece"]),(2,["self","piece"]),(2,["self","piece"]),(7,["self","line","order","name","operands","section","offset"]),(2,["self","piece"]),(2,["self","piece"]),(3,["self","text","line"]),(2,["self","source"]),(2,["number","align"]),(4,["self","source","base","align"]),(7,["self","text","data","zeros","bases","symbols","exported"]),(1,["self"]),(2,["source","base","align"]),(1,["script"]),(2,["box","many"]),(1,["value"]),(1,["bits"]),(0,[]),(0,[]),(0,[]),(1,["box"]),(4,["box","kind","name","titles"]),(1,["script"])].map (fun p=>(p.1,p.2.map Q.U))=z)->List (Nat×List Nat)) ?s ?h
 case h=>conv=>lhs;reduce
 case f=>exact fun z _=>z
def fI (dv:List V) (j:Nat) (cs:Nat->zG):zG:=fnS cs (pT.getD j (0,[])).1 (pT.getD j (0,[])).2 dv (cd (j - 1))
def E (s:zG) (_:Nat->zG):zG:=s
noncomputable def gT:List ((Nat->zG)->zG):=[
 E bad,fI [] 1,E (sI any (fun i=>[xK i,.str i.k.s]) fun _=>.none),fI [] 3,fI [] 4,fI [] 5,fI [] 6,fI [] 7,
 E (sI any (fun i=>[xK i]) fun i=>.int (z8 i)),E (sI any (fun i=>[.int (z8 i)]) Xu),E (Bl zaJ),E (sI any (fun i=>[.int (z8 i)]) xK),
 E (sN (fun x=>0<=x/\x < 4096) (fun x=>[.int x]) fun x=>.str (ZP x)),E (sN (fun b=>0<=b/\b < 16) (fun b=>[.int b]) fun b=>.str (yD b)),fI [] 14,E (sI Sc (fun i=>[xK i]) fun i=>.str (lnT (ln i))),fI [] 16,
 E (sT fun x l v vs=>x.length<=1000/\x.all okc=true/\vs=[.str x,l]/\v=.none),
 E (sT fun x l v vs=>x.length<=1000/\x.all okc=true/\zz 32 x=x/\vs=[.str x,l]/\v=.str x),
 E (Qy fun us v=>∃l n,(∀o∈l,yG.ok o)/\l.length<=3/\us=[.str (yZ l),.int n]/\v=opV l),
 E (sNum fun a vs=>∃n,vs=[.str a,.int n]),fI [] 21,
 E (sT fun a _ v vs=>∃m,jc m a/\m < B64/\vs=[.str a]/\v=.bool false),E (sT fun a _ v vs=>∃m,jc m a/\m < B64/\vs=[.str a]/\v=.bool false),
 E (sT fun x l v vs=>∃p:Nat,x.length<=1000/\p < x.length/\(x.drop p).all aln=true/\vs=[.str x,.int p,l]/\v=.int x.length),
 E (Qy fun us v=>∃m a n,jc m a/\m < B64/\((us=[.str a,.int n]/\v=.nd .lst [.nd .tup [.int 1,.str a]])∨(us=[.str (45::a),.int n]/\v=.nd .lst [.nd .tup [.int (-1),.str a]]))),
 E (sT fun x l v vs=>∃i n,Z9 i x/\vs=[.str x,.int n]/\v=.bool false),fI [] 27,
 E (sM fun vs v=>∃i x,Z9 i x/\vs=[.ref 6,.str x,.ref 5]/\v=.int i),E (sN qn (fun r=>[.ref 6,.str (reg r),.ref 5]) .int),E (sM fun vs v=>∃i x,Z9 i x/\vs=[.ref 6,.str x,.ref 5]/\v=.int i),
 E (sM fun vs v=>∃x,(0<=x/\x < 4096)/\vs=[.ref 6,.str (ZP x),.ref 5]/\v=.int x),E (sN (fun b=>0 < b/\b < 16) (fun b=>[.ref 6,.str (yD b),.ref 5]) .int),fI [] 33,
 E (sM fun vs v=>∃x r,yh x/\qn r/\vs=[.ref 6,.str (qJ x r),.ref 5]/\v=.nd .tup [.int x,.int r]),fI [] 35,fI [] 36,fI [] 37,
 E (sM fun vs v=>∃i,Ok i/\Sc i/\(ln i).1=i.n/\vs=[.ref 6,.str i.n,opV (ln i).2,.ref 5]/\v=xK i),
 E (sN (fun w=>0<=w/\w < 4294967296) (fun w=>[.int w,.int 4]) fun w=>.byt (le4 w)),fI [] 40,fI [] 41,
 E (fun vs H Q=>∃i b,Ok i/\Sc i/\vs=[.ref 6,.ref 5]/\H=hC (ln i) b/\Q (.byt (le4 (z8 i))) H),
 fun cs=>mkS 1426 (fI [] 43 cs),E (fun vs H Q=>∃p,Ln p/\vs=[.ref 0,.ref 5]/\H=hP p/\Q (.int 4) H),fI [] 45,fI [] 46,
 E (fun vs H Q=>∃p,Ln p/\vs=[.str (lnT p)]/\H=[]/\Q (.ref 0) (hB p)),fI [] 48,
 E (fun vs H Q=>∃p b,(0<=b/\b<=4000/\b % 4=0)/\vs=[.ref 0,.int b,.int 4]/\H=hB p/\Q (.ref 6) (hC p b)),fun cs=>mkS 1541 (fI [] 50 cs),fI [] 51,
 E (Qy fun us v=>∃i b,Ok i/\Sc i/\(0<=b/\b<=4000/\b % 4=0)/\us=[.str (lnT (ln i)),.int b]/\v=prgV (le4 (z8 i)) b),
 E (fun vs H Q=>∃l:List Int,l.length<=63/\vs=[.nd .lst (l.map .int)]/\H=[]/\∀H,zR 0 H->Q (.ref 0) H),
 E (fun vs H Q=>∃(m:Int) (n:Nat),vs=[.ref 0,.int m]/\(0 < m/\m<=1048576)/\n<=100000/\zR n H/\∀(d:Int) (H:Hp),0<=d/\d < m->zR (n+1) H->Q (.int d) H),
 E (sN (fun w=>0<=w/\w < 4294967296) (fun w=>[.int w]) fun w=>.str (zW w)),E (sN (fun b=>0<=b/\b < 16) (fun b=>[.int b]) fun b=>.str (yD b)),
 E (Bl fun vs _=>l0 vs (some (Zd YO))),E (fun vs H Q=>vs=[]/\∀l,l=xj csK csI->Q (.nd .lst l) H),E (Bl fun vs _=>l0 vs (some Yn)),
 E (fun vs H Q=>∃n:Nat,n<=90000/\vs=[.ref 0]/\zR n H/\∀i H,Ok i->Sc i->zR (n+20) H->Q (Xw i) H),
 E (fun vs H Q=>∃(n:Nat) (p:List Nat×List (List Nat)) (x:List Nat),n<=80000/\p∈y8/\x∈p.2/\vs=[.ref 0,.str p.1,.str x,Zd YO]/\zR n H/\∀i H,Ok i->Sc i->zR (n+40) H->Q (Xw i) H)]
noncomputable def yn:Nat->Nat->zG
 | 0=>fun i=>spB.getD i bad
 | m+1=>fun i=>bif Nat.blt i 31 then spB.getD i bad else bif Nat.beq i (m+31) then gT.getD m (E bad) (yn m) else yn m i
def Ar (d u:Nat):Around:={ depth:=d,guards:=some [],units:=u }
def AA (m:Nat):Around:=Ar (980 - 2 * m) (9000 - 60 * m)
def Ps {α:Type} (X:List Addr) (g:G) (P:α->G->Prop) (x:α) (s:Shared):Prop:=∃g1:G,g1.s=s/\Le X g g1/\P x g1
def qP (Q:QE) (x:Value) (g:G):Prop:=∃v,g.D v x/\Q v g.H
noncomputable def csB:Nat->Nat->zG
 | 0=>fun _=>bad
 | m+1=>yn m
def Lv (m:Nat):Prop:=∀(i:Nat) (g:G) (vs:List V) (xs:List Value) (Q:QE),g.DL vs xs->csB m i vs g.H Q->J (AA m) (PySem.call (fnV i) xs) (Ps [] g (qP Q)) g.s
def zkF:Prop:=∀(g:G) (xs:List Value) (l:List Int),l.length<=63->g.H=[]->g.DL [.nd .lst (l.map .int)] xs->J callerA (PySem.call (.ref 1775) xs) (Ps [] g (qP fun v _=>v=.bool true)) g.s
def Nx (m:Nat):Prop:=Lv (m+1)/\(m=63->zkF)
noncomputable def m0:Nat:=Classical.epsilon fun m=>m < 140/\Lv m/\¬ Nx m
def A0:Around:=AA m0
def xX:Nat->zG:=csB m0
theorem In.le {Γ:Ctx} {A:Around} {d u:Nat} (h:Γ.In A) (e1:A.handled=none) (e2:A.depth<=d) (e3:A.guards=some []) (e4:A.units<=u):Γ.In (Ar d u):=⟨h.1.trans e1,Nat.le_trans h.2.1 e2,(fun _ q=>nomatch q),fun g q=>h.2.2.2.1 g (e3.trans q),Nat.le_trans h.2.2.2.2 e4⟩
theorem J.le {α:Type} {t:Sem α} {Q:α->Shared->Prop} {s:Shared} {A:Around} {d u:Nat} (h:J (Ar d u) t Q s) (e1:A.handled=none) (e2:A.depth<=d) (e3:A.guards=some []) (e4:A.units<=u):J A t Q s:=fun Γ p q k=>h Γ p (In.le q e1 e2 e3 e4) k
theorem Ps.up {α:Type} {X:List Addr} {g g1:G} {P:α->G->Prop} {x:α} {s:Shared} (l:Le X g g1) (h:Ps X g1 P x s):Ps X g P x s:=h.imp fun _ h=>⟨h.1,l.trans h.2.1,h.2.2⟩
def Ev (g:G) (t:Sem Value) (Q:QE):Prop:=J A0 t (Ps [] g (qP Q)) g.s
theorem Ev.go {g:G} {t:Sem Value} {Q:QE} {P:Value->Shared->Prop} (h:Ev g t Q) (k:∀x g1 v,Le [] g g1->g1.D v x->Q v g1.H->P x g1.s):J A0 t P g.s:=
 J.mono h fun x _ p=>p.elim fun g1 p=>p.1▸p.2.2.elim fun v q=>k x g1 v p.2.1 q.1 q.2
theorem Ev.up {g g1:G} {t:Sem Value} {Q:QE} (l:Le [] g g1) (h:Ev g1 t Q):J A0 t (Ps [] g (qP Q)) g1.s:=J.mono h fun _ _=>Ps.up l
def G.tk (g:G) (n:Nat):G:={ g with s:={ g.s with toks:=n } }
theorem JQ {g:G} {n:Nat}:Le [] g (g.tk n):=⟨fun _ _=>rfl,fun _ _=>rfl,fun _ _ _=>rfl,List.prefix_rfl,⟨rfl,rfl,rfl⟩⟩
structure zy where
 lo:Lo
 K:Kt
 J:Jt
def zy.go (r:zy) (k:Code) (st:List V) (H:Hp):Prop:=Rc xX k st r.lo H r.K r.J
abbrev zy.Q (r:zy) (k:Code) (st:List V):QE:=fun v H=>r.go k (v::st) H
abbrev Cf:=List (Str×NameKind)×Bool
structure Fr (c:Cf) (env:Env):Prop where
 kind:env.scope.kind=.function
 glob:env.globals=mainGlobals
 bi:env.builtins=builtinsNs
 names:env.scope.names=c.1
 has:∀x,c.1.lookup x=some .cell->∃a,env.cells.lookup x=some a
 sep:∀x y a,env.cells.lookup x=some a->env.cells.lookup y=some a->x=y
def Loc (h:Heap) (c:Cf) (env:Env) (x:Str) (y:Value):Prop:=
 (c.1.lookup x=some .local/\∃m,h.Ns env.locals m/\m x=some y)∨(c.1.lookup x=some .cell/\∃a,env.cells.lookup x=some a/\h.IsCell a (some y))
def Xe (env:Env):List Addr:=env.locals::env.cells.map (·.2)
structure At (c:Cf) (env:Env) (lo:Lo) (g:G):Prop where
 pr:∀a∈Xe env,g.κ a=.pr
 ns:∃m,g.s.heap.Ns env.locals m
 cells:∀p∈env.cells,∃v,g.s.heap.IsCell p.2 v
 lr:∀i v,lo i=some v->∃x y,Nm x i/\Loc g.s.heap c env x y/\g.D v y
theorem zw {α β:Type} [BEq α] [LawfulBEq α] {a:α} {b:β}:∀{l:List (α×β)},l.lookup a=some b->(a,b)∈l
 | []=>fun h=>nomatch h
 | p::l=>fun h=>by
  rw [List.lookup_cons] at h
  cases e:a == p.1 with
  | true=>rw [e] at h;rw [beq_iff_eq.mp e];exact Option.some.inj h▸.head _
  | false=>rw [e] at h;exact .tail _ (zw h)
theorem j9 {env:Env} {n:Str} {a:Addr} (h:env.cells.lookup n=some a):a∈Xe env:=.tail _ (List.mem_map.mpr ⟨(n,a),zw h,rfl⟩)
theorem Loc.to {h h':Heap} {c:Cf} {env:Env} {x:Str} {y:Value} (k:∀a∈Xe env,h'.get? a=h.get? a) (L:Loc h c env x y):Loc h' c env x y:=
 L.imp (.imp_right (.imp fun _=>.imp_left (.imp fun _=>.imp fun _=>.imp fun _=>.imp_left (k _ (.head _)).trans))) (.imp_right (.imp fun _ h=>⟨h.1,h.2.imp fun _ q=>⟨(k _ (j9 h.1)).trans q.1,q.2⟩⟩))
theorem At.step {c:Cf} {env:Env} {lo:Lo} {g g1:G} {X:List Addr} (F:At c env lo g) (l:Le X g g1) (hX:∀a∈Xe env,a∉X):At c env lo g1:=
 have k:∀a∈Xe env,g1.s.heap.get? a=g.s.heap.get? a:=fun a q=>l.p a (F.pr a q) (hX a q)
 ⟨fun a q=>(l.k a (zF (F.pr a q))).trans (F.pr a q),F.ns.imp fun _=>.imp fun _=>.imp fun _=>.imp fun _=>.imp_left (k _ (.head _)).trans,
  fun p q=>(F.cells p q).imp fun _=>.imp fun _=>.imp_left (k _ (.tail _ (List.mem_map.mpr ⟨p,q,rfl⟩))).trans,fun i v h=>(F.lr i v h).imp fun _=>.imp fun _ h=>⟨h.1,h.2.1.to k,l.den h.2.2⟩⟩
theorem At.st {c:Cf} {env:Env} {lo:Lo} {g g1:G} (F:At c env lo g) (l:Le [] g g1):At c env lo g1:=F.step l fun _ _ q=>nomatch q
def yq (c:Cf) (e:Expr) (F:Code->Code):Prop:=∀env,Fr c env->∀(r:zy) (k:Code) (st:List V) (g:G),At c env r.lo g->r.go (F k) st g.H->Ev g (eval e env) (r.Q k st)
def qf (c:Cf) (e:Expr) (F:Code->Code):Prop:=∀env,Fr c env->∀(r:zy) (k:Code) (st:List V) (g:G),At c env r.lo g->r.go (F k) st g.H->J A0 (isTrue e env (eval e env)) (Ps [] g fun b g1=>r.go k (.bool b::st) g1.H) g.s
def EvK (env:Env):List Expr->(List Value->Shared->Prop)->Shared->Prop
 | []=>fun K=>K []
 | e::r=>fun K=>J A0 (eval e env) fun x=>EvK env r fun xs=>K (x::xs)
def xP (e:Expr) (es:List Expr) (prim:List Value->Sem Value):Prop:=∀env Q s,EvK env es (fun xs=>J A0 (prim xs) Q) s->J A0 (eval e env) Q s
def Pv (g:G) (v:V) (H:Hp) (x:Value) (s:Shared):Prop:=∃g1:G,g1.s=s/\Le [] g g1/\g1.H=H/\g1.D v x
theorem Pv.tk {g:G} {v:V} {x:Value} {n:Nat} (d:g.D v x):Pv g v g.H x { g.s with toks:=n }:=⟨g.tk n,rfl,JQ,rfl,d⟩
theorem Pv.here {g:G} {v:V} {x:Value} (d:g.D v x):Pv g v g.H x g.s:=⟨g,rfl,Le.refl,rfl,d⟩
theorem Ps.of_den {g:G} {Q:QE} {v:V} {x:Value} (d:g.D v x) (q:Q v g.H):Ps [] g (qP Q) x g.s:=⟨g,rfl,Le.refl,v,d,q⟩
theorem Pv.q {g g1:G} {v:V} {H:Hp} {x:Value} {s:Shared} {Q:QE} (l:Le [] g g1) (h:Pv g1 v H x s) (q:Q v H):Ps [] g (qP Q) x s:=Exists.elim h fun g2 h=>⟨g2,h.1,l.trans h.2.1,v,h.2.2.2,h.2.2.1.symm▸q⟩
def xa (p:Op) (prim:List Value->Sem Value):Prop:=∀(g:G) (vs:List V) (xs:List Value) (v:V) (H:Hp),g.DL vs xs->yK p vs g.H=some (v,H)->J A0 (prim xs) (Pv g v H) g.s
noncomputable def y5 {α:Type} (f:α->Code->Code) (es:List α) (k:Code):Code:=es.foldr f k
theorem eq_682:∀(u acc st:List V),zaE u.length acc (u++st)=some (u.reverse++acc,st)
 | [],_,_=>rfl
 | v::u,acc,st=>(eq_682 u (v::acc) st).trans (by rw [List.reverse_cons,List.append_assoc];rfl)
theorem eq_863 {n:Nat} {vs st:List V} {k:List V×List V->Prop} (hn:vs.length=n) (h:ob (zaE n [] (vs.reverse++st)) k):k (vs,st):=by
 have e:=eq_682 vs.reverse [] st
 rw [List.length_reverse,List.reverse_reverse,List.append_nil,hn] at e
 rw [e] at h
 exact h
theorem evs {c:Cf} {f:Expr->Code->Code} {env:Env} (E:Fr c env) {r:zy} {k:Code}:∀{es:List Expr} {K:List Value->Shared->Prop} {st:List V} {g:G},(∀e∈es,yq c e (f e))->At c env r.lo g->r.go (y5 f es k) st g.H->
  (∀xs vs g1,Le [] g g1->g1.DL vs xs->vs.length=es.length->r.go k (vs.reverse++st) g1.H->K xs g1.s)->EvK env es K g.s
 | []=>fun _ _ h q=>q [] [] _ Le.refl rfl rfl h
 | _::_=>fun hs F h q=>(hs _ (.head _) env E r _ _ _ F h).go fun _ _ v l1 d1 h=>evs E (fun e m=>hs e (.tail _ m)) (F.st l1) h fun xs vs _ l2 d2 n h=>
   q _ (v::vs) _ (l1.trans l2) (zh (l2.den d1) d2) (congrArg (·+1) n) (by rw [List.reverse_cons,List.append_assoc];exact h)
theorem eq_896 {c:Cf} {f:Expr->Code->Code} {e:Expr} {es:List Expr} {p:Op} {prim:List Value->Sem Value} (hs:∀e∈es,yq c e (f e)) (S:xP e es prim) (P:xa p prim):yq c e fun k=>y5 f es (.o p es.length k):=
 fun env E _ _ _ _ F h=>S env _ _ (evs E hs F h fun _ _ _ l d n h=>(yg (eq_863 n h)).elim fun _ q=>(P _ _ _ _ _ d q.1).mono fun _ _ z=>z.q l q.2)
noncomputable def p1 (f:Value->Sem Value) (xs:List Value):Sem Value:=List.casesOn (motive:=fun _=>Sem Value) xs (unsupported "") fun x r=>List.casesOn (motive:=fun _=>Sem Value) r (f x) fun _ _=>unsupported ""
noncomputable def p2 (f:Value->Value->Sem Value) (xs:List Value):Sem Value:=List.casesOn (motive:=fun _=>Sem Value) xs (unsupported "") fun x=>p1 (f x)
theorem eq_877 (a b:List Nat):Sx a++Sx b=Sx (a++b):=congrArg Str.mk (by simp [Sx])
theorem eq_704 {x:Int} (h:x.natAbs < 18446744073709551616):Builtin.Int.intBits x<=64:=by
 unfold Builtin.Int.intBits
 split
 ·exact Nat.zero_le _
 ·rename_i h0
  exact (Nat.log2_lt (fun e=>h0 (by rw [Int.natAbs_eq_zero.mp e];rfl))).mpr (show x.natAbs < 2 ^ 64 from h)
section
variable {g:G} {v:V} {x:Value}
theorem ya {i:Int}:xB v=some i->g.D v x->∃t,x=.int i t:=V.casesOn (motive_1:=fun v=>xB v=some i->g.D v x->∃t,x=.int i t) v zl (fun _=>zl) (fun _ h=>Option.some.inj h▸id) (fun _=>zl) (fun _=>zl) (fun _ _=>zl) (fun _=>zl) fun _=>zl
theorem zI {i:List Nat}:yM v=some i->g.D v x->∃t,x=.str (Sx i) t:=V.casesOn (motive_1:=fun v=>yM v=some i->g.D v x->∃t,x=.str (Sx i) t) v zl (fun _=>zl) (fun _=>zl) (fun _ h=>Option.some.inj h▸id) (fun _=>zl) (fun _ _=>zl) (fun _=>zl) fun _=>zl
theorem eq_752 {i:List UInt8}:asY v=some i->g.D v x->∃t,x=.bytes i.toArray t:=V.casesOn (motive_1:=fun v=>asY v=some i->g.D v x->∃t,x=.bytes i.toArray t) v zl (fun _=>zl) (fun _=>zl) (fun _=>zl) (fun _ h=>Option.some.inj h▸id) (fun _ _=>zl) (fun _=>zl) fun _=>zl
theorem eq_622 {i:Bool}:asB v=some i->g.D v x->x=.bool i:=V.casesOn (motive_1:=fun v=>asB v=some i->g.D v x->x=.bool i) v zl (fun _ h=>Option.some.inj h▸id) (fun _=>zl) (fun _=>zl) (fun _=>zl) (fun _ _=>zl) (fun _=>zl) fun _=>zl
theorem eq_738 {i:Nat}:asF v=some i->g.D v x->x=fnV i:=V.casesOn (motive_1:=fun v=>asF v=some i->g.D v x->x=fnV i) v zl (fun _=>zl) (fun _=>zl) (fun _=>zl) (fun _=>zl) (fun _ _=>zl) (fun _=>zl) fun _ h=>Option.some.inj h▸id
theorem eq_860 {p:zZ×List V}:asN v=some p->g.D v x->∃a dx ys,x=.ref a/\g.κ a=.fz/\g.κ dx=.fz/\z7 g.s.heap p.1 a dx ys/\g.DL p.2 ys:=V.casesOn (motive_1:=fun v=>asN v=some p->g.D v x->∃a dx ys,x=.ref a/\g.κ a=.fz/\g.κ dx=.fz/\z7 g.s.heap p.1 a dx ys/\g.DL p.2 ys) v zl (fun _=>zl) (fun _=>zl) (fun _=>zl) (fun _=>zl) (fun _ _ h=>Option.some.inj h▸id) (fun _=>zl) fun _=>zl
theorem eq_737 {p:zZ×List V} {q:Addr×Addr}:asN v=some p->xb g.s.heap g.κ g.L q v->∃ys,z7 g.s.heap p.1 q.1 q.2 ys/\g.DL p.2 ys:=V.casesOn (motive_1:=fun v=>asN v=some p->xb g.s.heap g.κ g.L q v->∃ys,z7 g.s.heap p.1 q.1 q.2 ys/\g.DL p.2 ys) v zl (fun _=>zl) (fun _=>zl) (fun _=>zl) (fun _=>zl) (fun _ _ h=>Option.some.inj h▸id) (fun _=>zl) fun _=>zl
theorem Zx {p:zZ×List V}:nv v g.H=some p->g.D v x->∃a dx ys,x=.ref a/\z7 g.s.heap p.1 a dx ys/\g.DL p.2 ys:=V.casesOn (motive_1:=fun v=>nv v g.H=some p->g.D v x->∃a dx ys,x=.ref a/\z7 g.s.heap p.1 a dx ys/\g.DL p.2 ys) v zl (fun _=>zl) (fun _=>zl) (fun _=>zl) (fun _=>zl)
 (fun _ _ h d=>Option.some.inj h▸d.imp fun _=>.imp fun _=>.imp fun _ d=>⟨d.1,d.2.2.2⟩)
 (fun _ h d=>(zc h).elim fun _ h=>d.elim fun q d=>(eq_737 h.2 (g.ok.obj _ _ q h.1 d.1).2.2).imp' (fun _=>q.1) fun ys r=>⟨q.2,ys,d.2,r⟩) fun _=>zl
theorem xi {t:zZ} {a dx:Addr} {ys:List Value} {h:Heap} (e:t.seq=2) (d:z7 h t a dx ys):∃n,h.get? a=some { cls:=.type "list",data:=.seq ys.toArray n }:=
 zZ.casesOn (motive:=fun t=>t.seq=2->z7 h t a dx ys->∃n,h.get? a=some { cls:=.type "list",data:=.seq ys.toArray n }) t (nomatch ·) (fun _ d=>d.elim fun o d=>d.elim fun _ d=>Exists.elim d.2.2 fun n e=>⟨n,(e:o=_)▸d.1⟩) (fun _=>(nomatch ·)) (fun _=>(nomatch ·)) (fun _ _=>(nomatch ·)) (fun _=>(nomatch ·)) (fun _ _ _=>(nomatch ·)) e d
theorem eq_885 {l:List V} (h:sq v g.H=some l) (d:g.D v x):∃a ys,x=.ref a/\(∃n,g.s.heap.get? a=some { cls:=.type "list",data:=.seq ys.toArray n })/\g.DL l ys:=
 (zc h).elim fun _ h=>have b:=zm h.2;(Zx h.1 d).imp fun _ r=>r.elim fun _ r=>r.imp fun _ r=>⟨r.1,xi b.1 r.2.1,Option.some.inj b.2▸r.2.2⟩
end
section
variable {g:G} {vs:List V} {xs:List Value} {β:Type} {y:β}
theorem l0_e {k:Option β} (h:l0 vs k=some y) (d:g.DL vs xs):xs=[]/\k=some y:=by
 cases vs with
 | nil=>exact ⟨d,h⟩
 | cons=>exact zl h
theorem eq_765 {k:V->List V->Option β} (h:lc vs k=some y) (d:g.DL vs xs):∃x zs,xs=x::zs/\∃v r,g.D v x/\g.DL r zs/\k v r=some y:=by
 cases vs with
 | nil=>exact zl h
 | cons v r=>exact d.imp fun x=>.imp fun zs d=>⟨d.1,v,r,d.2.1,d.2.2,h⟩
theorem xw {k:V->Option β} (h:l1 vs k=some y) (d:g.DL vs xs):∃x,xs=[x]/\∃v,g.D v x/\k v=some y:=
 (eq_765 h d).imp fun x d=>d.elim fun zs d=>d.2.elim fun v q=>q.elim fun r q=>have z:=l0_e q.2.2 q.2.1;⟨z.1▸d.1,v,q.1,z.2⟩
theorem eq_897 {k:V->V->Option β} (h:l2 vs k=some y) (d:g.DL vs xs):∃x z,xs=[x,z]/\∃v u,g.D v x/\g.D u z/\k v u=some y:=
 (eq_765 h d).imp fun x d=>d.elim fun zs d=>d.2.elim fun v q=>q.elim fun r q=>Exists.elim (xw q.2.2 q.2.1) fun z w=>⟨z,w.1▸d.1,v,w.2.imp fun u w=>⟨q.1,w⟩⟩
theorem eq_810 {a b:V} {x z:Value} {k:Int->Int->Option β} (h:ii a b k=some y) (da:g.D a x) (db:g.D b z):∃i j t u,x=.int i t/\z=.int j u/\k i j=some y:=
 (zc h).imp fun i h=>(zc h.2).imp fun j h2=>(ya h.1 da).imp fun t e=>(ya h2.1 db).imp fun u e2=>⟨e,e2,h2.2⟩
end
theorem eq_936 {g:G} {l:List Nat} {t:Tok}:g.D (.str l) (.str (Sx l) t):=⟨t,rfl⟩
theorem eq_834 {g:G} {l:List UInt8} {t:Tok}:g.D (.byt l) (.bytes l.toArray t):=⟨t,rfl⟩
theorem zo {g:G} {b:Bool}:g.D (.bool b) (.bool b):=rfl
theorem zE (g:G):g.κ g.s.heap.objs.size=.no:=Classical.byContradiction fun q=>g.ok.alive _ q (Heap.get?_none_of_le (Nat.le_refl _))
noncomputable def nuA (a:Addr) (k:Kn) (b:Addr):Kn:=bif Nat.beq b a then k else .no
theorem zcn {a b:Addr} {k:Kn} (h:nuA a k b≠.no):b=a:=by
 unfold nuA at h
 cases e:Nat.beq b a with
 | true=>exact Nat.eq_of_beq_eq_true e
 | false=>rw [e] at h;exact (h rfl).elim
theorem zfi {g:G} {o:Obj} {k:Kn} (hf:o.isFreed=false) (a:Addr) (q:nuA g.s.heap.objs.size k a≠.no∨g.κ a≠.no):(g.s.heap.push o).get? a≠none:=
 q.elim (fun q=>zcn q▸fun e=>nomatch (Heap.get?_push_size _ hf).symm.trans e) fun q e=>by
  cases z:g.s.heap.get? a with
  | none=>exact g.ok.alive a q z
  | some x=>exact nomatch (Heap.get?_push_of_some o z).symm.trans e
theorem xt {g:G} {o:Obj} (a:Addr) (q:g.κ a≠.no):(g.s.heap.push o).get? a=g.s.heap.get? a:=by
 cases z:g.s.heap.get? a with
 | none=>exact (g.ok.alive a q z).elim
 | some x=>exact Heap.get?_push_of_some o z
noncomputable def G.push (g:G) (o:Obj) (hf:o.isFreed=false) (tk:Nat):G:=⟨{ g.s with heap:=g.s.heap.push o,toks:=tk },g.H,fun a=>(g.κ a).or (nuA g.s.heap.objs.size .fz a),g.L,.nx _ [] (zfi hf) fun a q _=>xt a q⟩
theorem xv {g:G} {o:Obj} {hf:o.isFreed=false} {tk:Nat}:Le [] g (g.push o hf tk):=⟨fun _ q=>Kn.or_e _ _ q,fun a q=>xt a (yJ q),fun a q _=>xt a (zF q),List.prefix_rfl,⟨rfl,rfl,rfl⟩⟩
theorem Pv.push {g:G} {t:zZ} {l:List V} {o:Obj} {ys:List Value} {tk:Nat} (hf:o.isFreed=false) (d:Shp t g.s.heap.objs.size g.s.heap.objs.size o o ys) (r:g.DL l ys):Pv g (.nd t l) g.H (.ref g.s.heap.objs.size) { g.s with heap:=g.s.heap.push o,toks:=tk }:=
 have e:=Heap.get?_push_size g.s.heap hf
 have k:(g.push o hf tk).κ g.s.heap.objs.size=.fz:=show (g.κ _).or (nuA _ _ _)=_ by rw [zE];unfold nuA;rw [Nat.beq_refl];rfl
 ⟨g.push o hf tk,rfl,xv,rfl,_,_,ys,rfl,k,k,⟨o,o,e,e,d⟩,xv.denL r⟩
abbrev WV (g:G) (t:Sem Value) (v:V):Prop:=wpAny (model PW w0) A0 t (Pv g v g.H) y9 g.s
def xR (op:Operator):Prop:=∀(g:G) (i j k:Int) (t u:Tok),zgc op i j=some k->WV g (binaryOp op (.int i t) (.int j u)) (.int k)
theorem eq_422:xR .Sub:=fun _ _ _ _ _ _ h=>P.sub_int (Pv.tk (Option.some.inj h▸zp))
theorem eq_426:xR .Mult:=fun _ _ _ _ _ _ h=>have h:=zm h;P.mul_int (Pv.tk (Option.some.inj h.2▸zp)) (h.1.elim (fun q=>IntMulOk.of_left (eq_704 (Nat.lt_trans q (by decide)))) fun q=>IntMulOk.of_right (eq_704 (Nat.lt_trans q (by decide))))
theorem eq_428:xR .FloorDiv:=fun _ _ _ _ _ _ h=>have h1:=zm h;have h2:=zm h1.2
 floordiv_int (Int.ne_of_gt h1.1) (Pv.tk (Option.some.inj h2.2▸Int.fdiv_eq_ediv_of_nonneg _ (Int.le_of_lt h1.1)▸zp)) (.inl (PyProof.noPylong_small h2.1))
theorem eq_427:xR .Mod:=fun _ _ _ _ _ _ h=>have h1:=zm h;mod_int' (Int.ne_of_gt h1.1) (Pv.tk (Option.some.inj h1.2▸Int.fmod_eq_emod_of_nonneg _ (Int.le_of_lt h1.1)▸zp))
theorem eq_424:xR .LShift:=fun _ _ _ _ _ _ h=>have h1:=zm h;have h2:=zm h1.2;have h3:=zm h2.2;lshift_int_small h1.1 h2.1 h3.1 (Pv.tk (Option.some.inj h3.2▸zp))
theorem eq_423:xR .RShift:=fun _ _ _ _ _ _ h=>have h1:=zm h;rshift_int h1.1 (Pv.tk (Option.some.inj h1.2▸Int.fdiv_eq_ediv_of_nonneg _ (Int.le_of_lt (Int.pow_pos (n:=2) (by decide)))▸zp))
theorem b_or:xR .BitOr:=fun _ _ _ _ _ _ h=>or_int (Pv.tk (Option.some.inj h▸zp))
theorem eq_425:xR .Pow:=fun _ _ _ _ _ _ h=>have h1:=zm h;have h2:=zm h1.2;have h3:=zm h2.2;pow_int_small h1.1 h2.1 h3.1 (Pv.tk (Option.some.inj h3.2▸zp))
theorem eq_115 (x:Int) {k n:Nat} (h:n+1=2 ^ k):Builtin.bitAnd x n=x % (n+1:Int):=by
 have hn:n=2 ^ k - 1:=Nat.eq_sub_of_add_eq h
 by_cases hx:0<=x
 ·rw [bitAnd_pp hx (Int.natCast_nonneg n),Int.toNat_natCast,hn,Nat.and_two_pow_sub_one_eq_mod,← h,Nat.add_sub_cancel]
  obtain ⟨m,rfl⟩:=Int.eq_ofNat_of_zero_le hx
  exact Int.natCast_emod m (n+1)
 ·rw [bitAnd_np hx (Int.natCast_nonneg n),Int.toNat_natCast,Nat.and_comm,hn,Nat.and_two_pow_sub_one_eq_mod,← h,Nat.add_sub_cancel]
  have e:((Builtin.bitNot x).toNat:Int)=-x - 1:=by unfold Builtin.bitNot;lia
  have a:=Nat.div_add_mod (Builtin.bitNot x).toNat (n+1)
  have b:=Nat.mod_lt (Builtin.bitNot x).toNat (Nat.succ_pos n)
  generalize (Builtin.bitNot x).toNat % (n+1)=r at *
  generalize (Builtin.bitNot x).toNat / (n+1)=q at *
  have c:=congrArg (Nat.cast (R:=Int)) a
  rw [e,Int.natCast_add,Int.natCast_mul] at c
  have:=((Int.ediv_emod_unique (a:=x) (b:=(n+1:Int)) (r:=(n:Int) - r) (q:=-(q:Int) - 1) (by lia)).mpr ⟨by rw [Int.mul_sub,Int.mul_neg];have:((n+1:Nat):Int)=(n:Int)+1:=rfl;rw [this] at c;lia,by lia,by lia⟩).2
  rw [this]
theorem eq_291 (x y:Int):Builtin.bitAnd x y=jb x y:=by
 unfold jb
 cases e:zcG y with
 | false=>rfl
 | true=>cases y with
  | ofNat n=>exact (List.any_eq_true.mp e).elim fun k h=>eq_115 x (k:=k) (Nat.eq_of_beq_eq_true h.2)
  | negSucc n=>exact nomatch e
theorem eq_429:xR .BitAnd:=fun _ _ _ _ _ _ h=>and_int (Pv.tk (Option.some.inj h▸eq_291 _ _▸zp))
theorem eq_907 {n:Nat} (h:n<=1000000):n<=sizeLine:=Nat.le_trans h (by decide)
theorem eq_931 {n:Nat} (h:n<=100000):n<=sizeLine:=Nat.le_trans h (by decide)
theorem eq_895 {g:G} {ys:List Value} {r:List V} (d:g.DL r ys):∀{l:List V} {xs:List Value},g.DL l xs->g.DL (l++r) (xs++ys)
 | []=>fun h=>(show _=[] from h)▸d
 | _::_=>fun h=>h.elim fun _ h=>h.elim fun _ h=>h.1▸zh h.2.1 (eq_895 d h.2.2)
theorem eq_619 {g:G} {a b v:V} {x y:Value} (da:g.D a x) (db:g.D b y) (h:zkD a b g.H=some v):WV g (binaryOp .Add x y) v:=by
 obtain ⟨u,h1,h⟩:=zc h
 obtain ⟨w,h2,h⟩:=zc h
 obtain ⟨h3,h⟩:=zm h
 obtain ⟨la,xs,rfl,⟨n,g1⟩,d1⟩:=eq_885 h1 da
 obtain ⟨lb,ys,rfl,⟨m,g2⟩,d2⟩:=eq_885 h2 db
 rw [← zf d1,← zf d2] at h3
 obtain rfl:=Option.some.inj h
 refine concat_meets ⟨_,g1,rfl⟩ ⟨_,g2,rfl⟩ noFill_list_add seq_list_add PySem.F.slot_list_add PySem.F.entry_list_add (PySem.F.args_list_add_2 _ _) (list_addW la lb xs.toArray ys.toArray n m none none #[] #[] (eq_931 h3)) ⟨g1,g2,?_⟩
 rw [List.append_toArray]
 exact Pv.push (t:=.lst) (tk:=g.s.toks) rfl ⟨0,rfl⟩ (eq_895 d2 d1)
theorem eq_430 {g:G} {a b v:V} {x y:Value} (da:g.D a x) (db:g.D b y) (h:addF a b g.H=some v):WV g (binaryOp .Add x y) v:=by
 cases a with
 | int i=>exact (zc h).elim fun j h=>(ya h.1 db).elim fun u e=>da.elim fun t e1=>e▸e1▸P.add_int (Pv.tk (Option.some.inj h.2▸zp))
 | str m=>exact (zc h).elim fun j h=>(zI h.1 db).elim fun u e=>da.elim fun t e1=>have q:=zm h.2;e▸e1▸PyProof.Rows.add_str (fun t tk=>Pv.tk (Option.some.inj q.2▸eq_877 m j▸eq_936)) (eq_931 q.1)
 | byt m=>exact (zc h).elim fun j h=>(eq_752 h.1 db).elim fun u e=>da.elim fun t e1=>have q:=zm h.2;e▸e1▸KBy.add_bytes (eq_931 q.1) fun t' k=>Pv.tk (Option.some.inj q.2▸List.append_toArray (l₁:=m) (l₂:=j)▸eq_834)
 | nd=>exact eq_619 da db h
 | ref=>exact eq_619 da db h
 | _=>exact zl h
theorem eq_127 (op:Operator):xR op:=Operator.casesOn (motive:=xR) op (fun _ _ _ _ _ _=>zl) eq_422 eq_426 (fun _ _ _ _ _ _=>zl) (fun _ _ _ _ _ _=>zl) eq_427 eq_425 eq_424 eq_423 b_or (fun _ _ _ _ _ _=>zl) eq_429 eq_428
theorem eq_126 {op:Operator}:JY op=true->op=.Add:=by cases op<;>first | exact fun _=>rfl | exact (nomatch ·)
theorem eq_159 {g:G} {op:Operator} {a b v:V} {x y:Value} (da:g.D a x) (db:g.D b y) (h:zd4 op a b g.H=some v):WV g (binaryOp op x y) v:=by
 unfold zd4 at h
 cases e:JY op with
 | true=>rw [e] at h;exact eq_126 e▸eq_430 da db h
 | false=>rw [e] at h;exact (eq_810 h da db).elim fun i q=>q.elim fun j q=>q.elim fun t q=>q.elim fun u q=>(zc q.2.2).elim fun k z=>q.1▸q.2.1▸Option.some.inj z.2▸eq_127 op g i j k t u z.1
theorem eq_759 {H H':Hp} {o:Option V} {v:V} (h:hr H o=some (v,H')):H=H'/\o=some v:=(zc h).elim fun _ h=>⟨congrArg Prod.snd (Option.some.inj h.2),h.1.trans (congrArg (fun p=>some p.1) (Option.some.inj h.2))⟩
theorem eq_446 {a b:Expr} {op:Operator} {p:Pos}:xP (.BinOp a op b p) [a,b] (p2 (binaryOp op)):=fun _ _ _ h=>.eq (arm_eval_BinOp ..) (.bm h fun _ _ h=>.bm (.hold h) fun _ _ h=>.at (.oper h))
theorem eq_728 {p:Op} {f:Value->Value->Sem Value} {F:V->V->Hp->Option V} (e:∀vs H,yK p vs H=hr H (l2 vs fun a b=>F a b H)) (h:∀(g:G) a b x y v,g.D a x->g.D b y->F a b g.H=some v->WV g (f x y) v):xa p (p2 f):=fun g vs _ v _ d q=>
 have z:=eq_759 ((e vs g.H).symm.trans q)
 (eq_897 z.2 d).elim fun x q=>q.elim fun y q=>q.2.elim fun a r=>r.elim fun b r=>q.1▸z.1▸.of (h g a b x y v r.1 r.2.1 r.2.2)
theorem eq_591 {p:Op} {f:Value->Sem Value} {F:V->Hp->Option V} (e:∀vs H,yK p vs H=hr H (l1 vs fun a=>F a H)) (h:∀(g:G) a x v,g.D a x->F a g.H=some v->WV g (f x) v):xa p (p1 f):=fun g vs _ v _ d q=>
 have z:=eq_759 ((e vs g.H).symm.trans q)
 (xw z.2 d).elim fun x q=>q.2.elim fun a r=>q.1▸z.1▸.of (h g a x v r.1 r.2)
theorem eq_452 {op:Operator}:xa (.bin op) (p2 (binaryOp op)):=eq_728 (fun _ _=>rfl) fun _ _ _ _ _ _=>eq_159
abbrev WB (g:G) (t:Sem Value) (b:Bool):Prop:=WV g t (.bool b)
theorem eq_914 {a b:List Nat} (h:Sx a=Sx b):a=b:=congrArg (fun s:Str=>s.cps.toList) h
theorem eq_181 (a b:List Nat):(Sx a == Sx b)=decide (a=b):=by
 by_cases q:a=b
 ·rw [decide_eq_true q,q];exact beq_self_eq_true _
 ·rw [decide_eq_false q];exact beq_eq_false_iff_ne.mpr fun e=>q (eq_914 e)
theorem eq_747:A0.units+64 < cLine:=by
 rw [cLine_is]
 exact Nat.lt_of_le_of_lt (Nat.add_le_add_right (Nat.sub_le 9000 _) 64) (by decide)
theorem eq_201 {α β:Type} {f:α->Option β} {a:α} {l:List α} {r:List β} (h:zB f (a::l)=some r):∃b s,f a=some b/\zB f l=some s/\b::s=r:=
 (zc h).elim fun b h=>(zc h.2).elim fun s q=>⟨b,s,h.1,q.1,Option.some.inj q.2⟩
theorem eq_344 {k z:List Nat} {s:List (List Nat)} {b:Bool} (h:b=decide (z∈s)):(decide (k=z)||b)=decide (z∈k::s):=by
 rw [h,Bool.eq_iff_iff,Bool.or_eq_true,decide_eq_true_iff,decide_eq_true_iff,decide_eq_true_iff,List.mem_cons]
 exact or_congr_left eq_comm
theorem eq_539 {g:G}:∀{l:List V} {xs:List Value} {ss:List (List Nat)},g.DL l xs->zB yM l=some ss->(∀x∈xs,∃k t,x=.str k t)/\∀z,xs.any (fun y=>y.isStr (Sx z))=decide (z∈ss)
 | []=>fun d h=>(show _=[] from d)▸Option.some.inj h▸⟨(fun _ q=>nomatch q),fun _=>rfl⟩
 | _::_=>fun d h=>(eq_201 h).elim fun _ h=>h.elim fun _ h=>d.elim fun _ d=>d.elim fun _ d=>(zI h.1 d.2.1).elim fun _ e=>have i:=eq_539 d.2.2 h.2.1
  d.1▸e▸h.2.2▸⟨fun x q=>(List.mem_cons.mp q).elim (fun e=>⟨_,_,e⟩) (i.1 x),fun z=>(congrArg (·||_) (eq_181 _ z)).trans (eq_344 (i.2 z))⟩
theorem eq_61 {s:Shared} {A:Around} {k x:Str} {t u:Tok}:SeqAt.EqAt A s (.str k t) (.str x u) (Value.isStr (.str k t) x):=fun _ _ _ _ h=>wpAny_eqBool_str (by
 rw [show decide (k=x)=Value.isStr (.str k t) x from Bool.eq_iff_iff.mpr (by rw [decide_eq_true_iff];exact beq_iff_eq.symm)];exact h)
theorem eq_788 {K:Type} [DecidableEq K] {k:K}:∀{kvs:List (K×Value)},(valueAt kvs k).isSome=decide (k∈kvs.map (·.1))
 | []=>rfl
 | p::r=>by
  unfold valueAt
  rw [List.find?_cons]
  by_cases h:p.1=k
  ·rw [decide_eq_true h,decide_eq_true (show k∈(p::r).map (·.1) from h▸List.mem_cons_self ..)];rfl
  ·rw [decide_eq_false h,show (Option.map _ _).isSome=_ from eq_788 (kvs:=r),Bool.eq_iff_iff,decide_eq_true_iff,decide_eq_true_iff,List.map_cons,List.mem_cons]
   exact ⟨.inr,fun z=>z.elim (fun e=>(h e.symm).elim) id⟩
theorem eq_890 {t:zZ} {ks:List (List Nat)}:t.dks=some ks->t=.dcs ks:=zZ.casesOn (motive:=fun t=>t.dks=some ks->t=.dcs ks) t zl zl (fun _ h=>congrArg _ (Option.some.inj h)) (fun _=>zl) (fun _ _=>zl) (fun _=>zl) fun _ _ _=>zl
theorem eq_722 {t:zZ} {ks:List Int}:t.iks=some ks->t=.dci ks:=zZ.casesOn (motive:=fun t=>t.iks=some ks->t=.dci ks) t zl zl (fun _=>zl) (fun _ h=>congrArg _ (Option.some.inj h)) (fun _ _=>zl) (fun _=>zl) fun _ _ _=>zl
theorem zbq.at {K:Type} [DecidableEq K] {knd:PySem.KeyKind PW w0 K} {a:Addr} {o:Obj} {kvs:List (K×Value)} {h:Heap} (d:zbq knd a o kvs) (e:h.get? a=some o):h.DictOf knd a kvs:=d.2.elim fun es q=>q.elim fun ep q=>⟨o,es,ep,e,q⟩
theorem eq_876 {h:Heap} {ks:List (List Nat)} {a dx:Addr} {ys:List Value} (d:z7 h (.dcs ks) a dx ys):∃kvs,(a == sysModules)=false/\h.DictOf (PySem.strKind PW w0) a kvs/\kvs.map (·.1)=ks.map Sx/\kvs.map (·.2)=ys:=
 d.elim fun _ d=>d.elim fun _ d=>d.2.2.imp fun _ q=>⟨q.1.1,q.1.at d.1,q.2⟩
theorem eq_826 {h:Heap} {ks:List Int} {a dx:Addr} {ys:List Value} (d:z7 h (.dci ks) a dx ys):∃kvs,(a == sysModules)=false/\h.DictOf (PySem.intKind PW w0) a kvs/\kvs.map (·.1)=ks/\kvs.map (·.2)=ys:=
 d.elim fun _ d=>d.elim fun _ d=>d.2.2.imp fun _ q=>⟨q.1.1,q.1.at d.1,q.2⟩
theorem eq_778 {h:Heap} {t:zZ} {a dx:Addr} {ys:List Value} (n:t.seq≠0) (d:z7 h t a dx ys):(∃n,h.get? a=some { cls:=.type "list",data:=.seq ys.toArray n })∨h.IsTuple a ys.toArray:=
 zZ.casesOn (motive:=fun t=>t.seq≠0->z7 h t a dx ys->(∃n,h.get? a=some { cls:=.type "list",data:=.seq ys.toArray n })∨h.IsTuple a ys.toArray) t (fun _ d=>.inr (d.elim fun o d=>d.elim fun _ d=>⟨o,d.1,d.2.2⟩)) (fun _ d=>.inl (xi rfl d))
  (fun _ n=>(n rfl).elim) (fun _ n=>(n rfl).elim) (fun _ _ n=>(n rfl).elim) (fun _ n=>(n rfl).elim) (fun _ _ _ n=>(n rfl).elim) n d
theorem eq_199 {z:List Nat} {ks:List (List Nat)}:decide (Sx z∈ks.map Sx)=decide (z∈ks):=by
 rw [Bool.eq_iff_iff,decide_eq_true_iff,decide_eq_true_iff]
 exact ⟨fun h=>(List.mem_map.mp h).elim fun _ q=>eq_914 q.2▸q.1,List.mem_map_of_mem⟩
section
variable {g:G} {a b:V} {x y:Value} {r:Bool}
theorem eq_264 {ys:List Value} {ss:List (List Nat)} {k:List Nat} {t:Tok} {l:List V} (r:g.DL l ys) (hs:zB yM l=some ss):(∀v∈ys.toArray,SeqAt.EqAt A0.in1 g.s v (.str (Sx k) t) (v.isStr (Sx k)))/\ys.toArray.any (fun y=>y.isStr (Sx k))=decide (k∈ss):=
 have i:=eq_539 r hs
 ⟨fun v hv=>(i.1 v (List.mem_toArray.mp hv)).elim fun k h=>h.elim fun u e=>e▸eq_61,(List.any_toArray ..).trans (i.2 k)⟩
theorem eq_400 {t:zZ} {k:List Nat} {u:Tok} {a dx:Addr} {l:List V} {ys:List Value} {ss:List (List Nat)} (L:z7 g.s.heap t a dx ys) (r:g.DL l ys) (n:t.seq≠0) (hs:zB yM l=some ss):WB g (compareOp .In (.str (Sx k) u) (.ref a)) (decide (k∈ss)):=
 have i:=eq_264 (k:=k) (t:=u) r hs
 (eq_778 n L).elim (fun G=>G.elim fun n G=>SeqAt.in_listAt (fun v=>v.isStr (Sx k)) ⟨_,G,rfl,n,rfl⟩ i.1 (by rw [i.2];exact Pv.here zo)) fun G=>SeqAt.in_tupleAt (fun v=>v.isStr (Sx k)) G i.1 (by rw [i.2];exact Pv.here zo)
theorem eq_403 {ks:List (List Nat)} {k:List Nat} {u:Tok} {a dx:Addr} {ys:List Value} (L:z7 g.s.heap (.dcs ks) a dx ys):WB g (compareOp .In (.str (Sx k) u) (.ref a)) (decide (k∈ks)):=
 (eq_876 L).elim fun _ L=>wpAny_in_of (knd:=PySem.strKind PW w0) (k:=Sx k) (beq_self_eq_true (Sx k)) L.1 L.2.1.mapOf (by rw [eq_788,L.2.2.1,eq_199];exact Pv.tk zo)
theorem eq_402 {ks:List Int} {k:Int} {u:Tok} {a dx:Addr} {ys:List Value} (L:z7 g.s.heap (.dci ks) a dx ys):WB g (compareOp .In (.int k u) (.ref a)) (decide (k∈ks)):=
 (eq_826 L).elim fun _ L=>wpAny_in_of (knd:=PySem.intKind PW w0) (k:=k) (beq_self_eq_true k) L.1 L.2.1.mapOf (by rw [eq_788,L.2.2.1];exact Pv.tk zo)
theorem eq_399 {k l:List Nat} {t u:Tok} (h:k.length=1):WB g (compareOp .In (.str (Sx k) t) (.str (Sx l) u)) (decide (k.headD 0∈l)):=
 (List.length_eq_one_iff.mp h).elim fun c e=>by
  subst e
  exact P.in_str (by rw [show Sx [c]=⟨#[c]⟩ from rfl,StrLaws.found_one (Sx l) c];exact Pv.here zo)
theorem eq_401 {p:zZ×List V} {d dx:Addr} {ys:List Value} (da:g.D a x) (L:z7 g.s.heap p.1 d dx ys) (l:g.DL p.2 ys) (h:inN p a=some r):WB g (compareOp .In x (.ref d)) r:=
 (oc h).elim (fun h=>(zc h.2).elim fun _ h=>(zI h.1 da).elim fun _ e=>e▸(oc h.2).elim (fun h=>have h:=zm h.2;(zc h.2).elim fun _ q=>Option.some.inj q.2▸eq_400 L l h.1 q.1) fun h=>h.elim fun _ h=>Option.some.inj h.2▸eq_403 (eq_890 h.1▸L))
  fun h=>h.elim fun _ h=>(zc h.2).elim fun _ h2=>(ya h2.1 da).elim fun _ e=>e▸Option.some.inj h2.2▸eq_402 (eq_722 h.1▸L)
theorem c_in (da:g.D a x) (db:g.D b y) (h:inF a b g.H=some r):WB g (compareOp .In x y) r:=
 (oc h).elim (fun h=>(zc h.2).elim fun _ h=>(Zx h.1 db).elim fun _ n=>n.elim fun _ n=>n.elim fun _ n=>n.1▸eq_401 da n.2.1 n.2.2 h.2)
  fun h=>h.elim fun _ h=>(zc h.2).elim fun _ h2=>(zI h2.1 da).elim fun _ e=>(zI h.1 db).elim fun _ e2=>have h:=zm h2.2;e▸e2▸Option.some.inj h.2▸eq_399 h.1
theorem c_ni (h:WB g (compareOp .In x y) r):WB g (compareOp .NotIn x y) (!r):=fun Γ p hΓ=>by
 have h:=h Γ p hΓ
 rw [show compareOp .In x y=(contains y x >>= fun b=>pure (.bool b)) from rfl,Sem.wp_bind'] at h
 rw [show compareOp .NotIn x y=(contains y x >>= fun b=>pure (.bool (!b))) from rfl,Sem.wp_bind']
 exact Sem.wp_mono _ _ _ (fun b p' s' hb=>Exists.elim hb fun g1 q=>⟨g1,q.1,q.2.1,q.2.2.1,by cases (show Value.bool b=.bool r from q.2.2.2);rfl⟩) (fun _ _ _ x=>x) _ _ h
mutual
theorem eq_800:∀(v:V) (x:Value) (d:PyData),g.D v x->toD v=some d->∃as,Reads g.s.heap x d as
 | .none=>fun _ _ h e=>Option.some.inj e▸(show _=Value.none from h)▸⟨_,.none⟩
 | .bool b=>fun _ _ h e=>Option.some.inj e▸(show _=Value.bool b from h)▸⟨_,.bool b⟩
 | .int i=>fun _ _ h e=>Option.some.inj e▸h.elim fun t h=>h▸⟨_,.int i t⟩
 | .str l=>fun _ _ h e=>Option.some.inj e▸h.elim fun t h=>h▸⟨_,.str _ t⟩
 | .byt _=>fun _ _ _=>zl
 | .nd t l=>fun _ d h e=>(zc e).elim fun ds e=>h.elim fun a h=>h.elim fun dx h=>h.elim fun ys h=>(eq_705 l ys ds h.2.2.2.2 e.1).elim fun as r=>h.1▸
  zZ.casesOn (motive:=fun t=>sqD t ds=some d->z7 g.s.heap t a dx ys->∃as,Reads g.s.heap (.ref a) d as) t (fun e L=>Option.some.inj e▸L.elim fun o L=>L.elim fun _ L=>L.2.2.2.elim fun n q=>⟨_,.tuple L.1 L.2.2.1 q r⟩)
   (fun e L=>Option.some.inj e▸(xi rfl L).elim fun n q=>⟨_,.list q rfl rfl r⟩) (fun _=>zl) (fun _=>zl) (fun _ _=>zl) (fun _=>zl) (fun _ _ _=>zl) e.2 h.2.2.2.1
 | .ref _=>fun _ _ _=>zl
 | .fn _=>fun _ _ _=>zl
theorem eq_705:∀(l:List V) (xs:List Value) (ds:List PyData),g.DL l xs->zhT l=some ds->∃as,ReadsAll g.s.heap xs ds as
 | []=>fun _ _ h e=>Option.some.inj e▸(show _=[] from h)▸⟨_,.nil⟩
 | v::l=>fun _ _ h e=>h.elim fun y h=>h.elim fun ys h=>(zc e).elim fun d1 e=>(zc e.2).elim fun d2 q=>h.1▸Option.some.inj q.2▸(eq_800 v y d1 h.2.1 e.1).elim fun _ ra=>(eq_705 l ys d2 h.2.2 q.1).elim fun _ rb=>⟨_,.cons ra rb⟩
end
theorem eq_e {P:Value->Value->Bool->Prop} (da:g.D a x) (db:g.D b y) (h:eqF a b=some r) (i:∀i j t u,P (.int i t) (.int j u) (decide (i=j))) (s:∀k l t u,P (.str (Sx k) t) (.str (Sx l) u) (decide (k=l)))
  (q:∀x y d e as bs,Reads g.s.heap x d as->Reads g.s.heap y e bs->SeqAt.shaped d=true->SeqAt.shaped e=true->P x y (PyData.eqv d e)):P x y r:=
 (oc h).elim (fun h=>(oc h.2).elim (fun h=>(zc h.2).elim fun d h=>(zc h.2).elim fun e h2=>have s1:=zm h2.2;have s2:=zm s1.2;(eq_800 _ _ _ da h.1).elim fun as ra=>(eq_800 _ _ _ db h2.1).elim fun bs rb=>Option.some.inj s2.2▸q x y d e as bs ra rb s1.1 s2.1)
   fun h=>h.elim fun k h=>(zc h.2).elim fun j h2=>(zI h.1 da).elim fun t e=>(zI h2.1 db).elim fun u e2=>e▸e2▸Option.some.inj h2.2▸s k j t u)
  fun h=>h.elim fun k h=>(zc h.2).elim fun j h2=>(ya h.1 da).elim fun t e=>(ya h2.1 db).elim fun u e2=>e▸e2▸Option.some.inj h2.2▸i k j t u
theorem eq_617 {α:Type} [BEq α] [LawfulBEq α] [DecidableEq α] (a b:α):(a == b)=decide (a=b):=Bool.eq_iff_iff.mpr (by rw [decide_eq_true_iff];exact beq_iff_eq)
theorem eq_731 {α:Type} [BEq α] [LawfulBEq α] [DecidableEq α] (a b:α):(a != b)=!decide (a=b):=congrArg (!·) (eq_617 a b)
theorem c_eq (da:g.D a x) (db:g.D b y) (h:eqF a b=some r):WB g (compareOp .Eq x y) r:=eq_e (P:=fun x y r=>WB g (compareOp .Eq x y) r) da db h (fun _ _ _ _=>P.eq_int (Pv.here zo))
 (fun _ _ _ _=>P.eq_str (Pv.here (eq_617 (α:=List Nat) _ _▸zo))) fun _ _ _ _ _ _ ra rb s1 s2=>SeqAt.compareEq_shaped ra rb s1 s2 eq_747 (Pv.here zo)
theorem c_nq (da:g.D a x) (db:g.D b y) (h:eqF a b=some r):WB g (compareOp .NotEq x y) (!r):=eq_e (P:=fun x y r=>WB g (compareOp .NotEq x y) (!r)) da db h (fun _ _ _ _=>P.ne_int (Pv.here zo))
 (fun _ _ _ _=>P.ne_str (Pv.here (eq_731 (α:=List Nat) _ _▸zo))) fun _ _ _ _ _ _ ra rb s1 s2=>SeqAt.compareNe_shaped ra rb s1 s2 eq_747 (Pv.here zo)
end
theorem bc {α:Type} {p:Prop} [d:Decidable p] {x y:Option α} {v:α}:Bool.casesOn (motive:=fun _=>Option α) (decide p) y x=some v->(p/\x=some v)∨(¬ p/\y=some v):=Decidable.casesOn (motive:=fun d=>Bool.casesOn (motive:=fun _=>Option α) (@decide p d) y x=some v->(p/\x=some v)∨(¬ p/\y=some v)) d (fun n h=>.inr ⟨n,h⟩) fun q h=>.inl ⟨q,h⟩
theorem at_e {α:Type} {l:List α} {i:Int} {v:α} (hl:l.length<=1000000) (h:at_ l i=some v) :
  -(2 ^ 63)<=i/\i < 2 ^ 63/\((0<=i/\l[i.toNat]?=some v/\i.toNat < l.length)∨(i < 0/\-(l.length:Int)<=i/\l[(i+l.length).toNat]?=some v)):=
 (bc h).elim (fun h=>have h2:=zm h.2;have h0:=h.1;have h1:=h2.1;⟨by lia,by lia,.inr ⟨h0,by lia,h2.2⟩⟩)
  fun h=>have h1:=(List.getElem?_eq_some_iff.mp h.2).1;have h0:=h.1;⟨by lia,by lia,.inl ⟨by lia,h.2,h1⟩⟩
theorem eq_819 {n:Nat} {i:Int}:(0<=i->i.toNat < n->seqIndex? i n=some i.toNat)/\(i < 0->-(n:Int)<=i->seqIndex? i n=some (i+n).toNat):=by
 unfold seqIndex?
 exact ⟨fun h0 h1=>by rw [if_neg (Int.not_lt.mpr h0)];simp;lia,fun h0 h1=>by rw [if_pos h0];simp;lia⟩
theorem xo {g:G}:∀{l:List V} {xs:List Value} {i:Nat} {v:V},g.DL l xs->l[i]?=some v->∃x,xs[i]?=some x/\g.D v x
 | [],_,_,_=>fun _=>zl
 | _::_,_,0,_=>fun h e=>h.elim fun x h=>h.elim fun _ h=>h.1▸⟨x,rfl,Option.some.inj e▸h.2.1⟩
 | _::_,_,i+1,_=>fun h e=>h.elim fun _ h=>h.elim fun _ h=>h.1▸xo (i:=i) h.2.2 e
theorem eq_880 {g:G} {K α:Type} [DecidableEq K] [DecidableEq α] {f:α->K} (hf:∀a b,f a=f b->a=b):∀{ks:List α} {vs:List V} {kvs:List (K×Value)} {k:α} {v:V},kvs.map (·.1)=ks.map f->g.DL vs (kvs.map (·.2))->zP ks vs k=some v->∃x,valueAt kvs (f k)=some x/\g.D v x
 | [],_,_,_,_=>fun _ _=>zl
 | _::_,[],_,_,_=>fun _ _=>zl
 | _::_,_::_,[],_,_=>fun e=>nomatch e
 | j::ks,u::vs,p::kvs,k,v=>fun e d h=>by
  obtain ⟨e1,e2⟩:=List.cons.inj e
  obtain ⟨y,ys,e3,d1,r⟩:=d
  obtain ⟨e3,e4⟩:=List.cons.inj e3
  unfold valueAt
  rw [List.find?_cons]
  by_cases hk:j=k
  ·have h:(bif decide (j=k) then some u else zP ks vs k)=some v:=h
   rw [decide_eq_true hk] at h
   rw [decide_eq_true (e1.trans (congrArg f hk))]
   exact ⟨y,congrArg some e3,Option.some.inj h▸d1⟩
  ·have h:(bif decide (j=k) then some u else zP ks vs k)=some v:=h
   rw [decide_eq_false hk] at h
   rw [decide_eq_false fun q=>hk (hf _ _ (e1.symm.trans q))]
   exact eq_880 hf e2 (e4▸r) h
section
variable {g:G} {a i v:V} {x y:Value} {value slice:Expr}
def Sub (s:Expr):Prop:=∀o i,subscripted s false o i=operate [o,i] (getItem o i)
theorem eq_184 {t:zZ} {d dx:Addr} {l:List V} {ys:List Value} {k:Int} {u:Tok} (hs:Sub slice) (L:z7 g.s.heap t d dx ys) (r:g.DL l ys) (n:t.seq≠0) (hl:l.length<=1000000) (h:at_ l k=some v):WV g (subscriptTail value slice (.ref d) (.int k u)) v:=by
 obtain ⟨b1,b2,h⟩:=at_e hl h
 have len:=zf r
 rcases h with ⟨h0,h,hl⟩ | ⟨h0,h1,h⟩
 ·obtain ⟨y,hy,dy⟩:=xo r h
  have hy:ys.toArray[k.toNat]?=some y:=(List.getElem?_toArray ..).trans hy
  exact (eq_778 n L).elim (fun G=>G.elim fun n G=>tail_any (T:="list") ⟨_,G,rfl⟩ slot_list_getitem.lookup (wpAny_getItem_list ⟨_,G,rfl,_,rfl⟩ h0 b2 hy (Pv.here dy)) (hs _ _))
   fun G=>tail_any (T:="tuple") G.typeIs PySem.F.slot_tuple_getitem.lookup (getItem_tuple G b1 b2 (eq_819.1 h0 (by rw [List.size_toArray,len];exact hl)) hy (Pv.here dy)) (hs _ _)
 ·rw [← len] at h h1
  obtain ⟨y,hy,dy⟩:=xo r h
  have hy:ys.toArray[(k+ys.toArray.size).toNat]?=some y:=(List.getElem?_toArray ..).trans hy
  exact (eq_778 n L).elim (fun G=>G.elim fun n G=>tail_any (T:="list") ⟨_,G,rfl⟩ slot_list_getitem.lookup (wpAny_getItem_list_neg ⟨_,G,rfl,_,rfl⟩ h0 h1 b1 hy (Pv.here dy)) (hs _ _))
   fun G=>tail_any (T:="tuple") G.typeIs PySem.F.slot_tuple_getitem.lookup (getItem_tuple G b1 b2 (eq_819.2 h0 h1) hy (Pv.here dy)) (hs _ _)
theorem eq_538 {ks:List (List Nat)} {d dx:Addr} {l:List V} {ys:List Value} {k:List Nat} {u:Tok} (L:z7 g.s.heap (.dcs ks) d dx ys) (r:g.DL l ys) (h:zP ks l k=some v):g.s.TypeIs (.ref d) "dict"/\WV g (getItem (.ref d) (.str (Sx k) u)) v:=
 (eq_876 L).elim fun kvs L=>(eq_880 (f:=Sx) (fun _ _=>eq_914) L.2.2.1 (L.2.2.2▸r) h).elim fun _ h=>⟨L.2.1.mapOf.typeIs,wpAny_getItem_of (knd:=PySem.strKind PW w0) (beq_self_eq_true (Sx k)) L.2.1.mapOf h.1 (Pv.tk h.2)⟩
theorem eq_186 {ks:List Int} {d dx:Addr} {l:List V} {ys:List Value} {k:Int} {u:Tok} (L:z7 g.s.heap (.dci ks) d dx ys) (r:g.DL l ys) (h:zP ks l k=some v):g.s.TypeIs (.ref d) "dict"/\WV g (getItem (.ref d) (.int k u)) v:=
 (eq_826 L).elim fun kvs L=>(eq_880 (f:=id) (fun _ _=>id) (L.2.2.1.trans (List.map_id _).symm) (L.2.2.2▸r) h).elim fun _ h=>⟨L.2.1.mapOf.typeIs,wpAny_getItem_of (knd:=PySem.intKind PW w0) (beq_self_eq_true k) L.2.1.mapOf h.1 (Pv.tk h.2)⟩
theorem eq_183 {l:List Nat} {k:Int} {t u:Tok} {c:Nat} (hs:Sub slice) (hl:l.length<=1000000) (h:at_ l k=some c):WV g (subscriptTail value slice (.str (Sx l) t) (.int k u)) (.str [c]):=
 have h:=at_e hl h
 tail_any (typeIs_str _ _ _) PySem.F.slot_str_getitem.lookup (P.getItem_str (c:=c) (by rw [decide_eq_false (Int.not_lt.mpr h.1),decide_eq_false (Int.not_le.mpr h.2.1)];rfl)
  (h.2.2.elim (fun h=>(congrArg (fun o=>o.bind (l.toArray[·]?)) (eq_819.1 h.1 h.2.2)).trans ((List.getElem?_toArray ..).trans h.2.1)) fun h=>(congrArg (fun o=>o.bind (l.toArray[·]?)) (eq_819.2 h.1 h.2.1)).trans ((List.getElem?_toArray ..).trans h.2.2)) (Pv.tk eq_936)) (hs _ _)
theorem eq_167 {l:List UInt8} {k:Int} {t u:Tok} {c:UInt8} (hs:Sub slice) (hl:l.length<=1000000) (h0:0<=k) (h:l[k.toNat]?=some c):WV g (subscriptTail value slice (.bytes l.toArray t) (.int k u)) (.int c.toNat):=
 tail_any (typeIs_bytes _ _ _) FB.slot_bytes_getitem.lookup (W.getItem_bytes (l:=l) (Nat.le_trans hl (by decide)) h0 ((Int.toNat_lt h0).mp (List.getElem?_eq_some_iff.mp h).1) (by rw [List.getD_eq_getElem?_getD,h];exact Pv.tk zp)) (hs _ _)
theorem eq_185 {p:zZ×List V} {d dx:Addr} {ys:List Value} (hs:Sub slice) (di:g.D i y) (L:z7 g.s.heap p.1 d dx ys) (r:g.DL p.2 ys) (h:subN p i=some v):WV g (subscriptTail value slice (.ref d) y) v:=
 (oc h).elim (fun h=>(oc h.2).elim (fun h=>have h:=zm h.2;(zc h.2).elim fun k h2=>(ya h2.1 di).elim fun _ e=>have h3:=zm h2.2;e▸eq_184 hs L r h.1 h3.1 h3.2)
   fun h=>h.elim fun ks h=>(zc h.2).elim fun _ h2=>(ya h2.1 di).elim fun _ e=>have z:=eq_186 (eq_722 h.1▸L) r h2.2;e▸tail_any z.1 slot_dict_getitem.lookup z.2 (hs _ _))
  fun h=>h.elim fun ks h=>(zc h.2).elim fun _ h2=>(zI h2.1 di).elim fun _ e=>have z:=eq_538 (eq_890 h.1▸L) r h2.2;e▸tail_any z.1 slot_dict_getitem.lookup z.2 (hs _ _)
theorem eq_108 (hs:Sub slice) (da:g.D a x) (di:g.D i y) (h:zat a i g.H=some v):WV g (subscriptTail value slice x y) v:=
 (oc h).elim (fun h=>(oc h.2).elim (fun h=>(zc h.2).elim fun _ h=>(Zx h.1 da).elim fun _ n=>n.elim fun _ n=>n.elim fun _ n=>n.1▸eq_185 hs di n.2.1 n.2.2 h.2)
   fun h=>h.elim fun _ h=>(eq_752 h.1 da).elim fun _ e=>(zc h.2).elim fun _ h2=>(ya h2.1 di).elim fun _ e2=>have h3:=zm h2.2;have h4:=zm h3.2;(zc h4.2).elim fun _ h5=>e▸e2▸Option.some.inj h5.2▸eq_167 hs h3.1 h4.1 h5.1)
  fun h=>h.elim fun _ h=>(zI h.1 da).elim fun _ e=>(zc h.2).elim fun _ h2=>(ya h2.1 di).elim fun _ e2=>have h3:=zm h2.2;(zc h3.2).elim fun _ h5=>e▸e2▸Option.some.inj h5.2▸eq_183 hs h3.1 h5.1
end
theorem eq_477 {a s:Expr} {p:Pos}:xP (.Subscript a s p) [a,s] (p2 (subscriptTail a s)):=fun _ _ _ h=>.eq (arm_eval_Subscript ..) (.bm h fun _ _ h=>.bm (.hold h) fun _ _ h=>.at h)
theorem eq_448 {a s:Expr} (hs:Sub s):xa .sub (p2 (subscriptTail a s)):=eq_728 (fun _ _=>rfl) fun _ _ _ _ _ _=>eq_108 hs
theorem eq_62 {s:Shared} {A:Around} {k:Int} {t u:Tok}:SeqAt.EqAt A s (.int k t) (.int k u) true:=fun _ _ _ _ h=>wpAny_eqBool_int (by rw [beq_self_eq_true];exact h)
theorem dv_e {g:G} {v:V} {x:Value} {p:List (List Nat)×List V} (h:dv v g.H=some p) (d:g.D v x):∃a kvs,x=.ref a/\(a == sysModules)=false/\g.s.heap.DictOf (PySem.strKind PW w0) a kvs/\kvs.map (·.1)=p.1.map Sx/\g.DL p.2 (kvs.map (·.2)):=
 (zc h).elim fun _ h=>(zc h.2).elim fun _ q=>(Zx h.1 d).imp fun _ n=>n.elim fun _ n=>n.elim fun _ n=>Exists.elim (eq_876 (eq_890 q.1▸n.2.1)) fun kvs L=>⟨kvs,n.1,L.1,L.2.1,Option.some.inj q.2▸L.2.2.1,Option.some.inj q.2▸L.2.2.2.symm▸n.2.2⟩
theorem eq_633 {g:G} {s:Shared} {A:Around} {kb:List (List Nat)} {vb:List V} {kvb:List (Str×Value)} (eb:kvb.map (·.1)=kb.map Sx) (db:g.DL vb (kvb.map (·.2))):∀{ks:List (List Nat)} {vs:List V} {kvs:List (Str×Value)},kvs.map (·.1)=ks.map Sx->g.DL vs (kvs.map (·.2))->eqD kb vb ks vs=true->KeqHits A s kvb kvs true
 | [],_,[]=>fun _ _ _=>.nil
 | [],_,_::_=>fun e=>nomatch e
 | _::_,[],_=>fun _ _ h=>nomatch h
 | _::_,_::_,[]=>fun e=>nomatch e
 | k::ks,v::vs,(k2,x)::kvs=>fun e d h=>by
  obtain ⟨e1,e2⟩:=List.cons.inj e
  obtain ⟨y,ys,e3,d1,r⟩:=d
  obtain ⟨e3,e4⟩:=List.cons.inj e3
  have h:Option.casesOn (motive:=fun _=>Bool) (bo (xB v) fun x=>bo (zP kb vb k) fun u=>bo (xB u) fun y=>wo (x=y) (some ())) false (fun _=>eqD kb vb ks vs)=true:=h
  cases z:bo (xB v) fun x=>bo (zP kb vb k) fun u=>bo (xB u) fun y=>wo (x=y) (some ()) with
  | none=>rw [z] at h;cases h
  | some q=>
   rw [z] at h
   obtain ⟨i,hi,z⟩:=zc z
   obtain ⟨u,hu,z⟩:=zc z
   obtain ⟨j,hj,z⟩:=zc z
   obtain rfl:=(zm z).1
   obtain ⟨w,hw,dw⟩:=eq_880 (f:=Sx) (fun _ _=>eq_914) eb db hu
   obtain ⟨t,rfl⟩:=ya hj dw
   obtain ⟨t',e5⟩:=ya hi d1
   have e3:x=.int i t':=e3.trans e5
   have e1:k2=Sx k:=e1
   subst e3 e1
   exact KeqHits.hit hw eq_62 (eq_633 eb db e2 (e4▸r) h)
theorem c_ne {g:G} {a b:V} {x y:Value} {r:Bool} (da:g.D a x) (db:g.D b y) (h:neF a b g.H=some r):WB g (compareOp .NotEq x y) r:=
 (oc h).elim (fun h=>(zc h.2).elim fun _ h=>Option.some.inj h.2▸c_nq da db h.1) fun h=>h.elim fun p h=>(zc h.2).elim fun q h2=>have h3:=zm h2.2;have h4:=zm h3.2;by
  obtain ⟨a,ka,rfl,sa,Da,ea,ra⟩:=dv_e h.1 da
  obtain ⟨b,kb,rfl,sb,Db,eb,rb⟩:=dv_e h2.1 db
  have l1:=congrArg List.length ea
  have l2:=congrArg List.length eb
  rw [List.length_map,List.length_map] at l1 l2
  have:=Option.some.inj h4.2
  subst this
  exact keq_ne sa sb Da Db (Nat.lt_of_le_of_lt (Nat.le_add_right _ 64) eq_747) (fun _=>eq_633 eb rb ea ra h4.1) (by rw [l1.trans (h3.1.trans l2.symm),beq_self_eq_true];exact Pv.here zo)
theorem eq_579 {g:G} {v:V} {x:Value} {b:Bool} (d:g.D v x) (h:isN v=some b):(x == Value.none)=b:=by
 cases v with
 | none=>obtain rfl:x=.none:=d;exact Option.some.inj h
 | bool b=>obtain rfl:x=.bool b:=d;exact Option.some.inj h
 | fn n=>exact zl h
 | nd=>exact d.elim fun _ d=>d.elim fun _ d=>d.elim fun _ d=>d.1▸Option.some.inj h
 | ref=>exact d.elim fun _ d=>d.2▸Option.some.inj h
 | _=>exact d.elim fun _ d=>d▸Option.some.inj h
theorem no_e {v:V}:QU v=true->v=.none:=by cases v<;>first | exact fun _=>rfl | exact (nomatch ·)
theorem eq_837 {g:G} {op:CmpOp} {a b:V} {x y:Value} {r:Bool} (da:g.D a x) (db:g.D b y) (h:zf7 op a b g.H=some r):WB g (compareOp op x y) r:=by
 have i:∀{P:Value->Value->Prop} {f:Int->Int->Option Bool},ii a b f=some r->(∀i j t u,f i j=some r->P (.int i t) (.int j u))->P x y:=fun h q=>(eq_810 h da db).elim fun i z=>z.elim fun j z=>z.elim fun t z=>z.elim fun u z=>z.1▸z.2.1▸q i j t u z.2.2
 cases op with
 | Lt=>exact i (P:=fun x y=>WB g (compareOp .Lt x y) r) h fun _ _ _ _ q=>P.lt_int (Pv.here (Option.some.inj q▸zo))
 | LtE=>exact i (P:=fun x y=>WB g (compareOp .LtE x y) r) h fun _ _ _ _ q=>P.le_int (Pv.here (Option.some.inj q▸zo))
 | Gt=>exact i (P:=fun x y=>WB g (compareOp .Gt x y) r) h fun _ _ _ _ q=>P.gt_int (Pv.here (Option.some.inj q▸zo))
 | GtE=>exact i (P:=fun x y=>WB g (compareOp .GtE x y) r) h fun _ _ _ _ q=>P.ge_int (Pv.here (Option.some.inj q▸zo))
 | Eq=>exact c_eq da db h
 | NotEq=>exact c_ne da db h
 | In=>exact c_in da db h
 | NotIn=>exact (zc h).elim fun _ h=>Option.some.inj h.2▸c_ni (c_in da db h.1)
 | Is=>
  have h:=zm h
  obtain rfl:=no_e h.1
  obtain rfl:y=.none:=db
  exact is_none (Pv.here (eq_579 da h.2▸zo))
 | IsNot=>
  have h:=zm h
  obtain rfl:=no_e h.1
  obtain rfl:y=.none:=db
  exact (zc h.2).elim fun _ q=>isNot_none (Pv.here (Option.some.inj q.2▸eq_579 da q.1▸zo))
structure Pl (e:Expr):Prop where
 star:∀l env,starEach (e::l) env=(false,eval e env)::starEach l env
 mark:∀op,behindInMarks op e=false
 sub:Sub e
 fold:∀env x,foldedSetIterable e env x=pure x
 aug:∀ov iv new,augStore e ov iv new=(do holding [new,ov,iv] (setItem ov iv new);release [new,ov,iv] [];pure .next)
theorem eq_445 {a b:Expr} {op:CmpOp} {p:Pos} (hb:Pl b):xP (.Compare a [op] [b] p) [a,b] (p2 (compareOp op)):=fun _ _ _ h=>.eq (eval_Compare1 ..) (.bm h fun _ _ h=>by rw [markedBehindIn_of_false (hb.mark op)];exact .bm (.hold h) fun _ _ h=>.at (.oper h))
theorem eq_451 {op:CmpOp}:xa (.cmp op) (p2 (compareOp op)):=eq_728 (fun _ _=>rfl) fun _ _ _ _ _ _ da db h=>(zc h).elim fun _ h=>Option.some.inj h.2▸eq_837 da db h.1
theorem eq_478 {a:Expr} {p:Pos}:xP (.UnaryOp .USub a p) [a] (p1 (unaryOp .USub)):=fun _ _ _ h=>.eq (arm_eval_UnaryOp ..) (.bm h fun _ _ h=>.at (.hold h))
theorem eq_449:xa .neg (p1 (unaryOp .USub)):=eq_591 (fun _ _=>rfl) fun _ _ _ _ da h=>(zc h).elim fun _ h=>(ya h.1 da).elim fun _ e=>e▸PyProof.Rows.neg_int (Pv.tk (Option.some.inj h.2▸zp))
theorem eq_302 {g:G} {v:V} {x:Value} {b:Bool} {T:Bool->Shared->Prop} (d:g.D v x) (h:truF v=some b) (q:∀n,T b (g.tk n).s):wpAny (model PW w0) A0 (truthy x) T y9 g.s:=by
 cases v with
 | none=>
  obtain rfl:x=.none:=d
  obtain rfl:=Option.some.inj h
  exact fun _ _ _=>q g.s.toks
 | bool c=>
  obtain rfl:x=.bool c:=d
  obtain rfl:=Option.some.inj h
  exact wpAny_truthy_bool (q g.s.toks)
 | int i=>
  obtain ⟨t,rfl⟩:=d
  exact P.truthy_int ((eq_731 i 0).trans ((decide_not ..).symm.trans (Option.some.inj h))▸q g.s.toks)
 | str l=>
  obtain ⟨t,rfl⟩:=d
  have h:=zm h
  exact P.truthy_str (Int.not_le.mpr (Int.lt_of_le_of_lt (Int.ofNat_le.mpr h.1) (by decide))) ((eq_731 ((Sx l).length:Int) 0).trans ((decide_not ..).symm.trans ((Bool.eq_iff_iff.mpr (by rw [decide_eq_true_iff,decide_eq_true_iff];exact not_congr (Int.natCast_eq_zero.trans List.length_eq_zero_iff))).trans (Option.some.inj h.2)))▸q (g.s.toks+1+1))
 | _=>exact zl h
theorem eq_815 (n d:Nat) (o:Option Int):(nrO n d o:Int)=Option.casesOn (motive:=fun _=>Int) o d fun i=>max (0:Int) (min (if i < 0 then i+n else i) n):=Option.casesOn (motive:=fun o=>(nrO n d o:Int)=Option.casesOn (motive:=fun _=>Int) o d fun i=>max (0:Int) (min (if i < 0 then i+n else i) n)) o rfl fun _=>Int.toNat_of_nonneg (Int.le_max_left ..)
theorem eq_569 {α:Type} {x:Array α} {lo hi:Option Int}:(sliceRange (Option.casesOn (motive:=fun _=>Int) lo (0:Nat) fun i=>max (0:Int) (min (if i < 0 then i+x.size else i) x.size)) (Option.casesOn (motive:=fun _=>Int) hi x.size fun i=>max (0:Int) (min (if i < 0 then i+x.size else i) x.size)) 1).filterMap (x[·]?)=cut x.toList lo hi:=by
 rw [← eq_815,← eq_815,sliceRange_one,pick_run]
 exact (List.drop_take ..).symm
theorem eq_528 (x:List Nat) (lo hi:Option Int):(Builtin.Str.strSliceIndices lo hi 1 (Sx x).length).filterMap ((Sx x).cps[·]?)=cut x lo hi:=by
 refine Eq.trans ?_ (eq_569 (x:=x.toArray))
 cases lo<;>cases hi<;>rfl
theorem eq_118 (x:List Value) (lo hi:Option Int):slicePick x.toArray lo hi none=(cut x lo hi).toArray:=congrArg List.toArray (Eq.trans (by cases lo<;>cases hi<;>rfl) (eq_569 (x:=x.toArray)))
theorem eq_198 (n:Nat) (o:Option Int):nrO n n o<=n:=Option.casesOn (motive:=fun o=>nrO n n o<=n) o (Nat.le_refl _) fun _=>Int.toNat_le.mpr (Int.max_le.mpr ⟨Int.natCast_nonneg _,Int.min_le_right ..⟩)
theorem eq_241 {α:Type} (l:List α) (lo hi:Option Int):(cut l lo hi).length=nrO l.length l.length hi - nrO l.length 0 lo:=by
 unfold cut
 rw [List.length_drop,List.length_take,Nat.min_eq_left (eq_198 ..)]
theorem eq_265 (x:List Nat) (lo hi:Option Int):(Builtin.Str.strSliceIndices lo hi 1 (Sx x).length).length=(cut x lo hi).length:=by
 rw [eq_241]
 refine Eq.trans (congrArg List.length (Eq.trans ?_ (sliceRange_one (nrO x.length 0 lo) (nrO x.length x.length hi)))) (by rw [List.length_map,List.length_range])
 rw [eq_815,eq_815]
 cases lo<;>cases hi<;>rfl
theorem eq_119 {α:Type} (l:List α) (lo hi:Option Int):(cut l lo hi).length<=l.length:=((List.drop_sublist ..).trans (List.take_sublist ..)).length_le
theorem eq_120 {α:Type} {l:List α} {lo hi:Option Int} (h:(cut l lo hi).length=l.length):cut l lo hi=l:=((List.drop_sublist ..).trans (List.take_sublist ..)).eq_of_length h
theorem eq_689 {g:G}:∀{n:Nat} {l:List V} {xs:List Value},g.DL l xs->g.DL (l.take n) (xs.take n)
 | 0,_,_=>fun _=>rfl
 | _+1,[],_=>fun h=>(show _=[] from h)▸rfl
 | _+1,_::_,_=>fun h=>h.elim fun _ h=>h.elim fun _ h=>h.1▸zh h.2.1 (eq_689 h.2.2)
theorem eq_690 {g:G}:∀{n:Nat} {l:List V} {xs:List Value},g.DL l xs->g.DL (l.drop n) (xs.drop n)
 | 0,_,_=>id
 | _+1,[],_=>fun h=>(show _=[] from h)▸rfl
 | n+1,_::_,_=>fun h=>h.elim fun _ h=>h.elim fun _ h=>h.1▸eq_690 (n:=n) h.2.2
theorem eq_83 {g:G} {l:List V} {xs:List Value} (lo hi:Option Int) (h:g.DL l xs):g.DL (cut l lo hi) (cut xs lo hi):=by
 unfold cut
 rw [zf h]
 exact eq_690 (eq_689 h)
def Q6 (x:Value) (o:Option Int):Prop:=∃p:Option (Int×Tok),x=partValue p/\p.map (·.1)=o
theorem Q6.is {x:Value} {o:Option Int} (h:Q6 x o):IsPart x o:=by
 obtain ⟨p,rfl,rfl⟩:=h
 cases p<;>constructor
section
variable {g:G} {lo hi:Option Int} {l u:Value} {e:Expr} {lw up:Option Expr} {p:Pos} {i:Addr} (hs:g.s.heap.IsSliceOf i l u .none) (pl:Q6 l lo) (pu:Q6 u hi)
include hs pl pu
theorem eq_350 {d dx:Addr} {ys:List Value} {t:zZ} {vs:List V} (L:z7 g.s.heap t d dx ys) (r:g.DL vs ys) (n:t.seq=2) (h:vs.length<=1000000):WV g (subscriptTail e (.Slice lw up none p) (.ref d) (.ref i)) (.nd .lst (cut vs lo hi)):=
 (xi n L).elim fun n G=>tail_any (T:="list") (ops:=[.ref i,.ref d]) ⟨_,G,rfl⟩ slot_list_getitem.lookup (wpAny_getItem_list_slice (items:=ys.toArray) ⟨_,G,rfl,_,rfl⟩ hs pl.is pu.is .none nofun
  (eq_118 ys lo hi▸Pv.push (t:=.lst) (tk:=g.s.toks) rfl ⟨0,rfl⟩ (eq_83 _ _ r)) (eq_907 (Nat.le_trans (Nat.le_of_eq (zf r)) h))) rfl
theorem eq_349 {s:List Nat} {t:Tok} (h:s.length<=100000):WV g (subscriptTail e (.Slice lw up none p) (.str (Sx s) t) (.ref i)) (.str (cut s lo hi)):=by
 obtain ⟨p1,rfl,rfl⟩:=pl
 obtain ⟨p2,rfl,rfl⟩:=pu
 refine tail_any (ops:=[.ref i,.str (Sx s) t]) (typeIs_str _ _ _) PySem.F.slot_str_getitem.lookup (wpAny_getItem_str_slice (l:=p1) (u:=p2) (st:=none) hs rfl ?_) rfl
 unfold sliceMade slicePicked
 split
 ·rename_i q
  exact (eq_120 ((eq_265 s _ _).symm.trans (beq_iff_eq.mp q))).symm▸Pv.here eq_936
 ·exact ⟨eq_931 (Nat.le_trans (Nat.le_of_eq (congrArg List.length (eq_528 s _ _))) (Nat.le_trans (eq_119 ..) h)),eq_528 s _ _▸Pv.tk eq_936⟩
end
theorem X1:∀{a b:List Nat},(a.all fun c=>Nat.blt c 129)=true->(b.all fun c=>Nat.blt c 129)=true->X2 a=X2 b->a=b
 | [],[]=>fun _ _ _=>rfl
 | [],c::b=>fun _ _ e=>(nomatch (Nat.add_eq_zero_iff.mp (e.symm:Nat.succ c+_=0)).1)
 | c::a,[]=>fun _ _ e=>(nomatch (Nat.add_eq_zero_iff.mp (e:Nat.succ c+_=0)).1)
 | c::a,d::b=>fun ha hb e=>by
  rw [List.all_cons,Bool.and_eq_true] at ha hb
  have h1:=Nat.le_of_ble_eq_true ha.1
  have h2:=Nat.le_of_ble_eq_true hb.1
  have e:Nat.succ c+130 * X2 a=Nat.succ d+130 * X2 b:=e
  have e1:c=d:=by lia
  have e2:X2 a=X2 b:=by lia
  rw [e1,X1 ha.2 hb.2 e2]
theorem Nm.inj {x y:Str} {i:Nat} (a:Nm x i) (b:Nm y i):x=y:=congrArg (fun l=>Str.mk l) (Array.toList_inj.mp (X1 a.1 b.1 (a.2.trans b.2.symm)))
def Q8 (C:Addr) (x:Str):Prop:=plainGet (kF w0.params) C x=true/\hasDictIn (kF w0.params) C=true/\findIn (kF w0.params) (.ref C) x=some none/\findIn (kF w0.params) (.ref C) "__setattr__"=some (some (.builtin "object.__setattr__"))/\plainOver (kF w0.params) C=true
def xS (n:Str) (x:Value):Prop:=∃mg mb,zC.Ns mainGlobals mg/\zC.Ns builtinsNs mb/\(mg n=some x∨(mg n=none/\mb n=some x))
noncomputable def Yl:Nat:=8394346445617398732
noncomputable def nDbg:Nat:=7891759895814603476
structure yy:Prop where
 X:(kF w0.params).In zC
 sys:zC.get? sysModules≠none
 enu:∀x,Nm x Yl->x≠"__debug__"/\xS x (.type "enumerate")
 gv:∀x i v,gv i=some v->Nm x i->x≠"__debug__"/\∃y,xS x y/\∀g:G,g.D v y
 at_:∀C x f,at0 C f=true->Nm x f->Q8 C x
 ca:∀c x f v,ca c f=some v->Nm x f->∃y,(∀g:G,g.D v y)/\∀(g:G) (P:Value->Shared->Prop),(∀n,P y (g.tk n).s)->wpAny (model PW w0) A0 (getAttr (fnV c) x true) P y9 g.s
 kp:∀i h,(kF w0.params).In h->∃k,(k=Keeper.frame∨k=Keeper.machine∨k=Keeper.boundFrame)/\Looks M0 h (keeperOf (fnV i)) k
 mth:∀k m i x,mtd k m=some i->Nm x m->∀(g:G) (v:V) (y:Value),kdV m v g.H=some k->g.D v y->∀(imp:Sem Bool) (P:Value×List Value->Shared->Prop),P (fnV i,[y]) g.s->wpAny (model PW w0) A0 (getMethod y x imp) P y9 g.s
 call:∀i (g:G) (vs:List V) (xs:List Value) (Q:QE),g.DL vs xs->xX i vs g.H Q->Ev g (PySem.call (fnV i) xs) Q
theorem eq_623 {t:zZ} {q:Nat×List Nat}:t.ink=some q->t=.ins q.1 q.2:=zZ.casesOn (motive:=fun t=>t.ink=some q->t=.ins q.1 q.2) t zl zl (fun _=>zl) (fun _=>zl) (fun _ _ h=>Option.some.inj h▸rfl) (fun _=>zl) fun _ _ _=>zl
theorem iv_e {g:G} {v:V} {x:Value} {p:Nat×List Nat×List V} (h:iv v g.H=some p) (d:g.D v x):∃a dx es n,x=.ref a/\g.s.heap.get? a=some (instObj p.1 dx)/\g.s.heap.get? dx=some (dictOf es n)/\jH es p.2.1/\g.DL p.2.2 (es.map (·.val)):=
 (zc h).elim fun q h=>(zc h.2).elim fun r z=>(Zx h.1 d).imp fun a n=>n.imp fun dx n=>n.elim fun ys n=>by
  obtain ⟨o,od,e1,e2,es,k,rfl,rfl,kl,rfl⟩:=eq_623 z.1▸n.2.1
  obtain rfl:=Option.some.inj z.2
  exact ⟨es,k,n.1,e1,e2,kl,n.2.2⟩
theorem eq_679 {g:G} {x:Str} {f:Nat} (hx:Nm x f):∀{es:List DictEntry} {ks:List Nat} {vs:List V} {v:V},jH es ks->g.DL vs (es.map (·.val))->zP ks vs f=some v->∃e,es.find? (·.key.isStr x)=some e/\g.D v e.val
 | [],_,_,_=>fun k _ h=>zl ((show _=[] from k)▸h)
 | e::es,_,[],_=>fun k d h=>nomatch (show (e::es).map (·.val)=[] from d)
 | e::es,_,u::vs,v=>fun k d h=>by
  obtain ⟨y,j,r,rfl,hy,⟨t,ht⟩,k⟩:=k
  obtain ⟨z,zs,e2,d1,r2⟩:=d
  obtain ⟨e2,e3⟩:=List.cons.inj e2
  rw [List.find?_cons,ht]
  have h:(bif decide (j=f) then some u else zP r vs f)=some v:=h
  by_cases hj:j=f
  ·rw [decide_eq_true hj] at h
   subst hj
   obtain rfl:=hx.inj hy
   rw [show Value.isStr (.str x t) x=true from beq_self_eq_true _]
   exact ⟨e,rfl,(show e.val=z from e2)▸Option.some.inj h▸d1⟩
  ·rw [decide_eq_false hj] at h
   rw [show Value.isStr (.str y t) x=false from beq_eq_false_iff_ne.mpr fun q=>hj (hy.2.symm.trans ((congrArg xE q).trans hx.2))]
   exact eq_679 hx k (e3▸r2) h
theorem eq_274 {g:G} {v:V} {x:Value} (d:g.D v x) (n:asF v=none):handedIn x=true:=by
 cases v with
 | none=>obtain rfl:x=.none:=d;rfl
 | bool b=>obtain rfl:x=.bool b:=d;rfl
 | fn n=>cases n
 | nd=>exact d.elim fun _ d=>d.elim fun _ d=>d.elim fun _ d=>d.1▸rfl
 | ref=>exact d.elim fun _ d=>d.2▸rfl
 | _=>exact d.elim fun _ d=>d▸rfl
theorem yy.K (T:yy) (g:G):(kF w0.params).In g.s.heap:=fun a o h=>(g.ok.top a o (T.X a o h)).2
theorem att_ {g:G} {a v:V} {x:Value} {n:Str} {f:Nat} (T:yy) (hn:Nm n f) (da:g.D a x) (h:attF a f g.H=some v):WV g (getAttr x n true) v:=
 (oc h).elim (fun h=>(zc h.2).elim fun p h=>have h2:=zm h.2;(zc h2.2).elim fun u q=>(oc q.2).elim (fun q2=>(iv_e h.1 da).elim fun d i=>i.elim fun dx i=>i.elim fun es i=>i.elim fun k i=>by
   obtain rfl:=Option.some.inj q2.2
   obtain ⟨rfl,e1,e2,kl,r⟩:=i
   obtain ⟨en,he,de⟩:=eq_679 hn kl r q.1
   have A:=T.at_ _ _ _ h2.1 hn
   exact get_value (T.K g) ⟨e1,rfl,rfl,e2⟩ (plainGet_of A.1).1 (findObj_own A.2.1 A.2.2.1 rfl (congrArg (fun o=>match o with | some e=>some (some e.val) | none=>if es.any (·.refKey) then none else some none) he)) (eq_274 de q2.1) (Pv.tk de))
   fun q=>q.elim fun _ q=>zl q.2)
  fun h=>h.elim fun c h=>by
   obtain rfl:=eq_738 h.1 da
   exact (T.ca c n f v h.2 hn).elim fun y q=>q.2 g _ fun n=>Pv.tk (q.1 g)
noncomputable def xC (κ:Addr->Kn) (S:Addr->Bool) (k:Kn) (a:Addr):Kn:=Bool.casesOn (motive:=fun _=>Kn) (S a) (κ a) k
theorem xx {κ:Addr->Kn} {S:Addr->Bool} {k:Kn} {a:Addr}:(S a=true/\xC κ S k a=k)∨(S a=false/\xC κ S k a=κ a):=by
 unfold xC
 cases e:S a<;>first | exact .inl ⟨rfl,rfl⟩ | exact .inr ⟨rfl,rfl⟩
section
variable {g:G} {h':Heap} {S:Addr->Bool} {k:Kn}
theorem ZB (hS:∀a,S a=true->g.κ a≠.fz/\g.κ a≠.ow) {q:Kn} (hq:q=.fz∨q=.ow) {a:Addr} (e:g.κ a=q):xC g.κ S k a=q:=xx.elim (fun z=>hq.elim (fun f=>((hS a z.1).1 (e.trans f)).elim) fun f=>((hS a z.1).2 (e.trans f)).elim) fun z=>z.2.trans e
theorem pr_f {k:Kn} (h:k=.pr):k≠.fz/\k≠.ow:=⟨(fun e=>nomatch h.symm.trans e),(fun e=>nomatch h.symm.trans e)⟩
theorem zgN {k:Kn} (h:k=.ow):k≠.no:=fun e=>nomatch h.symm.trans e
theorem Inv.fz (hS:∀a,S a=true->g.κ a=.pr):Inv g.s.heap g.H (xC g.κ S .fz) g.L:=
 have f:∀{a},S a=true->g.κ a≠.fz/\g.κ a≠.ow:=fun {a} q=>pr_f (hS a q)
 have kp:Kp g.s.heap g.κ g.L g.s.heap (xC g.κ S .fz) g.L:=⟨fun a e=>⟨ZB (fun _=>f) (.inl rfl) e,rfl⟩,fun _ _=>id⟩
 ⟨fun a n=>xx.elim (fun z=>g.ok.alive a (zF (hS a z.1))) fun z=>g.ok.alive a fun e=>n (z.2.trans e),fun a o e=>⟨(kp.f a (g.ok.top a o e).1).1,(g.ok.top a o e).2⟩,g.ok.len,
  fun i o p h1 h2=>have q:=g.ok.obj i o p h1 h2;⟨ZB (fun _=>f) (.inr rfl) q.1,ZB (fun _=>f) (.inr rfl) q.2.1,xb.mono kp o rfl rfl q.2.2⟩,g.ok.apart⟩
noncomputable def isP (p:Addr×Addr) (a:Addr):Bool:=Nat.beq a p.1||Nat.beq a p.2
theorem Qf {p:Addr×Addr} {a:Addr} (h:isP p a=true):a=p.1∨a=p.2:=(Bool.or_eq_true ..▸h:Nat.beq a p.1=true∨Nat.beq a p.2=true).imp Nat.eq_of_beq_eq_true Nat.eq_of_beq_eq_true
theorem zcF (p:Addr×Addr):isP p p.1=true:=by unfold isP;rw [Nat.beq_refl];rfl
theorem zcE (p:Addr×Addr):isP p p.2=true:=by unfold isP;rw [Nat.beq_refl,Bool.or_true]
theorem QT {κ:Addr->Kn} {S:Addr->Bool} {k:Kn} {a:Addr} (h:S a=true):xC κ S k a=k:=by unfold xC;rw [h]
theorem tf {b:Bool} {P:Prop} (h:b=true) (h':b=false):P:=nomatch h.symm.trans h'
theorem zcB {p:Addr×Addr} (hS:∀a,isP p a=true->g.κ a≠.fz/\g.κ a≠.ow) (sm:∀a,g.κ a≠.no->isP p a=false->h'.get? a=g.s.heap.get? a):Kp g.s.heap g.κ g.L h' (xC g.κ (isP p) .ow) (g.L++[p]):=
 ⟨fun a e=>xx.elim (fun z=>((hS a z.1).1 e).elim) fun z=>⟨z.2.trans e,sm a (yJ e) z.1⟩,fun _ _ e=>(List.getElem?_append_left (List.getElem?_eq_some_iff.mp e).1).trans e⟩
theorem xT {α:Type} {l:List α} {x y:α} {i:Nat} (h:(l++[x])[i]?=some y):(l[i]?=some y)∨(i=l.length/\y=x):=by
 rcases Nat.lt_or_ge i l.length with q | q
 ·exact .inl ((List.getElem?_append_left q).symm.trans h)
 ·rw [List.getElem?_append_right q] at h
  cases e:i - l.length with
  | zero=>rw [e] at h;exact .inr ⟨Nat.le_antisymm (Nat.sub_eq_zero_iff_le.mp e) q,(Option.some.inj h).symm⟩
  | succ n=>rw [e] at h;exact zl h
theorem Inv.ow {p:Addr×Addr} {v:V} (hS:∀a,isP p a=true->g.κ a≠.fz/\g.κ a≠.ow) (sm:∀a,g.κ a≠.no->isP p a=false->h'.get? a=g.s.heap.get? a) (al:h'.get? p.1≠none/\h'.get? p.2≠none)
  (r:xb h' (xC g.κ (isP p) .ow) (g.L++[p]) p v):Inv h' (g.H++[v]) (xC g.κ (isP p) .ow) (g.L++[p]):=
 have kp:=zcB hS sm
 have no:∀{a},g.κ a=.ow->isP p a=false:=fun {a} e=>Bool.eq_false_iff.mpr fun z=>(hS a z).2 e
 have ne:∀{j:Nat} {q:Addr×Addr},g.L[j]?=some q->p.1≠q.1/\p.1≠q.2/\p.2≠q.1/\p.2≠q.2:=fun {j q} e=>
  have z:=g.ok.obj j _ q (List.getElem?_eq_getElem (g.ok.len▸(List.getElem?_eq_some_iff.mp e).1)) e
  have m:∀{a},isP p a=true->∀{b},isP p b=false->a≠b:=fun h _ h' e=>tf h (e▸h')
  ⟨m (zcF p) (no z.1),m (zcF p) (no z.2.1),m (zcE p) (no z.1),m (zcE p) (no z.2.1)⟩
 ⟨fun a n=>xx.elim (fun z=>(Qf (p:=p) z.1).elim (fun e=>(congrArg h'.get? e).symm▸al.1) fun e=>(congrArg h'.get? e).symm▸al.2) fun z=>have m:g.κ a≠.no:=fun e=>n (z.2.trans e);sm a m z.1▸g.ok.alive a m,
  fun a o e=>have q:=g.ok.top a o e;⟨(kp.f a q.1).1,(kp.f a q.1).2.trans q.2⟩,by rw [List.length_append,List.length_append,g.ok.len];rfl,
  fun i o q h1 h2=>(xT h2).elim (fun h2=>(xT h1).elim (fun h1=>have z:=g.ok.obj i o q h1 h2;⟨ZB hS (.inr rfl) z.1,ZB hS (.inr rfl) z.2.1,xb.mono kp o (sm _ (zgN z.1) (no z.1)) (sm _ (zgN z.2.1) (no z.2.1)) z.2.2⟩)
    fun h1=>absurd (g.ok.len▸(List.getElem?_eq_some_iff.mp h2).1) (h1.1▸Nat.lt_irrefl _))
   fun h2=>(xT h1).elim (fun h1=>absurd (g.ok.len▸(List.getElem?_eq_some_iff.mp h1).1) (h2.1▸Nat.lt_irrefl _)) fun h1=>by rw [h2.2,h1.2];exact ⟨QT (zcF p),QT (zcE p),r⟩,
  fun i j q q' h1 h2 n=>(xT h1).elim (fun h1=>(xT h2).elim (fun h2=>g.ok.apart i j q q' h1 h2 n) fun h2=>have z:=ne h1;h2.2▸⟨z.1.symm,z.2.2.1.symm,z.2.1.symm,z.2.2.2.symm⟩)
   fun h1=>(xT h2).elim (fun h2=>h1.2▸ne h2) fun h2=>(n (h1.1.trans h2.1.symm)).elim⟩
end
section
variable {g:G} {h':Heap} {p:Addr×Addr} (n1:g.κ p.1=.no) (n2:g.κ p.2=.no) (sm:∀a,g.κ a≠.no->h'.get? a=g.s.heap.get? a)
include n1 n2
theorem no_f:∀a,isP p a=true->g.κ a≠.fz/\g.κ a≠.ow:=fun a q=>have e:g.κ a=.no:=(Qf q).elim (fun e=>(congrArg g.κ e).trans n1) fun e=>(congrArg g.κ e).trans n2
 ⟨(fun z=>nomatch e.symm.trans z),(fun z=>nomatch e.symm.trans z)⟩
theorem eq_652 {k:Kn} {a:Addr} (n:g.κ a≠.no):xC g.κ (isP p) k a=g.κ a:=xx.elim (fun z=>(Qf z.1).elim (fun e=>(n ((congrArg g.κ e).trans n1)).elim) fun e=>(n ((congrArg g.κ e).trans n2)).elim) fun z=>z.2
def G.gr (g:G) (tk:Nat) (n1:g.κ p.1=.no) (n2:g.κ p.2=.no) (sm:∀a,g.κ a≠.no->h'.get? a=g.s.heap.get? a) (al:h'.get? p.1≠none/\h'.get? p.2≠none) (v:V) (r:xb h' (xC g.κ (isP p) .ow) (g.L++[p]) p v):G:=
 ⟨{ g.s with heap:=h',toks:=tk },g.H++[v],_,_,.ow (no_f n1 n2) (fun a n _=>sm a n) al r⟩
include sm
theorem gr_ {t:zZ} {l:List V} {ys:List Value} (tk:Nat) (d:z7 h' t p.1 p.2 ys) (r:g.DL l ys):∃g1:G,g1.s={ g.s with heap:=h',toks:=tk }/\Le [] g g1/\g1.H=g.H++[.nd t l]/\g1.D (.ref g.H.length) (.ref p.1):=
 have al:h'.get? p.1≠none/\h'.get? p.2≠none:=d.elim fun _ d=>d.elim fun _ d=>⟨(fun e=>nomatch d.1.symm.trans e),(fun e=>nomatch d.2.1.symm.trans e)⟩
 ⟨g.gr tk n1 n2 sm al (.nd t l) ⟨ys,d,xd.mono (zcB (no_f n1 n2) fun a n _=>sm a n) _ _ r⟩,rfl,⟨fun _=>eq_652 n1 n2,fun a q=>sm a (yJ q),fun a q _=>sm a (zF q),List.prefix_append _ _,⟨rfl,rfl,rfl⟩⟩,rfl,p,g.ok.len▸List.getElem?_concat_length,rfl⟩
end
theorem Pv.grow {g:G} {t:zZ} {l:List V} {o:Obj} {ys:List Value} {tk:Nat} (hf:o.isFreed=false) (d:Shp t g.s.heap.objs.size g.s.heap.objs.size o o ys) (r:g.DL l ys):Pv g (.ref g.H.length) (g.H++[.nd t l]) (.ref g.s.heap.objs.size) { g.s with heap:=g.s.heap.push o,toks:=tk }:=
 have e:=Heap.get?_push_size g.s.heap hf
 gr_ (p:=(g.s.heap.objs.size,g.s.heap.objs.size)) (zE g) (zE g) (fun a n=>xt a n) tk ⟨o,o,e,e,d⟩ r
theorem Pv.new {g:G} {own:Bool} {t:zZ} {l:List V} {o:Obj} {ys:List Value} {tk:Nat} {q:V×Hp} (hf:o.isFreed=false) (d:Shp t g.s.heap.objs.size g.s.heap.objs.size o o ys) (r:g.DL l ys) (h:some (Yk own (.nd t l) g.H)=some q):Pv g q.1 q.2 (.ref g.s.heap.objs.size) { g.s with heap:=g.s.heap.push o,toks:=tk }:=
 Option.some.inj h▸Bool.casesOn (motive:=fun own=>Pv g (Yk own (.nd t l) g.H).1 (Yk own (.nd t l) g.H).2 (.ref g.s.heap.objs.size) { g.s with heap:=g.s.heap.push o,toks:=tk }) own (Pv.push hf d r) (zcs▸Pv.grow hf d r)
theorem eq_813 {env:Env} {pos:Pos}:∀{es:List Expr} {K:List Value->Shared->Prop} {s:Shared},(∀e∈es,Pl e)->EvK env es K s->J A0 (spliced (backTo pos (starEach es env))) K s
 | [],_,_=>fun _ h=>J.pure h
 | e::es,K,_=>fun hp h=>by
  rw [(hp e (.head _)).star]
  show J A0 (do
   let v ← eval e env
   let here ← (pure [v]:Sem (List Value))
   return here++(← holding here (spliced (backTo pos (starEach es env))))) K _
  exact .bm h fun _ _ h=>.bind (.pure (.bm (.hold (eq_813 (fun e q=>hp e (.tail _ q)) h)) fun _ _ h=>.pure h))
theorem eq_476 {es:List Expr} {k:Nat} {p:Pos} (hp:∀e∈es,Pl e):xP (.Tuple es k p) es newTuple:=fun _ _ _ h=>.eq (arm_eval_Tuple ..) (.at (.bm (eq_813 hp h) fun _ _ h=>h))
theorem eq_479 {es:List Expr} {p:Pos} (hp:∀e∈es,Pl e):xP (.List es p) es newList:=fun _ _ _ h=>.eq (arm_eval_List ..) (.at (.bm (eq_813 hp h) fun _ _ h=>h))
theorem eq_447:xa .tup newTuple:=fun g vs xs v H d h=>have h:=zm h
 .of (wpAny_newObj_type ((Prod.mk.inj (Option.some.inj h.2)).1▸(Prod.mk.inj (Option.some.inj h.2)).2▸Pv.push (t:=.tup) (tk:=g.s.toks) rfl ⟨rfl,0,rfl⟩ d) (eq_907 (Nat.le_trans (Nat.le_of_eq (zf d)) (Nat.le_trans h.1 (by decide)))))
theorem eq_450 {own:Bool}:xa (.lst own) newList:=fun g vs xs v H d h=>have h:=zm h
 .of (wpAny_newObj_type (Pv.new (t:=.lst) (tk:=g.s.toks) rfl ⟨0,rfl⟩ d h.2) (eq_907 (Nat.le_trans (Nat.le_of_eq (zf d)) (Nat.le_trans h.1 (by decide)))))
theorem eq_784 (i:Int):Str.ofString (toString i)=Sx (yc i):=by
 rw [show ∀s:String,Str.ofString s=Sx (s.toList.map Char.toNat) from Str.ofString_eq_toList]
 refine congrArg Sx ?_
 unfold yc zaN
 cases i with
 | ofNat n=>
  show ((toString n:String).toList.map Char.toNat)=(bif decide ((n:Int) < 0) then _ else _)
  rw [decide_eq_false (Int.not_lt.mpr (Int.natCast_nonneg n)),Nat.toString_eq_repr,Nat.toList_repr];rfl
 | negSucc n=>
  show (("-"++(Nat.succ n).repr:String).toList.map Char.toNat)=(bif decide (Int.negSucc n < 0) then _ else _)
  rw [decide_eq_true (Int.negSucc_lt_zero n),String.toList_append,Nat.toList_repr];rfl
theorem S_fv {a:Expr} {p:Pos}:xP (.FormattedValue a (-1) none p) [a] (p1 fun x=>formatField x Str.empty):=fun _ _ _ h=>.eq (arm_eval_FormattedValue ..) (.bm h fun x _ h=>.at (by
 show J A0 (do let v' ← holding [x] (pure x);formatField v' Str.empty) _ _
 exact .bind (.hold (.pure h))))
theorem P_fv:xa .fv (p1 fun x=>formatField x Str.empty):=eq_591 (fun _ _=>rfl) fun g a x v da h=>(zc h).elim fun s h=>Option.some.inj h.2▸(oc h.1).elim
 (fun h=>(zc h.2).elim fun l h=>(zI h.1 da).elim fun t e=>have q:=zm h.2;e▸Option.some.inj q.2▸wpAny_formatField_str (Pv.here eq_936) (Pv.tk eq_936) (eq_931 q.1))
 fun h=>h.elim fun i h=>(ya h.1 da).elim fun t e=>have q:=zm h.2;have q2:=zm q.2;e▸Option.some.inj q2.2▸wpAny_formatField_int (by
   by_cases h0:i.natAbs=0
   ·rw [h0];decide
   ·exact Nat.lt_trans ((Nat.log2_lt h0).mpr (show i.natAbs < 2 ^ 64 from q.1)) (by decide)) (eq_784 i▸Pv.tk (n:=g.s.toks+1+1) eq_936)
theorem eq_39 {us:List (List Nat)} {u:List Nat} {st:List V}:.str u::((us.map V.str).reverse++st)=((us++[u]).map V.str).reverse++st:=by
 rw [List.map_append,List.reverse_append];rfl
theorem eq_677:∀us:List (List Nat),zB yM (us.map V.str)=some us
 | []=>rfl
 | u::us=>by show bo (zB yM (us.map V.str)) (fun r=>some (u::r))=_;rw [eq_677 us]
theorem eq_795:∀{us:List (List Nat)},(∀u∈us,u.length<=1000)->us.flatten.length<=1000 * us.length
 | []=>fun _=>Nat.zero_le _
 | u::us=>fun h=>by
  rw [List.flatten_cons,List.length_append,List.length_cons,Nat.mul_succ,Nat.add_comm]
  exact Nat.add_le_add (eq_795 fun u q=>h u (.tail _ q)) (h u (.head _))
theorem eq_16 {env:Env} {e:Expr} {es:List Expr} {a:List Nat} {Q:Value->Shared->Prop} {s:Shared} (h:J A0 (eval e env) (fun x s=>∃b t,x=.str (Sx b) t/\a.length+b.length<=1000000/\J A0 (joinParts (Sx (a++b)) (evalEach es env)) Q s) s):J A0 (joinParts (Sx a) (evalEach (e::es) env)) Q s:=by
 show J A0 (joinParts (Sx a) (eval e env::evalEach es env)) Q s
 rw [joinParts]
 refine .bm h fun x s ⟨b,t,e1,hl,h⟩=>?_
 subst e1
 refine .bind (.pure ?_)
 show J A0 (if a.length+b.length > sizeLine then _ else _) Q s
 rw [if_neg (Nat.not_lt.mpr (eq_907 hl)),eq_877]
 first | exact h | exact .bind (.pure h)
theorem eq_575 {c:Cf} {f:Expr->Code->Code} {env:Env} (E:Fr c env) {r:zy} {k:Code} {n:Nat}:∀{es:List Expr} {us:List (List Nat)} {st:List V} {g:G},(∀e∈es,yq c e (f e))->At c env r.lo g->(∀u∈us,u.length<=1000)->us.length+es.length=n->n<=30->
  r.go (y5 (fun e k=>f e (.o .pce 1 k)) es (.o .join n k)) ((us.map V.str).reverse++st) g.H->J A0 (joinParts (Sx us.flatten) (evalEach es env)) (Ps [] g (qP (r.Q k st))) g.s
 | [],us,st,g=>fun _ F hu hn hl h=>by
  have h:=eq_863 (vs:=us.map V.str) ((List.length_map ..).trans hn) h
  have h:ob (yK .join (us.map V.str) g.H) fun x=>r.go k (x.1::st) x.2:=h
  rw [show yK .join (us.map V.str) g.H=some (.str us.flatten,g.H) from by unfold yK;rw [eq_677]] at h
  exact .of (wpAny_mkStr ⟨g.tk _,rfl,JQ,_,eq_936,h⟩ (eq_907 (Nat.le_trans (eq_795 hu) (by have:us.length<=30:=(show us.length=n from hn).symm▸hl;exact Nat.le_trans (Nat.mul_le_mul_left _ this) (by decide)))))
 | e::es,us,st,g=>fun hs F hu hn hl h=>eq_16 ((hs e (.head _) env E r _ _ g F h).go fun x g1 v l1 d1 h=>by
  have h:ob (yK .pce [v] g1.H) fun x=>r.go _ (x.1::((us.map V.str).reverse++st)) x.2:=h
  obtain ⟨p,h2,h⟩:=yg h
  have z:=eq_759 h2
  obtain ⟨b,hb,z2⟩:=zc z.2
  have z3:=zm z2
  obtain ⟨t,rfl⟩:=zI hb d1
  have hb:∀u∈us++[b],u.length<=1000:=fun u q=>(List.mem_append.mp q).elim (hu u) fun q=>List.mem_singleton.mp q▸z3.1
  have hn:(us++[b]).length+es.length=n:=by rw [List.length_append,Nat.add_assoc,Nat.add_comm [b].length];exact hn
  refine ⟨b,t,rfl,?_,?_⟩
  ·refine Nat.le_trans (Nat.le_trans (Nat.le_of_eq ?_) (eq_795 hb)) (Nat.le_trans (Nat.mul_le_mul_left _ (Nat.le_trans (Nat.le_add_right ..) (hn▸hl))) (by decide:1000 * 30<=1000000))
   rw [List.flatten_append,List.length_append,List.flatten_singleton]
  ·have e1:us.flatten++b=(us++[b]).flatten:=by rw [List.flatten_append,List.flatten_singleton]
   rw [e1]
   refine (eq_575 E (us:=us++[b]) (st:=st) (g:=g1) (fun e q=>hs e (.tail _ q)) (F.st l1) hb hn hl ?_).mono fun _ _=>Ps.up l1
   rw [z.1,← eq_39,Option.some.inj z3.2]
   exact h)
theorem eq_724 {κ:Addr->Kn} {a d:Addr} (f:κ a=.fz) (p:κ d=.pr):a≠d:=fun e=>nomatch f.symm.trans ((congrArg κ e).trans p)
section
variable {g2:G} {d:Addr} {h':Heap} (p:g2.κ d=.pr) (sb:∀a,a≠d->h'.get? a=g2.s.heap.get? a) (al:h'.get? d≠none)
include p sb
include al in
theorem zkR:Inv h' g2.H g2.κ g2.L:=
 have K:(fun a=>(g2.κ a).or Kn.no)=g2.κ:=funext fun a=>by cases g2.κ a<;>rfl
 K▸Inv.nx (g:=g2) (fun _=>.no) [d] (fun a q=>if e:a=d then (congrArg h'.get? e).symm▸al else (sb a e).symm▸g2.ok.alive a (q.elim (fun q=>(q rfl).elim) id)) fun a q z=>sb a fun e=>z (e▸p) (e▸.head _)
def G.wr (g2:G) (p:g2.κ d=.pr) (sb:∀a,a≠d->h'.get? a=g2.s.heap.get? a) (al:h'.get? d≠none) (tk:Nat):G:=⟨{ g2.s with heap:=h',toks:=tk },g2.H,g2.κ,g2.L,zkR p sb al⟩
theorem eq_601:Kp g2.s.heap g2.κ g2.L h' g2.κ g2.L:=⟨fun a f=>⟨f,sb a (eq_724 f p)⟩,fun _ _=>id⟩
end
section
variable {g g2:G} {d:Addr} {h':Heap} {t:zZ} {l:List V} {ys:List Value} (L:Le [] g g2) (n:g.κ d=.no) (p:g2.κ d=.pr) (sb:∀a,a≠d->h'.get? a=g2.s.heap.get? a) (D:z7 h' t d d ys) (r:g2.DL l ys) (tk:Nat)
include L n sb in
theorem eq_560 {g3:G} (e1:g3.s={ g2.s with heap:=h',toks:=tk }) (e2:∀a,a≠d->g3.κ a=g2.κ a) (e3:g2.L <+: g3.L):Le [] g g3:=
 have nd:∀{a},g.κ a≠.no->a≠d:=fun q e=>q (congrArg g.κ e▸n)
 have hp:g3.s.heap=h':=congrArg Shared.heap e1
 ⟨fun a q=>(e2 a (nd q)).trans (L.k a q),fun a q=>(congrArg (Heap.get? · a) hp).trans ((sb a (nd (yJ q))).trans (L.f a q)),fun a q z=>(congrArg (Heap.get? · a) hp).trans ((sb a (nd (zF q))).trans (L.p a q z)),L.l.trans e3,
  e1▸⟨L.m.gens,L.m.drawn,L.m.os⟩⟩
include D in
theorem eq_870:h'.get? d≠none:=D.elim fun _ D=>D.elim fun _ D z=>nomatch z.symm.trans D.1
include L n p sb D r
theorem eq_543:Pv g (.nd t l) g2.H (.ref d) { g2.s with heap:=h',toks:=tk }:=
 have z:xC g2.κ (fun a=>Nat.beq a d) .fz d=.fz:=QT (S:=fun a=>Nat.beq a d) (Nat.beq_refl d)
 have e2:∀a,a≠d->xC g2.κ (fun a=>Nat.beq a d) .fz a=g2.κ a:=fun a q=>(xx (S:=fun a=>Nat.beq a d)).elim (fun z=>(q (Nat.eq_of_beq_eq_true z.1)).elim) fun z=>z.2
 have k:=eq_601 p sb
 ⟨⟨_,_,_,_,Inv.fz (g:=G.wr g2 p sb (eq_870 D) tk) (S:=fun a=>Nat.beq a d) fun a q=>Nat.eq_of_beq_eq_true q▸p⟩,rfl,eq_560 L n sb tk rfl e2 List.prefix_rfl,rfl,d,d,ys,rfl,z,z,D,xd.mono ⟨fun a f=>⟨(e2 a (eq_724 f p)).trans f,(k.f a f).2⟩,k.l⟩ _ _ r⟩
theorem eq_278:Pv g (.ref g2.H.length) (g2.H++[.nd t l]) (.ref d) { g2.s with heap:=h',toks:=tk }:=
 have hS:∀a,isP (d,d) a=true->g2.κ a≠.fz/\g2.κ a≠.ow:=fun a q=>pr_f ((Qf q).elim (fun e=>(congrArg g2.κ e).trans p) fun e=>(congrArg g2.κ e).trans p)
 have e2:∀a,a≠d->xC g2.κ (isP (d,d)) .ow a=g2.κ a:=fun a q=>xx.elim (fun z=>(q ((Qf z.1).elim id id)).elim) fun z=>z.2
 have k:=eq_601 p sb
 have kp:=zcB (g:=G.wr g2 p sb (eq_870 D) tk) (h':=h') (p:=(d,d)) hS fun _ _ _=>rfl
 have R:xb h' (xC g2.κ (isP (d,d)) .ow) (g2.L++[(d,d)]) (d,d) (.nd t l):=⟨ys,D,xd.mono ⟨fun a f=>⟨(kp.f a f).1,(k.f a f).2⟩,kp.l⟩ _ _ r⟩
 ⟨⟨_,_,_,_,Inv.ow (g:=G.wr g2 p sb (eq_870 D) tk) (p:=(d,d)) hS (fun _ _ _=>rfl) ⟨eq_870 D,eq_870 D⟩ R⟩,rfl,eq_560 L n sb tk rfl e2 (List.prefix_append _ _),rfl,(d,d),g2.ok.len▸List.getElem?_concat_length,rfl⟩
theorem eq_137 {own:Bool}:Pv g (Yk own (.nd t l) g2.H).1 (Yk own (.nd t l) g2.H).2 (.ref d) { g2.s with heap:=h',toks:=tk }:=
 Bool.casesOn (motive:=fun own=>Pv g (Yk own (.nd t l) g2.H).1 (Yk own (.nd t l) g2.H).2 (.ref d) { g2.s with heap:=h',toks:=tk }) own (eq_543 L n p sb D r tk) (zcs▸eq_278 L n p sb D r tk)
end
def Pr:List (List Nat)->List (Value×Value)->Prop
 | []=>fun ps=>ps=[]
 | k::ks=>fun ps=>∃t y r,ps=(.str (Sx k) t,y)::r/\Pr ks r
theorem eq_707 {kvs:List (Str×Value)} {k:Str} {v:Value} (h:k∉kvs.map (·.1)):stored kvs k v=kvs++[(k,v)]:=if_neg fun q=>(List.any_eq_true.mp q).elim fun p q=>h (List.mem_map.mpr ⟨p,q.1,of_decide_eq_true q.2⟩)
theorem eq_695 {d:Addr}:∀{kl:List (List Nat)} {ps:List (Value×Value)} {ks:List (List Nat)} {s:Shared} {kvs:List (Str×Value)},Pr kl ps->s.heap.DictOf (PySem.strKind PW w0) d kvs->kvs.map (·.1)=ks.map Sx->(ks++kl).Nodup->(ks++kl).length<=1000->
  wpAny (model PW w0) A0 (storeAll d ps) (fun _ s1=>∃h tk kvs1,s1={ s with heap:=h,toks:=tk }/\(∀a,a≠d->h.get? a=s.heap.get? a)/\h.DictOf (PySem.strKind PW w0) d kvs1/\kvs1.map (·.1)=(ks++kl).map Sx/\kvs1.map (·.2)=kvs.map (·.2)++ps.map (·.2)) y9 s
 | [],_,ks,s,kvs=>fun e D ek _ _=>by
  obtain rfl:_=[]:=e
  unfold storeAll
  exact wpAny_pure ⟨_,_,kvs,rfl,fun _ _=>rfl,D,by rw [List.append_nil];exact ek,(List.append_nil _).symm⟩
 | k::kl,_,ks,s,kvs=>fun e D ek nd hl=>by
  obtain ⟨t,y,r,rfl,e⟩:=e
  have hnot:Sx k∉kvs.map (·.1):=by
   rw [ek]
   exact fun q=>(List.mem_map.mp q).elim fun j q=>(List.nodup_append.mp nd).2.2 _ (eq_914 q.2▸q.1) _ (.head _) rfl
  unfold storeAll
  rw [List.forIn_cons]
  refine wpAny_bind (wpAny_bind (wpAny_dictSet_pairs (knd:=PySem.strKind PW w0) (k:=Sx k) (beq_self_eq_true (Sx k)) D (fun h D' hs=>wpAny_pure ?_) ?_))
  ·rw [eq_707 hnot] at D'
   refine wpAny_mono (eq_695 (s:={ s with heap:=h,toks:=s.toks+1 }) (ks:=ks++[k]) e D' (by rw [List.map_append,List.map_append,ek];rfl) (by rw [List.append_assoc];exact nd) (by rw [List.append_assoc];exact hl)) (fun _ s1 q=>?_) fun _ _ q=>q
   obtain ⟨h1,tk,kvs1,rfl,q1,q2,q3,q4⟩:=q
   exact ⟨h1,tk,kvs1,rfl,fun a n=>(q1 a n).trans (hs.2 a n),q2,by rw [q3,List.append_assoc];rfl,by rw [q4,List.map_append,List.append_assoc];rfl⟩
  ·have:kvs.length=ks.length:=(List.length_map ..).symm.trans ((congrArg List.length ek).trans (List.length_map ..))
   rw [List.length_append,List.length_cons] at hl
   rw [this]
   exact eq_907 (by lia)
noncomputable def Je (ks:List (Option Expr)) (vs:List Expr):List Expr:=(ks.zip vs).flatMap fun p=>p.1.toList++[p.2]
noncomputable def YX:List Value->List (Value×Value)
 | x::y::r=>(x,y)::YX r
 | _=>[]
theorem eq_552 {env:Env} {pos:Pos}:∀{ks:List (Option Expr)} {vs:List Expr} {K:List (Value×Value)->Shared->Prop} {s:Shared},ks.all (·.isSome)=true->ks.length=vs.length->EvK env (Je ks vs) (fun xs=>K (YX xs)) s->J A0 (evalPairs (pairTrees ks vs env pos)) K s
 | [],[],_,_=>fun _ _ h=>.pure h
 | [],_::_,_,_=>fun _ n=>nomatch n
 | _::_,[],_,_=>fun _ n=>nomatch n
 | none::_,_::_,_,_=>fun h=>nomatch h
 | some a::ks,v::vs,K,s=>fun ha n h=>by
  show J A0 (evalPairs ((eval a env,(do let x ← eval v env;standAt pos;pure x))::pairTrees ks vs env pos)) K s
  rw [evalPairs]
  exact .bm h fun x s h=>.bm (.hold (.bm h fun y s h=>.at (.pure h))) fun y s h=>.bm (.hold (eq_552 (K:=fun ps=>K ((x,y)::ps)) ha (Nat.succ.inj n) h)) fun ps s h=>.pure h
def G.pv (g:G) (h':Heap) (tk:Nat) (S:Addr->Bool) (sm:∀a,g.κ a≠.no->h'.get? a=g.s.heap.get? a) (al:∀a,S a=true->h'.get? a≠none):G:=
 ⟨{ g.s with heap:=h',toks:=tk },g.H,fun a=>(g.κ a).or (Bool.casesOn (motive:=fun _=>Kn) (S a) .no .pr),g.L,Inv.nx _ [] (fun a q=>q.elim (fun q=>al a (by cases e:S a with | true=>rfl | false=>rw [e] at q;exact (q rfl).elim)) fun q=>sm a q▸g.ok.alive a q) fun a q _=>sm a q⟩
theorem eq_600 {g:G} {h':Heap} {tk:Nat} {S:Addr->Bool} {sm:∀a,g.κ a≠.no->h'.get? a=g.s.heap.get? a} {al:∀a,S a=true->h'.get? a≠none}:Le [] g (g.pv h' tk S sm al):=⟨fun _ q=>Kn.or_e _ _ q,fun a q=>sm a (yJ q),fun a q _=>sm a (zF q),List.prefix_rfl,⟨rfl,rfl,rfl⟩⟩
theorem pv_k {g:G} {h':Heap} {tk:Nat} {S:Addr->Bool} {sm:∀a,g.κ a≠.no->h'.get? a=g.s.heap.get? a} {al:∀a,S a=true->h'.get? a≠none} {a:Addr} (n:g.κ a=.no) (h:S a=true):(g.pv h' tk S sm al).κ a=.pr:=by
 show (g.κ a).or (Bool.casesOn (motive:=fun _=>Kn) (S a) .no .pr)=.pr
 rw [n,h];rfl
theorem eq_590 {g:G}:∀{n:Nat} {us:List V} {q:List (List Nat)×List V} {xs:List Value},prs n us=some q->g.DL us xs->Pr q.1 (YX xs)/\g.DL q.2 ((YX xs).map (·.2))/\us.length=2 * n
 | 0,[],_,_=>fun h d=>Option.some.inj h▸(show _=[] from d)▸⟨rfl,rfl,rfl⟩
 | 0,_::_,_,_=>zl
 | _+1,[],_,_=>zl
 | _+1,[_],_,_=>zl
 | n+1,k::v::us,_,_=>fun h d=>by
  obtain ⟨s,hs,h⟩:=zc h
  obtain ⟨q,hq,h⟩:=zc h
  obtain rfl:=Option.some.inj h
  obtain ⟨x,xs,rfl,dk,d⟩:=d
  obtain ⟨y,ys,rfl,dv,d⟩:=d
  obtain ⟨t,rfl⟩:=zI hs dk
  have z:=eq_590 hq d
  exact ⟨⟨t,y,_,rfl,z.1⟩,zh dv z.2.1,by rw [List.length_cons,List.length_cons,z.2.2];rfl⟩
theorem eq_694:∀{ks:List (Option Expr)} {vs:List Expr},ks.all (·.isSome)=true->ks.length=vs.length->(Je ks vs).length=2 * ks.length
 | [],[]=>fun _ _=>rfl
 | [],_::_=>fun _ n=>nomatch n
 | _::_,[]=>fun _ n=>nomatch n
 | none::_,_::_=>fun h=>nomatch h
 | some a::ks,v::vs=>fun ha n=>congrArg (·+2) (eq_694 (ks:=ks) ha (Nat.succ.inj n))
theorem eq_206 {h:Heap} {a:Addr} {kvs:List (Str×Value)} {ks:List (List Nat)} (sm:(a == sysModules)=false) (D:h.DictOf (PySem.strKind PW w0) a kvs) (e:kvs.map (·.1)=ks.map Sx):z7 h (.dcs ks) a a (kvs.map (·.2)):=
 D.elim fun o D=>D.elim fun es D=>D.elim fun ep D=>⟨o,o,D.1,D.1,kvs,⟨sm,es,ep,D.2⟩,e,rfl⟩
theorem yy.sm (T:yy) {g:G} {d:Addr} (h:g.κ d=.no):(d == sysModules)=false:=beq_eq_false_iff_ne.mpr fun q=>T.sys (by
 cases z:zC.get? sysModules with
 | none=>rfl
 | some o=>exact nomatch h.symm.trans ((congrArg g.κ q).trans (g.ok.top _ o z).1))
theorem J.dict {keys:List (Option Expr)} {values:List Expr} {pos:Pos} {env:Env} {Q:Value->Shared->Prop} {s:Shared} (hall:keys.all (·.isSome)=true) (hl:keys.length=values.length) (h0:keys≠[]) (hlen:keys.length<=15)
  (h:J A0 (evalPairs (pairTrees keys values env pos)) (fun vs s1=>J A0 (storeAll s.heap.objs.size vs) (fun _ s2=>Q (.ref s.heap.objs.size) s2) s1) { s with heap:=s.heap.push { cls:=.type "dict",data:=.dict #[] } }):J A0 (eval (.Dict keys values pos) env) Q s:=by
 have hn:=pairTrees_length keys values env pos hall hl
 have hp0:pairTrees keys values env pos≠[]:=fun he=>h0 (List.length_eq_zero_iff.mp (hn.symm.trans (congrArg List.length he)))
 rw [arm_eval_Dict,zip_pairTrees keys values env pos hall hl,dictDisplay_pairs _ hp0 (by rw [hn];lia)]
 refine .at (.bm (P:=fun d s=>Q (.ref d) s) ?_ fun _ _ h=>.pure h)
 unfold subDict
 refine .bind (.of (wpAny_alloc ?_))
 rw [if_pos (by rw [hn];exact hlen)]
 refine .bind (.hold (.bm h fun vs s1 h=>.hold ?_))
 exact .bm h fun _ s h=>.pure (.pure h)
theorem eq_101 {c:Cf} {f:Expr->Code->Code} {ks:List (Option Expr)} {vs:List Expr} {p:Pos} {own:Bool} (T:yy) (hs:∀e∈Je ks vs,yq c e (f e)) (hall:ks.all (·.isSome)=true) (hl:ks.length=vs.length) (h0:ks≠[]) (hn:ks.length<=15) :
  yq c (.Dict ks vs p) fun k=>y5 f (Je ks vs) (.o (.dct own) (2 * ks.length) k):=fun env E r k st g F h=>by
 refine J.dict hall hl h0 hn (eq_552 hall hl ?_)
 have nd:=zE g
 have D0:(g.s.heap.push { cls:=.type "dict",data:=.dict #[] }).DictOf (PySem.strKind PW w0) g.s.heap.objs.size []:=Heap.DictOf.new _
 have sm:=T.sm nd
 have al:∀a,Nat.beq a g.s.heap.objs.size=true->(g.s.heap.push { cls:=.type "dict",data:=.dict #[] }).get? a≠none:=fun a q=>Nat.eq_of_beq_eq_true q▸D0.elim fun o D=>D.elim fun _ D=>D.elim fun _ D z=>nomatch z.symm.trans D.1
 generalize ed:g.s.heap.objs.size=d at *
 have L1:Le [] g (g.pv _ g.s.toks (fun a=>Nat.beq a d) (fun a q=>xt a q) al):=eq_600
 have k1:(g.pv _ g.s.toks (fun a=>Nat.beq a d) (fun a q=>xt a q) al).κ d=.pr:=pv_k nd (Nat.beq_refl d)
 refine evs E (g:=g.pv _ g.s.toks (fun a=>Nat.beq a d) (fun a q=>xt a q) al) hs (F.st L1) h fun xs us g2 l2 dl n h=>?_
 have k2:g2.κ d=.pr:=(l2.k d (zF k1)).trans k1
 obtain ⟨q,hq',h⟩:=yg (eq_863 (n.trans (eq_694 hall hl)) h)
 obtain ⟨kv,hq,z⟩:=zc hq'
 have z1:=zm z
 have z2:=zm z1.2
 obtain rfl:=Option.some.inj z2.2
 obtain ⟨P1,P2,_⟩:=eq_590 hq dl
 have D2:g2.s.heap.DictOf (PySem.strKind PW w0) d []:=D0.imp fun o D=>D.imp fun _ D=>D.imp fun _ D=>⟨(l2.p d k1 nofun).trans D.1,D.2⟩
 refine .of (wpAny_mono (eq_695 (ks:=[]) P1 D2 rfl z1.1 (Nat.le_trans z2.1 (by decide))) (fun _ s3 w=>?_) fun _ _ q=>q)
 obtain ⟨h3,tk,kvs,rfl,sb,D3,e3,e4⟩:=w
 exact (eq_137 (own:=own) (L1.trans l2) nd k2 sb (eq_206 sm D3 e3) (e4▸P2) tk).q Le.refl h
theorem eq_919 {p:Op} {vs:List V} {H:Hp} {o:Option V} {K:V×Hp->Prop} (e:yK p vs H=hr H o) (h:ob (yK p vs H) K):∃v,o=some v/\K (v,H):=
 (yg h).elim fun z q=>(zc (e.symm.trans q.1)).elim fun v w=>⟨v,w.1,(Option.some.inj w.2).symm▸q.2⟩
section
variable {c:Cf}
theorem ev_v {g:G} {t:Sem Value} {v:V} {r:zy} {k:Code} {st:List V} (h:WV g t v) (q:r.go k (v::st) g.H):Ev g t (r.Q k st):=J.mono (.of h) fun _ _ z=>z.q Le.refl q
noncomputable def zkn (v:Const):Option V:=match v with
 | .none=>some .none
 | .bool b=>some (.bool b)
 | .int i=>some (.int i)
 | .str s=>some (.str s.cps.toList)
 | .bytes b=>some (.byt b)
 | _=>none
theorem eq_102 {v:Const} {u:V} {i:Nat} {p:Pos} (h:zkn v=some u):yq c (.Constant v i p) fun k=>.o (.cst u) 0 k:=fun env E r k st g F q=>ev_v (v:=u) (by
 cases v<;>first | exact zl h | skip
 ·exact wpAny_Constant_none (Pv.here (Option.some.inj h▸rfl))
 ·exact wpAny_Constant_bool (Pv.here (Option.some.inj h▸zo))
 ·exact wpAny_Constant_int (Pv.tk (Option.some.inj h▸zp))
 ·exact wpAny_Constant_str (Pv.tk (Option.some.inj h▸eq_936))
 ·exact fun _ _ _=>Pv.tk (Option.some.inj h▸eq_834)) q
theorem loc_ {env:Env} {g:G} {lo:Lo} {x:Str} {i:Nat} {v:V} (E:Fr c env) (F:At c env lo g) (hn:Nm x i) (h:lo i=some v):WV g (loadName env x) v:=
 (F.lr i v h).elim fun x' z=>z.elim fun y z=>by
  obtain rfl:=z.1.inj hn
  have kd:env.kindOf x'=c.1.lookup x':=congrArg (·.lookup x') E.names
  exact z.2.1.elim (fun q=>q.2.elim fun m w=>wpAny_loadName_local E.kind (kd.trans q.1) w.1 w.2 (Pv.here z.2.2)) fun q=>q.2.elim fun a w=>wpAny_loadName_cell E.kind (kd.trans q.1) w.1 w.2 (Pv.here z.2.2)
theorem eq_97 {x:Str} {i:Nat} {p:Pos} (hn:Nm x i) (hd:x≠"__debug__"):yq c (.Name x p) fun k=>.loc i k:=fun env E r k st g F q=>(yg q).elim fun v q=>ev_v (wpAny_Name (loc_ E F hn q.1) (beq_eq_false_iff_ne.mpr hd)) q.2
theorem eq_723 {env:Env} {g:G} {x:Str} {y:Value} {p:Pos} {P:Value->Shared->Prop} (E:Fr c env) (hg:c.1.lookup x=some .globalImplicit) (hd:x≠"__debug__") (G:xS x y) (q:P y g.s):wpAny (model PW w0) A0 (eval (.Name x p) env) P y9 g.s:=
 have kp:∀a o,zC.get? a=some o->g.s.heap.get? a=some o:=fun a o e=>(g.ok.top a o e).2
 G.elim fun mg G=>G.elim fun mb G=>Calls.Name_function_global E.kind ((congrArg (·.lookup x) E.names).trans hg) (G.2.2.elim (fun r=>Calls.loadGlobal_global (E.glob.symm▸G.1.keeps kp) r q) fun r=>Calls.loadGlobal_builtin (E.glob.symm▸G.1.keeps kp) r.1 (E.bi.symm▸G.2.1.keeps kp) r.2 q) (beq_eq_false_iff_ne.mpr hd)
theorem eq_99 {x:Str} {i:Nat} {p:Pos} (T:yy) (hn:Nm x i) (hg:c.1.lookup x=some .globalImplicit):yq c (.Name x p) fun k=>.o (.glo i) 0 k:=fun env E r k st g F q=>
 (eq_919 (p:=.glo i) (vs:=[]) (K:=fun x=>r.go k (x.1::st) x.2) rfl q).elim fun z q=>have G:=T.gv x i z q.1 hn
 G.2.elim fun y Y=>.of (eq_723 E hg G.1 Y.1 (Ps.of_den (Y.2 g) q.2))
theorem eq_96 {a:Expr} {p:Pos} {F:Code->Code} (h:qf c a F):qf c (.UnaryOp .Not a p) fun k=>F (.o .not 1 k):=fun env E r k st g At q=>.eq (arm_isTrue_UnaryOp ..) (.bm (h env E r _ st g At q) fun b s z=>z.elim fun g1 z=>z.1▸.pure ⟨g1,rfl,z.2.1,
 (eq_919 (p:=.not) (vs:=[.bool b]) (K:=fun x=>r.go k (x.1::st) x.2) rfl z.2.2).elim fun y w=>show r.go k (.bool (!b)::st) g1.H from (Option.some.inj w.1:V.bool (!b)=y)▸w.2⟩)
theorem zeX {e:Expr} {F:Code->Code} (he:∀env,isTrue e env (eval e env)=(do let v ← eval e env;standAt e.pos;holding [v] (truthy v))) (h:yq c e F):qf c e fun k=>F (.o .tru 1 k):=fun env E r k st g At q=>.eq (he env) (.bind ((h env E r _ st g At q).go fun x g1 v l d q=>
 (eq_919 (p:=.tru) (vs:=[v]) (K:=fun x=>r.go k (x.1::st) x.2) rfl q).elim fun y w=>(zc w.1).elim fun b u=>.at (.hold (.of (eq_302 d u.1 fun n=>⟨g1.tk n,rfl,l.trans JQ,show r.go k (.bool b::st) g1.H from (Option.some.inj u.2:V.bool b=y)▸w.2⟩)))))
theorem eq_43 {a b:Expr} {op:CmpOp} {p:Pos} {F G:Code->Code} (hb:Pl b) (ha:yq c a F) (hB:yq c b G):qf c (.Compare a [op] [b] p) fun k=>F (G (.o (.cmp op) 2 k)):=fun env E r k st g At q=>.eq (isTrue_Compare1 ..) (.bind ((ha env E r _ st g At q).go fun x g1 v l1 d1 q=>by
 rw [markedBehindIn_of_false (hb.mark op)]
 exact .bind (.hold ((hB env E r _ _ g1 (At.st l1) q).go fun y g2 u l2 d2 q=>(eq_919 (p:=.cmp op) (vs:=[v,u]) (K:=fun x=>r.go k (x.1::st) x.2) rfl q).elim fun z w=>(zc w.1).elim fun b u=>.at (.bm (.oper (.of (eq_837 (l2.den d1) d2 u.1))) fun r1 s1 m=>
  Exists.elim m fun g3 m=>(show r1=.bool b from m.2.2.2)▸m.1▸.hold (.of (wpAny_truthy_bool ⟨g3,rfl,(l1.trans l2).trans m.2.1,show r.go k (.bool b::st) g3.H from m.2.2.1▸(Option.some.inj u.2:V.bool b=z)▸w.2⟩)))))))
end
section
variable {c:Cf}
def zy.sub (r:zy) (k:Code):zy:={ r with K:=fun st lo H=>Rc xX k st lo H r.K r.J }
theorem eq_396 {r:zy} {a b k:Code} {st:List V} {H:Hp} {x:Bool} (h:r.go (.ite a b k) (.bool x::st) H):(x=true/\(r.sub k).go a st H)∨(x=false/\(r.sub k).go b st H):=eq_909 h
theorem eq_98 {t a b:Expr} {p:Pos} {F A B:Code->Code} (ht:qf c t F) (ha:yq c a A) (hb:yq c b B):yq c (.IfExp t a b p) fun k=>F (.ite (A .n) (B .n) k):=fun env E r k st g At q=>.eq (arm_eval_IfExp ..) (.bm (ht env E r _ st g At q) fun x s z=>z.elim fun g1 z=>z.1▸Bool.casesOn
 (motive:=fun x=>r.go (.ite (A .n) (B .n) k) (.bool x::st) g1.H->J A0 (if x=true then eval a env else eval b env) (Ps [] g (qP (r.Q k st))) g1.s) x
 (fun q=>Ev.up z.2.1 (hb env E (r.sub k) .n st g1 (At.st z.2.1) q)) (fun q=>Ev.up z.2.1 (ha env E (r.sub k) .n st g1 (At.st z.2.1) q)) z.2.2)
noncomputable def boC (op:BoolOp) (F:Code->Code):Code->Code:=match op with
 | .And=>fun k=>.ite (F .n) (.o (.cst (.bool false)) 0 .n) k
 | .Or=>fun k=>.ite (.o (.cst (.bool true)) 0 .n) (F .n) k
noncomputable def btC {α:Type} (op:BoolOp) (f:α->Code->Code):List α->Code->Code
 | []=>.o (.cst (.bool (op == .And))) 0
 | e::es=>fun k=>f e (boC op (btC op f es) k)
noncomputable def vbC {α:Type} (op:BoolOp) (f:α->Code->Code):List α->Code->Code
 | []=>fun _=>.dead
 | e::es=>List.casesOn (motive:=fun _=>Code->Code) es (f e) fun _ _ k=>f e (.o .isb 1 (boC op (vbC op f es) k))
abbrev PB (g:G) (r:zy) (k:Code) (st:List V):Bool->Shared->Prop:=Ps [] g fun b g1=>r.go k (.bool b::st) g1.H
theorem bt_ {op:BoolOp} {f:Expr->Code->Code} {env:Env} (E:Fr c env):∀{es:List Expr} {r:zy} {k:Code} {st:List V} {g:G},(∀e∈es,qf c e (f e))->At c env r.lo g->r.go (btC op f es k) st g.H->J A0 (allTrue op es env) (PB g r k st) g.s
 | [],_,_,_,g=>fun _ _ q=>.pure ⟨g,rfl,Le.refl,q⟩
 | e::es,r,k,st,g=>fun hs F q=>.eq (arm_allTrue_cons ..) (.bm (hs e (.head _) env E r _ st g F q) fun b s z=>z.elim fun g1 z=>z.1▸by
  have ih:=fun (q:(r.sub k).go (btC op f es .n) st g1.H)=>(bt_ E (r:=r.sub k) (fun e m=>hs e (.tail _ m)) (F.st z.2.1) q).mono fun _ _=>Ps.up z.2.1
  cases op<;>cases b
  ·exact .pure ⟨g1,rfl,z.2.1,z.2.2⟩
  ·exact ih z.2.2
  ·exact ih z.2.2
  ·exact .pure ⟨g1,rfl,z.2.1,z.2.2⟩)
theorem vb_ {op:BoolOp} {f:Expr->Code->Code} {env:Env} {pos:Pos} (E:Fr c env):∀{es:List Expr} {r:zy} {k:Code} {st:List V} {g:G},(∀e∈es,yq c e (f e))->At c env r.lo g->r.go (vbC op f es k) st g.H->Ev g (boolOp pos op (evalEach es env)) (r.Q k st)
 | [],_,_,_,g=>fun _ _ q=>q.elim
 | [e],r,k,st,g=>fun hs F q=>hs e (.head _) env E r k st g F q
 | e::e2::es,r,k,st,g=>fun hs F q=>by
  show J A0 (do
   let v ← eval e env
   standAt pos
   let r ← holding [v] (truthy v)
   match op,r with
   | .And,false | .Or,true=>pure v
   | _,_=>boolOp pos op (evalEach (e2::es) env)) _ _
  refine .bind ((hs e (.head _) env E r _ st g F q).go fun x g1 v l d q=>(eq_919 (p:=.isb) (vs:=[v]) (K:=fun x=>r.go (boC op (vbC op f (e2::es)) k) (x.1::st) x.2) rfl q).elim fun y w=>(zc w.1).elim fun b u=>?_)
  obtain rfl:=eq_622 u.1 d
  obtain rfl:=Option.some.inj u.2
  have w:r.go (boC op (vbC op f (e2::es)) k) (.bool b::st) g1.H:=w.2
  refine .at (.bind (.hold (.of (wpAny_truthy_bool ?_))))
  have ih:=fun (q:(r.sub k).go (vbC op f (e2::es) .n) st g1.H)=>Ev.up l (vb_ (pos:=pos) E (r:=r.sub k) (fun e m=>hs e (.tail _ m)) (F.st l) q)
  cases op<;>cases b
  ·exact .pure (Ps.up l (Ps.of_den zo w))
  ·exact ih w
  ·exact ih w
  ·exact .pure (Ps.up l (Ps.of_den zo w))
theorem eq_218 {op:BoolOp} {f:Expr->Code->Code} {es:List Expr} {p:Pos} (hs:∀e∈es,yq c e (f e)):yq c (.BoolOp op es p) (vbC op f es):=fun env E r k st g F q=>.eq (arm_eval_BoolOp ..) (vb_ E hs F q)
theorem eq_217 {op:BoolOp} {f:Expr->Code->Code} {es:List Expr} {p:Pos} (hs:∀e∈es,qf c e (f e)):qf c (.BoolOp op es p) (btC op f es):=fun env E r k st g F q=>.eq (arm_isTrue_BoolOp ..) (bt_ E hs F q)
theorem eq_49 {a b d:Expr} {o1 o2:CmpOp} {p:Pos} {A B D:Code->Code} (hd:Pl d) (ha:yq c a A) (hb:yq c b B) (hD:yq c d D):qf c (.Compare a [o1,o2] [b,d] p) fun k=>A (B (.cmp2 o1 (.ite (D (.o (.cmp o2) 2 .n)) (.drop (.o (.cst (.bool false)) 0 .n)) k))):=fun env E r k st g At q=>.eq (arm_isTrue_Compare ..) (.bind ((ha env E r _ st g At q).go fun x g1 v l1 d1 q=>by
 show J A0 (do
  let rv ← holding [x] (eval b env)
  standAt p
  let c ← holding [x,rv] (compareOp o1 x rv)
  release [x,rv] [c]
  if ← holding [c,rv] (truthy c) then testChain p rv [o2] [markedBehindIn o2 d (eval d env)] else pure false) _ _
 exact .bind (.hold ((hb env E r _ _ g1 (At.st l1) q).go fun y g2 u l2 d2 q=>(yg (show ob (zf7 o1 v u g2.H) fun b=>r.go _ (.bool b::u::st) g2.H from q)).elim fun z w=>.at (.bm (.hold (.of (eq_837 (l2.den d1) d2 w.1))) fun r1 s1 m=>Exists.elim m fun g3 m=>by
  obtain rfl:r1=.bool z:=m.2.2.2
  obtain ⟨rfl,l3,hH,_⟩:=m
  have L:=(l1.trans l2).trans l3
  have q:(r.sub k).go (.ite (D (.o (.cmp o2) 2 .n)) (.drop (.o (.cst (.bool false)) 0 .n)) .n) (.bool z::u::st) g3.H:=hH▸w.2
  refine .rel (.bind (.hold (.of (wpAny_truthy_bool ?_))))
  cases z with
  | false=>exact .pure ⟨g3,rfl,L,(eq_909 q).elim (fun z=>z.2) fun z=>z.2.elim⟩
  | true=>
   rw [markedBehindIn_of_false (hd.mark o2)]
   show J A0 (do
    let rv ← holding [y] (eval d env)
    standAt p
    let c ← operate [y,rv] (compareOp o2 y rv)
    holding [c] (truthy c)) _ _
   exact .bind (.hold ((hD env E (r.sub k) _ _ g3 (At.st L) q).go fun x3 g4 v3 l4 d4 q=>(eq_919 (p:=.cmp o2) (vs:=[u,v3]) (K:=fun x=>(r.sub k).go .n (x.1::st) x.2) rfl q).elim fun z w=>(zc w.1).elim fun b u=>.at (.bm (.oper (.of (eq_837 (l4.den (l3.den d2)) d4 u.1))) fun r1 s1 m=>Exists.elim m fun g5 m=>
    (show r1=.bool b from m.2.2.2)▸m.1▸.hold (.of (wpAny_truthy_bool ⟨g5,rfl,(L.trans l4).trans m.2.1,show r.go k (.bool b::st) g5.H from m.2.2.1▸(Option.some.inj u.2:V.bool b=z)▸w.2⟩))))))))))
end
theorem eq_787 {env:Env} {pos:Pos} {P:Bool×Sem Value->Bool} (hp:∀t,P (false,t)=false):∀{l:List Expr},(∀e∈l,Pl e)->(backTo pos (starEach l env)).any P=false
 | []=>fun _=>rfl
 | e::l=>fun h=>by
  rw [(h e (.head _)).star]
  show (P (false,_)||(backTo pos (starEach l env)).any P)=false
  rw [hp,Bool.false_or]
  exact eq_787 hp fun e q=>h e (.tail _ q)
theorem eq_432 {env:Env} {v:Value} {pos:Pos} {Q:List Value->Shared->Prop} {s:Shared}:∀{l:List Expr},(∀e∈l,Pl e)->EvK env l Q s->J A0 (evalArgs v true (backTo pos (starEach l env)) []) (fun a s=>a.kw=[]/\Q a.pos s) s
 | []=>fun _ h=>show J A0 (pure _) _ _ from .pure ⟨rfl,h⟩
 | e::l=>fun hp h=>by
  have h:=eq_813 (pos:=pos) hp h
  rw [(hp e (.head _)).star] at h ⊢
  unfold evalArgs
  exact .bm h fun vs s h=>.hold (.bind (.pure (.bind (.pure (.pure ⟨rfl,h⟩)))))
theorem eq_614 {env:Env} {pos:Pos} {f:Value} {first:List Value} {l:List Expr} {Q:Value->Shared->Prop} {s:Shared} (hp:∀e∈l,Pl e) (hk:∀h,(kF w0.params).In h->∃k,(k=Keeper.frame∨k=Keeper.machine∨k=Keeper.boundFrame)/\Looks M0 h (keeperOf f) k)
  (h:EvK env l (fun xs s=>(kF w0.params).In s.heap/\J A0 (PySem.call f (first++xs)) Q s) s):J A0 (callWith pos f first (backTo pos (starEach l env)) []) Q s:=by
 unfold callWith
 refine .bm (.hold (eq_432 hp h)) fun a s1 h=>.at ?_
 obtain ⟨k,hk',L⟩:=hk _ h.2.1
 rw [show ((backTo pos (starEach l env)).any (·.1)||([]:List (Option Str×Sem Value)).any (·.1.isNone))=false from by rw [eq_787 (fun _=>rfl) hp];rfl]
 refine .bind (.of (L.here ?_))
 have tail:∀{t:Sem Value},J A0 t Q s1->J A0 (t >>= fun r=>holding [r] point >>= fun _=>pure r) Q s1:=fun ht=>.bm ht fun r s2 hr=>.bind (.hold (.of (wpAny_point (show J A0 (pure r) Q s2 from .pure hr))))
 have h1:J A0 (PySem.call f (first++a.pos) a.kw) Q s1:=h.1▸h.2.2
 have marked (mk:Value):J A0 (callMarked mk f (first++a.pos) a.kw) Q s1:=.keep h1
 rcases hk' with rfl | rfl | rfl<;>dsimp only<;>first | exact tail h1 | (split<;>first | exact tail h1 | exact tail (marked _))
section
variable {c:Cf} {f:Expr->Code->Code} {l:List Expr} {pos:Pos} (T:yy) (hs:∀e∈l,yq c e (f e)) (hp:∀e∈l,Pl e)
include T hs hp
theorem eq_565 {env:Env} {r:zy} {k:Code} {st us:List V} {g:G} {ys:List Value} {j m:Nat} (E:Fr c env) (F:At c env r.lo g) (d:g.DL us ys) (hm:m=l.length+us.length+1) (q:r.go (y5 f l (.call m k)) (us.reverse++.fn j::st) g.H):J A0 (callWith pos (fnV j) ys (backTo pos (starEach l env)) []) (Ps [] g (qP (r.Q k st))) g.s:=
 eq_614 hp (fun h=>T.kp j h) (evs E hs F q fun xs vs g1 L d1 n q=>⟨T.K g1,by
  have q:r.go (.call m k) ((.fn j::(us++vs)).reverse++st) g1.H:=by rw [List.reverse_cons,List.reverse_append,List.append_assoc,List.append_assoc];exact q
  have q:hc (.fn j::(us++vs)) fun f vs=>ob (asF f) fun i=>xX i vs g1.H (r.Q k st):=eq_863 (by rw [List.length_cons,List.length_append,n,hm,Nat.add_comm us.length]) q
  exact Ev.up L (T.call j g1 (us++vs) (ys++xs) _ (eq_895 d1 (L.denL d)) q)⟩)
theorem eq_50 {x:Str} {i:Nat} {p:Pos} (hn:Nm x i) (hg:c.1.lookup x=some .globalImplicit):yq c (.Call (.Name x p) l [] pos) fun k=>.o (.glo i) 0 (.fnk (y5 f l (.call (l.length+1) k))):=fun env E r k st g F q=>
 (eq_919 (p:=.glo i) (vs:=[]) (H:=g.H) (K:=fun x=>r.go (.fnk (y5 f l (.call (l.length+1) k))) (x.1::st) x.2) rfl q).elim fun v q=>have G:=T.gv x i v q.1 hn
 G.2.elim fun y Y=>(yg (show ob (asF v) fun _=>r.go (y5 f l (.call (l.length+1) k)) (v::st) g.H from q.2)).elim fun j z=>by
  show J A0 (do callWith pos (← eval (.Name x p) env) [] (backTo pos (starEach l env)) (backToKw pos (keywordEach [] env))) _ _
  have e:y=fnV j:=eq_738 z.1 (Y.2 g)
  have e2:v=.fn j:=by cases v<;>first | exact zl z.1 | exact congrArg V.fn (Option.some.inj z.1)
  subst e e2
  exact .bind (.of (eq_723 E hg G.1 Y.1 (eq_565 T hs hp (us:=[]) (ys:=[]) E F rfl rfl z.2)))
theorem eq_45 {a:Expr} {A:Code->Code} {x:Str} {i:Nat} {p:Pos} (hn:Nm x i) (ha:yq c a A) (hb:∀env,attributeBase a x env (eval a env)=eval a env) (hl:l.length<=20) (hq:(p.endLine == pos.line)=true):yq c (.Call (.Attribute a x p) l [] pos) fun k=>A (.mth i (y5 f l (.call (l.length+2) k))):=fun env E r k st g F q=>
 .eq (arm_eval_Call ..) (.eq (congrArg (fun t=>t >>= _) (hb env)) (.bind ((ha env E r _ st g F q).go fun y g1 v l1 d1 q=>.at (by
  obtain ⟨kd,hk,q⟩:=yg (show ob (kdV i v g1.H) fun k'=>ob (mtd k' i) fun j=>r.go (y5 f l (.call (l.length+2) k)) (v::.fn j::st) g1.H from q)
  obtain ⟨j,hj,q⟩:=yg q
  have few:methodCallForm (l.length+([]:List Keyword).length) (backTo pos (starEach l env)) (backToKw pos (keywordEach [] env))=true:=by
   unfold methodCallForm
   rw [List.all_eq_not_any_not,eq_787 (fun _=>rfl) hp]
   exact decide_eq_true (show l.length+0+0 < 30 from Nat.lt_of_le_of_lt hl (by decide))
  have hpos:methodCallPos true a env p pos=pure pos:=by unfold methodCallPos;rw [hq];rfl
  unfold methodCall
  rw [few,hpos]
  refine .bind (.hold (.of (T.mth kd i j x hj hn g1 v y hk d1 _ _ ?_)))
  exact (eq_565 (pos:=pos) T hs hp (us:=[v]) (ys:=[y]) E (F.st l1) (zh d1 rfl) rfl q).mono fun _ _=>Ps.up l1))))
end
theorem eq_760 {src:Option Nat} {l:List V} {H:Hp} {Q:Prop} (h:gd src l H Q):gd src l H True/\Q:=Option.casesOn (motive:=fun src=>gd src l H Q->gd src l H True/\Q) src (fun h=>⟨trivial,h⟩) (fun _ h=>⟨⟨h.1,trivial⟩,h.2⟩) h
def Tg (tg:Expr) (tup:Bool):Prop:=(∃es k p,tg=.Tuple es k p)∨(tup=false/\∃x p,tg=.Name x p)
abbrev Sts:=Nat->G->Prop
def ItN (wr:List Addr) (v:V) (x:Value) (g:G) (S:G->Prop) (s:Shared):Prop:=∃g1:G,g1.s=s/\Le wr g g1/\g1.H=g.H/\g1.D v x/\S g1
def NxA (it:Value) (wr:List Addr) (tg:Expr) (v:V) (S:G->Prop) (g:G):Prop:=wpAny (model PW w0) A0 (pyNext it) (fun r s1=>∃x,r=some x/\wpAny (model PW w0) A0 (letOwnedTupleGo tg it x) (fun _=>ItN wr v x g S) y9 s1) y9 g.s
def zeo (it:Value) (wr:List Addr) (l:List V) (src:Option Nat) (tup:Bool) (St:Sts):Prop:=∀i v g tg,l[i]?=some v->St i g->gd src l g.H True->Tg tg tup->NxA it wr tg v (St (i+1)) g
def zep (it:Value) (wr:List Addr) (l:List V) (src:Option Nat) (St:Sts):Prop:=∀g,St l.length g->gd src l g.H True->wpAny (model PW w0) A0 (pyNext it) (fun r s1=>r=none/\∃h tk,s1={ g.s with heap:=h,toks:=tk }/\∀b o,b∉wr->g.s.heap.get? b=some o->h.get? b=some o) y9 g.s
def zkG (wr:List Addr) (St:Sts):Prop:=∀i g g1 X,St i g->Le X g g1->(∀a∈X,a∉wr)->St i g1
def ItPr (wr:List Addr) (St:Sts):Prop:=∀i g,St i g->∀a∈wr,g.κ a=.pr
def ItAg (it:Value) (St:Sts):Prop:=∀i g P,St i g->P it g.s->wpAny (model PW w0) A0 (pyIter it) P y9 g.s
structure Itr (it:Value) (wr:List Addr) (l:List V) (src:Option Nat) (tup:Bool) (St:Sts):Prop where
 pr:ItPr wr St
 next:zeo it wr l src tup St
 done:zep it wr l src St
 keep:zkG wr St
 again:ItAg it St
def ItG (g:G) (tup:Bool) (l:List V) (src:Option Nat) (it:Value) (s:Shared):Prop:=∃wr St,Itr it wr l src tup St/\(∀a∈wr,g.κ a=.no)/\∃g1:G,g1.s=s/\Le [] g g1/\g1.H=g.H/\St 0 g1
section
variable {g:G} {wr:List Addr} {h':Heap} {nu:Addr->Kn} {tk:Nat}
structure Stp (g:G) (wr:List Addr) (h':Heap) (nu:Addr->Kn):Prop where
 pr:∀a∈wr,g.κ a=.pr
 lv:∀a∈wr,h'.get? a≠none
 nl:∀a,nu a≠.no->h'.get? a≠none
 hk:∀b o,b∉wr->g.s.heap.get? b=some o->h'.get? b=some o
theorem zcM (hk:∀b o,b∉wr->g.s.heap.get? b=some o->h'.get? b=some o) {a:Addr} (m:a∉wr) (q:g.κ a≠.no):h'.get? a=g.s.heap.get? a:=by
 cases e:g.s.heap.get? a with
 | none=>exact (g.ok.alive a q e).elim
 | some o=>exact hk a o m e
theorem Stp.sm (S:Stp g wr h' nu) (a:Addr) (q:g.κ a≠.no) (z:g.κ a=.pr->a∉wr):h'.get? a=g.s.heap.get? a:=zcM S.hk (fun m=>z (S.pr a m) m) q
theorem Stp.al (S:Stp g wr h' nu) (a:Addr) (q:nu a≠.no∨g.κ a≠.no):h'.get? a≠none:=q.elim (S.nl a) fun q=>by
 by_cases m:a∈wr
 ·exact S.lv a m
 ·exact (zcM S.hk m q).symm▸g.ok.alive a q
def G.stp (g:G) (S:Stp g wr h' nu) (tk:Nat):G:=⟨{ g.s with heap:=h',toks:=tk },g.H,fun a=>(g.κ a).or (nu a),g.L,.nx nu wr S.al S.sm⟩
theorem zV (S:Stp g wr h' nu):Le wr g (g.stp S tk):=⟨fun _ q=>Kn.or_e _ _ q,fun a q=>S.sm a (yJ q) (fun z=>nomatch q.symm.trans z),fun a q n=>S.sm a (zF q) fun _=>n,List.prefix_rfl,⟨rfl,rfl,rfl⟩⟩
noncomputable def kdr (g:G) (wr:List Addr):Addr->Kn:=xC g.κ (fun a=>wr.contains a) .no
section
variable (hk:∀b o,b∉wr->g.s.heap.get? b=some o->h'.get? b=some o)
include hk
theorem zjw (a:Addr) (m:a∉wr) (n:g.κ a≠.no):kdr g wr a=g.κ a/\h'.get? a=g.s.heap.get? a:=⟨xx.elim (fun z=>(m (List.contains_iff_mem.mp z.1)).elim) fun z=>z.2,zcM hk m n⟩
variable (pr:∀a∈wr,g.κ a=.pr)
include pr
theorem zjx {a:Addr} {k:Kn} (e:g.κ a=k) (n:k≠.pr) (m:k≠.no):kdr g wr a=k/\h'.get? a=g.s.heap.get? a:=have d:=zjw hk a (fun q=>n (e.symm.trans (pr a q))) (e▸m);⟨d.1.trans e,d.2⟩
theorem zc9:Kp g.s.heap g.κ g.L h' (kdr g wr) g.L:=⟨fun a e=>zjx hk pr e nofun nofun,fun _ _=>id⟩
theorem Inv.drop:Inv h' g.H (kdr g wr) g.L:=
 have kp:=zc9 hk pr
 ⟨fun a n=>xx.elim (fun z=>(n z.2).elim) fun z=>(zcM hk (fun m=>Bool.noConfusion (z.1.symm.trans (List.contains_iff_mem.mpr m))) fun e=>n (z.2.trans e)).symm▸g.ok.alive a fun e=>n (z.2.trans e),
  fun a o e=>have q:=g.ok.top a o e;⟨(kp.f a q.1).1,(kp.f a q.1).2.trans q.2⟩,g.ok.len,
  fun i o p h1 h2=>have q:=g.ok.obj i o p h1 h2;have a:=zjx hk pr q.1 nofun nofun;have b:=zjx hk pr q.2.1 nofun nofun;⟨a.1,b.1,xb.mono kp o a.2 b.2 q.2.2⟩,g.ok.apart⟩
end
structure Dr (wr:List Addr) (g g1:G):Prop where
 k:∀a,a∉wr->g.κ a≠.no->g1.κ a=g.κ a/\g1.s.heap.get? a=g.s.heap.get? a
 kp:Kp g.s.heap g.κ g.L g1.s.heap g1.κ g1.L
 l:g1.L=g.L
 H:g1.H=g.H
 m:zei g.s g1.s
theorem Dr.le {g0 g1:G} {X:List Addr} (D:Dr wr g g1) (n0:∀a∈wr,g0.κ a=.no) (L:Le (X++wr) g0 g):Le X g0 g1:=
 have nw:∀{a},g0.κ a≠.no->a∉wr:=fun n m=>n (n0 _ m)
 have d:∀{a},g0.κ a≠.no->_:=fun {a} n=>D.k a (nw n) (fun e=>n ((L.k a n).symm.trans e))
 ⟨fun a n=>(d n).1.trans (L.k a n),fun a e=>(d (yJ e)).2.trans (L.f a e),fun a e n=>(d (zF e)).2.trans (L.p a e fun m=>(List.mem_append.mp m).elim n (nw (zF e))),D.l▸L.l,⟨D.m.gens.trans L.m.gens,D.m.drawn.trans L.m.drawn,D.m.os.trans L.m.os⟩⟩
theorem At.dr {c:Cf} {env:Env} {lo:Lo} {g1:G} (F:At c env lo g) (D:Dr wr g g1) (hX:∀a∈Xe env,a∉wr):At c env lo g1:=
 have k:∀a∈Xe env,_:=fun a q=>D.k a (hX a q) (zF (F.pr a q))
 ⟨fun a q=>(k a q).1.trans (F.pr a q),F.ns.imp fun _=>.imp fun _=>.imp fun _=>.imp fun _=>.imp_left (k _ (.head _)).2.trans,
  fun p q=>(F.cells p q).imp fun _=>.imp fun _=>.imp_left (k _ (.tail _ (List.mem_map.mpr ⟨p,q,rfl⟩))).2.trans,fun i v h=>(F.lr i v h).imp fun _=>.imp fun _ h=>⟨h.1,h.2.1.to fun a q=>(k a q).2,Den.mono D.kp _ _ h.2.2⟩⟩
theorem Itr.fin {it:Value} {l:List V} {src:Option Nat} {tup:Bool} {St:Nat->G->Prop} (I:Itr it wr l src tup St) (st:St l.length g) (q:gd src l g.H True) :
  wpAny (model PW w0) A0 (pyNext it) (fun r s1=>r=none/\∃g1:G,g1.s=s1/\Dr wr g g1) y9 g.s:=
 wpAny_mono (I.done g st q) (fun _ _ z=>⟨z.1,z.2.elim fun h z=>z.elim fun tk z=>have v:=Inv.drop z.2 (I.pr _ g st)
  ⟨⟨_,_,_,_,v⟩,z.1.symm,zjw z.2,zc9 z.2 (I.pr _ g st),rfl,rfl,⟨rfl,rfl,rfl⟩⟩⟩) fun _ _ q=>q
end
theorem hh0:A0.handled=none:=rfl
def zfj (T:String):Bool:=!(["enumerate","zip","dict_itemiterator","dict_reverseitemiterator","odict_iterator","itertools.zip_longest","itertools.pairwise"].contains T)
def zbp (h:Heap) (I:Addr):Prop:=∃T vs o,h.get? I=some o/\o.cls=.type T/\o.data=.fields vs/\zfj T=true
theorem zbp.al {h:Heap} {I:Addr} (G:zbp h I):h.get? I≠none:=G.elim fun _ G=>G.elim fun _ G=>G.elim fun _ G z=>nomatch z.symm.trans G.1
theorem zgW {s:Shared} {tg:Expr} {tup:Bool} {I:Addr} {x:Value} {P:Unit->Shared->Prop} (ht:Tg tg tup) (G:zbp s.heap I) (h:P () s):wpAny (model PW w0) A0 (letOwnedTupleGo tg (.ref I) x) P y9 s:=by
 obtain ⟨es,k,p,rfl⟩ | ⟨_,y,p,rfl⟩:=ht
 ·cases x with
  | ref a=>
   obtain ⟨T,vs,⟨c,dt,d,sl⟩,ho,rfl,rfl,hT⟩:=G
   refine wpAny_bind (wpAny_load ho ?_)
   show wpAny (model PW w0) A0 (if (["enumerate","zip","dict_itemiterator","dict_reverseitemiterator","odict_iterator","itertools.zip_longest","itertools.pairwise"].contains T&&_)=true then _ else pure ()) P y9 s
   rw [(Bool.not_eq_true' _).mp hT]
   exact wpAny_pure h
  | _=>exact wpAny_pure h
 ·exact wpAny_pure h
theorem qY {a I:Addr} (h:a∉[I]):a≠I:=fun e=>h (e▸.head _)
theorem ZA {a I:Addr} {P:Addr->Prop} (p:P I) (h:a∈[I]):P a:=List.mem_singleton.mp h▸p
def ItL (v:V) (I a:Addr) (i:Nat) (g:G):Prop:=g.κ I=.pr/\g.s.heap.IsListIter I a i/\g.D v (.ref a)
section
variable {v:V} {I a:Addr} {l:List V} {src:Option Nat}
theorem ItL.list (nh:∀H,gd src l H True->nv v H=some (.lst,l)) {i:Nat} {g:G} (S:ItL v I a i g) (q:gd src l g.H True):∃ys n,g.s.heap.get? a=some { cls:=.type "list",data:=.seq (ys:List Value).toArray n }/\g.DL l ys:=by
 obtain ⟨a',dx,ys,e,Li,d⟩:=Zx (nh _ q) S.2.2
 cases e
 exact (xi rfl Li).elim fun n z=>⟨ys,n,z,d⟩
theorem ItL.stp {i:Nat} {g:G} {h1:Heap} (S:ItL v I a i g) (hit:h1.IsListIter I a (i+1)) (hs:Heap.SameBut I g.s.heap h1):Stp g [I] h1 fun _=>.no:=
 ⟨fun _ m=>ZA (P:=fun b=>g.κ b=.pr) S.1 m,fun _ m=>ZA (P:=fun b=>h1.get? b≠none) (Exists.elim hit fun _ q z=>nomatch z.symm.trans q.1) m,fun _ n=>(n rfl).elim,fun b o m e=>(hs.2 b (qY m)).trans e⟩
theorem ItL.gone {h:Heap} {i:Nat} (hit:h.IsListIter I a i):zbp h I:=Exists.elim hit fun o q=>⟨_,_,o,q.1,q.2.1,q.2.2,rfl⟩
theorem ItL.step {i:Nat} {g:G} {h1:Heap} (S:ItL v I a i g) (hit:h1.IsListIter I a (i+1)) (hs:Heap.SameBut I g.s.heap h1) {u:V} {y:Value} (d:g.D u y):ItN [I] u y g (ItL v I a (i+1)) { g.s with heap:=h1 }:=
 have St:=S.stp hit hs
 ⟨g.stp St g.s.toks,rfl,zV St,rfl,(zV St).den d,(Kn.or_e _ _ (zF S.1)).trans S.1,hit,(zV St).den S.2.2⟩
theorem ItL.next (nh:∀H,gd src l H True->nv v H=some (.lst,l)):zeo (.ref I) [I] l src false (ItL v I a):=fun i u g tg hu S q ht=>(S.list nh q).elim fun ys z=>z.elim fun n z=>(xo z.2 hu).elim fun y w=>
 wpAny_pyNext_list_item (l:=a) S.2.1 ⟨_,z.1,rfl,_,rfl⟩ ((List.getElem?_toArray ..).trans w.1) fun h1 hit hs=>⟨y,rfl,zgW ht (ItL.gone hit) (S.step hit hs w.2)⟩
theorem ItL.done (nh:∀H,gd src l H True->nv v H=some (.lst,l)):zep (.ref I) [I] l src (ItL v I a):=fun g S q=>(S.list nh q).elim fun ys z=>z.elim fun n z=>
 wpAny_pyNext_list_end (l:=a) hh0 S.2.1 ⟨_,z.1,rfl,_,rfl⟩ ((List.getElem?_toArray ..).trans (List.getElem?_eq_none (Nat.le_of_eq (zf z.2)))) fun h1 he=>⟨rfl,h1,_,rfl,fun b o m e=>he b o (qY m) e⟩
theorem eq_124 (nh:∀H,gd src l H True->nv v H=some (.lst,l)):Itr (.ref I) [I] l src false (ItL v I a):=⟨fun i g S b m=>ZA (P:=fun b=>g.κ b=.pr) S.1 m,ItL.next nh,ItL.done nh,
 fun i g g1 X S L hX=>⟨(L.k I (zF S.1)).trans S.1,S.2.1.imp fun o q=>⟨(L.p I S.1 fun m=>hX I m (.head _)).trans q.1,q.2⟩,L.den S.2.2⟩,fun i g P S h=>wpAny_pyIter_listiter (l:=a) S.2.1 h⟩
end
structure Fz (D:G->Prop) (fp wr:List Addr) (g:G):Prop where
 pr:∀a∈wr,g.κ a=.pr
 fz:∀a∈fp,a∉wr->g.κ a=.fz
 den:D g
def Mo (D:G->Prop):Prop:=∀X g g1,Le X g g1->D g->D g1
theorem Fz.step {D:G->Prop} {fp wr X:List Addr} {g g1:G} (F:Fz D fp wr g) (m:Mo D) (L:Le X g g1):Fz D fp wr g1:=⟨fun a m=>(L.k a (zF (F.pr a m))).trans (F.pr a m),fun a m n=>(L.k a (yJ (F.fz a m n))).trans (F.fz a m n),m X g g1 L F.den⟩
theorem Fz.keep {D:G->Prop} {fp wr X:List Addr} {g g1:G} (F:Fz D fp wr g) (L:Le X g g1) (hX:∀a∈X,a∉wr) (b:Addr) (m:b∈fp) (o:Obj) (e:g.s.heap.get? b=some o):g1.s.heap.get? b=some o:=by
 by_cases q:b∈wr
 ·exact (L.p b (F.pr b q) fun z=>hX b z q).trans e
 ·exact (L.f b (F.fz b m q)).trans e
def ItW (D:G->Prop) (fp wr:List Addr) (S0:Nat->Heap->Prop) (i:Nat) (g:G):Prop:=S0 i g.s.heap/\Fz D fp wr g
def DP (l:List V) (P:Nat->Value->Prop) (g:G):Prop:=∀i v x,l[i]?=some v->P i x->g.D v x
def DT (l:List V) (P:Nat->Array Value->Prop) (g:G):Prop:=∀i v xs,l[i]?=some v->P i xs->∃u,v=.nd .tup u/\g.DL u xs.toList
theorem ziH {l:List V} {P:Nat->Value->Prop}:Mo (DP l P):=fun _ _ _ L d i v x e p=>L.den (d i v x e p)
theorem eq_764 {l:List V} {P:Nat->Array Value->Prop}:Mo (DT l P):=fun _ _ _ L d i v x e p=>(d i v x e p).imp fun _ q=>⟨q.1,L.denL q.2⟩
section
variable {I:Addr} {fp wr:List Addr} {n:Nat} {S0:Nat->Heap->Prop} {l:List V}
theorem zfC {P:Nat->Value->Prop} (W:Walks PW w0 A0 I fp [I] n P S0) (hn:l.length=n) (go:∀i h,S0 i h->zbp h I):Itr (.ref I) [I] l none false (ItW (DP l P) fp [I] S0) where
 pr i g S:=S.2.pr
 next i u g tg hu S q ht:=W.item i g.s _ _ (hn▸(List.getElem?_eq_some_iff.mp hu).1) S.1 fun x h1 tk hP hS hk=>by
  have St:Stp g [I] h1 fun _=>.no:=⟨S.2.pr,fun b m=>ZA (P:=fun b=>h1.get? b≠none) (go _ _ hS).al m,fun _ n=>(n rfl).elim,hk⟩
  exact ⟨x,rfl,zgW ht (go _ _ hS) ⟨g.stp St tk,rfl,zV St,rfl,(zV St).den (S.2.den i u x hu hP),hS,S.2.step ziH (zV St)⟩⟩
 done g S q:=W.done g.s _ _ (hn▸S.1) fun h1 tk hk=>⟨rfl,h1,tk,rfl,hk⟩
 keep i g g1 X S L hX:=⟨W.frame i _ _ S.1 (S.2.keep L hX),S.2.step ziH L⟩
 again i g P S h:=W.self i g.s _ _ S.1 h
theorem eq_666 {P:Nat->Array Value->Prop} {Md:Nat->Addr->Heap->Prop} (W:WalksT PW w0 A0 I fp wr n P S0 Md) (hn:l.length=n) (lv:∀i h,S0 i h->∀b∈wr,h.get? b≠none):Itr (.ref I) wr l none true (ItW (DT l P) fp wr S0) where
 pr i g S:=S.2.pr
 next i u g tg hu S q ht:=(ht.elim id fun z=>nomatch z.1).elim fun es z=>z.elim fun k z=>z.elim fun p e=>e▸W.item i g.s _ _ (hn▸(List.getElem?_eq_some_iff.mp hu).1) S.1 fun T xs h1 tk hP hT hTup hM hk=>⟨_,rfl,W.go es k p i T _ _ _ hM fun h2 hS hk2=>by
  have kT:h2.get? T≠none:=Exists.elim hTup fun o q z=>nomatch z.symm.trans (hk2 T o (W.apart i T h1 hM) q.1)
  have St:Stp g wr h2 (nuA T .fz):=⟨S.2.pr,lv _ _ hS,fun b n=>zcn n▸kT,fun b o m e=>hk2 b o m (hk b o m e)⟩
  have T0:g.κ T=.no:=Classical.byContradiction fun q=>g.ok.alive T q (Heap.get?_none_of_le hT)
  have T1:(g.stp St tk).κ T=.fz:=show (g.κ T).or (nuA T .fz T)=.fz by rw [T0];unfold nuA;rw [Nat.beq_refl];rfl
  obtain ⟨vs,rfl,d⟩:=S.2.den i u xs hu hP
  obtain ⟨o,ho,hc,m,hd⟩:=hTup
  have hT':=hk2 T o (W.apart i T h1 hM) ho
  exact ⟨g.stp St tk,rfl,zV St,rfl,⟨T,T,xs.toList,rfl,T1,T1,⟨o,o,hT',hT',hc,m,hd⟩,(zV St).denL d⟩,hS,S.2.step eq_764 (zV St)⟩⟩
 done g S q:=W.done g.s _ _ (hn▸S.1) fun h1 tk hk=>⟨rfl,h1,tk,rfl,hk⟩
 keep i g g1 X S L hX:=⟨W.frame i _ _ S.1 (S.2.keep L hX),S.2.step eq_764 L⟩
 again i g P S h:=W.self i g.s _ _ S.1 h
end
theorem eq_502 {a b k:Int} (hk:0 < k):Builtin.Range.rangeSize a b k=(((b - a+k - 1) / k).toNat:Int):=by
 unfold Builtin.Range.rangeSize
 rw [if_pos hk]
 split
 ·rename_i h
  rw [show b - a+k - 1=(b - a - 1)+k by lia,Int.add_ediv_of_dvd_right (Int.dvd_refl k),Int.ediv_self (Int.ne_of_gt hk),Int.toNat_of_nonneg (Int.add_nonneg (Int.ediv_nonneg (by lia) (Int.le_of_lt hk)) (by decide))]
 ·rename_i h
  rw [Int.toNat_of_nonpos (Int.le_trans (Int.ediv_le_ediv hk (show b - a+k - 1<=k - 1 by lia)) (Int.le_of_eq (Int.ediv_eq_zero_of_lt (by lia) (by lia))))]
  rfl
theorem eq_872 {x:Int} (h1:-10000000000<=x) (h2:x<=10000000000):Builtin.Range.rangeFitsLong x=true:=by
 unfold Builtin.Range.rangeFitsLong
 rw [Bool.and_eq_true]
 exact ⟨decide_eq_true (Int.le_trans (by decide) h1),decide_eq_true (Int.lt_of_le_of_lt h2 (by decide))⟩
theorem eq_497 {a b k:Int} (hk:0 < k) (hk2:k<=1000) (h1:-1000000<=a) (h2:a<=1000000) (h3:-1000000<=b) (h4:b<=1000000):Builtin.Range.small a b k=true:=by
 have n0:Builtin.Range.rangeSize a b k<=10000000000/\0<=Builtin.Range.rangeSize a b k:=by
  unfold Builtin.Range.rangeSize
  rw [if_pos hk]
  split
  ·have:=Int.ediv_le_self (a:=b - a - 1) k (by lia)
   have:=Int.ediv_nonneg (a:=b - a - 1) (b:=k) (by lia) (Int.le_of_lt hk)
   exact ⟨by lia,by lia⟩
  ·exact ⟨by decide,by decide⟩
 unfold Builtin.Range.small
 rw [if_pos hk,eq_872 (by lia) (by lia),eq_872 (x:=b) (by lia) (by lia),eq_872 (x:=k) (by lia) (by lia),eq_872 (x:=Builtin.Range.rangeSize a b k) (by lia) n0.1,eq_872 (x:=b+(k - 1)) (by lia) (by lia),Bool.or_true]
 rfl
theorem YP {g:G} {wr:List Addr} {h':Heap} {tk:Nat} (no:∀a∈wr,g.κ a=.no) (lv:∀a∈wr,h'.get? a≠none) (hk:∀b o,g.s.heap.get? b=some o->h'.get? b=some o) :
  ∃g1:G,g1.s={ g.s with heap:=h',toks:=tk }/\Le [] g g1/\g1.H=g.H/\∀a∈wr,g1.κ a=.pr:=
 ⟨g.pv h' tk (fun a=>wr.contains a) (fun a q=>zcM (wr:=[]) (fun b o _=>hk b o) nofun q) fun a q=>lv a (List.contains_iff_mem.mp q),rfl,eq_600,rfl,fun a m=>pv_k (no a m) (List.contains_iff_mem.mpr m)⟩
section
variable {g:G} {I:Addr} {fp wr:List Addr} {n:Nat} {S0:Nat->Heap->Prop} {l:List V} {h':Heap} {tk:Nat} (hk:∀b o,g.s.heap.get? b=some o->h'.get? b=some o)
include hk
theorem ItG.mk {D:G->Prop} {tup:Bool} (m:Mo D) (I:Itr it wr l none tup (ItW D fp wr S0)) (no:∀a∈wr,g.κ a=.no) (lv:∀a∈wr,h'.get? a≠none) (s0:S0 0 h') (fz:∀a∈fp,a∉wr->g.κ a=.fz) (d:D g):ItG g tup l none it { g.s with heap:=h',toks:=tk }:=
 ⟨wr,_,I,no,Exists.elim (YP (tk:=tk) no lv hk) fun g1 q=>⟨g1,q.1,q.2.1,q.2.2.1,(congrArg Shared.heap q.1:g1.s.heap=h')▸s0,q.2.2.2,fun a m n=>(q.2.1.k a (yJ (fz a m n))).trans (fz a m n),m _ _ _ q.2.1 d⟩⟩
theorem ItG.walk {P:Nat->Value->Prop} (W:Walks PW w0 A0 I fp [I] n P S0) (hn:l.length=n) (go:∀i h,S0 i h->zbp h I) (no:g.κ I=.no) (s0:S0 0 h') (fz:∀a∈fp,a∉[I]->g.κ a=.fz) (d:DP l P g):ItG g false l none (.ref I) { g.s with heap:=h',toks:=tk }:=
 ItG.mk hk ziH (zfC W hn go) (fun a m=>ZA (P:=fun a=>g.κ a=.no) no m) (fun a m=>ZA (P:=fun b=>h'.get? b≠none) (go _ _ s0).al m) s0 fz d
end
def IvP (g:G) (tup:Bool) (l:List V) (src:Option Nat) (x:Value):Prop:=wpAny (model PW w0) A0 (pyIter x) (ItG g tup l src) y9 g.s
section
variable {g:G} {l:List V} {x:Value}
theorem eq_688 {ys:List Value} (d:g.DL l ys):DP l (fun i v=>ys.toArray[i]?=some v) g:=fun i v x e p=>(xo d e).elim fun y q=>Option.some.inj ((q.1.symm.trans (List.getElem?_toArray ..).symm).trans p)▸q.2
theorem fz2 {I a:Addr} (f:g.κ a=.fz):∀b∈[I,a],b∉[I]->g.κ b=.fz:=fun b m n=>(List.mem_cons.mp m).elim (fun e=>(n (e▸.head _)).elim) fun m=>List.mem_singleton.mp m▸f
theorem fz1 {I:Addr}:∀b∈[I],b∉[I]->g.κ b=.fz:=fun _ m n=>(n m).elim
theorem eq_188 (d:g.D (.nd .tup l) x):IvP g false l none x:=by
 obtain ⟨a,dx,ys,rfl,ka,_,⟨o,od,ho,_,hc,m,hd⟩,dl⟩:=d
 exact wpAny_pyIter_tuple (items:=ys.toArray) ⟨o,ho,hc,m,hd⟩ (ItG.walk (fun b o q=>Heap.get?_push_of_some _ q) (Walks.tuple hh0 g.s.heap.objs.size a (Nat.ne_of_lt (Heap.lt_size ho)) ys.toArray) (zf dl).symm (fun i h S=>Exists.elim S.1 fun o q=>⟨_,_,o,q.1,q.2.1,q.2.2,rfl⟩) (zE g)
  ⟨⟨_,Heap.get?_push_size _ rfl,rfl,rfl⟩,Heap.IsTuple.push ⟨o,ho,hc,m,hd⟩ _⟩ (fz2 ka) (eq_688 dl))
theorem eq_654 {v:V} {src:Option Nat} (nh:∀H,gd src l H True->nv v H=some (.lst,l)) (q:gd src l g.H True) (d:g.D v x):IvP g false l src x:=by
 obtain ⟨a,dx,ys,rfl,Li,dl⟩:=Zx (nh _ q) d
 obtain ⟨m,ga⟩:=xi rfl Li
 refine wpAny_pyIter_list (items:=ys.toArray) ⟨_,ga,rfl,_,rfl⟩ ?_
 have no:=fun b m=>ZA (P:=fun b=>g.κ b=.no) (zE g) (a:=b) m
 refine ⟨[g.s.heap.objs.size],_,eq_124 nh (a:=a),no,Exists.elim (YP (tk:=g.s.toks) no (fun b m=>ZA (P:=fun b=>(g.s.heap.push { cls:=.type "list_iterator",data:=.fields #[.ref a,.int 0 0] }).get? b≠none) (fun z=>nomatch z.symm.trans (Heap.get?_push_size _ rfl)) m) fun b o q=>Heap.get?_push_of_some _ q) fun g1 q=>⟨g1,q.1,q.2.1,q.2.2.1,q.2.2.2 _ (.head _),(congrArg Shared.heap q.1:g1.s.heap=_)▸⟨_,Heap.get?_push_size _ rfl,rfl,rfl⟩,q.2.1.den d⟩⟩
theorem eq_850 {s:List Nat}:DP (s.map fun c=>V.str [c]) (fun i v=>∃c u,(Sx s).cps[i]?=some c/\v=.str ⟨#[c]⟩ u) g:=fun i v x e p=>p.elim fun k p=>p.elim fun u p=>by
 rw [List.getElem?_map,(show (Sx s).cps[i]?=s[i]? from List.getElem?_toArray ..).symm.trans p.1] at e
 exact p.2▸Option.some.inj e▸⟨u,rfl⟩
theorem eq_851 {s:List Nat}:(s.map fun c=>V.str [c]).length=(Sx s).cps.size:=List.length_map ..
theorem eq_189 {s:List Nat} (d:g.D (.str s) x):IvP g false (s.map fun c=>.str [c]) none x:=d.elim fun t e=>by
 subst e
 cases ha:(Sx s).cps.all (· < 128)
 ·exact wpAny_pyIter_wide ha (ItG.walk (fun b o q=>Heap.get?_push_of_some _ q) (Walks.strWide hh0 g.s.heap.objs.size (Sx s) t) eq_851 (fun i h S=>Exists.elim S fun o q=>⟨_,_,o,q.1,q.2.1,q.2.2,rfl⟩) (zE g) ⟨_,Heap.get?_push_size _ rfl,rfl,rfl⟩ fz1 eq_850)
 ·exact wpAny_pyIter_ascii ha (ItG.walk (fun b o q=>Heap.get?_push_of_some _ q) (Walks.strAscii hh0 g.s.heap.objs.size (Sx s) t) eq_851 (fun i h S=>Exists.elim S fun o q=>⟨_,_,o,q.1,q.2.1,q.2.2,rfl⟩) (zE g) ⟨_,Heap.get?_push_size _ rfl,rfl,rfl⟩ fz1 eq_850)
theorem eq_190 {a b k:Int} (q:0 < k/\k<=1000/\-1000000<=a/\a<=1000000/\-1000000<=b/\b<=1000000) (d:g.D (.nd (.rng a b k) l) x):IvP g false ((List.range ((b - a+k - 1) / k).toNat).map fun i:Nat=>.int (a+k * (i:Int))) none x:=by
 obtain ⟨r,dx,ys,rfl,ka,_,⟨o,od,ho,_,⟨t,u,v,rfl⟩,_⟩,_⟩:=d
 refine wpAny_pyIter_range (c:=k) ho (eq_497 q.1 q.2.1 q.2.2.1 q.2.2.2.1 q.2.2.2.2.1 q.2.2.2.2.2) (ItG.walk (tk:=g.s.toks) (fun b o q=>Heap.get?_push_of_some _ q) (Walks.range hh0 g.s.heap.objs.size a k ((b - a+k - 1) / k).toNat) ((List.length_map ..).trans List.length_range) (fun i h S=>⟨_,_,_,S,rfl,rfl,rfl⟩) (zE g) ?_ fz1 fun i v y e p=>?_)
 ·show (g.s.heap.push _).get? _=_
  rw [Heap.get?_push_size _ rfl,eq_502 q.1]
  simp
 ·obtain ⟨u,rfl⟩:=p
  rw [List.getElem?_map] at e
  obtain ⟨i',hi,rfl⟩:=Option.map_eq_some_iff.mp e
  obtain rfl:=(List.getElem?_range (Nat.lt_of_lt_of_eq (List.getElem?_eq_some_iff.mp hi).1 List.length_range)).symm.trans hi |> Option.some.inj
  rw [Int.mul_comm k]
  exact zp
end
section
variable {K:Type} [DecidableEq K] {knd:PySem.KeyKind PW w0 K} {it d:Addr} {kvs:List (K×Value)} {ep:Nat}
def ItmS (knd:PySem.KeyKind PW w0 K) (it d:Addr) (kvs:List (K×Value)) (ep i:Nat) (h:Heap):Prop:=(∃ok ov,IsItemIter h it d i kvs.length ep ok ov)/\h.DictAt knd d kvs ep
def ItmM (knd:PySem.KeyKind PW w0 K) (it d:Addr) (kvs:List (K×Value)) (ep i:Nat) (T:Addr) (h:Heap):Prop:=(∃ok ov,IsItemIterOut h it d (i+1) kvs.length ep ok ov T)/\h.DictAt knd d kvs ep/\T≠it
def ItmP (knd:PySem.KeyKind PW w0 K) (kvs:List (K×Value)) (i:Nat) (xs:Array Value):Prop:=∃k v key,kvs[i]?=some (k,v)/\knd.is k key=true/\xs=#[key,v]
theorem eq_489 (hne:d≠it):WalksT PW w0 A0 it [it,d] [it] kvs.length (ItmP knd kvs) (ItmS knd it d kvs ep) (ItmM knd it d kvs ep) where
 sub b hb:=List.mem_singleton.mp hb▸.head _
 frame i h h' S hk:=⟨S.1.imp fun _=>.imp fun _ a=>hk it (.head _) _ a,S.2.imp fun _=>.imp fun _ r=>⟨hk d (.tail _ (.head _)) _ r.1,r.2⟩⟩
 item i s Q E hi S hQ:=S.1.elim fun _ a=>a.elim fun _ a=>wpAny_pyNext_items_item (knd:=knd) (kvs:=kvs) a S.2 (k:=kvs[i].1) (v:=kvs[i].2) (List.getElem?_eq_getElem hi) fun key h' hk ho hT hz hkp=>
  hQ s.heap.objs.size #[key,kvs[i].2] h' s.toks ⟨_,_,key,List.getElem?_eq_getElem hi,hk,rfl⟩ (Nat.le_refl _) ⟨_,hT,rfl,_,rfl⟩ ⟨⟨_,_,ho⟩,S.2.imp fun _=>.imp fun _ r=>⟨hkp _ _ hne r.1,r.2⟩,Nat.ne_of_gt (Heap.lt_size a)⟩ fun b o hb e=>hkp b o (qY hb) e
 go elts k pos i T s Q E M hQ:=M.1.elim fun _ a=>a.elim fun _ a=>wpAny_letOwnedTupleGo_items a fun h' he hs=>hQ h' ⟨⟨_,_,he⟩,M.2.1.extBut hs.extBut hne⟩ fun b o hb e=>hs.extBut b o (qY hb) e
 apart i T h M hT:=M.2.2 (List.mem_singleton.mp hT)
 done s Q E S hQ:=S.1.elim fun _ a=>a.elim fun _ a=>wpAny_pyNext_items_end (knd:=knd) hh0 a S.2 (List.getElem?_eq_none (Nat.le_refl _)) fun h' he=>hQ h' s.toks fun b o hb e=>he b o (qY hb) e
 self i s Q E S h:=S.1.elim fun _ a=>a.elim fun _ a=>
  have hT:s.TypeIs (.ref it) "dict_itemiterator":=⟨_,a,rfl⟩
  wpAny_pyIter_slot hT PySem.F.slot_dict_itemiterator_iter (wpAny_call_entry PySem.F.slot_dict_itemiterator_iter hT kcp_entry (show wpAny _ _ (ret (.ref it)) _ _ s from wpAny_pure ⟨_,rfl,"dict_itemiterator",_,hT,PySem.F.slot_dict_itemiterator_next.lookup,h⟩) (PySem.F.args_dict_itemiterator_iter_1 _))
end
theorem eq_656:∀{ks:List (List Nat)} {vs:List V} {i:Nat} {v:V},(q7 ks vs)[i]?=some v->∃k u,ks[i]?=some k/\vs[i]?=some u/\v=.nd .tup [.str k,u]
 | [],_,_,_=>zl
 | _::_,[],_,_=>zl
 | k::ks,u::vs,0,v=>fun h=>⟨k,u,rfl,rfl,(Option.some.inj h).symm⟩
 | k::ks,u::vs,i+1,v=>fun h=>eq_656 (ks:=ks) (vs:=vs) (i:=i) h
theorem eq_655:∀{ks:List (List Nat)} {vs:List V},ks.length=vs.length->(q7 ks vs).length=ks.length
 | [],[]=>fun _=>rfl
 | [],_::_=>fun h=>nomatch h
 | _::_,[]=>fun h=>nomatch h
 | _::_,_::_=>fun h=>congrArg (·+1) (eq_655 (Nat.succ.inj h))
theorem eq_669 {g:G} {a b:V} {x y:Value} (d1:g.D a x) (d2:g.D b y):g.DL [a,b] [x,y]:=zh d1 (zh d2 rfl)
section
variable {g:G} {l:List V} {x:Value}
theorem eq_141 {ks:List (List Nat)} {vs:List V} {kvs:List (Str×Value)} (ek:kvs.map (·.1)=ks.map Sx) (d:g.DL vs (kvs.map (·.2))):DT (q7 ks vs) (ItmP (PySem.strKind PW w0) kvs) g:=fun i v xs hv hP=>(eq_656 hv).elim fun k z=>z.elim fun u z=>hP.elim fun k' p=>p.elim fun y p=>p.elim fun key p=>by
 obtain ⟨t,rfl⟩:=PySem.Value.isStrOf_shape p.2.1
 have e:=congrArg (fun l=>l[i]?) ek
 rw [List.getElem?_map,List.getElem?_map,p.1,z.1] at e
 have w:=xo d z.2.1
 rw [List.getElem?_map,p.1] at w
 exact ⟨_,z.2.2,p.2.2▸eq_669 ((Option.some.inj e:k'=Sx k)▸eq_936) (w.elim fun y' w=>(Option.some.inj w.1:y=y')▸w.2)⟩
theorem eq_395 {ks:List (List Nat)} (d:g.D (.nd (.vw ks) l) x):IvP g true (q7 ks l) none x:=by
 obtain ⟨v,dx,ys,rfl,kv,kd,⟨o,od,ho,hod,rfl,kvs,⟨sm,es,ep,D⟩,ek,rfl⟩,dl⟩:=d
 have D:g.s.heap.DictOf (PySem.strKind PW w0) dx kvs:=⟨od,es,ep,hod,D⟩
 obtain ⟨ep,D⟩:=D.dictAt
 have no:=fun b m=>ZA (P:=fun b=>g.κ b=.no) (zE g) (a:=b) m
 have n1:ks.length=kvs.length:=(List.length_map ..).symm.trans ((congrArg List.length ek.symm).trans (List.length_map ..))
 have n2:ks.length=l.length:=n1.trans ((List.length_map ..).symm.trans (zf dl))
 refine wpAny_pyIter_items (knd:=PySem.strKind PW w0) (kvs:=kvs) ⟨_,ho,rfl,rfl⟩ D (ItG.mk (tk:=g.s.toks) (fun b o q=>Heap.get?_push_of_some _ q) eq_764 (eq_666 (eq_489 (knd:=PySem.strKind PW w0) (ep:=ep) (Nat.ne_of_lt (Heap.lt_size hod))) ((eq_655 n2).trans n1) fun i h S b m=>?_) no (fun b m=>?_) ⟨⟨_,_,Heap.get?_push_size _ rfl⟩,D.push _⟩ (fz2 kd) (eq_141 ek dl))
 ·exact ZA (P:=fun b=>h.get? b≠none) (S.1.elim fun _ S=>S.elim fun _ S z=>nomatch z.symm.trans S) m
 ·exact ZA (P:=fun b=>(g.s.heap.push _).get? b≠none) (fun z=>nomatch z.symm.trans (Heap.get?_push_size _ rfl)) m
theorem eq_643:∀{l:List V} {n i:Nat} {v:V},(Xf n l)[i]?=some v->∃u,l[i]?=some u/\v=.nd .tup [.int ((n+i:Nat):Int),u]
 | [],_,_,_=>zl
 | u::l,n,0,v=>fun h=>⟨u,rfl,(Option.some.inj h).symm⟩
 | u::l,n,i+1,v=>fun h=>(eq_643 (l:=l) (n:=n+1) (i:=i) h).imp fun u' z=>⟨z.1,by rw [z.2,Nat.add_assoc,Nat.add_comm 1]⟩
theorem eq_642:∀{l:List V} {n:Nat},(Xf n l).length=l.length
 | [],_=>rfl
 | _::l,n=>congrArg (·+1) eq_642
def EnP (g:G) (l:List V) (x:Value):Prop:=wpAny (model PW w0) A0 (call (.type "enumerate") [x]) (fun y s1=>wpAny (model PW w0) A0 (pyIter y) (ItG g true l none) y9 s1) y9 g.s
def DEn (P:Nat->Value->Prop) (i:Nat) (vals:Array Value):Prop:=∃t x,P i x/\vals=#[.int i t,x]
theorem eq_142 {P:Nat->Value->Prop} (d:DP l P g):DT (Xf 0 l) (DEn P) g:=fun i v xs hv hP=>(eq_643 hv).elim fun u z=>hP.elim fun t p=>p.elim fun x p=>⟨_,z.2,p.2▸eq_669 ⟨t,by rw [Nat.zero_add]⟩ (d i u x z.1 p.1)⟩
theorem eq_719 {P:Nat->Value->Prop} {S0:Nat->Heap->Prop} {fp:List Addr} {h':Heap} {n:Nat} (D:Draws PW w0 A0.in1 g.s.heap.objs.size fp n P S0) (hf:g.s.heap.objs.size∈fp) (ff:∀a∈fp,a≠g.s.heap.objs.size->g.κ a=.fz) (hn:l.length=n) (hE:IsEnum h' (g.s.heap.objs.size+1) g.s.heap.objs.size 0 .none) (s0:S0 0 h')
  (hk:∀b o,g.s.heap.get? b=some o->h'.get? b=some o) (d:DP l P g):wpAny (model PW w0) A0 (pyIter (.ref (g.s.heap.objs.size+1))) (ItG g true (Xf 0 l) none) y9 { g.s with heap:=h' }:=by
 have no:∀a∈[g.s.heap.objs.size+1,g.s.heap.objs.size],g.κ a=.no:=fun a m=>Classical.byContradiction fun q=>g.ok.alive a q (Heap.get?_none_of_le ((List.mem_cons.mp m).elim (fun e=>e▸Nat.le_succ _) fun m=>Nat.le_of_eq (List.mem_singleton.mp m).symm))
 have nf:g.s.heap.objs.size+1∉fp:=fun q=>nomatch (no _ (.head _)).symm.trans (ff _ q (Nat.succ_ne_self _))
 have lv:∀(i:Nat) h,((∃old,IsEnum h (g.s.heap.objs.size+1) g.s.heap.objs.size i old)/\S0 i h)->∀a∈[g.s.heap.objs.size+1,g.s.heap.objs.size],h.get? a≠none:=fun i h S a m=>(List.mem_cons.mp m).elim (fun e=>e▸S.1.elim fun _ q z=>nomatch z.symm.trans q) fun m=>List.mem_singleton.mp m▸Exists.elim (D.live _ _ S.2) fun _ q z=>nomatch z.symm.trans q
 exact wpAny_pyIter_enum hE (ItG.mk (tk:=g.s.toks) hk eq_764 (eq_666 (WalksT.enumerateD D (g.s.heap.objs.size+1) (Nat.succ_ne_self _) nf hf) (eq_642.trans hn) lv) no (lv 0 h' ⟨⟨_,hE⟩,s0⟩) ⟨⟨_,hE⟩,s0⟩
  (fun a m n=>(List.mem_cons.mp m).elim (fun e=>(n (e▸.head _)).elim) fun m=>ff a m fun e=>n (e▸.tail _ (.head _))) (eq_142 d))
theorem eq_139 (d:g.D (.nd .lst l) x):EnP g (Xf 0 l) x:=by
 obtain ⟨a,dx,ys,rfl,ka,_,Li,dl⟩:=d
 obtain ⟨m,ga⟩:=xi rfl Li
 exact call_enumerate_list (items:=ys.toArray) ⟨_,ga,rfl,_,rfl⟩ fun h' hE hI hz hk=>eq_719 (Draws.list (A:=A0.in1) hh0 g.s.heap.objs.size a (Nat.ne_of_lt (Heap.lt_size ga)) ys.toArray) (.head _) (fun b m n=>(List.mem_cons.mp m).elim (fun e=>(n e).elim) fun m=>List.mem_singleton.mp m▸ka) (zf dl).symm hE ⟨hI,_,hk _ _ ga,rfl,_,rfl⟩ hk (eq_688 dl)
theorem eq_281 {s:List Nat} (d:g.D (.str s) x):EnP g (Xf 0 (s.map fun c=>.str [c])) x:=d.elim fun t e=>by
 subst e
 refine call_enumerate_str fun h' hE hI hz hk=>?_
 unfold strIterType at hI
 split at hI
 ·exact eq_719 (Draws.strAscii (A:=A0.in1) hh0 _ (Sx s) t) (.head _) (fun a m n=>(n (List.mem_singleton.mp m)).elim) eq_851 hE hI hk eq_850
 ·exact eq_719 (Draws.strWide (A:=A0.in1) hh0 _ (Sx s) t) (.head _) (fun a m n=>(n (List.mem_singleton.mp m)).elim) eq_851 hE hI hk eq_850
theorem eq_535 {t:zZ}:t.seq=2->t=.lst:=zZ.casesOn (motive:=fun t=>t.seq=2->t=.lst) t (nomatch ·) (fun _=>rfl) (fun _=>(nomatch ·)) (fun _=>(nomatch ·)) (fun _ _=>(nomatch ·)) (fun _=>(nomatch ·)) (fun _ _ _=>(nomatch ·))
theorem eq_398 {tp:Bool} {t:zZ} {p:List V×Option Nat}:itN tp (t,l)=some p->g.D (.nd t l) x->∃tup,(tup=true->tp=true)/\IvP g tup p.1 p.2 x:=
 zZ.casesOn (motive:=fun t=>itN tp (t,l)=some p->g.D (.nd t l) x->∃tup,(tup=true->tp=true)/\IvP g tup p.1 p.2 x) t (fun h d=>Option.some.inj h▸⟨false,nofun,eq_188 d⟩) (fun h d=>Option.some.inj h▸⟨false,nofun,eq_654 (fun _ _=>rfl) trivial d⟩) (fun _=>zl) (fun _=>zl) (fun _ _=>zl)
  (fun ks h d=>have z:=zm h;Option.some.inj z.2▸⟨true,fun _=>z.1,eq_395 d⟩) fun a b c h d=>have z:=zm h;Option.some.inj z.2▸⟨false,nofun,eq_190 z.1 d⟩
theorem eq_621 {o:V} {q:zZ×List V}:asN o=some q->o=.nd q.1 q.2:=V.casesOn (motive_1:=fun o=>asN o=some q->o=.nd q.1 q.2) o zl (fun _=>zl) (fun _=>zl) (fun _=>zl) (fun _=>zl) (fun _ _ h=>Option.some.inj h▸rfl) (fun _=>zl) fun _=>zl
theorem eq_397 {tp:Bool} {v:V} {p:List V×Option Nat}:itV tp v g.H=some p->g.D v x->∃tup,(tup=true->tp=true)/\IvP g tup p.1 p.2 x:=
 V.casesOn (motive_1:=fun v=>itV tp v g.H=some p->g.D v x->∃tup,(tup=true->tp=true)/\IvP g tup p.1 p.2 x) v zl (fun _=>zl) (fun _=>zl) (fun _ h d=>Option.some.inj h▸⟨false,nofun,eq_189 d⟩) (fun _=>zl) (fun _ _=>eq_398)
  (fun i h d=>(zc h).elim fun o h=>(zc h.2).elim fun q z=>have w:=zm z.2;Option.some.inj w.2▸⟨false,nofun,eq_654 (v:=.ref i) (src:=some i) (fun H e=>(congrArg (fun o=>bo o asN) e.1).trans rfl) ⟨h.1.trans (congrArg some ((eq_621 z.1).trans (eq_535 w.1▸rfl))),trivial⟩ d⟩) fun _=>zl
theorem eq_433 {v:V} {p:List V×Option Nat}:enV v=some p->g.D v x->p.2=none/\EnP g p.1 x:=
 V.casesOn (motive_1:=fun v=>enV v=some p->g.D v x->p.2=none/\EnP g p.1 x) v zl (fun _=>zl) (fun _=>zl) (fun _ h d=>Option.some.inj h▸⟨rfl,eq_281 d⟩) (fun _=>zl) (fun t l h d=>have z:=zm h;Option.some.inj z.2▸⟨rfl,eq_139 (eq_535 z.1▸d)⟩) (fun _=>zl) fun _=>zl
end
theorem eq_841 {h:Heap} {a b:Addr} {m:Str->Option Value} {v:Option Value} (x:h.Ns a m) (y:h.IsCell b v):b≠a:=fun e=>
 Exists.elim x fun _ x=>x.elim fun _ x=>x.elim fun _ x=>Exists.elim y fun _ y=>nomatch x.2.1.symm.trans (((Option.some.inj ((x.1.symm.trans (congrArg h.get? e.symm)).trans y.1))▸rfl:_=_).trans y.2)
def Tn (c:Cf) (env:Env) (X:List Addr) (x:Str):Prop:=(c.1.lookup x=some .local/\env.locals∈X)∨(c.1.lookup x=some .cell/\∃a,env.cells.lookup x=some a/\a∈X)
abbrev Wn (c:Cf) (x:Str):Prop:=c.1.lookup x=some .local∨c.1.lookup x=some .cell
theorem Wn.tn {c:Cf} {env:Env} {x:Str} (E:Fr c env) (h:Wn c x):Tn c env (Xe env) x:=h.imp (fun h=>⟨h,.head _⟩) fun h=>⟨h,(E.has x h).imp fun a e=>⟨e,j9 e⟩⟩
theorem zkU {lo:Lo} {i j:Nat} {u v:V} (h:upd lo i v j=some u):(j=i/\v=u)∨(j≠i/\lo j=some u):=by
 unfold upd at h
 cases e:Nat.beq j i with
 | true=>rw [e] at h;exact .inl ⟨Nat.eq_of_beq_eq_true e,Option.some.inj h⟩
 | false=>rw [e] at h;exact .inr ⟨Nat.ne_of_beq_eq_false e,h⟩
section
variable {c:Cf} {env:Env} {lo:Lo} {g:G}
theorem eq_862 {d:Addr} {h':Heap} {tk:Nat} {p:g.κ d=.pr} {sb:∀a,a≠d->h'.get? a=g.s.heap.get? a} {al:h'.get? d≠none}:Le [d] g (g.wr p sb al tk):=⟨fun _ _=>rfl,fun a f=>sb a (eq_724 f p),fun a _ n=>sb a (qY n),List.prefix_rfl,⟨rfl,rfl,rfl⟩⟩
theorem At.set {g1:G} {X:List Addr} {x:Str} {i:Nat} {v:V} {y:Value} (F:At c env lo g) (L:Le X g g1) (ns:∃m,g1.s.heap.Ns env.locals m) (cl:∀p∈env.cells,∃v,g1.s.heap.IsCell p.2 v) (hn:Nm x i) (new:Loc g1.s.heap c env x y)
  (old:∀x' y',x'≠x->Loc g.s.heap c env x' y'->Loc g1.s.heap c env x' y') (d:g.D v y):At c env (upd lo i v) g1:=
 ⟨fun a q=>(L.k a (zF (F.pr a q))).trans (F.pr a q),ns,cl,fun j u h=>(zkU h).elim (fun e=>⟨x,y,e.1▸hn,new,e.2▸L.den d⟩) fun e=>(F.lr j u e.2).imp fun x' z=>z.imp fun y' z=>⟨z.1,old x' y' (fun q=>e.1 (z.1.2.symm.trans ((congrArg xE q).trans hn.2))) z.2.1,L.den z.2.2⟩⟩
def Q5 (c:Cf) (env:Env) (g:G) (X:List Addr) (lo:Lo):Unit->Shared->Prop:=Ps X g fun _ g1=>At c env lo g1/\g1.H=g.H
theorem eq_805 {X:List Addr} {x:Str} {i:Nat} {v:V} {y:Value} (E:Fr c env) (F:At c env lo g) (hn:Nm x i) (ht:Tn c env X x) (d:g.D v y):wpAny (model PW w0) A0 (storeName env x y) (Q5 c env g X (upd lo i v)) y9 g.s:=by
 obtain ⟨m,ns⟩:=F.ns
 have kd:env.kindOf x=c.1.lookup x:=congrArg (·.lookup x) E.names
 have one:∀{a b:Addr},a∈X->b∈[a]->b∈X:=fun q m=>List.mem_singleton.mp m▸q
 rcases ht with ⟨k,hX⟩ | ⟨k,a,ha,hX⟩
 ·refine wpAny_storeName_local (m:=m) (kd.trans k) ns (fun h' ns' hs=>?_) (by rw [E.kind];rfl)
  exact ⟨g.wr (F.pr _ (.head _)) hs.2 (Exists.elim ns' fun _ q=>q.elim fun _ q=>q.elim fun _ q z=>nomatch z.symm.trans q.1) _,rfl,eq_862.wide fun b=>one hX,
   F.set eq_862 ⟨_,ns'⟩ (fun p q=>(F.cells p q).imp fun u hu=>hu.sameBut hs (eq_841 ns hu)) hn (.inl ⟨k,_,ns',if_pos rfl⟩)
    (fun x' y' n q=>q.elim (fun q=>.inl ⟨q.1,_,ns',(if_neg n).trans (q.2.elim fun m' q=>(ns.agree q.1 _).trans q.2)⟩) fun q=>.inr ⟨q.1,q.2.imp fun b q=>⟨q.1,q.2.sameBut hs (eq_841 ns q.2)⟩⟩) d,rfl⟩
 ·obtain ⟨v0,hv0⟩:=F.cells (x,a) (zw ha)
  refine wpAny_storeName_cell E.kind (kd.trans k) ha hv0 fun h' hc hs=>?_
  exact ⟨g.wr (F.pr _ (j9 ha)) hs.2 (Exists.elim hc fun _ q z=>nomatch z.symm.trans q.1) _,rfl,eq_862.wide fun b=>one hX,
   F.set eq_862 ⟨m,ns.sameBut hs (eq_841 ns hv0).symm⟩ (fun p q=>if e:p.2=a then ⟨_,e▸hc⟩ else (F.cells p q).imp fun u hu=>hu.sameBut hs e) hn (.inr ⟨k,a,ha,hc⟩)
    (fun x' y' n q=>q.imp (fun q=>⟨q.1,q.2.imp fun m' q=>⟨q.1.sameBut hs (eq_841 ns hv0).symm,q.2⟩⟩) fun q=>⟨q.1,q.2.imp fun b q=>⟨q.1,q.2.sameBut hs fun z=>n (E.sep _ _ a (z▸q.1) ha)⟩⟩) d,rfl⟩
def Nms (P:Str->Prop):List Expr->List Nat->Prop
 | []=>fun is=>is=[]
 | e::ts=>fun is=>∃x p i r,is=i::r/\e=.Name x p/\Nm x i/\P x/\Nms P ts r
theorem Nms.up {P Q:Str->Prop} (h:∀x,P x->Q x):∀{ts:List Expr} {is:List Nat},Nms P ts is->Nms Q ts is
 | [],_=>id
 | _::_,_=>Exists.imp fun x=>.imp fun p=>.imp fun i=>.imp fun r q=>⟨q.1,q.2.1,q.2.2.1,h x q.2.2.2.1,Nms.up h q.2.2.2.2⟩
theorem eq_612 {X:List Addr} (E:Fr c env):∀{ts:List Expr} {is:List Nat} {l:List V} {ys:List Value} {lo lo1:Lo} {g:G},Nms (Tn c env X) ts is->At c env lo g->g.DL l ys->bindL is l lo=some lo1->wpAny (model PW w0) A0 (assignInOrder ((assignEach ts env).map (·.2)) ys) (Q5 c env g X lo1) y9 g.s
 | [],_,[],_,lo,_,g=>fun hn F _ h=>by
  obtain rfl:_=[]:=hn
  exact wpAny_pure ⟨g,rfl,Le.refl,Option.some.inj h▸F,rfl⟩
 | [],_,_::_,_,_,_,_=>fun hn _ _ h=>by
  obtain rfl:_=[]:=hn
  exact zl h
 | _::_,_,[],_,_,_,_=>fun hn _ _ h=>by
  obtain ⟨x,p,i,r,rfl,_⟩:=hn
  exact zl h
 | _::_,_,v::l,_,lo,lo1,g=>fun hn F d h=>by
  obtain ⟨x,p,i,r,rfl,rfl,hi,hx,hn⟩:=hn
  obtain ⟨y,ys,rfl,dy,dr⟩:=d
  refine wpAny_bind (wpAny_holding (wpAny_assign_Name (wpAny_mono (eq_805 E F hi hx dy) (fun _ s1 q=>?_) fun _ _ q=>q)))
  obtain ⟨g1,rfl,L,F1,e1⟩:=q
  exact wpAny_mono (eq_612 E hn F1 (L.denL dr) h) (fun _ _ q=>Ps.up L (q.imp fun _ q=>⟨q.1,q.2.1,q.2.2.1,q.2.2.2.trans e1⟩)) fun _ _ q=>q
theorem eq_557 {P:Str->Prop}:∀{ts:List Expr} {is:List Nat},Nms P ts is->(assignEach ts env).findIdx? (·.1)=none/\(assignEach ts env).length=is.length
 | [],_=>fun h=>(show _=[] from h)▸⟨rfl,rfl⟩
 | _::ts,_=>fun h=>by
  obtain ⟨x,p,i,r,rfl,rfl,_,_,h⟩:=h
  have ih:=eq_557 h
  exact ⟨by rw [show assignEach (.Name x p::ts) env=(false,assign (.Name x p) env)::assignEach ts env from rfl,List.findIdx?_cons,ih.1];rfl,congrArg (·+1) ih.2⟩
theorem eq_691:∀{xs:List Nat} {l:List V} {lo lo1:Lo},bindL xs l lo=some lo1->l.length=xs.length
 | [],[],_,_=>fun _=>rfl
 | [],_::_,_,_=>zl
 | _::_,[],_,_=>zl
 | _::_,_::_,_,_=>fun h=>congrArg (·+1) (eq_691 h)
end
section
variable {I t:Addr} {ys:List Value}
theorem eq_701 (hne:t≠I):∀(n i:Nat) (s:Shared) (Q:List Value->Shared->Prop),s.heap.IsListIter I t i->s.heap.IsList t ys.toArray->i+n=ys.length->
  (∀h',h'.IsListIter I t ys.length->Heap.SameBut I s.heap h'->Q (ys.drop i) { s with heap:=h' })->wpAny (model PW w0) A0 (draw (.ref I) n) Q y9 s
 | 0,i,s,Q=>fun hit _ e hQ=>by
  obtain rfl:i=ys.length:=e
  exact wpAny_pure (show Q [] s from List.drop_length (l:=ys)▸hQ s.heap hit (Heap.SameBut.refl ..))
 | n+1,i,s,Q=>fun hit ht e hQ=>by
  have hlt:i < ys.length:=Nat.lt_of_lt_of_eq (Nat.lt_add_of_pos_right (Nat.succ_pos n)) e
  show wpAny _ _ (pyNext (.ref I) >>= _) Q y9 s
  refine wpAny_bind (wpAny_pyNext_list_item hit ht ((List.getElem?_toArray ..).trans (List.getElem?_eq_getElem hlt)) fun h1 hit1 hs1=>?_)
  refine wpAny_bind (wpAny_holding (eq_701 hne n (i+1) _ _ hit1 (ht.extBut hs1.extBut hne) ((Nat.add_right_comm i 1 n).trans e) fun h2 hit2 hs2=>wpAny_pure ?_))
  exact List.drop_eq_getElem_cons hlt▸hQ h2 hit2 (hs1.trans hs2)
theorem ifN {α:Type} {c:Prop} [Decidable c] {a b:Sem α} {Q:α->Shared->Prop} {s:Shared} (n:¬ c) (h:wpAny (model PW w0) A0 b Q y9 s):wpAny (model PW w0) A0 (if c then a else b) Q y9 s:=(if_neg n).symm▸h
theorem ifF {α:Type} {a b:Sem α} {Q:α->Shared->Prop} {s:Shared} (h:wpAny (model PW w0) A0 b Q y9 s):wpAny (model PW w0) A0 (if false=true then a else b) Q y9 s:=h
theorem eq_59 {s:Shared} {Q:List Value->Shared->Prop} (ht:s.heap.IsList t ys.toArray) (h:∀h',Heap.ExtBut s.heap.objs.size s.heap h'->Q ys { s with heap:=h' }):wpAny (model PW w0) A0 (unpackItems (.ref t) ys.length none) Q y9 s:=by
 have hlt:t≠s.heap.objs.size:=Exists.elim ht fun _ q=>Nat.ne_of_lt (Heap.lt_size q.1)
 have up:∀{o:Obj},(s.heap.push o).IsList t ys.toArray:=fun {o}=>Exists.imp (fun _ q=>⟨Heap.get?_push_of_some _ q.1,q.2⟩) ht
 unfold unpackItems
 refine wpAny_bind ?_
 unfold notIterableAtAll
 refine wpAny_bind (wpAny_specialOf ht.typeIs slot_list_iter.lookup (wpAny_pure ?_))
 refine ifF ?_
 refine wpAny_bind (wpAny_holding (wpAny_pyIter_list ht ?_))
 refine wpAny_bind (wpAny_holding (eq_701 hlt ys.length 0 _ _ ⟨_,Heap.get?_push_size _ rfl,rfl,rfl⟩ up (Nat.zero_add _) fun h1 hit1 hs1=>?_))
 refine ifN (Nat.lt_irrefl _) ?_
 exact wpAny_bind (wpAny_holding (wpAny_pyNext_list_end hh0 hit1 (up.extBut hs1.extBut hlt) (Array.getElem?_eq_none (Nat.le_refl _)) fun h2 he=>ifF (wpAny_pure (h h2 fun b o hb e=>he b o hb (hs1.extBut b o hb (Heap.get?_push_of_some _ e))))))
theorem upk {s:Shared} {Q:List Value->Shared->Prop} (gg:s.heap.IsTuple t ys.toArray∨s.heap.IsList t ys.toArray) (h:∀h',Heap.ExtBut s.heap.objs.size s.heap h'->Q ys { s with heap:=h' }):wpAny (model PW w0) A0 (unpackItems (.ref t) ys.length none) Q y9 s:=
 gg.elim (fun q=>wpAny_unpackItems_tuple hh0 q h) fun q=>eq_59 q h
end
section
variable {c:Cf} {env:Env} {lo lo1:Lo} {g:G} {v:V} {x:Value} {l:List V} {X:List Addr}
theorem eq_534 {t:zZ} {h:Heap} {a dx:Addr} {ys:List Value} (e:t.seq≠0) (d:z7 h t a dx ys):h.IsTuple a ys.toArray∨h.IsList a ys.toArray:=
 zZ.casesOn (motive:=fun t=>t.seq≠0->z7 h t a dx ys->h.IsTuple a ys.toArray∨h.IsList a ys.toArray) t (fun _ d=>.inl (d.imp fun o d=>d.elim fun _ d=>⟨d.1,d.2.2⟩)) (fun _ d=>.inr ((xi (t:=.lst) rfl d).elim fun n q=>⟨_,q,rfl,n,rfl⟩))
  (fun _ n=>(n rfl).elim) (fun _ n=>(n rfl).elim) (fun _ _ n=>(n rfl).elim) (fun _ n=>(n rfl).elim) (fun _ _ _ n=>(n rfl).elim) e d
theorem eq_822 (h:sqs v g.H=some l) (d:g.D v x):∃a ys,x=.ref a/\(g.s.heap.IsTuple a ys.toArray∨g.s.heap.IsList a ys.toArray)/\g.DL l ys:=
 (zc h).elim fun _ h=>have b:=zm h.2;(Zx h.1 d).imp fun _ r=>r.elim fun _ r=>r.imp fun _ r=>⟨r.1,eq_534 b.1 r.2.1,Option.some.inj b.2▸r.2.2⟩
theorem eq_878 {h':Heap} (hs:Heap.ExtBut g.s.heap.objs.size g.s.heap h'):Stp g [] h' fun _=>.no:=⟨nofun,nofun,fun _ n=>(n rfl).elim,fun b o _ e=>hs b o (Nat.ne_of_lt (Heap.lt_size e)) e⟩
theorem unp_ {ts:List Expr} {is:List Nat} {k:Nat} {p:Pos} (E:Fr c env) (F:At c env lo g) (hn:Nms (Tn c env X) ts is) (d:g.D v x) (hl:sqs v g.H=some l) (hb:bindL is l lo=some lo1):wpAny (model PW w0) A0 (assign (.Tuple ts k p) env x) (Q5 c env g X lo1) y9 g.s:=by
 obtain ⟨a,ys,rfl,gg,dl⟩:=eq_822 hl d
 have st:=eq_557 (env:=env) hn
 have ln:=st.2.trans ((eq_691 hb).symm.trans (zf dl).symm)
 have rest:∀h',Heap.ExtBut g.s.heap.objs.size g.s.heap h'->wpAny (model PW w0) A0 (assignInOrder ((assignEach ts env).map (·.2)) ys) (Q5 c env g X lo1) y9 { g.s with heap:=h' }:=fun h' hs=>
  have L:Le [] g (g.stp (eq_878 hs) g.s.toks):=zV _
  wpAny_mono (eq_612 E (g:=g.stp (eq_878 hs) g.s.toks) hn (F.st L) (L.denL dl) hb) (fun _ _=>Ps.up L.all) fun _ _ q=>q
 rw [arm_assign_Tuple]
 refine wpAny_bind (wpAny_standAt ?_)
 unfold unpack
 rw [ln,st.1]
 exact wpAny_bind (wpAny_holding (upk gg rest))
def Tgt (P:Str->Prop) (e:Expr) (is:List Nat):Prop:=(∃x p i,is=[i]/\e=.Name x p/\Nm x i/\P x)∨∃ts k p i j r,e=.Tuple ts k p/\is=i::j::r/\Nms P ts is
theorem eq_742 {α:Type} {p:Prop} [d:Decidable p] {a:Option α} (h:p):wo p a=a:=Decidable.casesOn (motive:=fun d=>@wo α p d a=a) d (fun n=>(n h).elim) fun _=>rfl
theorem eq_197 {v:V} {p:zZ×List V} {H:Hp} (h:asN v=some p):nv v H=some p:=eq_621 h▸rfl
theorem eq_213 {v:V} {q:zZ×List V} {H:Hp} (h:asN v=some q) (w:q.1.seq≠0):sqs v H=some q.2:=by
 unfold sqs
 rw [eq_197 h]
 exact eq_742 w
theorem eq_616 {e:Expr} {is:List Nat} (E:Fr c env) (F:At c env lo g) (ht:Tgt (Tn c env X) e is) (d:g.D v x) (hb:x8 is v lo=some lo1):wpAny (model PW w0) A0 (assign e env x) (Q5 c env g X lo1) y9 g.s:=by
 obtain ⟨y,p,i,rfl,rfl,hi,hy⟩ | ⟨ts,k,p,i,j,r,rfl,rfl,hn⟩:=ht
 ·exact wpAny_assign_Name (Option.some.inj hb▸eq_805 E F hi hy d)
 ·have hb:(bo (asN v) fun p=>wo (p.1.seq≠0) (bindL (i::j::r) p.2 lo))=some lo1:=hb
  obtain ⟨q,hq,hb⟩:=zc hb
  have w:=zm hb
  exact unp_ E F hn d (eq_213 hq w.1) w.2
theorem Tgt.tg {P:Str->Prop} {e:Expr} {is:List Nat} (h:Tgt P e is) {tup:Bool} (t:tup=true->Nat.blt 1 is.length=true):Tg e tup:=
 h.elim (fun ⟨x,p,i,e1,e2,_⟩=>.inr ⟨by cases tup with | false=>rfl | true=>exact Bool.noConfusion (e1▸t rfl:Nat.blt 1 [i].length=true),x,p,e2⟩) fun ⟨ts,k,p,_,_,_,e,_⟩=>.inl ⟨ts,k,p,e⟩
end
noncomputable def qi (ifs:List Expr) (env:Env):Sem Bool:=forIn ifs true fun c r=>if r=true then do let ok ← isTrue c env (eval c env);pure (ForInStep.yield ok) else pure (ForInStep.yield r)
def zhK (I:Nat->Shared->Prop) (elt target:Expr) (ifs:List Expr) (it acc:Value) (env:Env) (R:Shared->Prop) (n:Nat) (r:Option Value) (s1:Shared):Prop:=Option.casesOn (motive:=fun _=>Prop) r (R s1) fun v=>
 J A0 (letOwnedTupleGo target it v) (fun _ s1'=>J A0 (assign target env v) (fun _ s2=>J A0 (qi ifs env) (fun ok s3=>bif ok then J A0 (eval elt env) (fun x s4=>J A0 (PySem.call (.builtin "list.append") [acc,x]) (fun _ s5=>∃m,m < n/\I m s5) s4) s3 else ∃m,m < n/\I m s3) s2) s1') s1
theorem JC.comp {R:Result->Shared->Prop} {s:Shared} {elt target iter:Expr} {ifs:List Expr} {scope:PySem.Scope} {pos:Pos} {it acc:Value} {env:Env} (I:Nat->Shared->Prop)
  (turn:∀n s,I n s->J A0 (pyNext it) (zhK I elt target ifs it acc env (R (.ok .next)) n) s) (n:Nat) (h:I n s):JC A0 (.compLoop (.ListComp elt [⟨target,iter,ifs,0⟩] scope pos) 0 it acc env) R s:=by
 refine JC.loop rfl rfl I (fun n ih s hI=>?_) n s h
 show J A0 ((compTurn (.ListComp elt [⟨target,iter,ifs,0⟩] scope pos) 0 it acc env).onRaise (fun x=>do noteFrame x env;theTreesLotGoes x)) _ s
 refine .on ?_
 rw [compTurn_list]
 refine .at (.bm (turn n s hI) fun r s1 h1=>?_)
 cases r with
 | none=>exact .pure h1
 | some v=>
  refine .bm h1 fun _ _ h=>.bm h fun _ _ h=>.bm h fun ok _ h=>?_
  cases ok with
  | false=>exact .pure ⟨rfl,rfl,h.elim fun m h=>ih m _ h.1 h.2⟩
  | true=>exact .bind (.bm h fun _ _ h=>.bm h fun _ _ h=>.pure (.pure ⟨rfl,rfl,h.elim fun m h=>ih m _ h.1 h.2⟩))
theorem JC.start {R:Result->Shared->Prop} {s:Shared} {elt target iter:Expr} {ifs:List Expr} {scope:PySem.Scope} {pos:Pos} {it acc:Value} {env:Env} (h0:JC A0 (.compLoop (.ListComp elt [⟨target,iter,ifs,0⟩] scope pos) 0 it acc env) R s)
  (h:J A0 (pyIter it) (fun it' s'=>JC A0 (.compLoop (.ListComp elt [⟨target,iter,ifs,0⟩] scope pos) 0 it' acc env) R s') s):JC A0 (.compStart (.ListComp elt [⟨target,iter,ifs,0⟩] scope pos) 0 it acc env) R s:=by
 refine JC.tree ?_
 show J _ ((compStart (.ListComp elt [⟨target,iter,ifs,0⟩] scope pos) 0 it acc env).onRaise (fun x=>do noteFrame x env;standAt theWindowsPlace)) _ s
 refine .on ?_
 unfold compStart
 show J _ (ask >>= _) _ s
 refine .bind (.of (wpAny_askSetting ?_))
 split
 ·first
   | exact .bind (.pure (.pure ⟨rfl,rfl,h0⟩))
   | exact .pure ⟨rfl,rfl,h0⟩
 ·first
   | exact .bind (.of (wpAny_rule (by exact .at (.bm h fun _ _ h=>.pure ⟨rfl,rfl,h⟩))))
   | (refine .bind (.of (wpAny_rule ?_));show J _ (standAt iter.pos >>= _) _ s;exact .at (.bm h fun _ _ h=>.pure ⟨rfl,rfl,h⟩))
def zeq (Q:Value->Shared->Prop) (acc:Value) (C:Addr) (r:Result) (s:Shared):Prop:=Except.casesOn (motive:=fun _=>Prop) r (fun _=>False) fun _=>∃m,s.heap.Ns C m/\∀h',Heap.SameBut C s.heap h'->Q acc { s with heap:=h' }
theorem J.stIf {α:Type} {c:Prop} [Decidable c] {pos:Pos} {k:PUnit->Sem α} {Q:α->Shared->Prop} {s:Shared} (h:J A0 (k ()) Q s):J A0 (if c then (standAt pos >>= k) else k ()) Q s:=by
 split
 ·exact .at h
 ·exact h
theorem eq_122 {e:Expr} {scope:PySem.Scope} {pos:Pos} {env:Env} {newAcc first:Sem Value} {g:Comprehension} {gs:List Comprehension} {cl:List (Str×Addr)} {Q:Value->Shared->Prop} {s:Shared}
  (hcl:clausesOf e=g::gs) (hs:∀x,foldedSetIterable g.iter env x=pure x) (hclos:closureFor scope env=pure cl) (hkind:scope.kind=.function) (hnames:∀x∈scope.names,scope.names.lookup x.1=some x.2)
  (h:J A0 first (fun x s1=>J A0 (pyIter x) (fun it s2=>J A0 newAcc (fun acc s3=>J A0 (newFunctionEnv scope env.globals cl [] env.qual none .none (some env)) (fun cenv s4=>
   JC A0 (.compStart e 0 it acc { cenv with scope:=relabel scope env }) (zeq Q acc cenv.locals) s4) s3) s2) s1) s):J A0 (comprehension e scope env pos newAcc false first none) Q s:=by
 unfold comprehension
 rw [hclos,hcl]
 refine .bm h fun x s1 h=>.at (.bind (.eq (hs x) (.pure (.bind (.hold (J.mono h fun it s2 h=>.stIf (.bm h fun acc s3 h=>.bind (.pure (.bm h fun cenv s4 h=>?_)))))))))
 dsimp only
 refine .hold (.bind (.att (.hold (.run rfl (h.mono fun r s' hr=>?_)))))
 cases r with
 | error x=>exact hr.elim
 | ok f=>exact hr.elim fun m hr=>.bind (.hold (.of (wpAny_comp_letGo (cenv:={ cenv with scope:=relabel scope env }) hkind _ s' m (fun x hx hl=>lookup_relabel_local ((hnames x (List.mem_filter.mp (List.mem_reverse.mp hx)).1).trans (congrArg some hl))) hr.1 fun h' m' _ hs'=>by exact .pure (hr.2 h' hs'))))
noncomputable def zcI (k:NameKind):NameKind:=NameKind.casesOn (motive:=fun _=>NameKind) k .local .cell .cell .globalExplicit .globalImplicit
noncomputable def inn (ns:List (Str×NameKind)):List (Str×NameKind):=ns.map fun p=>(p.1,zcI p.2)
abbrev Cap (c:Cf) (ns:List (Str×NameKind)):Prop:=∀p∈ns,ns.lookup p.1=some p.2/\p.2≠.cell/\(p.2=.free->c.1.lookup p.1=some .cell)
theorem qc {x:Str}:∀{ns:List (Str×NameKind)},(inn ns).lookup x=(ns.lookup x).map zcI
 | []=>rfl
 | p::r=>by
  show List.lookup x ((p.1,zcI p.2)::inn r)=_
  rw [List.lookup_cons,List.lookup_cons]
  cases x == p.1
  ·exact qc
  ·rfl
theorem zaK {o:Option NameKind} (h:o.map zcI=some .cell) (n:o≠some .cell):o=some .free:=by
 cases o with
 | none=>exact nomatch h
 | some k=>cases k<;>first | rfl | exact (n rfl).elim | exact nomatch (show some _=some NameKind.cell from h)
theorem Xy {s:PySem.Scope} {env:Env} {c:Cf} (K:Cap c s.names) (hk:env.scope.kind=.function) (hn:env.scope.names=c.1):(relabel s env).names=inn s.names:=List.map_congr_left fun p hp=>by
 show (if (p.2 == .free&&env.scope.kind == .function&&env.kindOf p.1 == some .cell)=true then (p.1,.cell) else (p.1,p.2))=(p.1,zcI p.2)
 by_cases k:p.2=.free
 ·have e:env.kindOf p.1=some .cell:=(congrArg (·.lookup p.1) hn).trans ((K p hp).2.2 k)
  rw [e,hk,k];rfl
 ·cases z:p.2<;>first | rfl | exact (k z).elim
theorem eq_751 {env:Env}:∀(names:List (Str×NameKind)) (acc:List (Str×Addr)),(∀p∈names,p.2=.free->∃a,env.cells.lookup p.1=some a)->(∀q∈acc,env.cells.lookup q.1=some q.2)->
  ∃cl,(forIn names acc (fun p cs=>if (p.2 == .free)=true then (do let a ← cellOf env p.1;pure (ForInStep.yield ((p.1,a)::cs))) else pure (ForInStep.yield cs)):Sem _)=pure cl/\
   (∀q∈cl,env.cells.lookup q.1=some q.2)/\(∀q∈acc,q∈cl)/\∀p∈names,p.2=.free->∃a,(p.1,a)∈cl
 | [],acc=>fun _ h=>⟨acc,rfl,h,fun _=>id,nofun⟩
 | p::r,acc=>fun h h0=>by
  rw [List.forIn_cons]
  by_cases k:p.2=.free
  ·obtain ⟨a,ha⟩:=h p (.head _) k
   obtain ⟨cl,e,h1,h2,h3⟩:=eq_751 r ((p.1,a)::acc) (fun q hq=>h q (.tail _ hq)) fun q hq=>(List.mem_cons.mp hq).elim (fun e=>e▸ha) (h0 q)
   rw [if_pos (show (p.2 == NameKind.free)=true by rw [k];rfl),show cellOf env p.1=pure a by unfold cellOf;rw [ha]]
   exact ⟨cl,e,h1,fun q hq=>h2 q (.tail _ hq),fun q hq kq=>(List.mem_cons.mp hq).elim (fun e=>⟨a,e▸h2 _ (.head _)⟩) fun m=>h3 q m kq⟩
  ·obtain ⟨cl,e,h1,h2,h3⟩:=eq_751 r acc (fun q hq=>h q (.tail _ hq)) h0
   rw [if_neg (show ¬ (p.2 == NameKind.free)=true from fun q=>k (beq_iff_eq.mp q))]
   exact ⟨cl,e,h1,h2,fun q hq kq=>(List.mem_cons.mp hq).elim (fun e=>(k (e▸kq)).elim) fun m=>h3 q m kq⟩
theorem eq_708 {a:Str}:∀{l:List (Str×Addr)} {b:Addr},(a,b)∈l->∃b',l.lookup a=some b'
 | [],_=>nofun
 | p::l,b=>fun h=>by
  rw [List.lookup_cons]
  cases e:a == p.1 with
  | true=>exact ⟨_,rfl⟩
  | false=>exact (List.mem_cons.mp h).elim (fun q=>nomatch e.symm.trans (beq_iff_eq.mpr (congrArg Prod.fst q))) eq_708
structure Clo (env:Env) (s:PySem.Scope) (cl:List (Str×Addr)):Prop where
 e:closureFor s env=pure cl
 a:∀q∈cl,env.cells.lookup q.1=some q.2
 b:∀p∈s.names,p.2=.free->cl.lookup p.1=env.cells.lookup p.1
theorem eq_440 {env:Env} {s:PySem.Scope} (h:∀p∈s.names,p.2=.free->∃a,env.cells.lookup p.1=some a):∃cl,Clo env s cl:=
 Exists.elim (eq_751 (env:=env) s.names [] h nofun) fun cl z=>⟨cl,(congrArg (· >>= pure) z.1).trans (pure_bind ..),z.2.1,fun p hp k=>(z.2.2.2 p hp k).elim fun a m=>(eq_708 m).elim fun b e=>e.trans (z.2.1 _ (zw e)).symm⟩
section
variable {c:Cf} {env:Env} {s:PySem.Scope} {cl:List (Str×Addr)} {C:Addr} (E:Fr c env) (K:Cap c s.names) (hk:s.kind=.function) (Z:Clo env s cl)
include E K hk Z
theorem Fr.comp:Fr (inn s.names,false) (compEnvC s cl C env):=
 ⟨hk,E.glob,E.bi,Xy K E.kind E.names,fun x h=>have m:=zw (zaK (qc.symm.trans h) fun q=>(K _ (zw q)).2.1 rfl);(E.has x ((K _ m).2.2 rfl)).imp fun a e=>(Z.b _ m rfl).trans e,
  fun x y a h1 h2=>E.sep x y a (Z.a _ (zw h1)) (Z.a _ (zw h2))⟩
omit E K hk in
theorem Ja {a:Addr} (h:a∈Xe (compEnvC s cl C env)):a=C∨a∈Xe env:=(List.mem_cons.mp h).imp_right fun h=>(List.mem_map.mp h).elim fun (q:Str×Addr) z=>(z.2:q.2=a)▸j9 (Z.a q z.1)
theorem At.comp {lo:Lo} {g gB:G} {X:List Addr} {cap:List Nat} (F:At c env lo g) (L:Le X g gB) (hX:∀a∈Xe env,a∉X) (pC:gB.κ C=.pr) (ns:∃m,gB.s.heap.Ns C m) (hc:∀i∈cap,∃p∈s.names,p.2=.free/\Nm p.1 i):At (inn s.names,false) (compEnvC s cl C env) (zci cap lo) gB:=
 have F1:=F.step L hX
 ⟨fun a h=>(Ja Z h).elim (fun e=>e▸pC) (F1.pr a),ns,fun q hq=>F1.cells q (zw (Z.a q hq)),fun i v h=>by
  unfold zci at h
  cases e:cap.contains i with
  | false=>rw [e] at h;exact zl h
  | true=>
   rw [e] at h
   obtain ⟨p,hp,hf,hn⟩:=hc i (List.contains_iff_mem.mp e)
   obtain ⟨x,y,hx,hl,hd⟩:=F1.lr i v h
   obtain rfl:=hx.inj hn
   have kc:=(K p hp).2.2 hf
   exact ⟨p.1,y,hn,.inr ⟨qc.trans (by rw [(K p hp).1,hf];rfl),hl.elim (fun q=>nomatch q.1.symm.trans kc) fun q=>q.2.imp fun a q=>⟨(Z.b p hp hf).trans q.1,q.2⟩⟩,hd⟩⟩
end
structure Cp where
 tgt:List Nat
 t:Expr
 Fv:Lo->Hp->Kt->Prop
 Ev:Lo->Hp->Kt->Prop
 QQ:List V->Hp->Prop
 l:List V
 src:Option Nat
 gB:G
 wr:List Addr
 St:Sts
 D:Addr
 env:Env
 cf:Cf
 elt:Expr
 ifs:List Expr
 it:Value
 tup:Bool
namespace Cp
section
variable (p:Cp)
def C (r dn:List V) (lo:Lo) (H:Hp):Prop:=xO (x8 p.tgt) p.Fv p.Ev (gd p.src p.l) r lo H fun vs H=>p.QQ (dn++vs) H
def X:List Addr:=p.D::p.env.locals::p.wr
def Acc (dn:List V) (g:G):Prop:=∃ys:List Value,g.s.heap.PlainList p.D ys.toArray/\g.DL dn ys
structure At (i:Nat) (dn:List V) (lo:Lo) (g:G):Prop where
 le:Le p.X p.gB g
 st:p.St i g
 F:Mine.At p.cf p.env lo g
 acc:p.Acc dn g
 C:p.C (p.l.drop i) dn lo g.H
 hi:i<=p.l.length
 dl:dn.length<=i
def HF:Prop:=∀lo g K,Mine.At p.cf p.env lo g->p.Fv lo g.H K->J A0 (qi p.ifs p.env) (Ps [] g fun b g1=>K [.bool b] lo g1.H) g.s
def HE:Prop:=∀lo g K,Mine.At p.cf p.env lo g->p.Ev lo g.H K->Mine.Ev g (eval p.elt p.env) fun v H=>K [v] lo H
structure Ok:Prop where
 I:Itr p.it p.wr p.l p.src p.tup p.St
 len:p.l.length<=100000
 kD:p.gB.κ p.D=.pr
 nD:p.D∉p.env.locals::p.wr
 xe:∀a∈Xe p.env,a≠p.D/\a∉p.wr
 E:Fr p.cf p.env
 ht:Tgt (Tn p.cf p.env [p.env.locals]) p.t p.tgt
 tp:p.tup=true->Nat.blt 1 p.tgt.length=true
 hF:p.HF
 hE:p.HE
def I (m:Nat) (s:Shared):Prop:=∃i g dn lo,g.s=s/\m=p.l.length+1 - i/\p.At i dn lo g
def N (i:Nat) (s:Shared):Prop:=∃m,m < p.l.length+1 - i/\p.I m s
end
variable {p:Cp} {i:Nat} {dn:List V} {lo:Lo} {g:G}
theorem again (hi:i < p.l.length) (h:p.At (i+1) dn lo g):p.N i g.s:=⟨_,Nat.sub_lt_sub_left (Nat.lt_succ_of_lt hi) (Nat.lt_succ_self i),i+1,g,dn,lo,rfl,rfl,h⟩
theorem Acc.up {g1:G} {X:List Addr} (a:p.Acc dn g) (L:Le X g g1) (k:g.κ p.D=.pr) (n:p.D∉X):p.Acc dn g1:=a.imp fun _ a=>⟨a.1.imp fun _=>((L.p _ k n).trans ·),L.denL a.2⟩
theorem kd (O:p.Ok) {g:G} {X:List Addr} (L:Le X p.gB g):g.κ p.D=.pr:=(L.k _ (zF O.kD)).trans O.kD
theorem nX (O:p.Ok) {P:Prop} (h:p.D∈p.env.locals::p.wr):P:=(O.nD h).elim
theorem app (O:p.Ok) (hi:i < p.l.length) (L:Le p.X p.gB g) (st:p.St (i+1) g) (F:Mine.At p.cf p.env lo g) (acc:p.Acc dn g) (dl:dn.length<=i) {v:V} {y:Value} (d:g.D v y) (h:p.C (p.l.drop (i+1)) (dn++[v]) lo g.H) :
  J A0 (PySem.call (.builtin "list.append") [.ref p.D,y]) (fun _=>p.N i) g.s:=acc.elim fun ys a=>
 have len:ys.length<=i:=Nat.le_trans (Nat.le_of_eq (zf a.2)) dl
 have kD:=kd O L
 .of (wpAny_list_append_plain a.1 (fun h5 p5 hs=>
  have al:h5.get? p.D≠none:=Exists.elim p5 fun _ q z=>nomatch z.symm.trans q
  have l5:Le [p.D] g (g.wr kD hs.2 al g.s.toks):=eq_862
  have L5:Le p.X p.gB (g.wr kD hs.2 al g.s.toks):=L.trans (l5.wide fun a m=>List.mem_singleton.mp m▸.head _)
  again (g:=g.wr kD hs.2 al g.s.toks) (dn:=dn++[v]) (lo:=lo) hi ⟨L5,O.I.keep _ _ _ _ st l5 fun a m q=>nX O (List.mem_singleton.mp m▸.tail _ q),F.step l5 fun a m q=>(O.xe a m).1 (List.mem_singleton.mp q),
   ⟨ys++[y],List.push_toArray ys y▸p5,eq_895 (g:=g.wr kD hs.2 al g.s.toks) (r:=[v]) (ys:=[y]) (zh (l5.den d) rfl) (l5.denL a.2)⟩,h,hi,Nat.le_trans (Nat.le_of_eq List.length_append) (Nat.add_le_add_right dl 1)⟩) (Nat.le_trans (Nat.le_trans len (Nat.le_of_lt hi)) (eq_931 O.len)))
def Bd (O:Prop) (p:Cp) (i:Nat):Bool->Shared->Prop:=fun ok s3=>bif ok then J A0 (eval p.elt p.env) (fun x s4=>J A0 (PySem.call (.builtin "list.append") [.ref p.D,x]) (fun _=>p.N i) s4) s3 else p.N i s3
theorem body (O:p.Ok) (hi:i < p.l.length) (L:Le p.X p.gB g) (st:p.St (i+1) g) (F:Mine.At p.cf p.env lo g) (acc:p.Acc dn g) (dl:dn.length<=i)
  (h:p.Fv lo g.H fun st _ H1=>h1 st fun b=>ob (asB b) fun b=>ifb b (p.Ev lo H1 fun st _ H2=>h1 st fun x=>xO (x8 p.tgt) p.Fv p.Ev (gd p.src p.l) (p.l.drop (i+1)) lo H2 fun vs H=>p.QQ (dn++x::vs) H) (p.C (p.l.drop (i+1)) dn lo H1)) :
  J A0 (qi p.ifs p.env) (Bd True p i) g.s:=(O.hF lo g _ F h).mono fun b s z=>z.elim fun g1 z=>z.1▸by
 have L1:=L.trans z.2.1.all
 have st1:=O.I.keep _ _ _ [] st z.2.1 nofun
 have a1:=acc.up z.2.1 (kd O L) nofun
 have h:ifb b _ _:=z.2.2
 cases b with
 | false=>exact again hi ⟨L1,st1,F.st z.2.1,a1,(eq_909 h).elim (fun q=>nomatch q.1) fun q=>q.2,hi,Nat.le_succ_of_le dl⟩
 | true=>
  have h:=(eq_909 h).elim (fun q=>q.2) fun q=>nomatch q.1
  exact (O.hE lo g1 _ (F.st z.2.1) h).go fun x g2 v l2 d2 h=>app O hi (L1.trans l2.all) (O.I.keep _ _ _ [] st1 l2 nofun) ((F.st z.2.1).st l2) (a1.up l2 (kd O L1) nofun) dl d2 (by
   unfold C
   rw [show (fun vs H=>p.QQ (dn++[v]++vs) H)=fun vs H=>p.QQ (dn++v::vs) H from funext fun vs=>by rw [List.append_assoc];rfl]
   exact h)
theorem turn (O:p.Ok) {R:Shared->Prop} (hR:∀g lo dn,p.At p.l.length dn lo g->p.QQ dn g.H->∀s,(∃h tk,s={ g.s with heap:=h,toks:=tk }/\∀b o,b∉p.wr->g.s.heap.get? b=some o->h.get? b=some o)->R s) (h:p.At i dn lo g) :
  J A0 (pyNext p.it) (zhK p.I p.elt p.t p.ifs p.it (.ref p.D) p.env R (p.l.length+1 - i)) g.s:=by
 by_cases e:i=p.l.length
 ·subst e
  have r:p.C [] dn lo g.H:=List.drop_length▸h.C
  have r:=eq_760 r
  exact .of (wpAny_mono (O.I.done g h.st r.1) (fun x s z=>z.1▸hR g lo dn h (List.append_nil dn▸r.2) s z.2) fun _ _ q=>q)
 ·have hlt:i < p.l.length:=Nat.lt_of_le_of_ne h.hi e
  have r:p.C (p.l[i]::p.l.drop (i+1)) dn lo g.H:=List.drop_eq_getElem_cons hlt▸h.C
  have r:=eq_760 r
  refine (yg r.2).elim fun lo1 r2=>.of (wpAny_mono (O.I.next i _ g p.t (List.getElem?_eq_getElem hlt) h.st r.1 (O.ht.tg O.tp)) (fun _ s z=>z.elim fun x z=>z.1▸.of (wpAny_mono z.2 (fun _ s z=>z.elim fun g1 z=>z.1▸?_) fun _ _ q=>q)) fun _ _ q=>q)
  obtain ⟨rfl,l1,e1,d1,st1⟩:=z
  have L1:Le p.X p.gB g1:=h.le.trans (l1.wide fun a m=>.tail _ (.tail _ m))
  have F1:=h.F.step l1 fun a q=>(O.xe a q).2
  have a1:=h.acc.up l1 (kd O h.le) fun m=>O.nD (.tail _ m)
  refine .of (wpAny_mono (eq_616 O.E F1 O.ht d1 r2.1) (fun _ s z=>z.elim fun g2 z=>z.1▸?_) fun _ _ q=>q)
  obtain ⟨rfl,l2,F2,e2⟩:=z
  have one:∀{a:Addr},a∈[p.env.locals]->a=p.env.locals:=fun m=>List.mem_singleton.mp m
  exact body O hlt (L1.trans (l2.wide fun a m=>one m▸.tail _ (.head _))) (O.I.keep _ _ _ _ st1 l2 fun a m=>(O.xe a (one m▸.head _)).2) F2 (a1.up l2 (kd O L1) fun m=>O.nD (one m▸.head _)) h.dl (by rw [e2,e1];exact r2.2)
theorem loop (O:p.Ok) {iter:Expr} {scp:PySem.Scope} {pos:Pos} {R:Result->Shared->Prop} {lo0:Lo} (h0:p.At 0 [] lo0 p.gB)
  (hR:∀g lo dn,p.At p.l.length dn lo g->p.QQ dn g.H->∀s,(∃h tk,s={ g.s with heap:=h,toks:=tk }/\∀b o,b∉p.wr->g.s.heap.get? b=some o->h.get? b=some o)->R (.ok .next) s) :
  JC A0 (.compLoop (.ListComp p.elt [⟨p.t,iter,p.ifs,0⟩] scp pos) 0 p.it (.ref p.D) p.env) R p.gB.s:=
 JC.comp p.I (fun m s h=>h.elim fun i h=>h.elim fun g h=>h.elim fun dn h=>h.elim fun lo h=>h.1▸h.2.1▸turn O hR h.2.2) _ ⟨0,p.gB,[],lo0,rfl,rfl,h0⟩
end Cp
def zoK (g:G) (r:zy) (k:Code) (st:List V) (tp md:Bool) (x:Value) (s:Shared):Prop:=∃g1 v p tup,Le [] g g1/\itX tp md v g1.H=some p/\(tup=true->tp=true)/\r.go k (v::st) g1.H/\wpAny (model PW w0) A0 (pyIter x) (ItG g1 tup p.1 p.2) y9 s
def zeh (c:Cf) (e:Expr) (md:Bool) (A:Code->Code):Prop:=∀env,Fr c env->∀(r:zy) (k:Code) (st:List V) (g:G) (tp:Bool),At c env r.lo g->(∀v H,r.go k (v::st) H->∃p,itX tp md v H=some p)->r.go (A k) st g.H->J A0 (eval e env) (zoK g r k st tp md) g.s
theorem eq_533 {c:Cf} {e:Expr} {A:Code->Code} (h:yq c e A):zeh c e false A:=fun env E r k st g tp F hk q=>(h env E r k st g F q).go fun x g1 v l d q=>(hk v g1.H q).elim fun p e=>(eq_397 e d).elim fun tup z=>⟨g1,v,p,tup,l,e,z.1,q,z.2⟩
theorem eq_224 {c:Cf} {a:Expr} {A:Code->Code} {x:Str} {p pos:Pos} (T:yy) (hp:Pl a) (h:yq c a A) (hg:c.1.lookup x=some .globalImplicit) (hd:x≠"__debug__") (G:xS x (.type "enumerate")):zeh c (.Call (.Name x p) [a] [] pos) true A:=fun env E r k st g tp F hk q=>by
 show J A0 (do callWith pos (← eval (.Name x p) env) [] (backTo pos (starEach [a] env)) (backToKw pos (keywordEach [] env))) _ _
 refine .bind (.of (eq_723 E hg hd G (eq_614 (fun e m=>List.mem_singleton.mp m▸hp) (fun h _=>⟨.machine,.inr (.inl rfl),Looks.of_pure rfl⟩) ?_)))
 exact (h env E r k st g F q).go fun y g1 v l d q=>⟨T.K g1,(hk v g1.H q).elim fun p e=>have w:=zm e;have z:=eq_433 w.2 d;.of (wpAny_mono z.2 (fun _ _ i=>⟨g1,v,p,true,l,e,fun _=>w.1,q,z.1▸i⟩) fun _ _ q=>q)⟩
def zgl (c:Cf) (ifs:List Expr) (F:Code):Prop:=∀env,Fr c env->∀lo (g:G) (K:Kt),At c env lo g->Rc xX F [] lo g.H K noJ->J A0 (qi ifs env) (Ps [] g fun b g1=>K [.bool b] lo g1.H) g.s
theorem tst0 {c:Cf}:zgl c [] (.o (.cst (.bool true)) 0 .n):=fun env E lo g K F h=>.pure ⟨g,rfl,Le.refl,h⟩
theorem tst1 {c:Cf} {t:Expr} {F:Code->Code} (h:qf c t F):zgl c [t] (F .n):=fun env E lo g K At q=>by
 unfold qi
 rw [List.forIn_cons]
 exact .bm (P:=fun y s=>∃b,y=.yield b/\Ps [] g (fun b g1=>K [.bool b] lo g1.H) b s) (.bm (h env E ⟨lo,K,noJ⟩ .n [] g At q) fun b s z=>.pure ⟨b,rfl,z⟩) fun y s z=>z.elim fun b z=>z.1▸.pure z.2
theorem Le.thin {g g1:G} {D:Addr} (L:Le [D] g g1) (n:g.κ D=.no):Le [] g g1:=⟨L.k,L.f,fun a e _=>L.p a e fun m=>(nomatch n.symm.trans ((congrArg g.κ (List.mem_singleton.mp m)).symm.trans e)),L.l,L.m⟩
theorem eq_434 {g:G} {wr:List Addr} {h':Heap} {tk:Nat} (pr:∀a∈wr,g.κ a=.pr) (hk:∀b o,b∉wr->g.s.heap.get? b=some o->h'.get? b=some o):∃g1:G,g1.s={ g.s with heap:=h',toks:=tk }/\Dr wr g g1:=
 ⟨⟨_,_,_,_,Inv.drop hk pr⟩,rfl,zjw hk,zc9 hk pr,rfl,rfl,⟨rfl,rfl,rfl⟩⟩
theorem eq_86 {p:Cp} {g1 g4:G} {dn:List V} {r:zy} {k:Code} {st:List V} {g:G} (l:Le [] g g1) (hq:p.QQ=fun vs H=>r.go k (.nd .lst vs::st) H) (nD:p.D∉p.env.locals::p.wr) (kC:∀a∈p.env.locals::p.wr,g4.κ a=.pr) (kD:g4.κ p.D=.pr) (n0:∀a∈p.X,g1.κ a=.no) (L:Le p.X g1 g4) (acc:p.Acc dn g4) (ns:∃m,g4.s.heap.Ns p.env.locals m) (q:p.QQ dn g4.H)
  (nC:p.env.locals∉p.wr) {h:Heap} {tk:Nat} (hk:∀b o,b∉p.wr->g4.s.heap.get? b=some o->h.get? b=some o):zeq (Ps [] g (qP (r.Q k st))) (.ref p.D) p.env.locals (.ok .next) { g4.s with heap:=h,toks:=tk }:=
 ns.imp fun m ns=>⟨ns.imp fun _=>.imp fun _=>.imp fun _=>.imp_left (hk _ _ nC),fun h' hs=>by
  obtain ⟨g5,e5,D⟩:=eq_434 (g:=g4) (h':=h') (tk:=tk) kC fun b o n e=>(hs.2 b fun z=>n (z▸.head _)).trans (hk b o (fun z=>n (.tail _ z)) e)
  have L5:Le [] g1 g5:=(D.le (X:=[p.D]) (fun a m=>n0 a (.tail _ m)) L).thin (n0 _ (.head _))
  have dk:=D.k p.D nD (zF kD)
  obtain ⟨ys,⟨n,a1⟩,a2⟩:=acc
  rw [show ({ ({ g4.s with heap:=h,toks:=tk }:Shared) with heap:=h' }:Shared)={ g5.s with heap:=g5.s.heap,toks:=g5.s.toks } from e5.symm]
  exact (eq_543 (t:=.lst) (g2:=g5) (d:=p.D) (h':=g5.s.heap) L5 (n0 _ (.head _)) (dk.1.trans kD) (fun _ _=>rfl) ⟨_,_,dk.2.trans a1,dk.2.trans a1,n,rfl⟩ (xd.mono D.kp _ _ a2) g5.s.toks).q l (D.H▸((congrFun (congrFun hq dn) g4.H:_=r.go k (V.nd zZ.lst dn::st) g4.H)).mp q)⟩
theorem eq_530 {r:zy} {k E F:Code} {st:List V} {tgt cap:List Nat} {md:Bool} {v:V} {H:Hp} (h:r.go (.comp md E F tgt cap k) (v::st) H):∃p,itX (Nat.blt 1 tgt.length) md v H=some p/\p.1.length<=100000/\
  xO (x8 tgt) (fun lo H K=>Rc xX F [] lo H K noJ) (fun lo H K=>Rc xX E [] lo H K noJ) (gd p.2 p.1) p.1 (zci cap r.lo) H fun vs H=>r.go k (.nd .lst vs::st) H:=
 (yg (show ob (itX (Nat.blt 1 tgt.length) md v H) fun p=>wh (p.1.length<=100000) ((xO (x8 tgt) (fun lo H K=>Rc xX F [] lo H K noJ) (fun lo H K=>Rc xX E [] lo H K noJ) (gd p.2 p.1) p.1 (zci cap r.lo) H fun vs H=>r.go k (.nd .lst vs::st) H)) from h)).imp fun _ q=>⟨q.1,(eq_900 q.2).1,(eq_900 q.2).2⟩
theorem eq_85 {g2:G} {h3:Heap} {tk:Nat} (ns:h3.Ns (g2.s.heap.objs.size+1) fun _=>none)
  (hs:Heap.SameBut (g2.s.heap.objs.size+1) ((g2.s.heap.push { cls:=.type "list",data:=.seq #[] }).push { cls:=.type "dict",data:=.dict #[] }) h3) :
  ∃gB:G,gB.s={ g2.s with heap:=h3,toks:=tk }/\Le [] g2 gB/\gB.H=g2.H/\(∀a∈[g2.s.heap.objs.size,g2.s.heap.objs.size+1],gB.κ a=.pr)/\h3.PlainList g2.s.heap.objs.size #[]:=by
 have z1:(g2.s.heap.push { cls:=.type "list",data:=.seq #[] }).objs.size=g2.s.heap.objs.size+1:=Heap.size_push ..
 have a1:h3.get? g2.s.heap.objs.size=some { cls:=.type "list",data:=.seq #[] }:=(hs.2 _ (Nat.ne_of_lt (Nat.lt_succ_self _))).trans (Heap.get?_push_of_some _ (Heap.get?_push_size _ rfl))
 have hk:∀b o,g2.s.heap.get? b=some o->h3.get? b=some o:=fun b o e=>(hs.2 _ (Nat.ne_of_lt (Nat.lt_succ_of_lt (Heap.lt_size e)))).trans (Heap.get?_push_of_some _ (Heap.get?_push_of_some _ e))
 have no:∀a∈[g2.s.heap.objs.size,g2.s.heap.objs.size+1],g2.κ a=.no:=fun a m=>Classical.byContradiction fun q=>g2.ok.alive a q (Heap.get?_none_of_le ((List.mem_cons.mp m).elim (fun e=>Nat.le_of_eq e.symm) fun m=>List.mem_singleton.mp m▸Nat.le_succ _))
 have lv:∀a∈[g2.s.heap.objs.size,g2.s.heap.objs.size+1],h3.get? a≠none:=fun a m=>(List.mem_cons.mp m).elim (fun e z=>nomatch a1.symm.trans ((congrArg h3.get? e).symm.trans z)) fun m=>List.mem_singleton.mp m▸Exists.elim ns fun _ q=>q.elim fun _ q=>q.elim fun _ q z=>nomatch z.symm.trans q.1
 exact (YP (tk:=tk) no lv hk).imp fun gB z=>⟨z.1,z.2.1,z.2.2.1,z.2.2.2,_,a1⟩
theorem Tgt.up {P Q:Str->Prop} {e:Expr} {is:List Nat} (h:Tgt P e is) (i:∀x,P x->Q x):Tgt Q e is:=Or.imp (.imp fun _=>.imp fun _=>.imp fun _ q=>⟨q.1,q.2.1,q.2.2.1,i _ q.2.2.2⟩) (.imp fun _=>.imp fun _=>.imp fun _=>.imp fun _=>.imp fun _=>.imp fun _ q=>⟨q.1,q.2.1,q.2.2.up i⟩) h
theorem eq_84 {p:Cp} (O:p.Ok) {iter:Expr} {scp:PySem.Scope} {pos:Pos} {R:Result->Shared->Prop} {lo0:Lo} (h0:p.At 0 [] lo0 p.gB)
  (hR:∀g lo dn,p.At p.l.length dn lo g->p.QQ dn g.H->∀s,(∃h tk,s={ g.s with heap:=h,toks:=tk }/\∀b o,b∉p.wr->g.s.heap.get? b=some o->h.get? b=some o)->R (.ok .next) s) :
  JC A0 (.compStart (.ListComp p.elt [⟨p.t,iter,p.ifs,0⟩] scp pos) 0 p.it (.ref p.D) p.env) R p.gB.s:=JC.start (Cp.loop O h0 hR) (.of (O.I.again 0 p.gB _ h0.st (Cp.loop O h0 hR)))
theorem eq_830 {g:G} {a:Addr} (h:g.s.heap.objs.size<=a):g.κ a=.no:=Classical.byContradiction fun q=>g.ok.alive a q (Heap.get?_none_of_le h)
theorem eq_647 {g g1:G} {X:List Addr} (L:Le X g g1) {a:Addr} (h:g1.κ a=.no):g.κ a=.no:=Classical.byContradiction fun q=>q ((L.k a q).symm.trans h)
theorem eq_20 {p:Cp} {g g1 g2:G} {r:zy} {k:Code} {st:List V} {iter:Expr} {scp:PySem.Scope} {pos:Pos} {lo0:Lo} (O:p.Ok) (hQ:p.QQ=fun vs H=>r.go k (.nd .lst vs::st) H) (l1:Le [] g g1) (l2:Le [] g1 g2) (lB:Le [] g2 p.gB) (n0:∀a∈p.wr,g1.κ a=.no)
  (kX:∀a∈p.X,p.gB.κ a=.pr) (nD:∀a,a=p.D∨a=p.env.locals->g2.κ a=.no) (nC:p.env.locals∉p.wr) (h0:p.At 0 [] lo0 p.gB):JC A0 (.compStart (.ListComp p.elt [⟨p.t,iter,p.ifs,0⟩] scp pos) 0 p.it (.ref p.D) p.env) (zeq (Ps [] g (qP (r.Q k st))) (.ref p.D) p.env.locals) p.gB.s:=
 have nX:∀a∈p.X,g1.κ a=.no:=fun a m=>(List.mem_cons.mp m).elim (fun e=>eq_647 l2 (nD a (.inl e))) fun m=>(List.mem_cons.mp m).elim (fun e=>eq_647 l2 (nD a (.inr e))) (n0 a)
 eq_84 O h0 fun g4 lo4 dn h q s z=>z.elim fun hh z=>z.elim fun tk z=>z.1▸eq_86 l1 hQ O.nD (fun a m=>(h.le.k a (zF (kX a (.tail _ m)))).trans (kX a (.tail _ m))) (Cp.kd O h.le) nX ((l2.trans lB).all.trans h.le) h.acc h.F.ns q nC z.2
theorem eq_493 {s:PySem.Scope} {env:Env} {cl:List (Str×Addr)} {g2:G} {e:Expr} {it:Value} {P:Value->Addr->Result->Shared->Prop} (hk:s.kind=.function) (hc:∀x∈s.names,x.2≠.cell)
  (h:∀D (gB:G),Le [] g2 gB->gB.H=g2.H->(∀a∈[D,D+1],gB.κ a=.pr)->(∀a,D<=a->g2.κ a=.no)->gB.s.heap.Ns (D+1) (fun _=>none)->gB.s.heap.PlainList D #[]->JC A0 (.compStart e 0 it (.ref D) (compEnvC s cl (D+1) env)) (P (.ref D) (D+1)) gB.s) :
  J A0 (newList []) (fun acc s3=>J A0 (newFunctionEnv s env.globals cl [] env.qual none .none (some env)) (fun cenv s4=>JC A0 (.compStart e 0 it acc { cenv with scope:=relabel s env }) (P acc cenv.locals) s4) s3) g2.s:=
 .of (wpAny_newObj_type (.of (wpAny_newFunctionEnv hc (fun _ m=>nomatch m) (fun h3 ns hs=>by
  have z1:(g2.s.heap.push { cls:=.type "list",data:=.seq #[] }).objs.size=g2.s.heap.objs.size+1:=Heap.size_push ..
  rw [z1] at ns hs
  obtain ⟨gB,eB,lB,hB,kB,aB⟩:=eq_85 (tk:=g2.s.toks) ns hs
  have hp:gB.s.heap=h3:=congrArg Shared.heap eB
  have H:=h g2.s.heap.objs.size gB lB hB kB (fun a q=>eq_830 q) (hp.symm▸ns) (hp.symm▸aB)
  rw [eB,← z1] at H
  exact H) hk)))
theorem eq_48 {c:Cf} {elt t it:Expr} {ifs:List Expr} {s:PySem.Scope} {pos:Pos} {md:Bool} {tgt cap:List Nat} {E1 A:Code->Code} {F1:Code} (hit:zeh c it md A) (hfs:∀env x,foldedSetIterable it env x=pure x) (K:Cap c s.names) (hk:s.kind=.function)
  (ht:Tgt (fun x=>(inn s.names).lookup x=some .local) t tgt) (hc:∀i∈cap,∃p∈s.names,p.2=.free/\Nm p.1 i) (he:yq (inn s.names,false) elt E1) (hf:zgl (inn s.names,false) ifs F1) :
  yq c (.ListComp elt [⟨t,it,ifs,0⟩] s pos) fun k=>A (.comp md (E1 .n) F1 tgt cap k):=fun env E r k st g F h=>by
 obtain ⟨cl,Z⟩:=eq_440 (env:=env) (s:=s) fun p hp z=>E.has _ ((K p hp).2.2 z)
 rw [eval_ListComp]
 refine eq_122 rfl (hfs env) Z.e hk (fun x m=>(K x m).1) ((hit env E r (.comp md (E1 .n) F1 tgt cap k) st g (Nat.blt 1 tgt.length) F (fun v H q=>(eq_530 q).imp fun _ z=>z.1) h).mono fun x s1 z=>?_)
 obtain ⟨g1,v,pp,tup,l1,e1,htp,q,I⟩:=z
 refine .of (wpAny_mono I (fun iv s2 I=>?_) fun _ _ q=>q)
 obtain ⟨q1,hq1,hlen,q⟩:=eq_530 q
 obtain rfl:=Option.some.inj (hq1.symm.trans e1)
 obtain ⟨wr,St,I,n0,g2,rfl,l2,e2,st2⟩:=I
 refine eq_493 hk (fun x m=>(K x m).2.1) fun D gB lB hB kB n2 ns aB=>?_
 have kw:=I.pr 0 g2 st2
 have lt:∀a∈wr,a < D:=fun a m=>Nat.lt_of_not_le fun z=>zF (kw a m) (n2 a z)
 have nC:D+1∉wr:=fun m=>Nat.lt_irrefl _ (Nat.lt_of_succ_lt (lt _ m))
 have nD:D∉(D+1)::wr:=fun m=>(List.mem_cons.mp m).elim (Nat.ne_of_lt (Nat.lt_succ_self _)) fun m=>Nat.lt_irrefl _ (lt _ m)
 have kX:∀a∈D::(D+1)::wr,gB.κ a=.pr:=fun a m=>(List.mem_cons.mp m).elim (fun e=>kB a (e▸.head _)) fun m=>(List.mem_cons.mp m).elim (fun e=>kB a (e▸.tail _ (.head _))) fun m=>(lB.k a (zF (kw a m))).trans (kw a m)
 have Fa:=F.st l1
 have EC:=E.comp (C:=D+1) K hk Z
 have xe:∀a∈Xe (compEnvC s cl (D+1) env),a≠D/\a∉wr:=fun a m=>(Ja Z m).elim (fun e=>e▸⟨Nat.succ_ne_self _,nC⟩) fun m=>⟨fun e=>zF ((Fa.st l2).pr a m) (n2 a (Nat.le_of_eq e.symm)),fun w=>zF (Fa.pr a m) (n0 a w)⟩
 exact eq_20 (p:=⟨tgt,t,fun lo H K=>Rc xX F1 [] lo H K noJ,fun lo H K=>Rc xX (E1 .n) [] lo H K noJ,fun vs H=>r.go k (.nd .lst vs::st) H,q1.1,q1.2,gB,wr,St,D,compEnvC s cl (D+1) env,(inn s.names,false),elt,ifs,iv,tup⟩)
  ⟨I,hlen,kX _ (.head _),nD,xe,EC,ht.up fun x q=>.inl ⟨q,.head _⟩,htp,fun lo g K F h=>hf _ EC lo g K F h,fun lo g K F h=>he _ EC ⟨lo,K,noJ⟩ .n [] g F h⟩ rfl l1 l2 lB n0 kX (fun a m=>n2 a (m.elim (fun e=>Nat.le_of_eq e.symm) fun e=>e▸Nat.le_succ _)) nC
  ⟨Le.refl,I.keep _ _ _ [] st2 lB nofun,Fa.comp E K hk Z (l2.trans lB) nofun (kX _ (.tail _ (.head _))) ⟨_,ns⟩ hc,⟨[],aB,rfl⟩,(hB.trans e2)▸q,Nat.zero_le _,Nat.le_refl _⟩
section
variable {g:G} {i:Nat} {p:Addr×Addr} {o:V} {h':Heap} {tk:Nat} (hp:g.L[i]?=some p) (hi:i < g.H.length) (sm:∀a,a≠p.1->a≠p.2->h'.get? a=g.s.heap.get? a)
include hp hi
theorem eq_762:g.κ p.1=.ow/\g.κ p.2=.ow:=have q:=g.ok.obj i _ p (List.getElem?_eq_getElem hi) hp;⟨q.1,q.2.1⟩
theorem eq_598 {a:Addr} {k:Kn} (e:g.κ a=k) (n:k≠.ow):a≠p.1/\a≠p.2:=⟨fun q=>n (e.symm.trans ((congrArg g.κ q).trans (eq_762 hp hi).1)),fun q=>n (e.symm.trans ((congrArg g.κ q).trans (eq_762 hp hi).2))⟩
include sm
theorem eq_720:Kp g.s.heap g.κ g.L h' g.κ g.L:=⟨fun a e=>have n:=eq_598 hp hi e nofun;⟨e,sm a n.1 n.2⟩,fun _ _=>id⟩
theorem zja (al:h'.get? p.1≠none/\h'.get? p.2≠none) (r:xb h' g.κ g.L p o):Inv h' (g.H.set i o) g.κ g.L:=
 have kp:=eq_720 hp hi sm
 ⟨fun a n=>if e:a=p.1 then e▸al.1 else if e2:a=p.2 then e2▸al.2 else sm a e e2▸g.ok.alive a n,fun a x e=>have q:=g.ok.top a x e;⟨q.1,(kp.f a q.1).2.trans q.2⟩,(List.length_set ..).trans g.ok.len,
  fun j x q h1 h2=>by
   by_cases e:i=j
   ·subst e
    obtain rfl:=Option.some.inj (hp.symm.trans h2)
    rw [List.getElem?_set_self hi] at h1
    exact ⟨(eq_762 hp hi).1,(eq_762 hp hi).2,Option.some.inj h1▸r⟩
   ·rw [List.getElem?_set_ne e] at h1
    have z:=g.ok.obj j x q h1 h2
    have n:=g.ok.apart j i q p h2 hp (Ne.symm e)
    exact ⟨z.1,z.2.1,xb.mono kp x (sm _ n.1 n.2.1) (sm _ n.2.2.1 n.2.2.2) z.2.2⟩,g.ok.apart⟩
def G.up (al:h'.get? p.1≠none/\h'.get? p.2≠none) (r:xb h' g.κ g.L p o) (tk:Nat):G:=⟨{ g.s with heap:=h',toks:=tk },g.H.set i o,g.κ,g.L,zja hp hi sm al r⟩
theorem eq_326 {al:h'.get? p.1≠none/\h'.get? p.2≠none} {r:xb h' g.κ g.L p o}:Le [] g (G.up hp hi sm al r tk):=⟨fun _ _=>rfl,fun a e=>((eq_720 hp hi sm).f a e).2,fun a e _=>have n:=eq_598 hp hi e nofun;sm a n.1 n.2,List.prefix_rfl,⟨rfl,rfl,rfl⟩⟩
theorem up_ {Q:Hp->Prop} (al:h'.get? p.1≠none/\h'.get? p.2≠none) (r:Kp g.s.heap g.κ g.L h' g.κ g.L->xb h' g.κ g.L p o) (q:Q (g.H.set i o)):Ps [] g (fun (_:Unit) g1=>Q g1.H) () { g.s with heap:=h',toks:=tk }:=
 ⟨G.up hp hi sm al (r (eq_720 hp hi sm)) tk,rfl,eq_326 hp hi sm,q⟩
end
theorem eq_662 {g:G} {x:Str} {f:Nat} (hx:Nm x f) {v:V} {y key:Value} {hs:Int} (hkey:∃t,key=.str x t) (dy:g.D v y):∀{es:List DictEntry} {ks:List Nat} {vs:List V},jH es ks->g.DL vs (es.map (·.val))->
  jH (putL x hs key y es) (put ks vs f v).1/\g.DL (put ks vs f v).2 ((putL x hs key y es).map (·.val))
 | [],_,[]=>fun k _=>(show _=[] from k)▸⟨⟨x,f,[],rfl,hx,hkey,rfl⟩,zh dy rfl⟩
 | [],_,_::_=>fun _ d=>d.elim fun _ d=>d.elim fun _ d=>nomatch d.1
 | e::es,_,[]=>fun _ d=>nomatch (show (e::es).map (·.val)=[] from d)
 | e::es,_,u::vs=>fun k d=>by
  obtain ⟨z,j,r,rfl,hz,⟨t,ht⟩,k⟩:=k
  obtain ⟨w,ws,e2,d1,r2⟩:=d
  obtain ⟨e2,e3⟩:=List.cons.inj e2
  have r2:g.DL vs (es.map (·.val)):=e3▸r2
  have d1:g.D u e.val:=(show e.val=w from e2)▸d1
  show jH (if e.key.isStr x then ⟨e.hash,e.key,y⟩::es else e::putL x hs key y es) (bif decide (j=f) then (j::r,v::vs) else (j::(put r vs f v).1,u::(put r vs f v).2):List Nat×List V).1/\g.DL (bif decide (j=f) then (j::r,v::vs) else (j::(put r vs f v).1,u::(put r vs f v).2):List Nat×List V).2 ((if e.key.isStr x then ⟨e.hash,e.key,y⟩::es else e::putL x hs key y es:List DictEntry).map (·.val))
  by_cases hj:j=f
  ·subst hj
   obtain rfl:=hx.inj hz
   rw [if_pos (show e.key.isStr x=true by rw [ht];exact beq_self_eq_true _),decide_eq_true rfl]
   exact ⟨⟨x,j,r,rfl,hx,⟨t,ht⟩,k⟩,zh dy r2⟩
  ·rw [if_neg (show ¬ e.key.isStr x=true by rw [ht];exact fun q=>hj (hz.2.symm.trans ((congrArg xE (eq_of_beq q)).trans hx.2))),decide_eq_false hj]
   have ih:=eq_662 (hs:=hs) hx hkey dy k r2
   exact ⟨⟨z,j,_,rfl,hz,⟨t,ht⟩,ih.1⟩,zh d1 ih.2⟩
theorem eq_664:∀{es:List DictEntry} {ks:List Nat},jH es ks->es.length=ks.length
 | [],_=>fun k=>(show _=[] from k)▸rfl
 | _::_,_=>fun k=>k.elim fun _ k=>k.elim fun _ k=>k.elim fun r k=>k.1▸congrArg (·+1) (eq_664 k.2.2.2)
theorem eq_680 {x:Str} {hs:Int} {key v:Value}:∀(es:List DictEntry),(putL x hs key v es).length<=es.length+1
 | []=>Nat.le_refl _
 | e::es=>by
  unfold putL
  split
  ·exact Nat.le_succ _
  ·exact Nat.succ_le_succ (eq_680 es)
theorem eq_793:∀{es:List DictEntry} {ks:List Nat},jH es ks->es.any (·.refKey)=false
 | [],_=>fun _=>rfl
 | e::_,_=>fun k=>k.elim fun _ k=>k.elim fun _ k=>k.elim fun r k=>by
  rw [List.any_cons,eq_793 k.2.2.2,Bool.or_false]
  exact k.2.2.1.elim fun t h=>by unfold DictEntry.refKey;rw [h]
theorem eq_152 {s:Shared} {a C dx:Addr} {x:Str} {tk:Tok} {v:Value} {es:List DictEntry} {n:Nat} {R:Result->Shared->Prop} (X:(kF w0.params).In s.heap) (hx:s.heap.get? a=some (instObj C dx)) (D:s.heap.get? dx=some (dictOf es n)) (AK:Q8 C x)
  (hl:es.any (·.refKey)=false) (hz:(putL x (PyData.keyHash w0.params x) (.str x s.toks) v es).length<=1000)
  (h:∀h',h'.get? dx=some (dictOf (putL x (PyData.keyHash w0.params x) (.str x s.toks) v es) (putN x es n))->Heap.SameBut dx s.heap h'->R (.ok (.ret .none)) { s with heap:=h',toks:=s.toks+1 }) :
  codeAny (model PW w0) A0 (.call (.builtin "object.__setattr__") ⟨[.ref a,.str x tk,v],[]⟩) R s:=by
 have I:PySem.W.InstAt s.heap a (instObj C dx) C (some (dictOf es n)):=⟨hx,rfl,rfl,D⟩
 refine osa_open X I AK.2.2.2.2 (show takerIn (kF w0.params) C x=some none by unfold takerIn;rw [AK.2.2.1];rfl) fun b=>?_
 obtain ⟨cd,hc,hd'⟩:=any_some AK.2.1
 have e:=putName_dict x (PyData.keyHash w0.params x) (.str x s.toks) v es n
 have up:(s.heap.update dx (Obj.putName x (PyData.keyHash w0.params x) (.str x s.toks) v)).get? dx=some (dictOf (putL x (PyData.keyHash w0.params x) (.str x s.toks) v es) (putN x es n)):=by
  rw [Heap.get?_update_self (Obj.putName x (PyData.keyHash w0.params x) (.str x s.toks) v) D (by rw [e];rfl),e]
 unfold instObj at hx
 refine wpAny_bind (wpAny_pure (wpAny_bind (wpAny_bind (wpAny_loadPart hx (wpAny_bind ((looks_clsIn X hc).here ?_))))))
 rw [hd']
 refine wpAny_pure (a:=some dx) (wpAny_bind (wpAny_pure (wpAny_bind ?_)))
 unfold nsSet
 refine wpAny_bind (wpAny_bind (wpAny_askSetting (wpAny_pure (wpAny_bind (wpAny_mkText (wpAny_bind (wpAny_loadPart D ?_)))))))
 have c:(!es.toArray.any (·.key.isStr x)&&es.toArray.any (·.refKey))=false:=by rw [← Array.any_toList (as:=es.toArray) (p:=(·.refKey)),hl,Bool.and_false]
 unfold dictOf at D
 unfold dictOf
 dsimp only
 rw [aRefKeyMayBeTheName_at,c]
 refine wpAny_updatePart D ?_
 refine wpAny_bind (wpAny_lookBehind up (pastItsLine_dict (Nat.le_trans (Nat.le_of_eq List.size_toArray) (Nat.le_trans hz (by decide)))) ?_)
 exact wpAny_pure (h _ up (Heap.SameBut.update ..))
theorem eq_501 {s:Shared} {l:Addr} {ys:List Value} {k:Int} {t:Tok} {v:Value} {Q:Unit->Shared->Prop} (hl:s.heap.PlainList l ys.toArray) (h0:0<=k) (hfit:k < 2 ^ 63) (hn:k.toNat < ys.length)
  (hQ:∀h',h'.PlainList l (ys.set k.toNat v).toArray->Heap.SameBut l s.heap h'->Q () { s with heap:=h' }):wpAny (model PW w0) A0 (setItem (.ref l) (.int k t) v) Q y9 s:=by
 have hL:=hl.isList
 obtain ⟨ne,ho⟩:=hl
 unfold setItem
 try with_reducible refine wpAny_holding ?_
 first | refine wpAny_bind (wpAny_pure ?_) | skip
 refine wpAny_bind (wpAny_sequenceKey hL.typeIs (by decide) ?_)
 refine wpAny_bind (wpAny_callSpecial?_slot (name:=Str.ofString "__setitem__") hL.typeIs slot_list_setitem (wpAny_call_entry slot_list_setitem hL.typeIs entry_list_setitem ?_ (args_list_setitem _ _ _)))
 show wpAny _ _ (Builtin.List.listSubscript? (.int k t) >>= _) _ _ s
 refine wpAny_bind (wpAny_listSubscript_int (fitsIndex_of h0 hfit) ?_)
 clear hfit
 obtain ⟨j,rfl⟩:=Int.eq_ofNat_of_zero_le h0
 show wpAny _ _ ((seqItemAt l j >>= fun r=>pure (r.map (j,·))) >>= _) _ _ s
 refine wpAny_bind (wpAny_bind (wpAny_seqItemAt ho rfl (wpAny_pure ?_)))
 have hn:j < ys.length:=hn
 rw [show ys.toArray[j]?=some ys[j] from (List.getElem?_toArray ..).trans (List.getElem?_eq_getElem hn)]
 show wpAny _ _ (setSeqItemAt l j v >>= _) _ _ s
 have hfin:(s.heap.update l (Obj.mapSeq (·.setIfInBounds j v))).PlainList l (ys.set j v).toArray:=List.setIfInBounds_toArray ys j v▸⟨_,IsL.update (n:=ne) ho _⟩
 refine wpAny_bind (wpAny_setSeqItemAt ho rfl ?_)
 first
  | exact wpAny_bind (wpAny_pure (wpAny_pure ⟨.none,rfl,wpAny_pure (hQ _ hfin (Heap.SameBut.update ..))⟩))
  | exact wpAny_pure ⟨.none,rfl,wpAny_pure (hQ _ hfin (Heap.SameBut.update ..))⟩
theorem eq_516 {a k:Str} {b v:Value} {kvs:List (Str×Value)} (h:a≠k):stored ((a,b)::kvs) k v=(a,b)::stored kvs k v:=by
 unfold stored
 rw [show ((a,b)::kvs).any (fun kv=>kv.1=k)=kvs.any (fun kv=>kv.1=k) by rw [List.any_cons,decide_eq_false h,Bool.false_or]]
 split
 ·rw [List.map_cons,if_neg h]
 ·rfl
theorem eq_517 {k:Str} {b v:Value} {kvs:List (Str×Value)} (h:k∉kvs.map (·.1)):stored ((k,b)::kvs) k v=(k,v)::kvs:=by
 unfold stored
 rw [if_pos (show ((k,b)::kvs).any (fun kv=>kv.1=k)=true by rw [List.any_cons,decide_eq_true rfl,Bool.true_or]),List.map_cons,if_pos rfl]
 exact congrArg ((k,v)::·) ((List.map_congr_left fun kv m=>if_neg fun q=>h (List.mem_map.mpr ⟨kv,m,q⟩)).trans (List.map_id' _))
theorem eq_706 {g:G} {k:List Nat} {v:V} {y:Value} (dy:g.D v y):∀{kvs:List (Str×Value)} {ks:List (List Nat)} {vs:List V},kvs.map (·.1)=ks.map Sx->g.DL vs (kvs.map (·.2))->(kvs.map (·.1)).Nodup->
  (stored kvs (Sx k) y).map (·.1)=(put ks vs k v).1.map Sx/\g.DL (put ks vs k v).2 ((stored kvs (Sx k) y).map (·.2))
 | [],[],[]=>fun _ _ _=>⟨rfl,zh dy rfl⟩
 | [],[],_::_=>fun _ d=>d.elim fun _ d=>d.elim fun _ d=>nomatch d.1
 | [],_::_,_=>fun e=>nomatch e
 | _::_,[],_=>fun e=>nomatch e
 | p::kvs,_::_,[]=>fun _ d=>nomatch (show (p::kvs).map (·.2)=[] from d)
 | (a,b)::kvs,j::r,u::vs=>fun e d nd=>by
  obtain ⟨ea,er⟩:=List.cons.inj e
  obtain rfl:a=Sx j:=ea
  obtain ⟨z,zs,e2,dz,dr⟩:=d
  obtain ⟨rfl,rfl⟩:=List.cons.inj e2
  have nd:=List.nodup_cons.mp nd
  show (stored ((Sx j,b)::kvs) (Sx k) y).map (·.1)=(bif decide (j=k) then (j::r,v::vs) else (j::(put r vs k v).1,u::(put r vs k v).2):List (List Nat)×List V).1.map Sx/\g.DL (bif decide (j=k) then (j::r,v::vs) else (j::(put r vs k v).1,u::(put r vs k v).2):List (List Nat)×List V).2 ((stored ((Sx j,b)::kvs) (Sx k) y).map (·.2))
  by_cases hj:j=k
  ·subst hj
   rw [eq_517 nd.1,decide_eq_true rfl]
   exact ⟨congrArg (Sx j::·) er,zh dy dr⟩
  ·rw [eq_516 (fun q=>hj (eq_914 q)),decide_eq_false hj]
   have ih:=eq_706 (k:=k) dy er dr nd.2
   exact ⟨congrArg (Sx j::·) ih.1,zh dz ih.2⟩
theorem eq_672 {g:G} {v:V} {y:Value} (dy:g.D v y):∀{l:List V} {xs:List Value} (k:Nat),g.DL l xs->g.DL (l.set k v) (xs.set k y)
 | [],_,_=>fun h=>(show _=[] from h)▸rfl
 | _::_,_,0=>fun h=>h.elim fun _ h=>h.elim fun _ h=>h.1▸zh dy h.2.2
 | _::_,_,k+1=>fun h=>h.elim fun _ h=>h.elim fun _ h=>h.1▸zh h.2.1 (eq_672 dy k h.2.2)
section
variable {g:G} {o v:V} {x y:Value}
def HQ (g:G) (H:Hp):Unit->Shared->Prop:=Ps [] g fun _ g1=>g1.H=H
theorem eq_875 {i:Nat}:asR o=some i->o=.ref i:=V.casesOn (motive_1:=fun o=>asR o=some i->o=.ref i) o zl (fun _=>zl) (fun _=>zl) (fun _=>zl) (fun _=>zl) (fun _ _=>zl) (fun _ h=>Option.some.inj h▸rfl) fun _=>zl
theorem eq_775 {i:Nat} {q:zZ×List V} {p:Addr×Addr} (h:nv (.ref i) g.H=some q) (hp:g.L[i]?=some p):i < g.H.length/\∃ys,z7 g.s.heap q.1 p.1 p.2 ys/\g.DL q.2 ys:=
 (zc (show bo g.H[i]? asN=some q from h)).elim fun o z=>⟨(List.getElem?_eq_some_iff.mp z.1).1,eq_737 z.2 (g.ok.obj i o p z.1 hp).2.2⟩
theorem eq_582 {n:Str} {f:Nat} {H:Hp} (T:yy) (hn:Nm n f) (d:g.D o x) (dy:g.D v y) (h:setA o v f g.H=some H):wpAny (model PW w0) A0 (setAttr x n y) (HQ g H) y9 g.s:=by
 obtain ⟨i,hi,h⟩:=zc h
 obtain ⟨q,hq,h⟩:=zc h
 obtain ⟨hl,h⟩:=zm h
 obtain ⟨ha,h⟩:=zm h
 rw [eq_772,eq_903] at h
 obtain rfl:=eq_875 hi
 obtain ⟨p,hp,rfl⟩:=d
 obtain ⟨q1,h1,h2⟩:=zc hq
 obtain ⟨q2,hk,h3⟩:=zc h2
 obtain rfl:=Option.some.inj h3
 obtain ⟨hlt,ys,Li,dl⟩:=eq_775 h1 hp
 rw [eq_623 hk] at Li
 obtain ⟨a,b,e1,e2,es,m,rfl,rfl,kl,rfl⟩:=Li
 have A:=T.at_ _ _ _ ha hn
 refine set_plain (T.K g) (show PySem.W.InstAt g.s.heap p.1 (instObj q2.1 p.2) q2.1 (some (dictOf es m)) from ⟨e1,rfl,rfl,e2⟩) A.2.2.2.1 (eq_152 (s:={ g.s with toks:=g.s.toks+1 }) (T.K g) e1 e2 A (eq_793 kl) (Nat.le_trans (eq_680 es) (Nat.le_trans (Nat.succ_le_succ (Nat.le_trans (Nat.le_of_eq (eq_664 kl)) hl)) (by decide))) fun h' e hs=>?_)
 have ne:p.1≠p.2:=fun z=>nomatch e1.symm.trans ((congrArg _ z).trans e2)
 have e1':=(hs.2 _ ne).trans e1
 have P:=eq_662 (g:=g) (hs:=PyData.keyHash w0.params n) (key:=.str n (g.s.toks+1)) hn ⟨_,rfl⟩ dy kl dl
 exact up_ (o:=.nd (.ins q2.1 (put q2.2 q1.2 f v).1) (put q2.2 q1.2 f v).2) (Q:=fun H'=>H'=H) hp hlt (fun b _ z=>hs.2 b z) ⟨(fun z=>nomatch z.symm.trans e1'),fun z=>nomatch z.symm.trans e⟩ (fun K=>⟨_,⟨_,_,e1',e,_,_,rfl,rfl,P.1,rfl⟩,xd.mono K _ _ P.2⟩) (Option.some.inj h)
theorem od_ {h h':Heap} {t:zZ} {p:Addr×Addr} {ys:List Value} {o:Obj} (d:z7 h t p.1 p.2 ys) (e:h'.get? p.1=some o) (sb:Heap.SameBut p.1 h h'):∃od,h'.get? p.2=some od:=
 if z:p.2=p.1 then ⟨o,z▸e⟩ else d.elim fun _ d=>d.elim fun od d=>⟨od,(sb.2 _ z).trans d.2.1⟩
theorem al_ {h h':Heap} {t:zZ} {p:Addr×Addr} {ys:List Value} {o:Obj} (d:z7 h t p.1 p.2 ys) (e:h'.get? p.1=some o) (sb:Heap.SameBut p.1 h h'):h'.get? p.1≠none/\h'.get? p.2≠none:=
 ⟨(fun z=>nomatch z.symm.trans e),fun z=>(od_ d e sb).elim fun _ q=>nomatch z.symm.trans q⟩
theorem eq_613 {k:V} {z:Value} {H:Hp} (d:g.D o x) (dk:g.D k z) (dy:g.D v y) (h:setI o k v g.H=some H):wpAny (model PW w0) A0 (setItem x z y) (HQ g H) y9 g.s:=by
 obtain ⟨i,hi,h1⟩:=zc h
 obtain rfl:=eq_875 hi
 obtain ⟨q,hq,h⟩:=zc h1
 obtain ⟨p,hp,rfl⟩:=d
 obtain ⟨hlt,ys,Li,dl⟩:=eq_775 hq hp
 rcases oc (o:=q.1.dks) h with ⟨e,h⟩ | ⟨ks,e,h⟩
 ·obtain ⟨hs,h⟩:=zm h
  obtain ⟨j,hj,h⟩:=zc h
  obtain ⟨⟨j0,j1,j2⟩,h⟩:=zm h
  rw [eq_903,eq_903] at h
  obtain ⟨t,rfl⟩:=ya hj dk
  obtain ⟨n,ga⟩:=xi hs Li
  have len:=zf dl
  refine eq_501 ⟨n,ga⟩ j0 (by lia) (by rw [len];exact j1) fun h' e sb=>Exists.elim e fun n' e=>?_
  exact up_ (o:=.nd .lst (q.2.set j.toNat v)) (Q:=fun H'=>H'=H) hp hlt (fun b z _=>sb.2 b z) (al_ Li e sb) (fun K=>⟨_,(od_ Li e sb).elim fun od z=>⟨_,od,e,z,n',rfl⟩,xd.mono K _ _ (eq_672 dy _ dl)⟩) (Option.some.inj h)
 ·obtain ⟨s,es,h⟩:=zc h
  obtain ⟨hl,h⟩:=zm h
  rw [eq_772,eq_903] at h
  obtain ⟨t,rfl⟩:=zI es dk
  rw [eq_890 e] at Li
  obtain ⟨a,b,e1,e2,kvs,⟨sm,es,ep,D⟩,ek,rfl⟩:=id Li
  have D:g.s.heap.DictOf (PySem.strKind PW w0) p.1 kvs:=⟨a,es,ep,e1,D⟩
  have nd:(kvs.map (·.1)).Nodup:=D.elim fun _ D=>D.elim fun _ D=>D.elim fun _ D=>D.2.2.2.2.2
  have len:kvs.length=ks.length:=(List.length_map ..).symm.trans ((congrArg List.length ek).trans (List.length_map ..))
  refine wpAny_setItem_pairs (knd:=PySem.strKind PW w0) (k:=Sx s) (beq_self_eq_true (Sx s)) D (fun h' D' sb=>?_) (len▸Nat.le_trans hl (by decide))
  have P:=eq_706 (k:=s) dy ek dl nd
  obtain ⟨o',es',ep',e,D'⟩:=D'
  exact up_ (o:=.nd (.dcs (put ks q.2 s v).1) (put ks q.2 s v).2) (Q:=fun H'=>H'=H) hp hlt (fun b z _=>sb.2 b z) (al_ Li e sb) (fun K=>⟨_,(od_ Li e sb).elim fun od z=>⟨_,od,e,z,_,⟨sm,es',ep',D'⟩,P.1,rfl⟩,xd.mono K _ _ P.2⟩) (Option.some.inj h)
end
abbrev zy.at (r:zy) (lo:Lo):zy:={ r with lo:=lo }
def yC (c:Cf) (env:Env) (g:G) (r:zy) (k:Code) (st:List V):Unit->Shared->Prop:=Ps (Xe env) g fun _ g1=>∃lo,At c env lo g1/\(r.at lo).go k st g1.H
def Sto (c:Cf) (t:Expr) (F:Code->Code):Prop:=∀env,Fr c env->∀(r:zy) (k:Code) (st:List V) (g:G) (v:V) (y:Value),At c env r.lo g->g.D v y->r.go (F k) (v::st) g.H->J A0 (assign t env y) (yC c env g r k st) g.s
section
variable {c:Cf} {env:Env} {g g1:G} {r:zy} {k:Code} {st:List V}
theorem yC.up {u:Unit} {s:Shared} (L:Le [] g g1) (h:yC c env g1 r k st u s):yC c env g r k st u s:=Ps.up L.all h
theorem yC.set {lo:Lo} {u:Unit} {s:Shared} (h:Q5 c env g (Xe env) lo u s) (q:(r.at lo).go k st g.H):yC c env g r k st u s:=Exists.elim h fun g2 h=>⟨g2,h.1,h.2.1,lo,h.2.2.1,h.2.2.2▸q⟩
theorem yC.hq {H:Hp} {u:Unit} {s:Shared} (F:At c env r.lo g) (h:HQ g H u s) (q:r.go k st H):yC c env g r k st u s:=Exists.elim h fun g2 h=>⟨g2,h.1,h.2.1.all,r.lo,F.st h.2.1,h.2.2▸q⟩
end
section
variable {c:Cf}
theorem eq_41 {x:Str} {i:Nat} {p:Pos} (hn:Nm x i) (hw:Wn c x):Sto c (.Name x p) fun k=>.set i k:=fun env E r k st g v y F d q=>
 .of (wpAny_assign_Name (wpAny_mono (eq_805 E F hn (hw.tn E) d) (fun _ _ h=>yC.set h q) fun _ _ q=>q))
theorem eq_111 {o:Expr} {O:Code->Code} {x:Str} {f:Nat} {p:Pos} (T:yy) (hn:Nm x f) (ho:yq c o O):Sto c (.Attribute o x p) fun k=>O (.o (.sta f) 2 (.drop k)):=fun env E r k st g v y F d q=>by
 show J A0 (do
   let ov ← holding [y] (eval o env)
   standAt p.atName
   holding [y,ov] (setAttr ov x y)
   release [y,ov] []) _ _
 refine .bind (.hold ((ho env E r _ _ g F q).go fun z g1 u l1 d1 q=>.at ?_))
 have q:ob (yK (.sta f) [v,u] g1.H) fun x=>r.go (.drop k) (x.1::st) x.2:=q
 obtain ⟨w,e1,q⟩:=yg q
 obtain ⟨H,e,h⟩:=zc e1
 obtain rfl:=Option.some.inj h
 exact .bm (.hold (.of (eq_582 T hn d1 (l1.den d) e))) fun _ _ h=>.of (wpAny_release (yC.up l1 (yC.hq (F.st l1) h q)))
theorem eq_110 {o i:Expr} {O I:Code->Code} {p:Pos} (ho:yq c o O) (hi:yq c i I):Sto c (.Subscript o i p) fun k=>O (I (.o .sti 3 (.drop k))):=fun env E r k st g v y F d q=>by
 refine .eq (arm_assign_Subscript ..) (.bind (.hold ((ho env E r _ _ g F q).go fun z g1 u l1 d1 q=>.bind (.hold ((hi env E r _ _ g1 (F.st l1) q).go fun w g2 t l2 d2 q=>.at ?_)))))
 have q:ob (yK .sti [v,u,t] g2.H) fun x=>r.go (.drop k) (x.1::st) x.2:=q
 obtain ⟨w,e1,q⟩:=yg q
 obtain ⟨H,e,h⟩:=zc e1
 obtain rfl:=Option.some.inj h
 exact .bm (.hold (.of (eq_613 (l2.den d1) d2 ((l1.trans l2).den d) e))) fun _ _ h=>.of (wpAny_release (yC.up (l1.trans l2) (yC.hq (F.st (l1.trans l2)) h q)))
theorem stos {f:Expr->Code->Code} {env:Env} (E:Fr c env):∀{ts:List Expr} {r:zy} {k:Code} {st:List V} {g:G} {l:List V} {ys:List Value},(∀t∈ts,Sto c t (f t))->(∀t∈ts,∀r,assignEach (t::r) env=(false,assign t env)::assignEach r env)->At c env r.lo g->g.DL l ys->l.length=ts.length->r.go (y5 f ts k) (l++st) g.H->
  J A0 (assignInOrder ((assignEach ts env).map (·.2)) ys) (yC c env g r k st) g.s
 | [],r,_,_,g,[],_=>fun _ _ F _ _ q=>.pure ⟨g,rfl,Le.refl,r.lo,F,q⟩
 | [],_,_,_,_,_::_,_=>fun _ _ _ _ n=>nomatch n
 | _::_,_,_,_,_,[],_=>fun _ _ _ _ n=>nomatch n
 | t::ts,r,k,st,g,v::l,_=>fun hs ha F d n q=>by
  obtain ⟨y,ys,rfl,dy,dr⟩:=d
  rw [ha t (.head _)]
  exact .bm (.hold (hs t (.head _) env E r _ _ g v y F dy q)) fun _ _ h=>h.elim fun g1 h=>h.1▸h.2.2.elim fun lo h2=>(stos E (r:=r.at lo) (fun t m=>hs t (.tail _ m)) (fun t m=>ha t (.tail _ m)) h2.1 (h.2.1.denL dr) (Nat.succ.inj n) h2.2).mono fun _ _ q=>Ps.up h.2.1 q
theorem eq_635 {env:Env}:∀{ts:List Expr},(∀t∈ts,∀r,assignEach (t::r) env=(false,assign t env)::assignEach r env)->(assignEach ts env).findIdx? (·.1)=none/\(assignEach ts env).length=ts.length
 | []=>fun _=>⟨rfl,rfl⟩
 | t::ts=>fun h=>by
  have ih:=eq_635 fun t m=>h t (.tail _ m)
  rw [h t (.head _),List.findIdx?_cons,ih.1]
  exact ⟨rfl,congrArg (·+1) ih.2⟩
theorem eq_109 {ts:List Expr} {f:Expr->Code->Code} {i:Nat} {p:Pos} (hs:∀t∈ts,Sto c t (f t)) (ha:∀env,∀t∈ts,∀r,assignEach (t::r) env=(false,assign t env)::assignEach r env):Sto c (.Tuple ts i p) fun k=>.spl ts.length (y5 f ts k):=fun env E r k st g v y F d q=>by
 have q:ob (sqs v g.H) fun l=>wh (l.length=ts.length) (r.go (y5 f ts k) (l++st) g.H):=q
 obtain ⟨l,hl,q⟩:=yg q
 obtain ⟨hn,q⟩:=eq_900 q
 obtain ⟨a,ys,rfl,gg,dl⟩:=eq_822 hl d
 have st2:=eq_635 (ha env)
 have ln:=st2.2.trans (hn.symm.trans (zf dl).symm)
 have rest:∀h',Heap.ExtBut g.s.heap.objs.size g.s.heap h'->J A0 (assignInOrder ((assignEach ts env).map (·.2)) ys) (yC c env g r k st) { g.s with heap:=h' }:=fun h' hs'=>
  have L:Le [] g (g.stp (eq_878 hs') g.s.toks):=zV _
  (stos E (g:=g.stp (eq_878 hs') g.s.toks) hs (ha env) (F.st L) (L.denL dl) hn q).mono fun _ _ q=>yC.up L q
 rw [arm_assign_Tuple]
 refine .at ?_
 unfold unpack
 rw [ln,st2.1]
 exact .bind (.hold (.of (upk gg rest)))
end
def FlQ (c:Cf) (env:Env) (r:zy) (k:Code) (fl:Flow) (g:G):Prop:=∃lo,At c env lo g/\Flow.casesOn (motive:=fun _=>Prop) fl ((r.at lo).go k [] g.H) (r.J .brk lo g.H) (r.J .cnt lo g.H) fun x=>∃v,g.D v x/\r.J (.ret v) lo g.H
abbrev FlP (c:Cf) (env:Env) (g:G) (r:zy) (k:Code):Flow->Shared->Prop:=Ps (Xe env) g (FlQ c env r k)
def xQ (c:Cf) (s:Stmt) (F:Code->Code):Prop:=∀env,Fr c env->∀(r:zy) (k:Code) (g:G),At c env r.lo g->r.go (F k) [] g.H->J A0 (exec s env) (FlP c env g r k) g.s
def Yq (c:Cf) (b:List Stmt) (F:Code->Code):Prop:=∀env,Fr c env->∀(r:zy) (k:Code) (g:G),At c env r.lo g->r.go (F k) [] g.H->J A0 (execs b env) (FlP c env g r k) g.s
noncomputable def qj {α:Type} (t:Sem α):Option α:=match t with
 | .pure a=>some a
 | _=>none
theorem eq_658 {α:Type} {t:Sem α} {a:α}:qj t=some a->t=Sem.pure a:=by cases t<;>first | exact zl | exact fun h=>congrArg Sem.pure (Option.some.inj h)
noncomputable def qd (c:Cf):Env:={ scope:={ (default:PySem.Scope) with kind:=.function,names:=c.1 },locals:=0,globals:=0,cells:=[] }
section
variable {c:Cf} {env:Env} {g:G} {r:zy} {k:Code}
theorem yC.fl {g1:G} {u:Unit} {s:Shared} (L:Le [] g g1) (h:yC c env g1 r k [] u s):FlP c env g r k .next s:=Ps.up (P:=FlQ c env r k) (x:=Flow.next) L.all h
theorem eq_215 {t e:Expr} {line:Nat} (E:Fr c env):swapsWithSole [t] e line env=swapsWithSole [t] e line (qd c):=by
 show swapsWith e (some t) line env=swapsWith e (some t) line (qd c)
 unfold swapsWith
 rw [show env.kindOf=(qd c).kindOf from funext fun x=>congrArg (·.lookup x) E.names,show env.blockKind=(qd c).blockKind by unfold Env.blockKind;rw [E.kind];rfl,E.kind]
 rfl
theorem eq_182 {l:List Expr} {e:Expr} (E:Fr c env):swappedStores l e env=swappedStores l e (qd c):=by
 unfold swappedStores
 rw [show env.kindOf=(qd c).kindOf from funext fun x=>congrArg (·.lookup x) E.names,show env.blockKind=(qd c).blockKind by unfold Env.blockKind;rw [E.kind];rfl]
end
section
variable {c:Cf}
def zej (c:Cf) (t e:Expr) (p:Pos) (sw:Option (List Str)):Prop:=qj (swapsWithSole [t] e p.line (qd c))=some false/\qj (swappedStores [t] e (qd c))=some sw
theorem asg_ {t e:Expr} {p:Pos} {sw:Option (List Str)} {F:Code->Code} {env:Env} {r:zy} {k:Code} {g:G} {P:Flow->Shared->Prop} (E:Fr c env) (hs:zej c t e p sw) (he:yq c e F) (At:At c env r.lo g) (h:r.go (F k) [] g.H)
  (q:∀x g1 v,Le [] g g1->g1.D v x->r.go k [v] g1.H->J A0 (assignStores env x sw ((assignEach [t] env).map (·.2))) P g1.s):J A0 (exec (.Assign [t] e p) env) P g.s:=by
 rw [arm_exec_Assign,eq_215 E,eq_658 hs.1,eq_182 E,eq_658 hs.2]
 exact .at (.bind (.pure (.bind ((he env E r k [] g At h).go fun x g1 v l d z=>.bind (.pure (q x g1 v l d z))))))
theorem eq_146 {t e:Expr} {p:Pos} {F T:Code->Code} (hs:zej c t e p none) (he:yq c e F) (ht:Sto c t T) (ha:∀env r,assignEach (t::r) env=(false,assign t env)::assignEach r env):xQ c (.Assign [t] e p) fun k=>F (T k):=fun env E r k g At h=>
 asg_ E hs he At h fun x g1 v l d q=>by
  rw [ha]
  exact .bm (ht env E r k [] g1 v x (At.st l) d q) fun _ _ h=>.pure (yC.fl l h)
theorem rev_ {X:List Addr} {env:Env} (E:Fr c env):∀{xs:List Str} {is:List Nat} {l:List V} {ys:List Value} {lo lo1:Lo} {g:G},(∀x∈xs,Tn c env X x)->xs.map xE=is->(∀x∈xs,asc x=true)->At c env lo g->g.DL l ys->bindL is l lo=some lo1->wpAny (model PW w0) A0 (assignInOrder (xs.map fun n=>bindName env n) ys) (Q5 c env g X lo1) y9 g.s
 | [],[],[],_,lo,_,g=>fun _ _ _ F _ h=>wpAny_pure ⟨g,rfl,Le.refl,Option.some.inj h▸F,rfl⟩
 | [],[],_::_,_,_,_,_=>fun _ _ _ _ _ h=>zl h
 | [],_::_,_,_,_,_,_=>fun _ e=>nomatch e
 | _::_,[],_,_,_,_,_=>fun _ e=>nomatch e
 | _::_,_::_,[],_,_,_,_=>fun _ _ _ _ _ h=>zl h
 | x::xs,i::is,v::l,_,lo,lo1,g=>fun ht e ha F d h=>by
  obtain ⟨e1,e2⟩:=List.cons.inj e
  obtain ⟨y,ys,rfl,dy,dr⟩:=d
  refine wpAny_bind (wpAny_holding (wpAny_bindName (wpAny_mono (eq_805 E F ⟨ha x (.head _),e1⟩ (ht x (.head _)) dy) (fun _ s1 q=>?_) fun _ _ q=>q)))
  obtain ⟨g1,rfl,L,F1,e1⟩:=q
  exact wpAny_mono (rev_ E (fun x m=>ht x (.tail _ m)) e2 (fun x m=>ha x (.tail _ m)) F1 (L.denL dr) h) (fun _ _ q=>Ps.up L (q.imp fun _ q=>⟨q.1,q.2.1,q.2.2.1,q.2.2.2.trans e1⟩)) fun _ _ q=>q
theorem eq_673 {g:G}:∀{l:List V} {xs:List Value},g.DL l xs->g.DL l.reverse xs.reverse
 | [],_=>fun h=>(show _=[] from h)▸rfl
 | v::l,_=>fun h=>by
  obtain ⟨y,ys,rfl,d,r⟩:=h
  rw [List.reverse_cons,List.reverse_cons]
  exact eq_895 (r:=[v]) (ys:=[y]) (zh d rfl) (eq_673 r)
theorem eq_94 {t e:Expr} {p:Pos} {F:Code->Code} {xs:List Str} (hs:zej c t e p (some xs)) (he:yq c e F) (hw:∀x∈xs,asc x=true/\Wn c x):xQ c (.Assign [t] e p) fun k=>F (.rev (xs.map xE) k):=fun env E r k g At h=>
 asg_ (k:=.rev (xs.map xE) k) E hs he At h fun x g1 v L d q=>by
  have q:ob (sqs v g1.H) fun l=>wh (l.length=(xs.map xE).length) (ob (bindL (xs.map xE).reverse l.reverse r.lo) fun lo=>(r.at lo).go k [] g1.H):=q
  obtain ⟨l,hl,q⟩:=yg q
  obtain ⟨hn,q⟩:=eq_900 q
  obtain ⟨lo1,hb,q⟩:=yg q
  obtain ⟨a,ys,rfl,gg,dl⟩:=eq_822 hl d
  have ln:xs.length=ys.length:=(List.length_map ..).symm.trans (hn.symm.trans (zf dl).symm)
  show J A0 (rule "assign.swapped-stores" >>= fun _=>unpackItems (.ref a) xs.length none >>= fun items=>assignInOrder (xs.reverse.map fun n=>bindName env n) items.reverse >>= fun _=>pure Flow.next) _ _
  refine .bind (.of (wpAny_rule ?_))
  rw [ln]
  refine .bind (.of (upk gg fun h' hs'=>?_))
  have L2:Le [] g1 (g1.stp (eq_878 hs') g1.s.toks):=zV _
  refine .bm (.of (rev_ (X:=Xe env) E (g:=g1.stp (eq_878 hs') g1.s.toks) (fun x m=>(hw x (List.mem_reverse.mp m)).2.tn E) List.map_reverse (fun x m=>(hw x (List.mem_reverse.mp m)).1) (At.st (L.trans L2)) (L2.denL (eq_673 dl)) hb)) fun _ _ h=>.pure (yC.fl (L.trans L2) (yC.set h q))
end
section
variable {c:Cf}
abbrev zkE (g:G) (r:zy) (k:Code) (st:List V):Value->Shared->Prop:=Ps [] g (qP (r.Q k st))
theorem eq_624 {g:G} {r:zy} {k:Code} {st:List V} {a b:V} {x y:Value} (da:g.D a x) (db:g.D b y) (h:r.go (.o .inp 2 k) (b::a::st) g.H):wpAny (model PW w0) A0 (inplaceOp .Add x y) (zkE g r k st) y9 g.s:=
 (eq_919 (p:=.inp) (vs:=[a,b]) (K:=fun x=>r.go k (x.1::st) x.2) rfl h).elim fun v z=>(eq_810 z.1 da db).elim fun i q1=>q1.elim fun j q1=>q1.elim fun t q1=>q1.elim fun u q1=>q1.1▸q1.2.1▸wpAny_iadd_int ⟨g.tk (g.s.toks+1),rfl,JQ,v,Option.some.inj q1.2.2▸zp,z.2⟩
theorem aug_ {env:Env} {g:G} {r:zy} {k:Code} {st:List V} {e:Expr} {F:Code->Code} {pos:Pos} {a:V} {x:Value} {Q:Value->Shared->Prop} (E:Fr c env) (he:yq c e F) (At:At c env r.lo g) (d:g.D a x) (h:r.go (F (.o .inp 2 k)) (a::st) g.H)
  (q:∀z g1 v,Le [] g g1->g1.D v z->r.go k (v::st) g1.H->Q z g1.s):J A0 (do let v ← holding [x] (eval e env);standAt pos;operate [x,v] (inplaceOp .Add x v)) Q g.s:=
 .bind (.hold ((he env E r _ _ g At h).go fun y g1 u l1 d1 h=>.at ((J.oper (.of (eq_624 (l1.den d) d1 h))).mono fun z s p=>p.elim fun g2 p=>p.1▸p.2.2.elim fun v p2=>q z g2 v (l1.trans p.2.1) p2.1 p2.2)))
theorem eq_220 {x:Str} {i:Nat} {e:Expr} {F:Code->Code} {q p:Pos} (hn:Nm x i) (hw:Wn c x) (he:yq c e F):xQ c (.AugAssign (.Name x q) .Add e p) fun k=>.loc i (F (.o .inp 2 (.set i k))):=fun env E r k g F h=>by
 obtain ⟨v,hl,h⟩:=yg (show ob (r.lo i) fun v=>r.go _ (v::[]) g.H from h)
 rw [arm_exec_AugAssign]
 refine .at (.bm (.of (loc_ E F hn hl)) fun y s z=>z.elim fun g1 z=>?_)
 obtain ⟨rfl,l1,e1,d1⟩:=z
 exact .bind (.hold ((he env E r _ _ g1 (F.st l1) (e1▸h)).go fun z g2 u l2 d2 h=>.at (.bm (.oper (.of (eq_624 (k:=.set i k) (st:=[]) (l2.den d1) d2 h))) fun z s p=>p.elim fun g3 p=>p.1▸p.2.2.elim fun w p2=>
  have L:=(l1.trans l2).trans p.2.1
  .at (.bm (.of (wpAny_bindName (eq_805 E (F.st L) hn (hw.tn E) p2.1))) fun _ _ h=>.pure (yC.fl L (yC.set (st:=[]) h p2.2))))))
theorem eq_221 {o e:Expr} {x:Str} {f:Nat} {O F:Code->Code} {q p:Pos} (T:yy) (hn:Nm x f) (ho:yq c o O) (he:yq c e F):xQ c (.AugAssign (.Attribute o x q) .Add e p) fun k=>O (.dup 1 (.o (.att f) 1 (F (.o .inp 2 (.rot 1 (.o (.sta f) 2 (.drop k))))))):=fun env E r k g At h=>by
 rw [arm_exec_AugAssign_2]
 refine .at (.bind ((ho env E r _ [] g At h).go fun y g1 v l1 d1 h=>?_))
 obtain ⟨u,hu,h⟩:=eq_919 (p:=.att f) (vs:=[v]) (K:=fun x=>r.go (F (.o .inp 2 (.rot 1 (.o (.sta f) 2 (.drop k))))) (x.1::[v]) x.2) rfl h
 refine .bm (P:=zkE g1 r (.rot 1 (.o (.sta f) 2 (.drop k))) [v]) (.hold (.at (.bm (.of (att_ T hn d1 hu)) fun z s m=>m.elim fun g2 m=>m.1▸aug_ E he ((At.st l1).st m.2.1) m.2.2.2 (m.2.2.1▸h) fun z g3 w L d q=>⟨g3,rfl,m.2.1.trans L,w,d,q⟩))) fun z s m=>m.elim fun g2 m=>m.1▸m.2.2.elim fun w m2=>.at ?_
 have q:ob (yK (.sta f) [w,v] g2.H) fun x=>r.go (.drop k) (x.1::[]) x.2:=m2.2
 obtain ⟨t,e1,q⟩:=yg q
 obtain ⟨H,e2,e3⟩:=zc e1
 obtain rfl:=Option.some.inj e3
 exact .bm (.hold (.of (eq_582 T hn (m.2.1.den d1) m2.1 e2))) fun _ _ h=>.rel (.pure (yC.fl (l1.trans m.2.1) (yC.hq (r:=r) (k:=k) (st:=[]) (At.st (l1.trans m.2.1)) h q)))
theorem eq_136 {g:G} {a i v:V} {x y:Value} (da:g.D a x) (di:g.D i y) (h:(bo (dv a g.H) fun p=>bo (yM i) fun k=>zP p.1 p.2 k)=some v):WV g (getItem x y) v:=by
 obtain ⟨p,h1,h⟩:=zc h
 obtain ⟨k,h2,h⟩:=zc h
 obtain ⟨q,h3,h1⟩:=zc h1
 obtain ⟨ks,h4,h1⟩:=zc h1
 obtain rfl:=Option.some.inj h1
 obtain ⟨t,rfl⟩:=zI h2 di
 obtain ⟨d,dx,ys,rfl,L,r⟩:=Zx h3 da
 exact (eq_538 (eq_890 h4▸L) r h).2
theorem eq_219 {o i e:Expr} {O I F:Code->Code} {q p:Pos} (hp:Pl i) (ho:yq c o O) (hi:yq c i I) (he:yq c e F):xQ c (.AugAssign (.Subscript o i q) .Add e p) fun k=>O (I (.dup 2 (.o .sbd 2 (F (.o .inp 2 (.rot 2 (.o .sti 3 (.drop k)))))))):=fun env E r k g At h=>by
 rw [arm_exec_AugAssign_3]
 refine .at (.bind ((ho env E r _ [] g At h).go fun y g1 v l1 d1 h=>.bind (.hold ((hi env E r _ _ g1 (At.st l1) h).go fun z g2 u l2 d2 h=>?_))))
 obtain ⟨t,ht,h⟩:=eq_919 (p:=.sbd) (vs:=[v,u]) (K:=fun x=>r.go (F (.o .inp 2 (.rot 2 (.o .sti 3 (.drop k))))) (x.1::[u,v]) x.2) rfl h
 have L:=l1.trans l2
 refine .bm (P:=zkE g2 r (.rot 2 (.o .sti 3 (.drop k))) [u,v]) (.hold (.at (.bm (.of (eq_136 (l2.den d1) d2 ht)) fun z s m=>m.elim fun g3 m=>m.1▸aug_ E he ((At.st L).st m.2.1) m.2.2.2 (m.2.2.1▸h) fun z g3 w L d q=>⟨g3,rfl,m.2.1.trans L,w,d,q⟩))) fun z s m=>m.elim fun g3 m=>m.1▸m.2.2.elim fun w m2=>.at ?_
 have q:ob (yK .sti [w,v,u] g3.H) fun x=>r.go (.drop k) (x.1::[]) x.2:=m2.2
 obtain ⟨t,e1,q⟩:=yg q
 obtain ⟨H,e2,e3⟩:=zc e1
 obtain rfl:=Option.some.inj e3
 rw [hp.aug]
 exact .bm (.hold (.of (eq_613 ((l2.trans m.2.1).den d1) (m.2.1.den d2) m2.1 e2))) fun _ _ h=>.rel (.pure (yC.fl (L.trans m.2.1) (yC.hq (r:=r) (k:=k) (st:=[]) (At.st (L.trans m.2.1)) h q)))
end
section
variable {c:Cf}
theorem eq_51:Yq c [] fun k=>k:=fun env E r k g F h=>.pure ⟨g,rfl,Le.refl,r.lo,F,h⟩
theorem FlQ.up {env:Env} {r:zy} {lo:Lo} {k:Code} {fl:Flow} {g:G} (h:FlQ c env (r.at lo) k fl g):FlQ c env r k fl g:=h
theorem eq_32 {s:Stmt} {b:List Stmt} {F G:Code->Code} (hs:xQ c s F) (hb:Yq c b G):Yq c (s::b) fun k=>F (G k):=fun env E r k g At h=>by
 rw [execs_cons]
 refine .bm (hs env E r _ g At h) fun fl s z=>z.elim fun g1 z=>z.1▸z.2.2.elim fun lo q=>?_
 cases fl with
 | next=>exact (hb env E (r.at lo) k g1 q.1 q.2).mono fun _ _ p=>Ps.up z.2.1 (p.imp fun _ p=>⟨p.1,p.2.1,p.2.2.up⟩)
 | brk=>exact .pure ⟨g1,rfl,z.2.1,lo,q⟩
 | cont=>exact .pure ⟨g1,rfl,z.2.1,lo,q⟩
 | ret x=>exact .pure ⟨g1,rfl,z.2.1,lo,q⟩
theorem eq_193 {g:G} {v:V} {x:Value} (d:g.D v x) (h:zi9 v=true):∀a,x≠.ref a:=by
 cases v with
 | none=>exact fun a e=>nomatch (show x=.none from d).symm.trans e
 | bool b=>exact fun a e=>nomatch (show x=.bool b from d).symm.trans e
 | nd=>exact nomatch h
 | ref=>exact nomatch h
 | fn=>exact nomatch h
 | _=>exact fun a e=>d.elim fun _ d=>nomatch d.symm.trans e
theorem eq_46 {e:Expr} {p:Pos} {F:Code->Code} (hs:∀env,swapsWith e none p.line env=pure false) (he:yq c e F):xQ c (.Expr e p) fun k=>F (.drop k):=fun env E r k g At h=>by
 rw [exec_Expr env e p (by unfold interactive;rw [E.kind];rfl) (hs env)]
 refine .at (.bind ((he env E r _ [] g At h).go fun x g1 v l d q=>?_))
 have q:=(eq_909 (show ifb (zi9 v) (r.go k [] g1.H) False from q)).elim id fun z=>z.2.elim
 rw [dropValue_plain (eq_193 d q.1)]
 exact .pure ⟨g1,rfl,l.all,r.lo,At.st l,q.2⟩
theorem eq_216 {t:Expr} {a b:List Stmt} {p:Pos} {F A B:Code->Code} (ht:qf c t F) (ha:Yq c a A) (hb:Yq c b B):xQ c (.If t a b p) fun k=>F (.ite (A .n) (B .n) k):=fun env E r k g At h=>by
 rw [exec_If]
 refine .at (.bm (ht env E r _ [] g At h) fun x s z=>z.elim fun g1 z=>z.1▸?_)
 have out:∀{fl:Flow} {s:Shared},FlP c env g1 (r.sub k) .n fl s->FlP c env g r k fl s:=fun {fl s} p=>Exists.elim p fun g2 p=>⟨g2,p.1,z.2.1.all.trans p.2.1,p.2.2⟩
 have q:=eq_396 z.2.2
 cases x with
 | true=>exact (ha env E (r.sub k) .n g1 (At.st z.2.1) (q.elim (·.2) fun q=>nomatch q.1)).mono fun _ _=>out
 | false=>exact (hb env E (r.sub k) .n g1 (At.st z.2.1) (q.elim (fun q=>nomatch q.1) (·.2))).mono fun _ _=>out
theorem eq_95 {e:Expr} {p:Pos} {F:Code->Code} (he:yq c e F):xQ c (.Return (some e) p) fun _=>F .ret:=fun env E r k g At h=>by
 rw [exec_Return_some]
 exact .at (.bind ((he env E r .ret [] g At h).go fun x g1 v l d q=>.pure ⟨g1,rfl,l.all,r.lo,At.st l,v,d,q⟩))
theorem eq_44 {p:Pos}:xQ c (.Return none p) fun _=>.o (.cst .none) 0 .ret:=fun env E r k g F h=>.of (wpAny_Return_none ⟨g,rfl,Le.refl,r.lo,F,.none,rfl,h⟩)
theorem eq_144 {p:Pos}:xQ c (.Break p) fun _=>.brk:=fun env E r k g F h=>.of (wpAny_Break ⟨g,rfl,Le.refl,r.lo,F,h⟩)
theorem eq_103 {p:Pos}:xQ c (.Continue p) fun _=>.cnt:=fun env E r k g F h=>.of (wpAny_Continue ⟨g,rfl,Le.refl,r.lo,F,h⟩)
theorem zbT {s:Stmt}:xQ c s fun _=>.dead:=fun env E r k g F h=>h.elim
theorem eq_113 {b:List Stmt} {h0:ExceptHandler} {hs:List ExceptHandler} {p:Pos} {F:Code->Code} (hb:Yq c b F):xQ c (.Try b (h0::hs) [] [] p) F:=fun env E r k g At h=>by
 rw [arm_exec_Try]
 refine .at ?_
 unfold tryStmt
 refine .eq (if_pos rfl) ?_
 refine .bind (.att ((hb env E r k g At h).mono fun fl s z=>?_))
 cases fl<;>exact .pure z
end
def RQ (Q:Flow->Shared->Prop) (r:Result) (s:Shared):Prop:=Except.casesOn (motive:=fun _=>Prop) r (fun _=>False) fun f=>Q f s
def LpQ (Q:Flow->Shared->Prop) (I:Shared->Prop) (fl:Flow) (s:Shared):Prop:=Flow.casesOn (motive:=fun _=>Prop) fl (I s) (Q .next s) (I s) fun v=>Q (.ret v) s
theorem eq_64 {t:Expr} {b:List Stmt} {env:Env} {Q:Flow->Shared->Prop} {s:Shared} (I:Nat->Shared->Prop) (turn:∀n s,I n s->J A0 (isTrue t env (eval t env)) (fun c s=>Bool.casesOn (motive:=fun _=>Prop) c (Q .next s) (J A0 (execs b env) (LpQ Q fun s=>∃m,m < n/\I m s) s)) s) (n:Nat) (h:I n s) :
  JC A0 (.whileLoop t b [] env) (RQ Q) s:=by
 refine JC.loop rfl rfl I (fun n ih s hI=>?_) n s h
 show J A0 ((whileTurn t b [] env).onRaise (fun x=>do noteFrame x env;theTreesLotGoes x)) _ s
 refine .on (.bm (turn n s hI) fun c s h=>?_)
 cases c with
 | false=>exact .bind (.pure (.pure h))
 | true=>
  refine .bm h fun fl s h=>?_
  cases fl with
  | next=>exact .pure ⟨rfl,rfl,h.elim fun m h=>ih m _ h.1 h.2⟩
  | cont=>exact .pure ⟨rfl,rfl,h.elim fun m h=>ih m _ h.1 h.2⟩
  | brk=>exact .pure h
  | ret v=>exact .pure h
def ForT (I:Nat->Shared->Prop) (t:Expr) (b:List Stmt) (it:Value) (env:Env) (Q:Flow->Shared->Prop) (n:Nat) (r:Option Value) (s:Shared):Prop:=Option.casesOn (motive:=fun _=>Prop) r (Q .next s) fun v=>
 J A0 (letOwnedTupleGo t it v) (fun _ s=>J A0 (assign t env v) (fun _ s=>J A0 (execs b env) (LpQ Q fun s=>∃m,m < n/\I m s) s) s) s
theorem eq_187 {t:Expr} {b:List Stmt} {it:Value} {env:Env} {Q:Flow->Shared->Prop} {s:Shared} (I:Nat->Shared->Prop) (turn:∀n s,I n s->J A0 (pyNext it) (ForT I t b it env Q n) s) (n:Nat) (h:I n s):JC A0 (.forLoop t it b [] env) (RQ Q) s:=by
 refine JC.loop rfl rfl I (fun n ih s hI=>?_) n s h
 show J A0 ((forTurn t it b [] env).onRaise (fun x=>do noteFrame x env;theTreesLotGoes x)) _ s
 refine .on (.at (.bm (.on (turn n s hI)) fun r s h=>?_))
 cases r with
 | none=>exact .pure ⟨rfl,rfl,JC.tree (show J A0 (do return Fin.done (← (execs [] env).onRaise (fun x=>do noteFrame x env;theTreesLotGoes x))) _ s from .bm (.on (.pure h)) fun _ _ h=>.pure h)⟩
 | some v=>
  refine .bm h fun _ _ h=>.bm h fun _ _ h=>.bm h fun fl s h=>?_
  cases fl with
  | next=>exact .pure ⟨rfl,rfl,h.elim fun m h=>ih m _ h.1 h.2⟩
  | cont=>exact .pure ⟨rfl,rfl,h.elim fun m h=>ih m _ h.1 h.2⟩
  | brk=>exact .pure h
  | ret v=>exact .pure h
theorem eq_576 {c:PySem.Code} {env:Env} {Q:Flow->Shared->Prop} {s:Shared} (hd:qL c=false) (h:JC A0 c (RQ Q) s):J A0 (runOwn c env) Q s:=.on (.run hd h)
section
variable {c:Cf}
def WhV (r:zy) (k F B:Code) (m:Nat) (lo:Lo) (H:Hp):Prop:=Qz (fun lo H K=>Rc xX F [] lo H K noJ) (fun lo H K J=>Rc xX B [] lo H K J) (fun lo H=>Rc xX k [] lo H r.K r.J) r.J m lo H
def zy.lp (r:zy) (k:Code) (A:Lo->Hp->Prop):zy:={ r with K:=fun _=>A,J:=lpJ A (fun lo H=>Rc xX k [] lo H r.K r.J) r.J }
theorem eq_559 {env:Env} {r:zy} {k:Code} {A:Lo->Hp->Prop} {g1:G} {I:Shared->Prop} {lo0:Lo} (hI:∀g2,Le (Xe env) g1 g2->(∃lo,At c env lo g2/\A lo g2.H)->I g2.s) {Q:Flow->Shared->Prop} (hQ:∀fl g2,Le (Xe env) g1 g2->FlQ c env r k fl g2->Q fl g2.s) {fl:Flow} {s:Shared}
  (h:FlP c env g1 ((r.at lo0).lp k A) .n fl s):LpQ Q I fl s:=Exists.elim h fun g2 h=>h.1▸by
 cases fl with
 | next=>exact hI g2 h.2.1 h.2.2
 | cont=>exact hI g2 h.2.1 h.2.2
 | brk=>exact hQ .next g2 h.2.1 h.2.2
 | ret x=>exact hQ (.ret x) g2 h.2.1 h.2.2
theorem eq_112 {t:Expr} {b:List Stmt} {p:Pos} {F B:Code->Code} (ht:qf c t F) (hb:Yq c b B):xQ c (.While t b [] p) fun k=>.whl (F .n) (B .n) k:=fun env E r k g At h=>by
 rw [exec_While]
 refine .at (eq_576 rfl (Exists.elim h fun m h=>?_))
 refine eq_64 (fun m s=>∃g1:G,g1.s=s/\Le (Xe env) g g1/\∃lo,Mine.At c env lo g1/\WhV r k (F .n) (B .n) m lo g1.H) (fun m s z=>z.elim fun g1 z=>z.1▸z.2.2.elim fun lo q=>?_) m ⟨g,rfl,Le.refl,r.lo,At,h⟩
 cases m with
 | zero=>exact q.2.elim
 | succ m=>
  refine (ht env E ⟨lo,fun st _ H1=>h1 st fun c=>ob (asB c) fun c=>ifb c (Rc xX (B .n) [] lo H1 (fun _=>WhV r k (F .n) (B .n) m) (lpJ (WhV r k (F .n) (B .n) m) (fun lo H=>Rc xX k [] lo H r.K r.J) r.J)) (Rc xX k [] lo H1 r.K r.J),noJ⟩ .n [] g1 q.1 q.2).mono fun x s w=>w.elim fun g2 w=>w.1▸?_
  have L:=z.2.1.trans w.2.1.all
  have w2:=eq_909 (show ifb x _ _ from w.2.2)
  cases x with
  | false=>exact ⟨g2,rfl,L,lo,q.1.st w.2.1,w2.elim (fun q=>nomatch q.1) (·.2)⟩
  | true=>exact (hb env E ((r.at lo).lp k (WhV r k (F .n) (B .n) m)) .n g2 (q.1.st w.2.1) (w2.elim (·.2) fun q=>nomatch q.1)).mono fun fl s h=>eq_559 (fun g3 l3 h=>⟨m,Nat.lt_succ_self m,g3,rfl,L.trans l3,h⟩) (fun fl g3 l3 h=>⟨g3,rfl,L.trans l3,h⟩) h
end
theorem Le.cut {X wr:List Addr} {g g1:G} (L:Le (X++wr) g g1) (n:∀a∈wr,g.κ a=.no):Le X g g1:=⟨L.k,L.f,fun a e m=>L.p a e fun q=>(List.mem_append.mp q).elim m fun q=>zF e (n a q),L.l,L.m⟩
structure Lp where
 cf:Cf
 env:Env
 r:zy
 k:Code
 B:Code
 b:List Stmt
 tgt:List Nat
 t:Expr
 l:List V
 src:Option Nat
 g0:G
 wr:List Addr
 St:Sts
 it:Value
 tup:Bool
namespace Lp
section
variable (p:Lp)
def F (l:List V) (lo:Lo) (H:Hp):Prop:=jy (x8 p.tgt) (fun lo H K J=>Rc xX p.B [] lo H K J) (gd p.src p.l) (fun lo H=>Rc xX p.k [] lo H p.r.K p.r.J) p.r.J l lo H
def S (A:Lo->Hp->Prop) (g:G):Prop:=∃lo,Mine.At p.cf p.env lo g/\A lo g.H
structure At (i:Nat) (g:G):Prop where
 le:Le (Xe p.env++p.wr) p.g0 g
 st:p.St i g
 F:p.S (p.F (p.l.drop i)) g
 hi:i<=p.l.length
structure Ok:Prop where
 I:Itr p.it p.wr p.l p.src p.tup p.St
 E:Fr p.cf p.env
 xe:∀a∈Xe p.env,a∉p.wr
 n0:∀a∈p.wr,p.g0.κ a=.no
 ht:Tgt (Wn p.cf) p.t p.tgt
 tp:p.tup=true->Nat.blt 1 p.tgt.length=true
 hb:∀(r:zy) (g:G),Mine.At p.cf p.env r.lo g->r.go p.B [] g.H->J A0 (execs p.b p.env) (FlP p.cf p.env g r .n) g.s
def I (m:Nat) (s:Shared):Prop:=∃i g,g.s=s/\m=p.l.length+1 - i/\p.At i g
end
variable {p:Lp} {i:Nat} {g:G}
theorem again (hi:i < p.l.length) (h:p.At (i+1) g):∃m,m < p.l.length+1 - i/\p.I m g.s:=⟨_,Nat.sub_lt_sub_left (Nat.lt_succ_of_lt hi) (Nat.lt_succ_self i),i+1,g,rfl,rfl,h⟩
abbrev Q (p:Lp) (g:G):Flow->Shared->Prop:=FlP p.cf p.env g p.r p.k
theorem turn (O:p.Ok) {gb:G} (L0:Le [] gb p.g0) (h:p.At i g):J A0 (pyNext p.it) (ForT p.I p.t p.b p.it p.env (p.Q gb) (p.l.length+1 - i)) g.s:=h.F.elim fun lo F=>by
 by_cases e:i=p.l.length
 ·subst e
  have r:p.F [] lo g.H:=List.drop_length▸F.2
  have r:=eq_760 r
  exact .of (wpAny_mono (O.I.fin h.st r.1) (fun x s z=>z.1▸z.2.elim fun g1 z=>⟨g1,z.1,L0.all.trans (z.2.le O.n0 h.le),lo,F.1.dr z.2 O.xe,z.2.H▸r.2⟩) fun _ _ q=>q)
 ·have hlt:i < p.l.length:=Nat.lt_of_le_of_ne h.hi e
  have r:p.F (p.l[i]::p.l.drop (i+1)) lo g.H:=List.drop_eq_getElem_cons hlt▸F.2
  have r:=eq_760 r
  refine (yg r.2).elim fun lo1 r2=>.of (wpAny_mono (O.I.next i _ g p.t (List.getElem?_eq_getElem hlt) h.st r.1 (O.ht.tg O.tp)) (fun _ s z=>z.elim fun x z=>z.1▸.of (wpAny_mono z.2 (fun _ s z=>z.elim fun g1 z=>z.1▸?_) fun _ _ q=>q)) fun _ _ q=>q)
  obtain ⟨rfl,l1,e1,d1,st1⟩:=z
  refine .of (wpAny_mono (eq_616 O.E (F.1.step l1 O.xe) (O.ht.up fun _ h=>h.tn O.E) d1 r2.1) (fun _ s z=>z.elim fun g2 z=>z.1▸?_) fun _ _ q=>q)
  obtain ⟨rfl,l2,F2,e2⟩:=z
  have L:Le (Xe p.env++p.wr) p.g0 g2:=(h.le.trans (l1.wide fun a m=>List.mem_append_right _ m)).trans (l2.wide fun a m=>List.mem_append_left _ m)
  have st2:=O.I.keep _ _ _ _ st1 l2 O.xe
  exact (O.hb ((p.r.at lo1).lp p.k (p.F (p.l.drop (i+1)))) g2 F2 (by rw [e2,e1];exact r2.2)).mono fun fl s h=>eq_559 (fun g3 l3 q=>again hlt ⟨L.trans (l3.wide fun a m=>List.mem_append_left _ m),O.I.keep _ _ _ _ st2 l3 O.xe,q,hlt⟩)
   (fun fl g3 l3 q=>⟨g3,rfl,L0.all.trans ((L.trans (l3.wide fun a m=>List.mem_append_left _ m)).cut O.n0),q⟩) h
end Lp
theorem eq_550 {r:zy} {k B:Code} {tgt:List Nat} {md:Bool} {v:V} {H:Hp} (h:r.go (.for md tgt B k) [v] H):∃p,itX (Nat.blt 1 tgt.length) md v H=some p/\p.1.length<=1000000/\
  jy (x8 tgt) (fun lo H K J=>Rc xX B [] lo H K J) (gd p.2 p.1) (fun lo H=>Rc xX k [] lo H r.K r.J) r.J p.1 r.lo H:=
 (yg (show ob (itX (Nat.blt 1 tgt.length) md v H) fun p=>wh (p.1.length<=1000000) (Hold (jy (x8 tgt) (fun lo H K J=>Rc xX B [] lo H K J) (gd p.2 p.1) (fun lo H=>Rc xX k [] lo H r.K r.J) r.J p.1 r.lo H)) from h)).imp fun _ q=>⟨q.1,(eq_900 q.2).1,(eq_900 q.2).2.p⟩
theorem eq_100 {c:Cf} {t e:Expr} {b:List Stmt} {p:Pos} {md:Bool} {tgt:List Nat} {A B:Code->Code} (hit:zeh c e md A) (hfs:∀env x,foldedSetIterable e env x=pure x) (ht:Tgt (Wn c) t tgt) (hb:Yq c b B):xQ c (.For t e b [] p) fun k=>A (.for md tgt (B .n) k):=fun env E r k g F h=>by
 rw [arm_exec_For]
 refine .at (.bm (hit env E r (.for md tgt (B .n) k) [] g (Nat.blt 1 tgt.length) F (fun v H q=>(eq_550 q).imp fun _ z=>z.1) h) fun x s z=>.bind (.eq (hfs env x) (.pure (.at (.bind (.hold ?_))))))
 obtain ⟨g1,v,pp,tup,l1,e1,htp,q,I⟩:=z
 obtain ⟨q1,hq1,hlen,q⟩:=eq_550 q
 obtain rfl:=Option.some.inj (hq1.symm.trans e1)
 refine .of (wpAny_mono I (fun iv s I=>?_) fun _ _ q=>q)
 obtain ⟨wr,St,I,n0,g2,rfl,l2,e2,st2⟩:=I
 have F1:=F.st l1
 have xe:∀a∈Xe env,a∉wr:=fun a m w=>zF (F1.pr a m) (n0 a w)
 have O:Lp.Ok ⟨c,env,r,k,B .n,b,tgt,t,q1.1,q1.2,g1,wr,St,iv,tup⟩:=⟨I,E,xe,n0,ht,htp,fun r g F h=>hb env E r .n g F h⟩
 exact eq_576 rfl (eq_187 (Lp.I _) (fun m s h=>h.elim fun i h=>h.elim fun g h=>h.1▸h.2.1▸Lp.turn O l1 h.2.2) _ ⟨0,g2,rfl,rfl,l2.all,st2,⟨r.lo,F1.st l2,e2.symm▸q⟩,Nat.zero_le _⟩)
noncomputable def flR (fl:Flow):Value:=Flow.casesOn (motive:=fun _=>Value) fl .none .none .none fun v=>v
theorem eq_157 {A:Around} {body:List Stmt} {env:Env} {R:Result->Shared->Prop} {s:Shared} (h:J (A.deeper env) (execs body env) (fun f s'=>R (.ok (.ret (flR f))) s') s):JC A (.func body env) R s:=by
 refine JC.tree ?_
 show J (A.deeper env) (do point;match ← (execs body env).onRaise (leaving env) with | .ret v=>ret v | _=>ret .none) _ s
 refine .bind (.of (wpAny_point ?_))
 exact fun Γ p hΓ hk=>J.bm (.on h) (fun f s' h'=>by cases f<;>exact .pure h') Γ p hΓ hk
theorem eq_158 {A:Around} {a:Addr} {args:Args} {o:Obj} {fd:FuncData} {body:List Stmt} {R:Result->Shared->Prop} {s:Shared} (hroom:A.depth < recursionLimit) (ho:s.heap.get? a=some o)
  (hd':o.data=.func fd) (hco:fd.scope.isCoroutine=false) (hgen:fd.scope.isGenerator=false) (hbody:fd.body=.stmts body) (hcd:s.heap.CodeRec fd.code fd.qualname)
  (h:J A.in1 (bindArgs fd args) (fun binds s1=>J A.in1 (newFunctionEnv fd.scope fd.globals fd.closure binds (fd.qualname++".<locals>.") (some a) fd.code none fd.builtins) (fun env s2=>s2.heap.NoLimit/\JC A (.func body env) R s2) s1) s):JC A (.call (.ref a) args) R s:=by
 refine JC.tree ?_
 show J A.in1 (callAny (.ref a) args) _ s
 unfold callAny
 dsimp only
 refine .bind (.of (wpAny_load ho ?_))
 obtain ⟨c,oc,vs,tq,hc,hoc,hdc,hq⟩:=hcd
 rw [hd']
 dsimp only
 unfold callFunction
 rw [hco,hgen,hbody]
 dsimp only
 rw [hc]
 rw [hc] at h
 refine .bind (m:=field (.ref c) 1) (.of (wpAny_field hoc hdc hq (.bind (.pure ?_))))
 exact .bm h fun binds s1 h=>.bm h fun env s2 h=>.bind (.of (wpAny_enterFrame h.1 hroom (J.pure ⟨rfl,rfl,h.2⟩)))
theorem eq_710 {kf:Str->Option NameKind}:∀{bs:List (Str×Value)} {m:Str->Option Value} {n:Str},n∉bs.map (·.1)->PySem.bindL kf bs m n=m n
 | [],_,_=>fun _=>rfl
 | (a,v)::r,m,n=>fun h=>by
  rw [List.map_cons,List.mem_cons,not_or] at h
  unfold PySem.bindL
  rw [eq_710 h.2]
  split
  ·exact if_neg h.1
  ·rfl
theorem eq_711 {kf:Str->Option NameKind}:∀{bs:List (Str×Value)} {m:Str->Option Value} {n:Str},n∉bs.map (·.1)->PySem.bindC kf bs m n=m n
 | [],_,_=>fun _=>rfl
 | (a,v)::r,m,n=>fun h=>by
  rw [List.map_cons,List.mem_cons,not_or] at h
  unfold PySem.bindC
  rw [eq_711 h.2]
  split
  ·rfl
  ·exact if_neg h.1
theorem eq_692 {kf:Str->Option NameKind}:∀{bs:List (Str×Value)} {m:Str->Option Value} {n:Str} {x:Value},(bs.map (·.1)).Nodup->(n,x)∈bs->kf n=some .local->PySem.bindL kf bs m n=some x
 | [],_,_,_=>fun _ h=>nomatch h
 | (a,v)::r,m,n,x=>fun nd h hk=>by
  have nd:=List.nodup_cons.mp nd
  unfold PySem.bindL
  cases h with
  | head=>rw [if_pos hk,eq_710 nd.1,if_pos rfl]
  | tail _ h=>exact eq_692 nd.2 h hk
theorem eq_693 {kf:Str->Option NameKind}:∀{bs:List (Str×Value)} {m:Str->Option Value} {n:Str} {x:Value},(bs.map (·.1)).Nodup->(n,x)∈bs->kf n=some .cell->PySem.bindC kf bs m n=some x
 | [],_,_,_=>fun _ h=>nomatch h
 | (a,v)::r,m,n,x=>fun nd h hk=>by
  have nd:=List.nodup_cons.mp nd
  unfold PySem.bindC
  cases h with
  | head=>rw [if_neg (by rw [hk];exact fun q=>nomatch q),eq_711 nd.1,if_pos rfl]
  | tail _ h=>exact eq_693 nd.2 h hk
theorem eq_853 {α:Type}:∀{l:List (Str×α)} {n:Str} {a:α},(l.map (·.1)).Nodup->(n,a)∈l->l.lookup n=some a
 | [],_,_=>fun _ h=>nomatch h
 | (k,v)::r,n,a=>fun nd h=>by
  have nd:=List.nodup_cons.mp nd
  rw [List.lookup_cons]
  cases h with
  | head=>rw [beq_self_eq_true]
  | tail _ h=>
   rw [beq_eq_false_iff_ne.mpr fun e=>nd.1 (List.mem_map.mpr ⟨(n,a),h,e⟩)]
   exact eq_853 nd.2 h
theorem eq_780:∀(names:List (Str×NameKind)) (n:Nat) (acc:List (Str×Addr)),(names.map (·.1)).Nodup->(acc.map (·.1)).Nodup->(∀x∈names,x.1∉acc.map (·.1))->((cellsFrom n names acc).map (·.1)).Nodup/\(∀q∈acc,q∈cellsFrom n names acc)/\∀x,(x,NameKind.cell)∈names->∃a,(x,a)∈cellsFrom n names acc
 | [],_,acc=>fun _ h _=>⟨h,fun _=>id,nofun⟩
 | (name,kind)::r,n,acc=>fun h1 h2 h3=>by
  have h1:=List.nodup_cons.mp h1
  unfold cellsFrom
  by_cases h:(kind == NameKind.cell)=true
  ·rw [if_pos h]
   have ih:=eq_780 r (n+1) ((name,n)::acc) h1.2 (List.nodup_cons.mpr ⟨h3 _ (.head _),h2⟩) fun x m q=>(List.mem_cons.mp q).elim (fun e=>h1.1 (e▸List.mem_map.mpr ⟨x,m,rfl⟩)) (h3 x (.tail _ m))
   exact ⟨ih.1,fun q m=>ih.2.1 q (.tail _ m),fun x m=>(List.mem_cons.mp m).elim (fun e=>⟨n,ih.2.1 _ ((Prod.mk.inj e).1▸.head _)⟩) (ih.2.2 x)⟩
  ·rw [if_neg h]
   have ih:=eq_780 r n acc h1.2 h2 fun x m=>h3 x (.tail _ m)
   exact ⟨ih.1,ih.2.1,fun x m=>(List.mem_cons.mp m).elim (fun e=>(h (beq_iff_eq.mpr (congrArg Prod.snd e).symm)).elim) (ih.2.2 x)⟩
theorem eq_678 {g:G}:∀{pn:List Str} {vs:List V} {ys:List Value} {j:Nat} {v:V},(∀x∈pn,asc x=true)->g.DL vs ys->zP (pn.map xE) vs j=some v->∃x y,(x,y)∈pn.zip ys/\Nm x j/\g.D v y
 | [],_,_,_,_=>fun _ _=>zl
 | _::_,[],_,_,_=>fun _ _=>zl
 | x::pn,u::vs,_,j,v=>fun ha d h=>by
  obtain ⟨y,ys,rfl,dy,r⟩:=d
  have h:(bif decide (xE x=j) then some u else zP (pn.map xE) vs j)=some v:=h
  by_cases e:xE x=j
  ·rw [decide_eq_true e] at h
   exact ⟨x,y,.head _,⟨ha x (.head _),e⟩,Option.some.inj h▸dy⟩
  ·rw [decide_eq_false e] at h
   exact (eq_678 (fun x m=>ha x (.tail _ m)) r h).imp fun _=>.imp fun _ z=>⟨.tail _ z.1,z.2⟩
theorem eq_663:∀(pn:List Str) (ys:List Value),List.Sublist ((pn.zip ys).map (·.1)) pn
 | [],_=>.slnil
 | _::_,[]=>List.nil_sublist _
 | x::pn,_::ys=>(eq_663 pn ys).cons_cons x
structure FnR (f:Addr) (k:Nat) (pn:List Str) (dv:List V) (c:Cf) (body:List Stmt):Prop where
 nd:pn.Nodup
 asc:∀x∈pn,Mine.asc x=true
 snd:(c.1.map (·.1)).Nodup
 kind:∀x∈pn,Wn c x
 obj:∃o fd,zC.get? f=some o/\o.data=.func fd/\fd.body=.stmts body/\fd.scope.names=c.1/\fd.scope.kind=.function/\fd.scope.isGenerator=false/\fd.scope.isCoroutine=false/\fd.globals=mainGlobals/\fd.builtins=builtinsNs/\fd.closure=[]/\zC.CodeRec fd.code fd.qualname/\
  ∀xs:List Value,xs.length=k->∃ds:List Value,(∀g:G,g.DL dv ds)/\∀s:Shared,(∀b o,zC.get? b=some o->s.heap.get? b=some o)->BindsTo s fd ⟨xs,[]⟩ (pn.zip (xs++ds))
def xf (fv:Value) (sp:zG):Prop:=∀(A:Around) (g:G) (vs:List V) (xs:List Value) (Q:QE),A.handled=none->A.guards=some []->A.depth+1<=980 - 2 * m0->A.units+3<=9000 - 60 * m0->g.DL vs xs->sp vs g.H Q->JC A (.call fv ⟨xs,[]⟩) (Rt (Ps [] g (qP Q))) g.s
theorem eq_180 (g:G):∀b o,zC.get? b=some o->g.s.heap.get? b=some o:=fun b o h=>(g.ok.top b o h).2
theorem eq_67 {g:G} {env:Env} {s1:Shared} {m cm:Str->Option Value} (x:InCallC g.s env.locals m env.cells cm s1) (nd:(env.cells.map (·.1)).Nodup):∃gB:G,gB.s=s1/\Le [] g gB/\gB.H=g.H/\(∀a∈Xe env,g.κ a=.no)/\∀a∈Xe env,gB.κ a=.pr:=by
 obtain ⟨h1,tk,rfl,hk⟩:=x.done
 have no:∀a∈Xe env,g.κ a=.no:=fun a m=>eq_830 ((List.mem_cons.mp m).elim (fun e=>e▸x.toInCall.fresh) fun m=>(List.mem_map.mp m).elim fun (q:Str×Addr) z=>(z.2:q.2=a)▸Nat.le_trans x.toInCall.fresh (Nat.le_of_lt (x.above q.1 q.2 z.1)))
 have lv:∀a∈Xe env,h1.get? a≠none:=fun a m=>(List.mem_cons.mp m).elim (fun e=>e▸Exists.elim x.toInCall.ns fun _ q=>q.elim fun _ q=>q.elim fun _ q z=>nomatch z.symm.trans q.1)
  fun m=>(List.mem_map.mp m).elim fun (q:Str×Addr) z=>(z.2:q.2=a)▸Exists.elim (x.cell q.1 q.2 (eq_853 nd z.1)) fun _ q z=>nomatch z.symm.trans q.1
 exact (YP (tk:=tk) no lv hk).imp fun gB z=>⟨z.1,z.2.1,z.2.2.1,no,z.2.2.2⟩
theorem eq_275 {env:Env} {c:Cf} {g gB:G} {lo:Lo} {Q:QE} (L:Le [] g gB) (no:∀a∈Xe env,g.κ a=.no) {fl:Flow} {s:Shared} (h:FlP c env gB ⟨lo,kN Q,jR Q⟩ .n fl s):Ps [] g (qP Q) (flR fl) s:=
 Exists.elim h fun g2 h=>h.1▸h.2.2.elim fun lo2 q=>by
  have L2:Le [] g g2:=(L.all.trans h.2.1).cut (X:=[]) no
  cases fl with
  | ret y=>exact q.2.elim fun v q=>⟨g2,rfl,L2,v,q.1,q.2⟩
  | next=>exact ⟨g2,rfl,L2,.none,rfl,q.2⟩
  | brk=>exact q.2.elim
  | cont=>exact q.2.elim
theorem eq_317 {a:Addr} {k:Nat} {pn:List Str} {dv:List V} {c:Cf} {body:List Stmt} {F:Code->Code} (nolim:zC.NoLimit) (R:FnR a k pn dv c body) (S:Yq c body F):xf (.ref a) (fnS xX k (pn.map xE) dv (F .n)):=fun A g vs xs Q e1 e2 e3 e4 d h=>by
 obtain ⟨hk,h⟩:=(eq_909 h).elim id fun z=>z.2.elim
 obtain ⟨o,fd,ho,hd,hb,hnames,fk,hge,hco,hg,hbi,hcl,hcd,hbd⟩:=R.obj
 have tk:=eq_180 g
 obtain ⟨ds,dd,hbind⟩:=hbd xs ((zf d).trans (Nat.eq_of_beq_eq_true hk))
 have dall:=eq_895 (dd g) d
 have bnd:((pn.zip (xs++ds)).map (·.1)).Nodup:=(eq_663 _ _).nodup R.nd
 have bm:∀y∈pn.zip (xs++ds),y.1∈pn:=fun y m=>(List.of_mem_zip (a:=y.1) (b:=y.2) m).1
 have C:=eq_780 fd.scope.names (g.s.heap.objs.size+1) [] (hnames▸R.snd) .nil fun _ _=>nofun
 have cmem:∀x,c.1.lookup x=some .cell->∃a,(cellsFrom (g.s.heap.objs.size+1) fd.scope.names []).lookup x=some a:=fun x hx=>(C.2.2 x (hnames▸zw hx)).imp fun a m=>eq_853 C.1 m
 refine eq_158 (Nat.lt_of_lt_of_le (Nat.lt_of_succ_le e3) (Nat.le_trans (Nat.sub_le _ _) (by decide))) (tk a o ho) hd hco hge hb (hcd.keeps tk) (.of (hbind g.s tk _ _ _ _ ?_))
 rw [hcl]
 refine .of (wpAny_newFunctionEnv_cells fk (fun x hx=>?_) fun env he s1 x=>?_)
 ·rw [hnames]
  exact (R.kind x.1 (bm x hx)).imp id fun q=>⟨q,(hnames▸cmem x.1 q).elim fun a e=>e▸rfl⟩
 refine ⟨(nolim.keeps tk).keeps x.toInCall.keep,eq_157 ?_⟩
 have hcells:env.cells=cellsFrom (g.s.heap.objs.size+1) fd.scope.names []:=he▸rfl
 have esc:env.scope=fd.scope:=he▸rfl
 have ek:∀y,env.kindOf y=c.1.lookup y:=fun y=>by unfold Env.kindOf;rw [esc,hnames]
 obtain ⟨gB,rfl,L,eH,no,pr⟩:=eq_67 x (hcells▸C.1)
 have E:Fr c env:=⟨esc▸fk,(he▸rfl:env.globals=fd.globals).trans hg,(he▸rfl:env.builtins=fd.builtins).trans hbi,esc▸hnames,fun y hy=>hcells▸cmem y hy,fun y z a h1 h2=>name_of_addr x.apart (mem_of_lookup h1) (mem_of_lookup h2)⟩
 have FA:At c env (fun j=>zP (pn.map xE) (vs++dv) j) gB:=⟨pr,⟨_,x.toInCall.ns⟩,fun p hp=>⟨_,x.cell p.1 p.2 (eq_853 (hcells▸C.1) hp)⟩,fun j v hj=>Exists.elim (eq_678 R.asc dall hj) fun n z=>z.elim fun y z=>
  ⟨n,y,z.2.1,(R.kind n (bm _ z.1)).imp (fun q=>⟨q,_,x.toInCall.ns,eq_692 bnd z.1 ((ek n).trans q)⟩) (fun q=>⟨q,(E.has n q).imp fun a ha=>⟨ha,eq_693 bnd z.1 ((ek n).trans q)▸x.cell n a ha⟩⟩),L.den z.2.2⟩⟩
 have r:=S env E ⟨fun j=>zP (pn.map xE) (vs++dv) j,kN Q,jR Q⟩ .n gB FA (eH.symm▸h)
 exact (J.le (A:=A.deeper env) r e1 e3 e2 e4).mono fun fl s q=>eq_275 L no q
def IniQ (x:Value) (R:Value->Shared->Prop) (v:Value) (s:Shared):Prop:=v=.none/\R x s
theorem eq_703 {A:Around} {id:String} {args:Args} {b:Builtin} {R:Result->Shared->Prop} {s:Shared} (hb:entryFor table id=some b) (h:J (A.under (.builtin id args)) (b args) (Fn A R) s):JC A (.builtin id args) R s:=by
 refine JC.tree ?_
 show J _ (match entryFor table id with | some b=>b args | none=>unsupported ((withoutEnding? id "#data").getD id)) _ s
 rw [hb]
 exact h
theorem eq_794 {A:Around} {id:String} {args:Args} {b:Builtin} {R:Result->Shared->Prop} {s:Shared} (hq:(PySem.Code.builtin id args).quiet=true) (hn:Builtin.Bytes.decodersThatHold.contains id=false) (hb:entryFor table id=some b)
  (h:J A.in1 (checkBuiltinCall id args) (fun _ s1=>J (A.under (.builtin id args)) (b args) (Fn A R) s1) s):JC A (.call (.builtin id) args) R s:=by
 refine JC.tree ?_
 show J A.in1 (do checkBuiltinCall id args;again (.builtin id args)) _ s
 exact .bm h fun _ s1 h=>.pure ⟨hq,hn,eq_703 hb h⟩
theorem eq_347 {A:Around} {g:G} {C:Addr} {rest:List Value} {init:Value} {R:Value->Shared->Prop} (Y:Makes M0 g.s.heap C) (hi:Looks M0 g.s.heap (typeLookup (.ref C) "__init__") (some init))
  (hb:∀self,Looks M0 g.s.heap (bindSpecial init self) (init,[self])) (hne:(some init != some (Value.builtin "object.__init__"))=true∨(rest=[]/\([]:List (Str×Value))=[]))
  (hq:JC (A.under (.builtin "type.__call__" ⟨.ref C::rest,[]⟩)) (.call init ⟨.ref (g.s.heap.objs.size+1)::rest,[]⟩) (Rt (IniQ (.ref (g.s.heap.objs.size+1)) R)) { g.s with heap:=(g.s.heap.push emptyDict).push (instObj C g.s.heap.objs.size) }) :
  JC A (.call (.ref C) ⟨rest,[]⟩) (Rt R) g.s:=by
 have Y':=Y
 obtain ⟨⟨oc,od,cd,sl,hC,e1,e2,e4⟩,made,base,self,top,call,typ⟩:=Y
 refine JC.tree ?_
 show J _ (callAny (.ref C) _) _ _
 unfold callAny
 dsimp only
 refine .bind (.of (wpAny_load hC ?_))
 show J _ (callAny.viaDunder (.ref C) _) _ _
 unfold callAny.viaDunder
 refine .bind (.of (call.at ?_))
 dsimp only
 rw [tc_bind]
 refine .bind (.pure (.bind (.pure ?_)))
 refine J.pure (a:=Fin.again (.call (.builtin "type.__call__") ⟨.ref C::rest,[]⟩)) ⟨rfl,rfl,eq_794 (PySem.Code.quiet_builtin _ (by decide +kernel)) (by decide +kernel) entry_typeCall (.of (check_slot tc_kind tc_split typ (tc_args _ _ _) ?_))⟩
 have hm:Looks M0 g.s.heap (mroOf (.ref C)) cd.mro:=((Looks.ld (part:=none) hC).andThen .now).andThen .now
 unfold Builtin.«type.__call__»
 dsimp only
 rw [show (Value.ref C == Value.type "type")=false by simp]
 refine .eq (if_neg Bool.false_ne_true) ?_
 refine .bind (.of (hm.at ?_))
 rw [e4]
 refine .eq (if_neg Bool.false_ne_true) ?_
 refine .bind (.of (made.at ?_))
 dsimp only
 refine .bind (.pure (.bind (.hold (.of (wpAny_call (new_K Y' hi hne ?_))))))
 have k:∀b o,g.s.heap.get? b=some o->((g.s.heap.push emptyDict).push (instObj C g.s.heap.objs.size)).get? b=some o:=fun b o e=>Heap.get?_push_of_some _ (Heap.get?_push_of_some _ e)
 have hx:((g.s.heap.push emptyDict).push (instObj C g.s.heap.objs.size)).get? (g.s.heap.objs.size+1)=some (instObj C g.s.heap.objs.size):=by heap_get
 have t1:Looks M0 ((g.s.heap.push emptyDict).push (instObj C g.s.heap.objs.size)) (typeOf (.ref (g.s.heap.objs.size+1))) (.ref C):=(Looks.ld hx).andThen .now
 have inst:Looks M0 ((g.s.heap.push emptyDict).push (instObj C g.s.heap.objs.size)) (isInstance (.ref (g.s.heap.objs.size+1)) (.ref C)) true:=t1.andThen (self.keeps k)
 have spec:Looks M0 ((g.s.heap.push emptyDict).push (instObj C g.s.heap.objs.size)) (specialOf (.ref (g.s.heap.objs.size+1)) "__init__") (some init):=t1.andThen (hi.keeps k)
 dsimp only
 refine .bind (.of (inst.at ?_))
 refine .eq (if_neg Bool.false_ne_true) ?_
 refine .bind (.hold ?_)
 unfold callSpecial?
 refine .bind (.of (spec.at ?_))
 dsimp only
 refine .hold (.bind (.of (((hb (.ref (g.s.heap.objs.size+1))).keeps k).at ?_)))
 dsimp only
 exact .bind (.call (hq.mono fun r s' z=>by
  rcases r with e | (_ | _ | _ | v)<;>first | exact z | exact z.elim | skip
  obtain ⟨rfl,z⟩:=z
  exact J.pure (J.pure z)))
def zA (fv:Value) (sp:zG):Prop:=∀(A:Around) (g:G) (vs:List V) (xs:List Value) (Q:QE),A.handled=none->A.guards=some []->A.depth+2<=980 - 2 * m0->A.units+9<=9000 - 60 * m0->g.DL vs xs->sp vs g.H Q->J A (PySem.call fv xs) (Ps [] g (qP Q)) g.s
theorem xf.call {fv:Value} {sp:zG} (h:xf fv sp):zA fv sp:=fun A g vs xs Q e1 e2 e5 e6 d q=>J.call (h A g vs xs Q e1 e2 (Nat.le_of_succ_le e5) (Nat.le_trans (Nat.add_le_add_left (show 3<=9 by decide) A.units) e6) d q)
theorem eq_192 {g:G} {v:V} {x:Value} (h:QU v=true) (d:g.D v x):x=.none:=by
 cases v with
 | none=>exact d
 | _=>exact nomatch h
theorem eq_121 {C fI:Addr} {sp:zG} (X:(kF w0.params).In zC) (hm:makesIn (kF w0.params) C=true) (hi:findIn (kF w0.params) (.ref C) "__init__"=some (some (.ref fI))) (hf:typeIn (kF w0.params) (.ref fI)=some (.type "function")) (h:xf (.ref fI) sp):zA (.ref C) (mkS C sp):=fun A g vs xs Q e1 e2 e5 e6 d hs=>by
 have hs:=Eq.mp (eq_750 (β:=Prop)) (show Qx g.H (.nd (.ins C []) []) 0 (fun m H=>sp (.ref m::vs) H fun v H=>ifb (QU v) (Q (.ref m) H) False) from hs)
 have X:=fun a o h=>(g.ok.top a o (X a o h)).2
 have n1:g.κ (g.s.heap.objs.size+1)=.no:=eq_830 (Nat.le_succ _)
 have n2:=zE g
 have h2:((g.s.heap.push emptyDict).push (instObj C g.s.heap.objs.size)).get? g.s.heap.objs.size=some (dictOf [] 0):=Heap.get?_push_of_some _ (Heap.get?_push_size _ rfl)
 have h1:((g.s.heap.push emptyDict).push (instObj C g.s.heap.objs.size)).get? (g.s.heap.objs.size+1)=some (instObj C g.s.heap.objs.size):=by heap_get
 obtain ⟨gN,eN,L,eH,dn⟩:=gr_ (p:=(g.s.heap.objs.size+1,g.s.heap.objs.size)) (h':=(g.s.heap.push emptyDict).push (instObj C g.s.heap.objs.size)) (t:=.ins C []) (l:=[]) (ys:=[]) n1 n2 (fun a n=>by
  cases z:g.s.heap.get? a with
  | none=>exact (g.ok.alive a n z).elim
  | some o=>exact Heap.get?_push_of_some _ (Heap.get?_push_of_some _ z)) g.s.toks ⟨_,_,h1,h2,[],0,rfl,rfl,rfl,rfl⟩ rfl
 refine J.call (eq_347 (g:=g) (makes_of X hm) (looks_findIn X hi) (fun self=>bind_fn X self hf) (.inl rfl) ?_)
 have hr:=h (A.under (.builtin "type.__call__" ⟨.ref C::xs,[]⟩)) gN (.ref g.H.length::vs) (.ref (g.s.heap.objs.size+1)::xs) (fun v H'=>ifb (QU v) (Q (.ref g.H.length) H') False) e1 (by simp [Around.under,e2,PySem.Code.guards,PySem.Code.isGuard,guardIds];rfl) e5 (Nat.le_trans (Nat.add_le_add_left (show 1+3<=9 by decide) A.units) e6) (zh dn (L.denL d)) (eH.symm▸hs)
 rw [eN] at hr
 refine hr.mono fun r s' z=>?_
 rcases r with e | (_ | _ | _ | v)<;>first | exact z | skip
 obtain ⟨g3,e3,l3,v3,d3,q⟩:=z
 have q:=(eq_909 q).elim id fun z=>z.2.elim
 exact ⟨eq_192 q.1 d3,g3,e3,L.trans l3,.ref g.H.length,l3.den dn,q.2⟩
structure Fzn (g:G) (h':Heap) (κ':Addr->Kn):Prop where
 f:∀a,g.κ a=.fz->κ' a=.fz/\h'.get? a=g.s.heap.get? a
 o:∀a,g.κ a=.ow->κ' a=.fz/\h'.get? a=g.s.heap.get? a
section
variable {g:G} {H:Hp} {h':Heap} {κ':Addr->Kn} {L':List (Addr×Addr)} (hH:∀(i:Nat) (o:V),H[i]?=some o->g.H[i]?=some o/\Fzn g h' κ') (F:∀a,g.κ a=.fz->κ' a=.fz/\h'.get? a=g.s.heap.get? a)
theorem eq_842 {f:V->Option V} (hf:∀v u x,f v=some u->g.D v x->Den h' κ' L' u x):∀{l m:List V} {xs:List Value},zB f l=some m->g.DL l xs->xd h' κ' L' m xs
 | [],_,_=>fun h d=>Option.some.inj h▸d
 | v::l,_,_=>fun h d=>(zc h).elim fun u h=>(zc h.2).elim fun r h2=>Option.some.inj h2.2▸d.imp fun y=>.imp fun ys d=>⟨d.1,hf v u y h.1 d.2.1,eq_842 hf h2.1 d.2.2⟩
include hH F
theorem eq_825:∀(n:Nat) (v u:V) (x:Value),fzV n H v=some u->g.D v x->Den h' κ' L' u x
 | 0,_,_,_=>zl
 | n+1,v,u,x=>V.casesOn (motive_1:=fun v=>fzV (n+1) H v=some u->g.D v x->Den h' κ' L' u x) v (fun h d=>Option.some.inj h▸d) (fun _ h d=>Option.some.inj h▸d) (fun _ h d=>Option.some.inj h▸d) (fun _ h d=>Option.some.inj h▸d) (fun _ h d=>Option.some.inj h▸d)
  (fun t l h d=>(zc h).elim fun m h=>Option.some.inj h.2▸d.imp fun a=>.imp fun dx=>.imp fun ys d=>⟨d.1,(F a d.2.1).1,(F dx d.2.2.1).1,d.2.2.2.1.to (F a d.2.1).2 (F dx d.2.2.1).2,eq_842 (eq_825 n) h.1 d.2.2.2.2⟩)
  (fun i h d=>(zc h).elim fun o h=>(zc h.2).elim fun q h2=>(zc h2.2).elim fun m h3=>d.elim fun p d=>by
   obtain ⟨hi,Z⟩:=hH i o h.1
   have w:=g.ok.obj i o p hi d.1
   obtain ⟨ys,Li,dl⟩:=eq_737 h2.1 w.2.2
   have z1:=Z.o _ w.1
   have z2:=Z.o _ w.2.1
   exact Option.some.inj h3.2▸⟨p.1,p.2,ys,d.2,z1.1,z2.1,Li.to z1.2 z2.2,eq_842 (eq_825 n) h3.1 dl⟩)
  fun _ h d=>Option.some.inj h▸d
end
noncomputable def kAs (k:Kn):Kn:=k.casesOn .no .fz .pr .pr
noncomputable def kFf (k:Kn):Kn:=k.casesOn .no .fz .pr .fz
noncomputable def kBk (k k1:Kn):Kn:=k.casesOn (kFf k1) (kFf k1) (kFf k1) .ow
theorem ZD {k:Kn} (h:k=.fz):kAs k=.fz:=(congrArg kAs h).trans rfl
theorem ziY {k:Kn}:kAs k≠.no->k≠.no:=fun h e=>h ((congrArg kAs e).trans rfl)
theorem eq_209 {k:Kn}:kFf k≠.no->k≠.no:=fun h e=>h ((congrArg kFf e).trans rfl)
def G.as (g:G):G:=⟨g.s,[],fun a=>kAs (g.κ a),[],fun a n=>g.ok.alive a (ziY n),fun a o e=>⟨ZD (g.ok.top a o e).1,(g.ok.top a o e).2⟩,rfl,(fun _ _ _ h=>nomatch h),fun _ _ _ _ h=>nomatch h⟩
section
variable {g g1:G} (L:Le [] g.as g1)
include L
theorem eq_859 {a:Addr} (e:g.κ a=.fz):kBk (g.κ a) (g1.κ a)=.fz/\g1.s.heap.get? a=g.s.heap.get? a:=⟨by rw [e,L.k a (yJ (ZD e)),show g.as.κ a=.fz from ZD e];rfl,L.f a (ZD e)⟩
theorem eq_615 {a:Addr} (e:g.κ a=.pr):kBk (g.κ a) (g1.κ a)=.pr/\g1.s.heap.get? a=g.s.heap.get? a:=by
 have q:g.as.κ a=.pr:=show kAs (g.κ a)=.pr by rw [e];rfl
 exact ⟨by rw [e,L.k a (zF q),q];rfl,L.p a q nofun⟩
theorem eq_858 {a:Addr} (e:g.κ a=.ow):kBk (g.κ a) (g1.κ a)=.ow/\g1.s.heap.get? a=g.s.heap.get? a/\g1.κ a=.pr:=by
 have q:g.as.κ a=.pr:=show kAs (g.κ a)=.pr by rw [e];rfl
 exact ⟨by rw [e];rfl,L.p a q nofun,(L.k a (zF q)).trans q⟩
theorem eq_416 {a:Addr} (n:kBk (g.κ a) (g1.κ a)≠.no):g1.κ a≠.no:=by
 cases e:g.κ a with
 | ow=>exact zF (eq_858 L e).2.2
 | _=>rw [e] at n;exact eq_209 n
theorem eq_418:Kp g.s.heap g.κ g.L g1.s.heap (fun a=>kBk (g.κ a) (g1.κ a)) g.L:=⟨fun _ e=>eq_859 L e,fun _ _=>id⟩
theorem eq_562:Inv g1.s.heap g.H (fun a=>kBk (g.κ a) (g1.κ a)) g.L:=
 ⟨fun a n=>g1.ok.alive a (eq_416 L n),fun a o e=>have q:=g.ok.top a o e;⟨(eq_859 L q.1).1,(eq_859 L q.1).2.trans q.2⟩,g.ok.len,fun i o p h1 h2=>have q:=g.ok.obj i o p h1 h2;have z1:=eq_858 L q.1;have z2:=eq_858 L q.2.1;⟨z1.1,z2.1,xb.mono (eq_418 L) o z1.2.1 z2.2.1 q.2.2⟩,g.ok.apart⟩
theorem eq_417:Le [] g ⟨g1.s,g.H,_,g.L,eq_562 L⟩:=⟨fun a n=>by
  cases e:g.κ a with
  | no=>exact (n e).elim
  | fz=>exact (eq_859 L e).1.symm▸rfl
  | pr=>exact (eq_615 L e).1
  | ow=>exact (eq_858 L e).1,fun a e=>(eq_859 L e).2,fun a e _=>(eq_615 L e).2,List.prefix_rfl,L.m⟩
end
theorem eq_768 {g g1:G} (L:Le [] g.as g1) {a:Addr} {k:Kn} (e:g1.κ a=k) (n:k≠.pr):kBk (g.κ a) (g1.κ a)=kFf k:=by
 cases q:g.κ a with
 | ow=>exact (n (e.symm.trans (eq_858 L q).2.2)).elim
 | _=>rw [e];rfl
theorem eq_589 {fv:Value} {sp:zG} {P:List V->V->Prop} (h:zA fv sp) (hp:∀us v,P us v->sp us [] fun v' H'=>fzV 6 H' v'=some v):zA fv (Qy P):=fun A g vs xs Q e1 e2 e3 e4 d q=>by
 obtain ⟨us,v,hu,hP,q⟩:=q
 have d0:g.as.DL us xs:=eq_842 (eq_825 (H:=[]) (fun i o h=>nomatch h) (fun a e=>⟨ZD e,rfl⟩) 6) hu d
 refine (h A g.as us xs _ e1 e2 e3 e4 d0 (hp us v hP)).mono fun x s z=>?_
 obtain ⟨g1,rfl,L,v1,d1,q1⟩:=z
 refine ⟨⟨g1.s,g.H,_,g.L,eq_562 L⟩,rfl,eq_417 L,v,eq_825 (H:=g1.H) (fun i o h=>⟨h,fun a e=>⟨eq_768 L e nofun,rfl⟩,fun a e=>⟨eq_768 L e nofun,rfl⟩⟩) (fun a e=>⟨eq_768 L e nofun,rfl⟩) 6 v1 v x q1 d1,q⟩
section
variable {c:Cf}
theorem eq_145 {a:Expr} {A:Code->Code} {x:Str} {f:Nat} {p:Pos} (T:yy) (hn:Nm x f) (ha:yq c a A) (hb:∀env,attributeBase a x env (eval a env)=eval a env):yq c (.Attribute a x p) fun k=>A (.o (.att f) 1 k):=fun env E r k st g F q=>
 .eq (arm_eval_Attribute ..) (.eq (congrArg (fun t=>t >>= _) (hb env)) (.bind ((ha env E r _ st g F q).go fun y g1 v l1 d1 q=>.at (
  (eq_919 (p:=.att f) (vs:=[v]) (K:=fun x=>r.go k (x.1::st) x.2) rfl q).elim fun u w=>.bm (.hold (.of (att_ T hn d1 w.1))) fun z s m=>.bind (.of (wpAny_letTemporaryGo (J.pure (m.q l1 w.2))))))))
theorem eq_143 {H:Hp}:yK (.dct false) [] H=some (.nd (.dcs []) [],H):=(eq_742 (a:=wo (([]:List (List Nat)).length<=15) (some (V.nd (.dcs []) [],H))) (show ([]:List (List Nat)).Nodup from .nil)).trans (eq_742 (Nat.zero_le _))
theorem eq_47 {p:Pos} (T:yy):yq c (.Dict [] [] p) fun k=>.o (.dct false) 0 k:=fun env E r k st g F q=>by
 obtain ⟨z,e,q⟩:=yg (show ob (zaE 0 [] st) fun q=>ob (yK (.dct false) q.1 g.H) fun x=>r.go k (x.1::q.2) x.2 from q)
 obtain rfl:=Option.some.inj e
 obtain ⟨x,hx,q⟩:=yg q
 obtain rfl:=Option.some.inj (eq_143.symm.trans hx)
 have D:(g.s.heap.push { cls:=.type "dict",data:=.dict #[] }).DictOf (PySem.strKind PW w0) g.s.heap.objs.size []:=Heap.DictOf.new _
 refine .of (wpAny_Dict_empty ?_)
 obtain ⟨o,es,ep,ho,D⟩:=D
 obtain rfl:=Option.some.inj (ho.symm.trans (Heap.get?_push_size g.s.heap rfl))
 exact Pv.q (v:=.nd (.dcs []) []) Le.refl (Pv.push (tk:=g.s.toks) (t:=.dcs []) (l:=[]) (ys:=[]) rfl ⟨[],⟨T.sm (zE g),es,ep,D⟩,rfl,rfl⟩ rfl) q
noncomputable def oC (o:Option Expr) (F:Expr->Code->Code) (k:Code):Code:=Option.casesOn (motive:=fun _=>Code) o k fun e=>F e k
def PtV (g:G) (o:Option Expr) (vs:List V) (x:Value):Prop:=(o.isSome=false/\vs=[]/\x=.none)∨(o.isSome=true/\∃v,vs=[v]/\g.D v x)
theorem eq_592 {f:Expr->Code->Code} {env:Env} {r:zy} {k:Code} {st:List V} {g:G} {o:Option Expr} {Q:Value->Shared->Prop} (E:Fr c env) (hs:∀e∈o,yq c e (f e)) (F:At c env r.lo g) (h:r.go (oC o f k) st g.H)
  (q:∀x g1 vs,Le [] g g1->PtV g1 o vs x->r.go k (vs++st) g1.H->Q x g1.s):J A0 (valueOrNone (evalOpt o env)) Q g.s:=by
 cases o with
 | none=>exact .pure (q .none g [] Le.refl (.inl ⟨rfl,rfl,rfl⟩) h)
 | some e=>exact (hs e rfl env E r k st g F h).go fun x g1 v l d h=>q x g1 [v] l (.inr ⟨rfl,v,rfl,d⟩) h
theorem eq_553 {g:G} {β:Type} {o:Option Expr} {vs us:List V} {x:Value} {K:Option Int->List V->Option β} {y:β} (d:PtV g o vs x) (h:zfo o.isSome (vs++us) K=some y):∃i,Q6 x i/\K i us=some y:=by
 rcases d with ⟨e,rfl,rfl⟩ | ⟨e,v,rfl,d⟩
 ·rw [e] at h
  exact ⟨none,⟨none,rfl,rfl⟩,h⟩
 ·rw [e] at h
  obtain ⟨i,hi,h⟩:=zc (show bo (xB v) (fun i=>K (some i) us)=some y from h)
  obtain ⟨t,rfl⟩:=ya hi d
  exact ⟨some i,⟨some (i,t),rfl,rfl⟩,h⟩
theorem eq_147 {g:G} {a v:V} {x l u:Value} {lo hi:Option Int} {e:Expr} {lw up:Option Expr} {p:Pos} {i:Addr} (da:g.D a x) (h:zay a lo hi=some v) (hs:g.s.heap.IsSliceOf i l u .none) (pl:Q6 l lo) (pu:Q6 u hi):WV g (subscriptTail e (.Slice lw up none p) x (.ref i)) v:=
 (oc h).elim (fun h=>(zc h.2).elim fun q h=>have h1:=zm h.2;have h2:=zm h1.2;(eq_860 h.1 da).elim fun d n=>n.elim fun dx n=>n.elim fun ys n=>n.1▸Option.some.inj h2.2▸eq_350 hs pl pu n.2.2.2.1 n.2.2.2.2 h1.1 h2.1)
  fun h=>h.elim fun s h=>(zI h.1 da).elim fun t e=>have h1:=zm h.2;e▸Option.some.inj h1.2▸eq_349 hs pl pu h1.1
def SlQ (g:G) (lo hi:Option Expr) (r:zy) (k:Code) (st:List V) (v:V) (x:Value) (i:Value) (s:Shared):Prop:=∃g4 a lv hv l u,i=.ref a/\g4.s=s/\Le [] g g4/\g4.D v x/\g4.s.heap.IsSliceOf a l u .none/\PtV g4 lo lv l/\PtV g4 hi hv u/\r.go k (hv++(lv++v::st)) g4.H
theorem PtV.up {g g1:G} {o:Option Expr} {vs:List V} {x:Value} (L:Le [] g g1) (h:PtV g o vs x):PtV g1 o vs x:=h.imp id fun h=>⟨h.1,h.2.imp fun v h=>⟨h.1,L.den h.2⟩⟩
theorem eq_342 {n:String} {l:List Value} {Q:Value->Shared->Prop} {s:Shared} (hl:l.length<=1000) (h:Q (.ref s.heap.objs.size) { s with heap:=s.heap.push { cls:=.type n,data:=.fields l.toArray } }):J A0 (newFields n l) Q s:=by
 unfold newFields
 exact .of (wpAny_newObj_type h (show l.length<=sizeLine+2 from Nat.le_trans hl (by decide)))
theorem eq_223 {lo hi:Option Expr} {f:Expr->Code->Code} {env:Env} {r:zy} {k:Code} {st:List V} {g:G} {v:V} {x:Value} {p:Pos} (E:Fr c env) (hl:∀e∈lo,yq c e (f e)) (hh:∀e∈hi,yq c e (f e)) (F:At c env r.lo g) (d:g.D v x) (h:r.go (oC lo f (oC hi f k)) (v::st) g.H) :
  J A0 (eval (.Slice lo hi none p) env) (SlQ g lo hi r k st v x) g.s:=.eq (arm_eval_Slice ..) (.bind (eq_592 E hl F h fun l g2 lv l2 pl h=>.bind (.hold (eq_592 E hh (F.st l2) h fun u g3 hv l3 pu h=>.bind (.hold (.pure (eq_342 (show 3<=1000 by decide) (by
 have L:Le [] g3 (g3.push { cls:=.type "slice",data:=.fields #[l,u,.none] } rfl g3.s.toks):=xv
 exact ⟨g3.push { cls:=.type "slice",data:=.fields #[l,u,.none] } rfl g3.s.toks,g3.s.heap.objs.size,lv,hv,l,u,rfl,rfl,(l2.trans l3).trans L,((l2.trans l3).trans L).den d,Heap.IsSliceOf.new ..,pl.up (l3.trans L),pu.up L,h⟩))))))))
theorem pt_n {g:G} {lo hi:Option Expr} {lv hv st:List V} {v:V} {l u:Value} (pl:PtV g lo lv l) (pu:PtV g hi hv u):hv++(lv++v::st)=(v::(lv++hv)).reverse++st/\(v::(lv++hv)).length=(bif hi.isSome then (bif lo.isSome then 3 else 2) else (bif lo.isSome then 2 else 1)):=by
 rcases pl with ⟨e,rfl,_⟩ | ⟨e,a,rfl,_⟩<;>rcases pu with ⟨e2,rfl,_⟩ | ⟨e2,b,rfl,_⟩<;>rw [e,e2]<;>exact ⟨rfl,rfl⟩
theorem eq_114 {a:Expr} {lo hi:Option Expr} {f:Expr->Code->Code} {p q:Pos} (ha:yq c a (f a)) (hl:∀e∈lo,yq c e (f e)) (hh:∀e∈hi,yq c e (f e)) :
  yq c (.Subscript a (.Slice lo hi none p) q) fun k=>f a (oC lo f (oC hi f (.o (.slc lo.isSome hi.isSome) (bif hi.isSome then (bif lo.isSome then 3 else 2) else (bif lo.isSome then 2 else 1)) k))):=fun env E r k st g F h=>
 .eq (arm_eval_Subscript ..) (.bind ((ha env E r _ st g F h).go fun x g1 v l1 d1 h=>.bm (.hold (eq_223 E hl hh (F.st l1) d1 h)) fun i s z=>by
  obtain ⟨g4,a,lv,hv,l,u,rfl,rfl,L,d,Is,pl,pu,h⟩:=z
  have n:=pt_n (v:=v) (st:=st) pl pu
  rw [n.1] at h
  obtain ⟨w,hw,h⟩:=yg (show ob (yK (.slc lo.isSome hi.isSome) (v::(lv++hv)) g4.H) fun x=>r.go k (x.1::st) x.2 from eq_863 n.2 h)
  have z:=eq_759 hw
  obtain ⟨i1,p1,z2⟩:=eq_553 (K:=fun lo r=>zfo hi.isSome r fun hi r=>l0 r (zay v lo hi)) pl z.2
  obtain ⟨i2,p2,z3⟩:=eq_553 (us:=[]) (K:=fun hi r=>l0 r (zay v i1 hi)) pu ((List.append_nil hv).symm▸z2)
  exact .at (.of (wpAny_mono (eq_147 d z3 Is p1 p2) (fun _ _ m=>m.q (l1.trans L) (z.1▸h)) fun _ _ q=>q))))
end
noncomputable def plE (e:Expr):Bool:=PySem.Expr.casesOn (motive_1:=fun _=>Bool) e (fun _ _ _=>true) (fun _ _ _=>true) (fun _ _ _ _=>true) (fun _ _ _=>true) (fun _ _ _ _=>true) (fun _ _ _ _=>true) (fun _ _ _=>true) (fun _ _ _=>false) (fun _ _ _ _=>true) (fun _ _ _ _=>true) (fun _ _ _ _ _=>true) (fun _ _ _ _=>true) (fun _ _=>true) (fun _ _=>true) (fun _ _=>true) (fun _ _ _ _=>true) (fun _ _ _ _=>true) (fun _ _ _ _=>true) (fun _ _=>true) (fun _ _ _=>true) (fun _ _ _=>true) (fun _ _ _=>true) (fun _ _=>false) (fun _ _=>true) (fun _ _=>true) (fun _ _ _=>true) (fun _ _ _ _=>false)
theorem eq_908 {e:Expr} (h:plE e=true):Pl e:=by cases e<;>first | exact ⟨fun _ _=>rfl,fun _=>rfl,fun _ _=>rfl,fun _ _=>rfl,fun _ _ _=>rfl⟩ | exact nomatch h
noncomputable def zi7 (e:Expr):Bool:=match e with
 | .Attribute ..=>true
 | _=>false
noncomputable def bsO (e:Expr):Bool:=match e with
 | .Call f l _ _=>!l.isEmpty||zi7 f
 | _=>true
theorem bs_e {e:Expr} (h:bsO e=true) (x:Str) (env:Env):attributeBase e x env (eval e env)=eval e env:=by
 cases e with
 | Call f l kw p=>
  cases f<;>first | rfl | (cases l<;>first | rfl | exact nomatch h)
 | _=>rfl
theorem eq_210 {c:Cf} {f:Expr->Code->Code} {a b:Expr} {es:List Expr} {p:Pos} (hs:∀e∈a::b::es,yq c e (f e)) (hn:(a::b::es).length<=30):yq c (.JoinedStr (a::b::es) p) fun k=>y5 (fun e k=>f e (.o .pce 1 k)) (a::b::es) (.o .join (a::b::es).length k):=fun env E r k st g F h=>by
 rw [arm_eval_JoinedStr]
 exact eq_575 E (us:=[]) hs F nofun (Nat.zero_add _) hn h
structure Cx (c:Cf) (e:Expr) where
 F:Code->Code
 f:yq c e F
 T:Code->Code
 t:qf c e T
noncomputable def Cx.dead {c:Cf} {e:Expr}:Cx c e:=⟨fun _=>.dead,fun _ _ _ _ _ _ _ h=>h.elim,fun _=>.dead,fun _ _ _ _ _ _ _ h=>h.elim⟩
def Vl (e:Expr):Prop:=∀env,isTrue e env (eval e env)=(do let v ← eval e env;standAt e.pos;holding [v] (truthy v))
noncomputable def Cx.v {c:Cf} {e:Expr} (he:Vl e) {F:Code->Code} (h:yq c e F):Cx c e:=⟨F,h,_,zeX he h⟩
def Cx.tv {c:Cf} {e:Expr} {F T:Code->Code} (h:yq c e F) (t:qf c e T):Cx c e:=⟨F,h,T,t⟩
theorem eq_568 {c:Cf} {e:Expr}:yq c e fun _=>.dead:=fun _ _ _ _ _ _ _ h=>h.elim
noncomputable def isL (c:Cf) (x:Str):Bool:=decide (c.1.lookup x=some .local)||decide (c.1.lookup x=some .cell)
noncomputable def isG (c:Cf) (x:Str):Bool:=decide (c.1.lookup x=some .globalImplicit)
theorem eq_721 {c:Cf} {x:Str} (h:isL c x=true):Wn c x:=(Bool.or_eq_true ..▸h:_∨_).imp of_decide_eq_true of_decide_eq_true
theorem eq_733 {x:Str} (h:(asc x&&!(Nat.beq (xE x) nDbg))=true):Nm x (xE x)/\x≠"__debug__":=by
 rw [Bool.and_eq_true] at h
 exact ⟨⟨h.1,rfl⟩,fun e=>by subst e;exact absurd h.2 (by decide +kernel)⟩
theorem eq_753 {es:List Expr} (h:es.all plE=true):∀e∈es,Pl e:=fun e m=>eq_908 (List.all_eq_true.mp h e m)
section
variable (T:yy) (ih:∀c e,Cx c e) (c:Cf)
def znu (x:Str) (p:Pos):Cx c (.Name x p):=chk .dead (asc x&&!(Nat.beq (xE x) nDbg)) fun h=>Bool.casesOn (motive:=fun b=>(isL c x=b)->Cx c (.Name x p)) (isL c x) (fun _=>chk .dead (isG c x) fun g=>.v (fun _=>rfl) (eq_99 T (eq_733 h).1 (of_decide_eq_true g))) (fun _=>.v (fun _=>rfl) (eq_97 (eq_733 h).1 (eq_733 h).2)) rfl
def cCst (v:Const) (i:Nat) (p:Pos):Cx c (.Constant v i p):=Option.casesOn (motive:=fun o=>zkn v=o->Cx c (.Constant v i p)) (zkn v) (fun _=>.dead) (fun u h=>.v (fun _=>rfl) (eq_102 h)) rfl
abbrev ff (e:Expr):Code->Code:=(ih c e).F
theorem ffs {es:List Expr}:∀e∈es,yq c e (ff ih c e):=fun e _=>(ih c e).f
noncomputable def cCmp (a:Expr) (ops:List CmpOp) (bs:List Expr) (p:Pos):Cx c (.Compare a ops bs p):=match ops,bs with
 | [op],[b]=>chk .dead (plE b) fun h=>.tv (eq_896 (es:=[a,b]) (ffs ih c) (eq_445 (eq_908 h)) eq_451) (eq_43 (eq_908 h) (ih c a).f (ih c b).f)
 | [o1,o2],[b,d]=>chk .dead (plE d) fun h=>.tv eq_568 (eq_49 (eq_908 h) (ih c a).f (ih c b).f (ih c d).f)
 | _,_=>.dead
noncomputable def cUn (op:UnaryOp) (a:Expr) (p:Pos):Cx c (.UnaryOp op a p):=match op with
 | .USub=>.v (fun _=>rfl) (eq_896 (es:=[a]) (ffs ih c) eq_478 eq_449)
 | .Not=>.tv eq_568 (eq_96 (ih c a).t)
 | _=>.dead
noncomputable def znw (f:Expr) (l:List Expr) (kw:List Keyword) (p:Pos):Cx c (.Call f l kw p):=match f,kw with
 | .Name x q,[]=>chk .dead (l.all plE&&(asc x&&isG c x)) fun h=>.v (fun _=>rfl) (eq_50 (f:=ff ih c) T (ffs ih c) (eq_753 (Bool.and_eq_true _ _▸h:_/\_).1) ⟨(Bool.and_eq_true _ _▸(Bool.and_eq_true _ _▸h:_/\_).2:_/\_).1,rfl⟩ (of_decide_eq_true (Bool.and_eq_true _ _▸(Bool.and_eq_true _ _▸h:_/\_).2:_/\_).2))
 | .Attribute a x q,[]=>chk .dead (l.all plE&&(asc x&&(bsO a&&(Nat.ble l.length 20&&(q.endLine == p.line))))) fun h=>by
   rw [Bool.and_eq_true,Bool.and_eq_true,Bool.and_eq_true,Bool.and_eq_true] at h
   exact .v (fun _=>rfl) (eq_45 (f:=ff ih c) T (ffs ih c) (eq_753 h.1) ⟨h.2.1,rfl⟩ (ih c a).f (bs_e h.2.2.1 x) (Nat.le_of_ble_eq_true h.2.2.2.1) h.2.2.2.2)
 | _,_=>.dead
noncomputable def cSub (a s:Expr) (p:Pos):Cx c (.Subscript a s p):=Bool.casesOn (motive:=fun b=>plE s=b->Cx c (.Subscript a s p)) (plE s)
 (fun _=>match s with
  | .Slice lo hi none q=>.v (fun _=>rfl) (eq_114 (f:=ff ih c) (ih c a).f (fun e _=>(ih c e).f) fun e _=>(ih c e).f)
  | _=>.dead)
 (fun h=>.v (fun _=>rfl) (eq_896 (es:=[a,s]) (ffs ih c) eq_477 (eq_448 (eq_908 h).sub))) rfl
end
noncomputable def nmO (P:Str->Prop) [DecidablePred P] (e:Expr):Option { i:Nat // ∃x p,e=.Name x p/\Nm x i/\P x }:=match e with
 | .Name x p=>if h:asc x=true/\P x then some ⟨xE x,x,p,rfl,⟨h.1,rfl⟩,h.2⟩ else none
 | _=>none
noncomputable def nmsO (P:Str->Prop) [DecidablePred P]:(ts:List Expr)->Option { is:List Nat // Nms P ts is }
 | []=>some ⟨[],rfl⟩
 | e::ts=>(nmO P e).bind fun i=>(nmsO P ts).map fun is=>⟨i.1::is.1,i.2.elim fun x h=>h.elim fun p h=>⟨x,p,i.1,is.1,rfl,h.1,h.2.1,h.2.2,is.2⟩⟩
noncomputable def tgO (P:Str->Prop) [DecidablePred P] (e:Expr):Option { is:List Nat // Tgt P e is }:=match e with
 | .Tuple ts k p=>(nmsO P ts).bind fun is=>match is with
  | ⟨i::j::r,h⟩=>some ⟨i::j::r,.inr ⟨ts,k,p,i,j,r,rfl,rfl,h⟩⟩
  | _=>none
 | e=>(nmO P e).map fun i=>⟨[i.1],.inl (i.2.elim fun x h=>h.elim fun p h=>⟨x,p,i.1,rfl,h⟩)⟩
structure Ci (c:Cf) (e:Expr) where
 md:Bool
 A:Code->Code
 h:zeh c e md A
noncomputable def op {α β:Type} (d:β) (o:Option α) (k:α->β):β:=Option.casesOn (motive:=fun _=>β) o d k
section
variable (T:yy) (ih:∀c e,Cx c e) (c:Cf)
noncomputable def cIt (e:Expr):Ci c e:=match e with
 | .Call (.Name x q) [a] [] p=>Bool.casesOn (motive:=fun b=>(asc x&&Nat.beq (xE x) Yl&&(isG c x&&plE a))=b->Ci c (.Call (.Name x q) [a] [] p)) (asc x&&Nat.beq (xE x) Yl&&(isG c x&&plE a)) (fun _=>⟨false,_,eq_533 (ih c _).f⟩) (fun h=>⟨true,_,by
   rw [Bool.and_eq_true,Bool.and_eq_true,Bool.and_eq_true] at h
   have n:Nm x Yl:=⟨h.1.1,Nat.eq_of_beq_eq_true h.1.2⟩
   exact eq_224 T (eq_908 h.2.2) (ih c a).f (of_decide_eq_true h.2.1) (T.enu x n).1 (T.enu x n).2⟩) rfl
 | e=>⟨false,_,eq_533 (ih c e).f⟩
noncomputable def cTst (ifs:List Expr):Option { F:Code // zgl c ifs F }:=match ifs with
 | []=>some ⟨_,tst0⟩
 | [t]=>some ⟨_,tst1 (ih c t).t⟩
 | _=>none
def capL (ns:List (Str×NameKind)):List Nat:=(ns.filter fun p=>decide (p.2=.free)).map fun p=>xE p.1
theorem eq_441 {ns:List (Str×NameKind)} (h:(ns.all fun p=>asc p.1)=true):∀i∈capL ns,∃p∈ns,p.2=.free/\Nm p.1 i:=fun i m=>(List.mem_map.mp m).elim fun p z=>have q:=List.mem_filter.mp z.1;⟨p,q.1,of_decide_eq_true q.2,List.all_eq_true.mp h p q.1,z.2⟩
noncomputable def znv (elt:Expr) (gs:List Comprehension) (s:PySem.Scope) (p:Pos):Cx c (.ListComp elt gs s p):=match gs with
 | [⟨t,it,ifs,0⟩]=>if h:(Cap c s.names/\s.kind=.function)/\plE it=true/\(s.names.all fun p=>asc p.1)=true then
   op .dead (tgO (fun x=>(inn s.names).lookup x=some .local) t) fun tg=>op .dead (cTst ih (inn s.names,false) ifs) fun F=>.v (fun _=>rfl) (eq_48 (cap:=capL s.names) (cIt T ih c it).h (eq_908 h.2.1).fold h.1.1 h.1.2 tg.2 (eq_441 h.2.2) (ih _ elt).f F.2) else .dead
 | _=>.dead
noncomputable def cDct (ks:List (Option Expr)) (vs:List Expr) (p:Pos):Cx c (.Dict ks vs p):=match ks,vs with
 | [],[]=>.v (fun _=>rfl) (eq_47 T)
 | k::ks,vs=>if h:(k::ks).all (·.isSome)=true/\(k::ks).length=vs.length/\(k::ks).length<=15 then .v (fun _=>rfl) (eq_101 (own:=c.2) (f:=ff ih c) T (ffs ih c) h.1 h.2.1 nofun h.2.2) else .dead
 | _,_=>.dead
noncomputable def cJs (es:List Expr) (p:Pos):Cx c (.JoinedStr es p):=match es with
 | a::b::es=>if h:(a::b::es).length<=30 then .v (fun _=>rfl) (eq_210 (f:=ff ih c) (ffs ih c) h) else .dead
 | _=>.dead
noncomputable def cFv (a:Expr) (i:Int) (o:Option Expr) (p:Pos):Cx c (.FormattedValue a i o p):=match i,o with
 | -1,none=>.v (fun _=>rfl) (eq_896 (es:=[a]) (ffs ih c) S_fv P_fv)
 | _,_=>.dead
def znt (e:Expr):Cx c e:=PySem.Expr.casesOn (motive_1:=Cx c) e
 (fun op es p=>.tv (eq_218 (f:=ff ih c) (ffs ih c)) (eq_217 (f:=fun e=>(ih c e).T) fun e _=>(ih c e).t)) (fun _ _ _=>.dead)
 (fun a op b p=>.v (fun _=>rfl) (eq_896 (es:=[a,b]) (ffs ih c) eq_446 eq_452)) (cUn ih c) (fun _ _ _ _=>.dead) (fun t a b p=>.tv (eq_98 (ih c t).t (ih c a).f (ih c b).f) (fun _ _ _ _ _ _ _ h=>h.elim:qf c _ fun _=>.dead))
 (cDct T ih c) (fun _ _ _=>.dead) (znv T ih c) (fun _ _ _ _=>.dead) (fun _ _ _ _ _=>.dead) (fun _ _ _ _=>.dead) (fun _ _=>.dead) (fun _ _=>.dead) (fun _ _=>.dead)
 (cCmp ih c) (znw T ih c) (cFv ih c) (cJs ih c) (cCst c) (fun a x p=>chk .dead (asc x&&bsO a) fun h=>.v (fun _=>rfl) (eq_145 T ⟨(Bool.and_eq_true _ _▸h:_/\_).1,rfl⟩ (ih c a).f (bs_e (Bool.and_eq_true _ _▸h:_/\_).2 x)))
 (cSub ih c) (fun _ _=>.dead) (znu T c) (fun es p=>chk .dead (es.all plE) fun h=>.v (fun _=>rfl) (eq_896 (f:=ff ih c) (ffs ih c) (eq_479 (eq_753 h)) (eq_450 (own:=c.2))))
 (fun es k p=>chk .dead (es.all plE) fun h=>.v (fun _=>rfl) (eq_896 (f:=ff ih c) (ffs ih c) (eq_476 (eq_753 h)) eq_447)) (fun _ _ _ _=>.dead)
end
noncomputable def cx (T:yy):Nat->∀(c:Cf) (e:Expr),Cx c e
 | 0=>fun _ _=>.dead
 | n+1=>znt T (cx T n)
def AtE (t:Expr):Prop:=∀env r,assignEach (t::r) env=(false,assign t env)::assignEach r env
structure Cst (c:Cf) (t:Expr) where
 F:Code->Code
 h:Sto c t F
structure Csm (c:Cf) (s:Stmt) where
 F:Code->Code
 h:xQ c s F
structure Cb (c:Cf) (b:List Stmt) where
 F:Code->Code
 h:Yq c b F
noncomputable def Cst.dead {c:Cf} {t:Expr}:Cst c t:=⟨fun _=>.dead,fun _ _ _ _ _ _ _ _ _ _ h=>h.elim⟩
noncomputable def Csm.dead {c:Cf} {s:Stmt}:Csm c s:=⟨_,zbT⟩
noncomputable def atB (t:Expr):Bool:=match t with
 | .Name ..=>true
 | .Attribute ..=>true
 | .Subscript ..=>true
 | .Tuple ..=>true
 | _=>false
theorem eq_620 {t:Expr} (h:atB t=true):AtE t:=by cases t<;>first | exact fun _ _=>rfl | exact nomatch h
theorem wn_e {c:Cf} {xs:List Str} (h:(xs.all fun x=>asc x&&isL c x)=true):∀x∈xs,asc x=true/\Wn c x:=fun x m=>have z:=(Bool.and_eq_true _ _▸List.all_eq_true.mp h x m:_/\_);⟨z.1,eq_721 z.2⟩
section
variable (T:yy) (ih:∀c e,Cx c e) (c:Cf)
noncomputable def zkr (t:Expr):Cst c t:=match t with
 | .Name x p=>chk .dead (asc x&&isL c x) fun h=>⟨_,eq_41 ⟨(Bool.and_eq_true _ _▸h:_/\_).1,rfl⟩ (eq_721 (Bool.and_eq_true _ _▸h:_/\_).2)⟩
 | .Attribute o x p=>chk .dead (asc x) fun h=>⟨_,eq_111 T ⟨h,rfl⟩ (ih c o).f⟩
 | .Subscript o i p=>⟨_,eq_110 (ih c o).f (ih c i).f⟩
 | _=>.dead
noncomputable def cTup (t:Expr):Cst c t:=match t with
 | .Tuple ts k p=>chk .dead (ts.all atB) fun h=>⟨_,eq_109 (f:=fun t=>(zkr T ih c t).F) (fun t _=>(zkr T ih c t).h) fun env t m=>eq_620 (List.all_eq_true.mp h t m) env⟩
 | t=>zkr T ih c t
def cAsg (t e:Expr) (p:Pos):Csm c (.Assign [t] e p):=Option.casesOn (motive:=fun o=>qj (swapsWithSole [t] e p.line (qd c))=o->Csm c (.Assign [t] e p)) (qj (swapsWithSole [t] e p.line (qd c))) (fun _=>.dead) (fun b=>Bool.casesOn (motive:=fun b=>qj (swapsWithSole [t] e p.line (qd c))=some b->Csm c (.Assign [t] e p)) b
 (fun h1=>Option.casesOn (motive:=fun o=>qj (swappedStores [t] e (qd c))=o->Csm c (.Assign [t] e p)) (qj (swappedStores [t] e (qd c))) (fun _=>.dead) (fun o=>Option.casesOn (motive:=fun o=>qj (swappedStores [t] e (qd c))=some o->Csm c (.Assign [t] e p)) o
  (fun h2=>chk .dead (atB t) fun h=>⟨_,eq_146 ⟨h1,h2⟩ (ih c e).f (cTup T ih c t).h (eq_620 h)⟩) (fun xs h2=>chk .dead (xs.all fun x=>asc x&&isL c x) fun h=>⟨_,eq_94 ⟨h1,h2⟩ (ih c e).f (wn_e h)⟩)) rfl) fun _=>.dead) rfl
noncomputable def cAug (t:Expr) (op:Operator) (e:Expr) (p:Pos):Csm c (.AugAssign t op e p):=match op,t with
 | .Add,.Name x q=>chk .dead (asc x&&isL c x) fun h=>⟨_,eq_220 ⟨(Bool.and_eq_true _ _▸h:_/\_).1,rfl⟩ (eq_721 (Bool.and_eq_true _ _▸h:_/\_).2) (ih c e).f⟩
 | .Add,.Attribute o x q=>chk .dead (asc x) fun h=>⟨_,eq_221 T ⟨h,rfl⟩ (ih c o).f (ih c e).f⟩
 | .Add,.Subscript o i q=>chk .dead (plE i) fun h=>⟨_,eq_219 (eq_908 h) (ih c o).f (ih c i).f (ih c e).f⟩
 | _,_=>.dead
noncomputable def cExp (e:Expr) (p:Pos):Csm c (.Expr e p):=match e with
 | .Call f l k q=>⟨_,eq_46 (fun _=>rfl) (ih c _).f⟩
 | _=>.dead
variable (ib:∀c b,Cb c b)
noncomputable def cFor (t e:Expr) (b els:List Stmt) (p:Pos):Csm c (.For t e b els p):=match els with
 | []=>if h:plE e=true then op .dead (tgO (Wn c) t) fun tg=>⟨_,eq_100 (cIt T ih c e).h (eq_908 h).fold tg.2 (ib c b).h⟩ else .dead
 | _=>.dead
noncomputable def cWh (t:Expr) (b els:List Stmt) (p:Pos):Csm c (.While t b els p):=match els with
 | []=>⟨_,eq_112 (ih c t).t (ib c b).h⟩
 | _=>.dead
noncomputable def cTry (b:List Stmt) (hs:List ExceptHandler) (els fin:List Stmt) (p:Pos):Csm c (.Try b hs els fin p):=match hs,els,fin with
 | _::_,[],[]=>⟨_,eq_113 (ib c b).h⟩
 | _,_,_=>.dead
noncomputable def cRet (o:Option Expr) (p:Pos):Csm c (.Return o p):=match o with
 | some e=>⟨_,eq_95 (ih c e).f⟩
 | none=>⟨_,eq_44⟩
noncomputable def cSt (s:Stmt):Csm c s:=match s with
 | .Assign [t] e p=>cAsg T ih c t e p
 | .AugAssign t op e p=>cAug T ih c t op e p
 | .Expr e p=>cExp ih c e p
 | .If t a b p=>⟨_,eq_216 (ih c t).t (ib c a).h (ib c b).h⟩
 | .While t b els p=>cWh ih c ib t b els p
 | .For t e b els p=>cFor T ih c ib t e b els p
 | .Return o p=>cRet ih c o p
 | .Try b hs els fin p=>cTry c ib b hs els fin p
 | .Break p=>⟨_,eq_144⟩
 | .Continue p=>⟨_,eq_103⟩
 | _=>.dead
noncomputable def cBl:(b:List Stmt)->Cb c b
 | []=>⟨_,eq_51⟩
 | s::b=>⟨_,eq_32 (cSt T ih c ib s).h (cBl b).h⟩
end
noncomputable def cb (T:yy):Nat->∀(c:Cf) (b:List Stmt),Cb c b
 | 0=>fun _ _=>⟨fun _=>.dead,fun _ _ _ _ _ _ h=>h.elim⟩
 | n+1=>fun c b=>cBl T (cx T 30) c (cb T n) b
def zdp (T:yy) (c:Cf) (b:List Stmt):Code:=(cb T 12 c b).F .n
theorem eq_316 {a:Addr} {k:Nat} {pn:List Str} {dv:List V} {c:Cf} {body:List Stmt} (T:yy) (nolim:zC.NoLimit) (R:FnR a k pn dv c body):xf (.ref a) (fnS xX k (pn.map xE) dv (zdp T c body)):=eq_317 nolim R (cb T 12 c body).h
def yr (fv:Value) (F:List V->Hp->Option V):Prop:=∀(g:G) (vs:List V) (xs:List Value) (v:V),g.DL vs xs->F vs g.H=some v->WV g (PySem.call fv xs) v
theorem zQ {fv:Value} {F:List V->Hp->Option V} (h:yr fv F):zA fv (Bl F):=fun A g vs xs Q e1 e2 e3 e4 d q=>(yg q).elim fun v q=>J.le (.mono (.of (h g vs xs v d q.1)) fun _ _ m=>m.q Le.refl q.2) e1 (Nat.le_of_succ_le (Nat.le_of_succ_le e3)) e2 (Nat.le_trans (Nat.le_add_right ..) e4)
theorem eq_364:yr (.builtin "ord") ordF:=fun g vs xs v d h=>(xw h d).elim fun x z=>z.2.elim fun u z2=>z.1▸(zc z2.2).elim fun s h=>(zI h.1 z2.1).elim fun t e=>e▸by
 rcases s with _ | ⟨c,_ | ⟨_,_⟩⟩
 ·exact zl h.2
 ·exact P.ord_of_char (c:=c) (Pv.tk (Option.some.inj h.2▸zp))
 ·exact zl h.2
theorem eq_804 (s:String):Str.ofString s=Sx (s.toList.map Char.toNat):=Str.ofString_eq_toList s
theorem eq_547 (i:Int):baseText "0x" 16 i=Sx (zW i):=by
 unfold baseText zW
 rw [eq_804,eq_804,eq_804,eq_877,eq_877]
 congr 1
 rw [show (String.ofList (Nat.toDigits 16 i.natAbs)).toList=Nat.toDigits 16 i.natAbs from String.toList_ofList ..]
 split<;>rfl
theorem eq_370:yr (.builtin "hex") zjl:=fun g vs xs v d h=>(xw h d).elim fun x z=>z.2.elim fun u z2=>z.1▸(zc z2.2).elim fun i h=>(ya h.1 z2.1).elim fun t e=>have w:=zm h.2;e▸P.hex_of_int (eq_547 i▸Pv.tk (Option.some.inj w.2▸eq_936)) (eq_547 i▸eq_931 w.1)
theorem eq_377:yr (.builtin "abs") absF:=fun g vs xs v d h=>(xw h d).elim fun x z=>z.2.elim fun u z2=>z.1▸(zc z2.2).elim fun i h=>(ya h.1 z2.1).elim fun t e=>e▸call_abs_int fun u tk=>Pv.tk (Option.some.inj h.2▸zp)
theorem eq_405:yr (.type "str") zh1:=fun g vs xs v d h=>(xw h d).elim fun x z=>z.2.elim fun u z2=>z.1▸(zc z2.2).elim fun i h=>(ya h.1 z2.1).elim fun t e=>have w:=zm h.2;e▸P.str_of_int (by
 by_cases h0:i.natAbs=0
 ·rw [h0];decide
 ·exact Nat.lt_trans ((Nat.log2_lt h0).mpr (show i.natAbs < 2 ^ 64 from w.1)) (by decide)) (eq_784 i▸Pv.tk (Option.some.inj w.2▸eq_936))
theorem eq_745 {n:Nat} (h:n<=1000000):(n:Int) < 2 ^ 63:=by lia
theorem eq_367:yr (.builtin "len") zfs:=fun g vs xs v d h=>(xw h d).elim fun x z=>z.2.elim fun u z2=>z.1▸(oc z2.2).elim
 (fun h=>(oc h.2).elim (fun h=>(zc h.2).elim fun l h=>have w:=zm h.2;(eq_822 h.1 z2.1).elim fun a n=>n.elim fun ys n=>n.1▸Option.some.inj w.2▸zf n.2.2▸n.2.1.elim (fun q=>PyProof.Rows.len_tuple q (eq_745 (n:=ys.length) ((zf n.2.2).symm▸w.1)) (Pv.tk zp)) fun q=>call_len_list q (eq_745 (n:=ys.length) ((zf n.2.2).symm▸w.1)) (Pv.tk zp))
  fun h=>h.elim fun b h=>(eq_752 h.1 z2.1).elim fun t e=>have w:=zm h.2;e▸Option.some.inj w.2▸PySem.W.len_bytes (Nat.le_trans w.1 (by decide)) (Pv.tk zp))
 fun h=>h.elim fun s h=>(zI h.1 z2.1).elim fun t e=>have w:=zm h.2;e▸Option.some.inj w.2▸P.len_str (Int.not_le.mpr (eq_745 w.1)) (Pv.tk zp)
theorem Pv.ext {g:G} {v:V} {x:Value} {h':Heap} {tk:Nat} (hk:∀b o,g.s.heap.get? b=some o->h'.get? b=some o) (d:g.D v x):Pv g v g.H x { g.s with heap:=h',toks:=tk }:=
 have S:Stp g [] h' fun _=>.no:=⟨nofun,nofun,fun _ n=>(n rfl).elim,fun b o _=>hk b o⟩
 ⟨g.stp S tk,rfl,zV S,rfl,(zV S).den d⟩
theorem eq_368:yr (.builtin "isinstance") isiF:=fun g vs xs v d h=>(eq_897 h d).elim fun x z=>z.elim fun y z=>z.2.elim fun a z2=>z2.elim fun b z2=>z.1▸(zc z2.2.2).elim fun k h=>(zc h.2).elim fun i h2=>(ya h2.1 z2.1).elim fun t e=>by
 obtain rfl:=eq_738 h.1 z2.2.1
 subst e
 have q:=h2.2
 cases e1:Nat.beq k 15 with
 | true=>
  obtain rfl:=Nat.eq_of_beq_eq_true e1
  exact IsiPair.int_int (Pv.here (Option.some.inj q▸zo))
 | false=>
  rw [e1] at q
  cases e2:Nat.beq k 11 with
  | true=>
   obtain rfl:=Nat.eq_of_beq_eq_true e2
   exact IsiPair.int_bool (Pv.tk (Option.some.inj q▸zo))
  | false=>rw [e2] at q;exact zl q
theorem eq_366:yr (.builtin "max") maxF:=fun g vs xs v d h=>(eq_897 h d).elim fun x z=>z.elim fun y z=>z.2.elim fun a z2=>z2.elim fun b z2=>z.1▸(eq_810 z2.2.2 z2.1 z2.2.1).elim fun i q=>q.elim fun j q=>q.elim fun t q=>q.elim fun u q=>q.1▸q.2.1▸max_two_ints hh0 fun h' tk hk=>by
 obtain rfl:=Option.some.inj q.2.2
 split<;>exact Pv.ext hk zp
theorem eq_365:yr (.builtin "min") minF:=fun g vs xs v d h=>(eq_897 h d).elim fun x z=>z.elim fun y z=>z.2.elim fun a z2=>z2.elim fun b z2=>z.1▸(eq_810 z2.2.2 z2.1 z2.2.1).elim fun i q=>q.elim fun j q=>q.elim fun t q=>q.elim fun u q=>q.1▸q.2.1▸min_two_ints hh0 fun h' tk hk=>by
 obtain rfl:=Option.some.inj q.2.2
 split<;>exact Pv.ext hk zp
theorem Pv.extN {g:G} {t:zZ} {l:List V} {ys:List Value} {a:Addr} {h':Heap} {tk:Nat} (hk:∀b o,g.s.heap.get? b=some o->h'.get? b=some o) (n:g.κ a=.no) (d:z7 h' t a a ys) (r:g.DL l ys):Pv g (.nd t l) g.H (.ref a) { g.s with heap:=h',toks:=tk }:=
 have al:h'.get? a≠none:=d.elim fun _ d=>d.elim fun _ d z=>nomatch z.symm.trans d.1
 have S:Stp g [] h' (nuA a .fz):=⟨nofun,nofun,fun b n=>zcn n▸al,fun b o _=>hk b o⟩
 have k:(g.stp S tk).κ a=.fz:=show (g.κ a).or (nuA a .fz a)=.fz by rw [n];unfold nuA;rw [Nat.beq_refl];rfl
 ⟨g.stp S tk,rfl,zV S,rfl,a,a,ys,rfl,k,k,d,(zV S).denL r⟩
theorem eq_786 {g:G}:∀{l:List V} {bs:List Bool} {ys:List Value},zB asB l=some bs->g.DL l ys->ys=bs.map .bool
 | [],_,_=>fun h d=>Option.some.inj h▸d
 | v::l,_,_=>fun h d=>(zc h).elim fun b h=>(zc h.2).elim fun r h2=>d.elim fun y d=>d.elim fun ys d=>by
  obtain rfl:=Option.some.inj h2.2
  rw [d.1,eq_622 h.1 d.2.1,eq_786 h2.1 d.2.2]
  rfl
theorem eq_827 {g:G}:∀{l:List V} {is:List Int} {ys:List Value},zB xB l=some is->g.DL l ys->∃ps:List (Int×Tok),ys=ps.map (fun p=>.int p.1 p.2)/\ps.map (·.1)=is
 | [],_,_=>fun h d=>⟨[],d,Option.some.inj h⟩
 | v::l,_,_=>fun h d=>(zc h).elim fun b h=>(zc h.2).elim fun r h2=>d.elim fun y d=>d.elim fun ys d=>(ya h.1 d.2.1).elim fun t e=>(eq_827 h2.1 d.2.2).elim fun ps z=>⟨(b,t)::ps,by rw [d.1,e,z.1];rfl,by rw [← Option.some.inj h2.2,List.map_cons,z.2]⟩
theorem eq_709 {A:Around} {l:List Bool}:TruthOf PW w0 A (fun i v=>((l.map Value.bool).toArray)[i]?=some v) (fun i=>l.getD i false):=fun i v s Q E h q=>by
 have h:((l.map Value.bool).toArray)[i]?=some v:=h
 rw [List.getElem?_toArray,List.getElem?_map] at h
 obtain ⟨b,hb,rfl⟩:=Option.map_eq_some_iff.mp h
 have q:Q (l.getD i false) s:=q
 rw [List.getD_eq_getElem?_getD,hb] at q
 exact wpAny_truthy_bool q
theorem eq_12 (l:List Bool):(List.range l.length).all (fun i=>l.getD i false)=l.all id:=by
 rw [Bool.eq_iff_iff,List.all_eq_true,List.all_eq_true]
 refine ⟨fun h b hb=>?_,fun h i hi=>?_⟩
 ·obtain ⟨i,hi,rfl⟩:=List.mem_iff_getElem.mp hb
  have:=h i (List.mem_range.mpr hi)
  rwa [List.getD_eq_getElem?_getD,List.getElem?_eq_getElem hi] at this
 ·rw [List.getD_eq_getElem?_getD,List.getElem?_eq_getElem (List.mem_range.mp hi)]
  exact h _ (List.getElem_mem _)
theorem eq_11 (l:List Bool):(List.range l.length).any (fun i=>l.getD i false)=l.any id:=by
 rw [Bool.eq_iff_iff,List.any_eq_true,List.any_eq_true]
 refine ⟨fun ⟨i,hi,h⟩=>?_,fun ⟨b,hb,h⟩=>?_⟩
 ·rw [List.getD_eq_getElem?_getD,List.getElem?_eq_getElem (List.mem_range.mp hi)] at h
  exact ⟨_,List.getElem_mem _,h⟩
 ·obtain ⟨i,hi,rfl⟩:=List.mem_iff_getElem.mp hb
  exact ⟨i,List.mem_range.mpr hi,by rw [List.getD_eq_getElem?_getD,List.getElem?_eq_getElem hi];exact h⟩
theorem eq_376:yr (.builtin "all") zkC:=fun g vs xs v d h=>(xw h d).elim fun x z=>z.2.elim fun u z2=>z.1▸(zc z2.2).elim fun l h=>(zc h.2).elim fun bs h2=>(eq_885 h.1 z2.1).elim fun a n=>n.elim fun ys n=>by
 obtain ⟨rfl,⟨m,ga⟩,dl⟩:=n
 obtain rfl:=eq_786 h2.1 dl
 refine call_all_walk (wpAny_pyIter_list (items:=(bs.map Value.bool).toArray) ⟨_,ga,rfl,_,rfl⟩ ⟨_,_,_,_,_,_,fun i=>bs.getD i false,rfl,Walks.list (A:=A0.in1) hh0 g.s.heap.objs.size a (Nat.ne_of_lt (Heap.lt_size ga)) _,⟨⟨_,Heap.get?_push_size _ rfl,rfl,rfl⟩,⟨_,Heap.get?_push_of_some _ ga,rfl,_,rfl⟩⟩,eq_709,fun h' tk hk=>?_⟩)
 refine Pv.ext (fun b o z=>hk b o (fun q=>Nat.ne_of_lt (Heap.lt_size z) (List.mem_singleton.mp q)) (Heap.get?_push_of_some _ z)) ?_
 rw [← Option.some.inj h2.2,show (bs.map Value.bool).toArray.size=bs.length from List.length_map ..,eq_12]
 exact zo
theorem eq_375:yr (.builtin "any") anyF:=fun g vs xs v d h=>(xw h d).elim fun x z=>z.2.elim fun u z2=>z.1▸(zc z2.2).elim fun l h=>(zc h.2).elim fun bs h2=>(eq_885 h.1 z2.1).elim fun a n=>n.elim fun ys n=>by
 obtain ⟨rfl,⟨m,ga⟩,dl⟩:=n
 obtain rfl:=eq_786 h2.1 dl
 refine call_any_walk (wpAny_pyIter_list (items:=(bs.map Value.bool).toArray) ⟨_,ga,rfl,_,rfl⟩ ⟨_,_,_,_,_,_,fun i=>bs.getD i false,rfl,Walks.list (A:=A0.in1) hh0 g.s.heap.objs.size a (Nat.ne_of_lt (Heap.lt_size ga)) _,⟨⟨_,Heap.get?_push_size _ rfl,rfl,rfl⟩,⟨_,Heap.get?_push_of_some _ ga,rfl,_,rfl⟩⟩,eq_709,fun h' tk hk=>?_⟩)
 refine Pv.ext (fun b o z=>hk b o (fun q=>Nat.ne_of_lt (Heap.lt_size z) (List.mem_singleton.mp q)) (Heap.get?_push_of_some _ z)) ?_
 rw [← Option.some.inj h2.2,show (bs.map Value.bool).toArray.size=bs.length from List.length_map ..,eq_11]
 exact zo
theorem eq_404:yr (.builtin "sum") sumF:=fun g vs xs v d h=>(xw h d).elim fun x z=>z.2.elim fun u z2=>z.1▸(zc z2.2).elim fun l h=>(zc h.2).elim fun is h2=>(eq_885 h.1 z2.1).elim fun a n=>n.elim fun ys n=>by
 obtain ⟨rfl,⟨m,ga⟩,dl⟩:=n
 obtain ⟨ps,rfl,rfl⟩:=eq_827 h2.1 dl
 obtain rfl:=Option.some.inj h2.2
 have hys:(ps.map fun p=>Value.int p.1 p.2).toArray=intItems ps.toArray:=by
  unfold intItems
  exact Array.ext' (by simp)
 refine sum_intListG (xs:=ps.toArray) hh0 ⟨_,hys▸ga,rfl,_,rfl⟩ fun h' tk t' hk=>Pv.ext hk ?_
 rw [show preSum (numAt ps.toArray) ps.toArray.size=(ps.map (·.1)).sum by rw [preSum_eq,List.take_of_length_le (by simp)]]
 exact zp
theorem eq_268:yr (.type "list") zgV:=fun g vs xs v d h=>(xw h d).elim fun x z=>z.2.elim fun u z2=>z.1▸(zc z2.2).elim fun p h=>have w:=zm h.2;have w2:=zm w.2;(eq_860 h.1 z2.1).elim fun a n=>n.elim fun dx n=>n.elim fun ys n=>by
 obtain ⟨rfl,ka,kd,Li,dl⟩:=n
 obtain rfl:=Option.some.inj w2.2
 have sz:ys.toArray.size<=sizeLine:=eq_931 (Nat.le_trans (Nat.le_of_eq (zf dl)) w2.1)
 have fin:∀(h':Heap) c',(∀b o',g.s.heap.get? b=some o'->h'.get? b=some o')->h'.get? g.s.heap.objs.size=some { cls:=.type "list",dict:=none,data:=.seq ys.toArray c',slots:=#[] }->Pv g (.nd .lst p.2) g.H (.ref g.s.heap.objs.size) { g.s with heap:=h' }:=fun h' c' hk hD=>Pv.extN (tk:=g.s.toks) hk (zE g) ⟨_,_,hD,hD,c',rfl⟩ dl
 rcases eq_534 w.1 Li with ⟨o,ho,hc,m,hd⟩ | ⟨o,ho,hc,m,hd⟩
 ·exact call_list_seq a (.inr rfl) ho hc hd fin sz
 ·exact call_list_seq a (.inl rfl) ho hc hd fin sz
theorem eq_667:∀(ps:List (Int×Tok)),IntsAre (ps.map fun p=>.int p.1 p.2) (ps.map (·.1))
 | []=>.nil
 | p::ps=>.cons p.1 p.2 (eq_667 ps)
theorem eq_133:yr (.type "bytes") bytF:=fun g vs xs v d h=>(xw h d).elim fun x z=>z.2.elim fun u z2=>z.1▸(zc z2.2).elim fun l h=>(zc h.2).elim fun is h2=>have w:=zm h2.2;(eq_885 h.1 z2.1).elim fun a n=>n.elim fun ys n=>by
 obtain ⟨rfl,⟨m,ga⟩,dl⟩:=n
 obtain ⟨ps,rfl,rfl⟩:=eq_827 h2.1 dl
 obtain rfl:=Option.some.inj w.2
 refine call_bytes_ints (vs:=ps.map fun p=>.int p.1 p.2) (ns:=ps.map (·.1)) ⟨_,ga,rfl,m,rfl⟩ (eq_667 ps) w.1.1 (eq_931 (by rw [List.length_map];exact (List.length_map (·.1) (as:=ps))▸w.1.2)) hh0 fun h' t k hk=>?_
 exact Pv.ext hk (by unfold byteArr;exact eq_834)
def BsOk (fv:Value) (sp:zG):Prop:=∀(g:G) (vs:List V) (xs:List Value) (Q:QE),g.DL vs xs->sp vs g.H Q->wpAny (model PW w0) A0 (PySem.call fv xs) (Ps [] g (qP Q)) y9 g.s
theorem eq_443 {fv:Value} {sp:zG} (h:BsOk fv sp):zA fv sp:=fun A g vs xs Q e1 e2 e3 e4 d q=>J.le (.of (h g vs xs Q d q)) e1 (Nat.le_of_succ_le (Nat.le_of_succ_le e3)) e2 (Nat.le_trans (Nat.le_add_right ..) e4)
theorem eq_748 {g:G} {vs:List V} {xs:List Value} {k:V->List V->Prop} (d:g.DL vs xs) (h:hc vs k):∃x ys,xs=x::ys/\∃v us,g.D v x/\g.DL us ys/\k v us:=by
 cases vs with
 | nil=>exact h.elim
 | cons v us=>exact d.imp fun x=>.imp fun ys d=>⟨d.1,v,us,d.2.1,d.2.2,h⟩
theorem h1_e {g:G} {vs:List V} {xs:List Value} {k:V->Prop} (d:g.DL vs xs) (h:h1 vs k):∃x,xs=[x]/\∃v,g.D v x/\k v:=(eq_748 d h).elim fun x z=>z.elim fun ys z=>z.2.elim fun v z2=>z2.elim fun us z2=>by
 cases us with
 | nil=>exact ⟨x,(show ys=[] from z2.2.1)▸z.1,v,z2.1,z2.2.2⟩
 | cons=>exact z2.2.2.elim
theorem eq_374:BsOk (.builtin "list.append") appS:=fun g vs xs Q d h=>(eq_748 d h).elim fun x z=>z.elim fun ys z=>z.2.elim fun o z2=>z2.elim fun us z2=>(h1_e z2.2.1 z2.2.2).elim fun y w=>w.2.elim fun v w2=>(yg w2.2).elim fun i h=>(yg h.2).elim fun p h2=>have q:=(eq_900 h2.2).imp_right (Eq.mp (eq_903 ..));by
 obtain rfl:=eq_875 h.1
 obtain ⟨pa,hp,rfl⟩:=z2.1
 obtain ⟨hlt,zs,Li,dl⟩:=eq_775 h2.1 hp
 obtain ⟨m,ga⟩:=xi q.1.1 Li
 rw [z.1,w.1]
 refine wpAny_list_append_plain ⟨m,ga⟩ (fun h' e sb=>Exists.elim e fun m' e=>?_) (eq_907 (Nat.le_trans (Nat.le_of_eq (zf dl)) q.1.2))
 have e:h'.get? pa.1=some { cls:=.type "list",data:=.seq (zs++[y]).toArray m' }:=List.push_toArray zs y▸e
 exact Exists.elim (up_ (tk:=g.s.toks) (o:=.nd .lst (p.2++[v])) (Q:=fun H'=>H'=g.H.set i (.nd .lst (p.2++[v]))) hp hlt (fun b z _=>sb.2 b z) (al_ Li e sb) (fun K=>⟨_,(od_ Li e sb).elim fun od z=>⟨_,od,e,z,m',rfl⟩,xd.mono K _ _ (eq_895 (r:=[v]) (ys:=[y]) (zh w2.1 rfl) dl)⟩) rfl) fun g1 z=>⟨g1,z.1,z.2.1,.none,rfl,z.2.2▸q.2⟩
theorem eq_799 {g:G} {K α:Type} [DecidableEq K] [DecidableEq α] {f:α->K} (hf:∀a b,f a=f b->a=b):∀{ks:List α} {vs:List V} {kvs:List (K×Value)} {k:α},kvs.map (·.1)=ks.map f->g.DL vs (kvs.map (·.2))->zP ks vs k=none->valueAt kvs (f k)=none
 | [],_,[],_=>fun _ _ _=>rfl
 | [],_,_::_,_=>fun e=>nomatch e
 | _::_,_,[],_=>fun e=>nomatch e
 | _::_,[],p::kvs,_=>fun _ d=>nomatch (show (p::kvs).map (·.2)=[] from d)
 | j::ks,u::vs,(a,b)::kvs,k=>fun e d h=>by
  obtain ⟨e1,e2⟩:=List.cons.inj e
  obtain ⟨y,ys,e3,_,r⟩:=d
  obtain ⟨_,e4⟩:=List.cons.inj e3
  obtain rfl:a=f j:=e1
  have h:(bif decide (j=k) then some u else zP ks vs k)=none:=h
  by_cases hj:j=k
  ·rw [decide_eq_true hj] at h;exact nomatch h
  ·rw [decide_eq_false hj] at h
   have ih:=eq_799 hf e2 (e4▸r) h
   unfold valueAt at ih ⊢
   rw [List.find?_cons,decide_eq_false fun q=>hj (hf _ _ q)]
   exact ih
theorem eq_371:yr (.builtin "dict.get") getF:=fun g vs xs v d h=>(eq_765 h d).elim fun x z=>z.elim fun ys z=>z.2.elim fun a z2=>z2.elim fun us z2=>(zc z2.2.2).elim fun p h=>(Zx h.1 z2.1).elim fun a n=>n.elim fun dx n=>n.elim fun zs n=>by
 obtain ⟨rfl,Li,dl⟩:=n
 rw [z.1]
 rcases oc (o:=p.1.dks) h.2 with ⟨_,h⟩ | ⟨ks,e,h⟩
 ·obtain ⟨ks,e,h⟩:=zc h
  obtain ⟨y,rfl,k,dk,h⟩:=xw h z2.2.1
  obtain ⟨i,hi,h⟩:=zc h
  obtain ⟨t,rfl⟩:=ya hi dk
  rw [eq_722 e] at Li
  obtain ⟨kvs,sm,D,ek,rfl⟩:=eq_826 Li
  refine call_meetsIn F.slot_dict_get D.typeIs F.entry_dict_get (F.args_dict_get_2 _ _) (meets_dict_get (PySem.intKind PW w0) a (k:=i) (beq_self_eq_true i) sm) ⟨_,D.mapOf,?_⟩
  have ek:kvs.map (·.1)=ks.map id:=ek.trans (List.map_id _).symm
  cases hl:zP ks p.2 i with
  | none=>rw [hl] at h;rw [show valueAt kvs i=none from eq_799 (f:=id) (fun _ _=>id) ek dl hl];obtain rfl:V.none=v:=Option.some.inj h;exact Pv.tk (v:=.none) rfl
  | some w=>rw [hl] at h;exact (eq_880 (f:=id) (fun _ _=>id) ek dl hl).elim fun y hy=>(show valueAt kvs i=some y from hy.1).symm▸Pv.tk ((show w=v from Option.some.inj h)▸hy.2)
 ·obtain ⟨y,w,rfl,k,u,dk,du,h⟩:=eq_897 h z2.2.1
  obtain ⟨s,hs,h⟩:=zc h
  obtain ⟨t,rfl⟩:=zI hs dk
  rw [eq_890 e] at Li
  obtain ⟨kvs,sm,D,ek,rfl⟩:=eq_876 Li
  refine call_meetsIn F.slot_dict_get D.typeIs F.entry_dict_get (F.args_dict_get_3 _ _ _) (meets_dict_get_default (PySem.strKind PW w0) a (k:=Sx s) (by exact beq_self_eq_true (Sx s)) sm w) ⟨_,D.mapOf,?_⟩
  cases hl:zP ks p.2 s with
  | none=>rw [hl] at h;rw [eq_799 (f:=Sx) (fun _ _=>eq_914) ek dl hl];exact Pv.tk ((show u=v from Option.some.inj h)▸du)
  | some w=>rw [hl] at h;exact (eq_880 (f:=Sx) (fun _ _=>eq_914) ek dl hl).elim fun y hy=>hy.1.symm▸Pv.tk ((show w=v from Option.some.inj h)▸hy.2)
theorem eq_131:yr (.builtin "dict.items") itmF:=fun g vs xs v d h=>(xw h d).elim fun x z=>z.2.elim fun u z2=>z.1▸(zc z2.2).elim fun p h=>(zc h.2).elim fun ks h2=>(eq_860 h.1 z2.1).elim fun a n=>n.elim fun dx n=>n.elim fun ys n=>by
 obtain ⟨rfl,ka,_,Li,dl⟩:=n
 obtain rfl:=Option.some.inj h2.2
 rw [eq_890 h2.1] at Li
 obtain ⟨kvs,sm,D,ek,rfl⟩:=eq_876 Li
 refine call_meetsIn F.slot_dict_items D.typeIs F.entry_dict_items (F.args_dict_items_1 _) (meets_dict_items (PySem.strKind PW w0) a sm) ⟨⟨kvs,D⟩,?_⟩
 obtain ⟨o,es,ep,ho,D⟩:=D
 have e:=Heap.get?_push_size g.s.heap (o:={ cls:=.type "dict_items",data:=.fields #[.ref a] }) rfl
 have k:(g.push { cls:=.type "dict_items",data:=.fields #[.ref a] } rfl g.s.toks).κ g.s.heap.objs.size=.fz:=show (g.κ _).or (nuA _ _ _)=_ by rw [zE];unfold nuA;rw [Nat.beq_refl];rfl
 exact ⟨g.push { cls:=.type "dict_items",data:=.fields #[.ref a] } rfl g.s.toks,rfl,xv,rfl,g.s.heap.objs.size,a,kvs.map (·.2),rfl,k,(xv.k a (yJ ka)).trans ka,⟨_,o,e,(xv.f a ka).trans ho,rfl,kvs,⟨sm,es,ep,D⟩,ek,rfl⟩,xv.denL dl⟩
theorem eq_729 {g:G} {a b k:Int} {t u v:Tok} {tk:Nat}:Pv g (.nd (.rng a b k) []) g.H (.ref g.s.heap.objs.size) { g.s with heap:=g.s.heap.push { cls:=.type "range",data:=.fields #[.int a t,.int b u,.int k v] },toks:=tk }:=Pv.push (t:=.rng a b k) (l:=[]) (ys:=[]) rfl ⟨⟨t,u,v,rfl⟩,rfl⟩ rfl
theorem eq_222 {k:Int} (h:0 < k/\k<=1000):k.natAbs < 1073741824:=by lia
theorem eq_407:yr (.type "range") rngF:=fun g vs xs v d h=>(zc h).elim fun is h=>(eq_827 h.1 d).elim fun ps z=>by
 obtain ⟨rfl,rfl⟩:=z
 have h:=h.2
 rcases ps with _ | ⟨p,_ | ⟨q,_ | ⟨r,_ | ⟨_,_⟩⟩⟩⟩
 ·exact zl h
 ·exact call_range_1 (Option.some.inj h▸eq_729)
 ·exact call_range_2 (Option.some.inj h▸eq_729)
 ·have w:=zm (show wo (0 < r.1/\r.1<=1000) (some (V.nd (.rng p.1 q.1 r.1) []))=some v from h)
  exact call_range_3 (Int.ne_of_gt w.1.1) (Option.some.inj w.2▸eq_729) (.inl (PyProof.noPylong_small (eq_222 w.1)))
 ·exact zl h
end Mine
end
section
open PySem PySem.W PySem.Calls PyProof.Rows
open PySem.Builtin PySem.Builtin.Str
set_option genInjectivity false
set_option genSizeOf false
namespace Mine
theorem eq_611 {v:V} {c:Nat} (h:sgn v=some c):yM v=some [c]:=(zc h).elim fun s h=>by
 rcases s with _ | ⟨d,_ | ⟨_,_⟩⟩
 ·exact zl h.2
 ·exact h.1.trans (congrArg (fun z=>some [z]) (Option.some.inj h.2))
 ·exact zl h.2
theorem eq_806 {g:G} {vs:List V} {xs:List Value} {k:List Nat->Nat->Option V} {y:V} (h:xc vs k=some y) (d:g.DL vs xs):∃x t c u,xs=[.str (Sx x) t,.str (Sx [c]) u]/\k x c=some y:=
 (eq_897 h d).elim fun a z=>z.elim fun b z=>z.2.elim fun v z2=>z2.elim fun w z2=>(zc z2.2.2).elim fun x h=>(zc h.2).elim fun c h2=>(zI h.1 z2.1).elim fun t e=>(zI (eq_611 h2.1) z2.2.1).elim fun u f=>⟨x,t,c,u,by rw [z.1,e,f],h2.2⟩
theorem eq_829 {c a k:Nat} {r:List Nat}:yb c k (a::r)=if a=c then k::yb c (k+1) r else yb c (k+1) r:=by
 show (bif Nat.beq a c then _ else _)=_
 by_cases h:a=c
 ·rw [if_pos h,h,Nat.beq_refl];rfl
 ·rw [if_neg h,Bool.eq_false_iff.mpr fun z=>h (Nat.eq_of_beq_eq_true z)];rfl
theorem eq_771 {c a:Nat} {cur r:List Nat}:zS c cur (a::r)=if a=c then cur::zS c [] r else zS c (cur++[a]) r:=by
 show (bif Nat.beq a c then _ else _)=_
 by_cases h:a=c
 ·rw [if_pos h,h,Nat.beq_refl];rfl
 ·rw [if_neg h,Bool.eq_false_iff.mpr fun z=>h (Nat.eq_of_beq_eq_true z)];rfl
theorem eq_888 {X:List Nat} {c i:Nat}:StrLaws.At (Sx X) (Sx [c]) (Sx X).length i↔X[i]?=some c:=StrLaws.subAt_one (Sx X) c i
theorem eq_789 {a b:Str} (h:a.cps.toList=b.cps.toList):a=b:=congrArg Str.mk (Array.ext' h)
theorem eq_920 {c:Nat}:∀{l:List Nat} {k i:Nat},i∈yb c k l↔k<=i/\l[i - k]?=some c
 | [],k,i=>⟨nofun,fun h=>nomatch h.2⟩
 | a::r,k,i=>by
  have ih:=eq_920 (c:=c) (l:=r) (k:=k+1) (i:=i)
  have s:k < i->(a::r)[i - k]?=r[i - (k+1)]?:=fun h=>by rw [show i - k=(i - (k+1))+1 by omega];rfl
  have z:k=i->(a::r)[i - k]?=some a:=fun h=>by rw [h,Nat.sub_self];rfl
  rw [eq_829]
  by_cases h:a=c
  ·rw [if_pos h,List.mem_cons,ih]
   refine ⟨fun q=>q.elim (fun q=>⟨Nat.le_of_eq q.symm,(z q.symm).trans (congrArg some h)⟩) fun q=>⟨Nat.le_of_succ_le q.1,(s q.1).trans q.2⟩,fun q=>(Nat.eq_or_lt_of_le q.1).imp Eq.symm fun l=>⟨l,(s l).symm.trans q.2⟩⟩
  ·rw [if_neg h,ih]
   exact ⟨fun q=>⟨Nat.le_of_succ_le q.1,(s q.1).trans q.2⟩,fun q=>(Nat.eq_or_lt_of_le q.1).elim (fun e=>(h (Option.some.inj ((z e).symm.trans q.2))).elim) fun l=>⟨l,(s l).symm.trans q.2⟩⟩
theorem eq_798 {c:Nat}:∀{l:List Nat} {k:Nat},(yb c k l).Pairwise (· < ·)
 | [],_=>.nil
 | a::r,k=>by
  have ih:=eq_798 (c:=c) (l:=r) (k:=k+1)
  rw [eq_829]
  split
  ·exact .cons (fun i m=>(eq_920.mp m).1) ih
  ·exact ih
theorem eq_650 (X:List Nat) (c:Nat):occurrences (Sx X) (Sx [c]) 0 (Sx X).length 1=(yb c 0 X).take 1:=by
 rcases StrLaws.occ_head (Sx X) (Sx [c]) 1 (Nat.le_refl _) with ⟨h,n⟩ | ⟨i,r,h,ha,hm⟩
 ·rw [h]
  cases e:yb c 0 X with
  | nil=>rfl
  | cons j r=>exact absurd (eq_888.mpr (eq_920.mp (e▸.head _:j∈yb c 0 X)).2) (n _)
 ·have hr:r=[]:=by
   have:=StrLaws.occ_length_le (Sx X) (Sx [c]) 0 (Sx X).length 1
   rw [h] at this
   exact List.length_eq_zero_iff.mp (Nat.le_zero.mp (Nat.le_of_succ_le_succ this))
  have m:i∈yb c 0 X:=eq_920.mpr ⟨Nat.zero_le _,eq_888.mp ha⟩
  rw [h,hr]
  cases e:yb c 0 X with
  | nil=>rw [e] at m;exact nomatch m
  | cons j r'=>
   have s:=eq_798 (c:=c) (l:=X) (k:=0)
   rw [e] at m s
   have:i=j:=(List.mem_cons.mp m).elim id fun q=>absurd (eq_888.mpr (eq_920.mp (e▸.head _:j∈yb c 0 X)).2) (hm j ((List.pairwise_cons.mp s).1 i q))
   rw [this];rfl
theorem eq_270:yr (.builtin "str.find") zhh:=fun g vs xs v d h=>(eq_806 h d).elim fun x z=>z.elim fun t z=>z.elim fun c z=>z.elim fun u z=>z.1▸SC.find (by
 rw [show Txt.find (Sx x) (Sx [c])=y4 c x by
  unfold Txt.find y4
  rw [eq_650]
  cases yb c 0 x<;>rfl]
 exact Pv.tk (Option.some.inj z.2▸zp))
theorem eq_132:yr (.builtin "str.index") indF:=fun g vs xs v d h=>(eq_806 h d).elim fun x z=>z.elim fun t z=>z.elim fun c z=>z.elim fun u z=>(zc z.2).elim fun i h=>z.1▸SC.index (i:=i) (rest:=[]) (by
 rw [eq_650]
 cases e:yb c 0 x with
 | nil=>rw [e] at h;exact zl h.1
 | cons j r=>rw [e] at h;rw [Option.some.inj h.1];rfl) (Pv.tk (Option.some.inj h.2▸zp))
theorem eq_65:yr (.builtin "str.rindex") zgH:=fun g vs xs v d h=>(eq_806 h d).elim fun x z=>z.elim fun t z=>z.elim fun c z=>z.elim fun u z=>(zc z.2).elim fun i h=>z.1▸by
 have m:=List.mem_of_getLast? h.1
 have hl:lastOccurrence (Sx x) (Sx [c]) 0 (Sx x).length=some i:=by
  rcases StrLaws.last_spec (Sx x) (Sx [c]) with ⟨_,hn⟩ | ⟨j,hj,ha,hm⟩
  ·exact absurd (eq_888.mpr (eq_920.mp m).2) (hn i)
  ·have mj:j∈yb c 0 x:=eq_920.mpr ⟨Nat.zero_le _,eq_888.mp ha⟩
   obtain ⟨l,e⟩:=List.getLast?_eq_some_iff.mp h.1
   have s:=eq_798 (c:=c) (l:=x) (k:=0)
   rw [e] at mj s
   rw [hj]
   refine congrArg some ((List.mem_append.mp mj).elim (fun q=>?_) List.mem_singleton.mp)
   exact absurd (eq_888.mpr (eq_920.mp m).2) (hm i ((List.pairwise_append.mp s).2.2 j q i (.head _)))
 exact call_gives F.slot_str_rindex (typeIs_str _ _ _) F.entry_str_rindex (F.args_str_rindex_2 _ _) (gives_str_rindex _ _ t u i hl) (Pv.tk (n:=g.s.toks+1) (Option.some.inj h.2▸zp))
theorem eq_845 {α:Type} (p:α->Bool):∀l:List α,l.drop (l.takeWhile p).length=l.dropWhile p
 | []=>rfl
 | a::r=>by
  rw [List.takeWhile_cons,List.dropWhile_cons]
  cases p a
  ·rfl
  ·exact eq_845 p r
theorem eq_40 (X:List Nat) (c:Nat):Txt.stripChars (Sx X) (Sx [c])=Sx (zz c X):=by
 unfold Txt.stripChars
 rw [PySem.W.stripBy_eq]
 unfold PySem.W.stripped
 refine eq_789 ?_
 rw [StrLaws.strSub_toList,show (Sx [c]).cps.contains=fun a=>a == c from funext fun a=>by
  show #[c].contains a=_
  rw [Bool.eq_iff_iff]
  simp]
 rw [if_pos rfl,if_pos rfl,show (Sx X).cps.toList=X from rfl,eq_845]
 show _=((X.dropWhile (· == c)).reverse.dropWhile (· == c)).reverse
 have lX:X.length - (X.takeWhile (· == c)).length=(X.dropWhile (· == c)).length:=by rw [← eq_845,List.length_drop]
 rw [← eq_845 _ (X.dropWhile (· == c)).reverse,List.reverse_drop,List.reverse_reverse,List.length_reverse,← lX]
 congr 1
 show X.length - _ - _=_
 omega
theorem eq_128:yr (.builtin "str.strip") zbI:=fun g vs xs v d h=>(eq_806 h d).elim fun x z=>z.elim fun t z=>z.elim fun c z=>z.elim fun u z=>have w:=zm z.2;z.1▸SC.stripChars (fun t' m=>by
 rw [eq_40]
 exact Pv.tk (Option.some.inj w.2▸eq_936)) (eq_931 w.1)
theorem eq_130:yr (.builtin "str.lower") ziR:=fun g vs xs v d h=>(xw h d).elim fun x z=>z.2.elim fun u z2=>z.1▸(zc z2.2).elim fun s h=>(zI h.1 z2.1).elim fun t e=>have w:=zm h.2;have w2:=zm w.2;e▸KXs.lower_K (x:=Sx s) (fun c m=>by
 have q:=List.all_eq_true.mp w2.1 c m
 unfold X5 at q
 rw [Bool.and_eq_true,Bool.and_eq_true,Bool.or_eq_true] at q
 exact ⟨Nat.le_of_ble_eq_true q.1,Nat.le_of_ble_eq_true q.2.1,q.2.2.imp Nat.le_of_ble_eq_true Nat.le_of_ble_eq_true⟩) (Nat.le_trans w.1 (by decide)) fun t' k=>Pv.tk (Option.some.inj w2.2▸eq_936)
theorem eq_685 (X:List Nat) (c i limit:Nat) (st:Array Nat×Nat) (h1:st.2<=i) (h2:st.1.size < limit) :
  (((st.fst.size < limit/\st.snd<=i)/\i+(Sx [c]).length<=X.length)/\subAt (Sx X) (Sx [c]) i=true)↔X[i]?=some c:=by
 have:=eq_888 (X:=X) (c:=c) (i:=i)
 exact ⟨fun q=>this.mp ⟨q.1.2,q.2⟩,fun q=>have z:=this.mpr q;⟨⟨⟨h2,h1⟩,z.1⟩,z.2⟩⟩
theorem eq_792 (X:List Nat) (c limit:Nat):∀(rest pre:List Nat) (st:Array Nat×Nat),X=pre++rest->st.2<=pre.length->st.1.size+rest.length < limit->
  (forIn (List.range' pre.length (rest.length+1)) st (StrLaws.occBody (Sx X) (Sx [c]) X.length limit)).run.fst.toList=st.1.toList++yb c pre.length rest
 | [],pre,st,hX,h1,h2=>by
  have c0:=eq_685 X c pre.length limit st h1 h2
  rw [show X[pre.length]?=none by rw [hX,List.append_nil];exact List.getElem?_eq_none (Nat.le_refl _)] at c0
  rw [show ([]:List Nat).length+1=1 from rfl,List.range'_one,List.forIn_cons]
  unfold StrLaws.occBody
  rw [if_neg fun q=>nomatch c0.mp q]
  exact (List.append_nil _).symm
 | a::r,pre,st,hX,h1,h2=>by
  have h2:st.1.size+(r.length+1) < limit:=h2
  have c0:=eq_685 X c pre.length limit st h1 (by omega)
  rw [show X[pre.length]?=some a by rw [hX,List.getElem?_append_right (Nat.le_refl _),Nat.sub_self];rfl] at c0
  have hX':X=(pre++[a])++r:=by rw [hX,List.append_assoc];rfl
  have lp:(pre++[a]).length=pre.length+1:=List.length_append
  rw [List.length_cons,List.range'_succ,List.forIn_cons,eq_829]
  by_cases h:a=c
  ·subst h
   rw [show StrLaws.occBody (Sx X) (Sx [a]) X.length limit pre.length st=pure (ForInStep.yield (st.fst.push pre.length,pre.length+(Sx [a]).length)) by unfold StrLaws.occBody;rw [if_pos (c0.mpr rfl)],if_pos rfl,pure_bind]
   have ih:=eq_792 X a limit r (pre++[a]) (st.fst.push pre.length,pre.length+(Sx [a]).length) hX' (by rw [lp];exact Nat.le_refl _) (by rw [Array.size_push];omega)
   rw [lp] at ih
   exact ih.trans (by rw [Array.toList_push,List.append_assoc];rfl)
  ·rw [show StrLaws.occBody (Sx X) (Sx [c]) X.length limit pre.length st=pure (ForInStep.yield (st.fst,st.snd)) by unfold StrLaws.occBody;rw [if_neg fun q=>h (Option.some.inj (c0.mp q))],if_neg h,pure_bind]
   have ih:=eq_792 X c limit r (pre++[a]) (st.fst,st.snd) hX' (by rw [lp];exact Nat.le_succ_of_le h1) (Nat.lt_of_le_of_lt (Nat.add_le_add_left (Nat.le_succ _) _) h2)
   rw [lp] at ih
   exact ih
theorem occ1 (X:List Nat) (c limit:Nat) (h:X.length < limit):occurrences (Sx X) (Sx [c]) 0 (Sx X).length limit=yb c 0 X:=by
 rw [StrLaws.occ_eq]
 exact eq_792 X c limit X [] (#[],0) rfl (Nat.le_refl _) (by rw [show (#[]:Array Nat).size=0 from rfl,Nat.zero_add];exact h)
theorem eq_773 (X:List Nat) (c:Nat):∀(rest pre cur:List Nat),X=pre++cur++rest->StrLaws.partsFrom (Sx X) 1 pre.length (yb c (pre.length+cur.length) rest)=(zS c cur rest).map Sx
 | [],pre,cur,hX=>by
  show [Builtin.Str.strSub (Sx X) pre.length (Sx X).length]=[Sx cur]
  refine congrArg (fun z=>[z]) (eq_789 ?_)
  rw [StrLaws.strSub_toList]
  show (X.drop pre.length).take (X.length - pre.length)=cur
  rw [hX,List.append_nil,List.drop_left]
  exact List.take_of_length_le (by rw [List.length_append,Nat.add_sub_cancel_left];exact Nat.le_refl _)
 | a::r,pre,cur,hX=>by
  rw [eq_829,eq_771]
  by_cases h:a=c
  ·rw [if_pos h,if_pos h]
   refine congr (congrArg List.cons ?_) ?_
   ·refine eq_789 ?_
    rw [StrLaws.strSub_toList]
    show (X.drop pre.length).take (pre.length+cur.length - pre.length)=cur
    rw [hX,List.append_assoc,List.drop_left,Nat.add_sub_cancel_left,List.take_left]
   ·have:=eq_773 X c r (pre++cur++[a]) [] (by rw [hX,List.append_nil,List.append_assoc (pre++cur)];rfl)
    rw [List.length_append,List.length_append] at this
    exact this
  ·rw [if_neg h,if_neg h]
   have:=eq_773 X c r pre (cur++[a]) (by rw [hX,List.append_assoc,List.append_assoc,List.append_assoc];rfl)
   rw [List.length_append] at this
   exact this
theorem eq_697 (c:Nat):∀(l cur:List Nat),yb c 0 l=[]->zS c cur l=[cur++l]
 | [],cur,_=>congrArg (fun z=>[z]) (List.append_nil _).symm
 | a::r,cur,h=>by
  have n:∀i:Nat,(a::r)[i]?≠some c:=fun i q=>nomatch (h▸eq_920.mpr ⟨Nat.zero_le _,q⟩:i∈([]:List Nat))
  rw [eq_771,if_neg fun q=>n 0 (congrArg some q),eq_697 c r _ (List.eq_nil_iff_forall_not_mem.mpr fun i m=>n (i+1) (eq_920.mp m).2),List.append_assoc]
  rfl
theorem eq_214 (X:List Nat) (c:Nat) (hc:c < 256):Txt.split (Sx X) (Sx [c])=(xF c X).map Sx:=by
 unfold Txt.split xF
 have k1:Builtin.Str.strKind (Sx [c])=1:=by
  unfold Builtin.Str.strKind
  rw [if_pos (by show #[c].all _=true;simp [hc])]
 rw [k1]
 split
 ·rename_i h
  rw [Bool.or_eq_true,decide_eq_true_eq,decide_eq_true_eq] at h
  have:X=[]:=by
   rcases h with h | h
   ·exact List.eq_nil_of_length_eq_zero (Nat.le_zero.mp (Nat.le_of_lt_succ h))
   ·exfalso
    unfold Builtin.Str.strKind at h
    split at h
    ·omega
    ·split at h<;>omega
  subst this
  rfl
 ·rw [occ1 X c ((Sx X).length+1) (Nat.lt_succ_self _)]
  split
  ·rename_i h
   rw [eq_697 c X [] (List.isEmpty_iff.mp h)]
   rfl
  ·rw [StrLaws.partsBetween_eq]
   exact eq_773 X c X [] [] rfl
theorem eq_686 {g:G}:∀(l:List (Str×Tok)) (ls:List (List Nat)),l.map (·.1)=ls.map Sx->g.DL (ls.map .str) (strValues l)
 | [],[],_=>rfl
 | [],_::_,h=>nomatch h
 | _::_,[],h=>nomatch h
 | p::l,x::ls,h=>have z:=List.cons.inj h;zh ⟨p.2,congrArg (Value.str · p.2) z.1⟩ (eq_686 l ls z.2)
theorem eq_796 (c:Nat):∀(l cur:List Nat),(zS c cur l).length<=l.length+1
 | [],cur=>Nat.le_refl _
 | a::r,cur=>by
  rw [eq_771]
  split
  ·exact Nat.succ_le_succ (eq_796 c r [])
  ·exact Nat.le_trans (eq_796 c r _) (Nat.le_succ _)
theorem eq_129:yr (.builtin "str.split") zif:=fun g vs xs v d h=>(eq_806 h d).elim fun x z=>z.elim fun t z=>z.elim fun c z=>z.elim fun u z=>have w:=zm z.2;have w2:=zm w.2;z.1▸by
 obtain rfl:=Option.some.inj w2.2
 have hs:=eq_214 x c w.1
 have fin:∀(l:List (Str×Tok)) (tk:Nat),l.map (·.1)=Txt.split (Sx x) (Sx [c])->Pv g (.nd .lst ((xF c x).map .str)) g.H (.ref g.s.heap.objs.size) { g.s with heap:=g.s.heap.push { cls:=.type "list",data:=.seq (strValues l).toArray },toks:=tk }:=fun l tk h=>
  Pv.push (t:=.lst) (ys:=strValues l) rfl ⟨_,rfl⟩ (eq_686 l _ (h.trans hs))
 have hsz:(Sx x).length<=sizeLine:=eq_931 w2.1
 cases h1:(decide ((Sx x).length < (Sx [c]).length)||decide (Builtin.Str.strKind (Sx x) < Builtin.Str.strKind (Sx [c])))
 ·cases hf:(occurrences (Sx x) (Sx [c]) 0 (Sx x).length ((Sx x).length+1)).isEmpty
  ·have hp:(partsBetween (Sx x) (occurrences (Sx x) (Sx [c]) 0 (Sx x).length ((Sx x).length+1)) (Sx [c]).length)=Txt.split (Sx x) (Sx [c]):=by
    unfold Txt.split
    rw [if_neg (by rw [h1];exact Bool.false_ne_true),if_neg (by rw [hf];exact Bool.false_ne_true)]
   refine call_meets F.slot_str_split (typeIs_str _ _ _) F.entry_str_split (F.args_str_split_2 _ _) (meets_str_split_sep (Sx x) (Sx [c]) t u h1 rfl hf hsz (by
    rw [hp,hs,List.length_map]
    exact Nat.le_trans (eq_796 c x []) (Nat.le_trans (Nat.succ_le_succ w2.1) (by decide)))) ?_
   show wants (Pv g _ g.H) y9 _ { g.s with toks:=_,heap:=g.s.heap.push { cls:=.type "list",data:=.seq (strsFrom g.s.toks (partsBetween (Sx x) (occurrences (Sx x) (Sx [c]) 0 (Sx x).length ((Sx x).length+1)) (Sx [c]).length)).toArray } }
   rw [strsFrom_eq]
   exact fin (numbered g.s.toks _) _ ((numbered_texts _ _).trans hp)
  ·exact call_meets F.slot_str_split (typeIs_str _ _ _) F.entry_str_split (F.args_str_split_2 _ _) (meets_str_split_not_found (Sx x) (Sx [c]) t u h1 rfl hf)
    (fin [(Sx x,t)] g.s.toks ((if_neg (by rw [h1];exact Bool.false_ne_true)).trans (if_pos hf)).symm)
 ·exact call_meets F.slot_str_split (typeIs_str _ _ _) F.entry_str_split (F.args_str_split_2 _ _) (meets_str_split_cannot_occur (Sx x) (Sx [c]) t u h1)
   (fin [(Sx x,t)] g.s.toks (if_pos h1).symm)
theorem eq_267:yr (.builtin "str.replace") repF:=fun g vs xs v d h=>(eq_765 h d).elim fun a z=>z.elim fun zs z=>z.2.elim fun v1 z2=>z2.elim fun r z2=>(eq_897 z2.2.2 z2.2.1).elim fun b y=>y.elim fun e y=>y.2.elim fun v2 y2=>y2.elim fun v3 y2=>(zc y2.2.2).elim fun x h=>(zc h.2).elim fun c h2=>(zc h2.2).elim fun k h3=>
 (zI h.1 z2.1).elim fun t e1=>(zI (eq_611 h2.1) y2.1).elim fun u e2=>(zI h3.1 y2.2.1).elim fun w e3=>by
  have q:=zm h3.2
  obtain rfl:=Option.some.inj q.2
  rw [z.1,y.1,e1,e2,e3]
  have ho:(occurrences (Sx x) (Sx [c]) 0 (Sx x).length ((Sx x).length+1)).isEmpty=true:=by
   rw [occ1 x c ((Sx x).length+1) (Nat.lt_succ_self _),show yb c 0 x=[] from List.eq_nil_iff_forall_not_mem.mpr fun i m=>q.1 (List.mem_of_getElem? (eq_920.mp m).2)]
   rfl
  refine call_gives F.slot_str_replace (typeIs_str _ _ _) F.entry_str_replace (F.args_str_replace_3 _ _ _) (gives_str_replace (Sx x) (Sx [c]) (Sx k) t u w fun h=>by rw [ho] at h;cases h) ?_
  rw [if_pos (by rw [ho];rfl)]
  exact Pv.here eq_936
theorem eq_540 {g:G}:∀{l:List V} {ss:List (List Nat)} {xs:List Value},zB yM l=some ss->g.DL l xs->∃ps:List (Str×Tok),xs=strValues ps/\ps.map (·.1)=ss.map Sx
 | [],_,_=>fun h d=>⟨[],d,Option.some.inj h▸rfl⟩
 | v::l,_,_=>fun h d=>(zc h).elim fun b h=>(zc h.2).elim fun r h2=>d.elim fun y d=>d.elim fun ys d=>(zI h.1 d.2.1).elim fun t e=>(eq_540 h2.1 d.2.2).elim fun ps z=>⟨(Sx b,t)::ps,by rw [d.1,e,z.1];rfl,by rw [← Option.some.inj h2.2,List.map_cons,List.map_cons,z.2]⟩
theorem eq_700:∀l:List (List Nat),Str.join (Sx []) (l.map Sx)=Sx l.flatten
 | []=>rfl
 | [x]=>congrArg Sx (List.append_nil x).symm
 | x::y::r=>by
  show (Sx x++Sx [])++Str.join (Sx []) ((y::r).map Sx)=_
  rw [eq_700 (y::r),eq_877,eq_877,List.append_nil]
  rfl
theorem eq_269:yr (.builtin "str.join") joiF:=fun g vs xs v d h=>(eq_897 h d).elim fun a z=>z.elim fun b z=>z.2.elim fun v1 z2=>z2.elim fun v2 z2=>(zc z2.2.2).elim fun s h=>have w:=zm h.2;(zc w.2).elim fun p h2=>have w2:=zm h2.2;(zc w2.2).elim fun ss h3=>have w3:=zm h3.2;(zI h.1 z2.1).elim fun t e1=>(eq_860 h2.1 z2.2.1).elim fun a n=>n.elim fun dx n=>n.elim fun ys n=>by
 obtain ⟨rfl,_,_,Li,dl⟩:=n
 obtain ⟨m,ga⟩:=xi w2.1 Li
 obtain ⟨ps,rfl,el⟩:=eq_540 h3.1 dl
 obtain rfl:=w.1
 obtain rfl:=Option.some.inj w3.2
 rw [z.1,e1]
 have eq_907:=StrLaws.joinFits (sep:=Sx []) (texts:=ss.map Sx) (B:=1000) (fun y hm=>by
  obtain ⟨x,hx,rfl⟩:=List.mem_map.mp hm
  exact w3.1.2 x hx) (by
  rw [List.length_map]
  exact Nat.le_trans (Nat.mul_le_mul_right _ w3.1.1) (by decide))
 refine SC.join ⟨_,ga,rfl,m,rfl⟩ el (by unfold JoinOk;rw [eq_907];rfl) fun t' k=>?_
 rw [show Txt.join (Sx []) (ss.map Sx)=Sx ss.flatten by
  unfold Txt.join
  rw [StrLaws.glued_eq_join]
  exact eq_700 ss]
 exact Pv.tk eq_936
end Mine
end
section
open PySem PySem.W PySem.Calls PyProof.Rows
set_option genInjectivity false
set_option genSizeOf false
namespace Mine
def ye (h:Heap) (vs:List Value) (ns:List (List Nat)):Prop:=
 vs.length=ns.length/\∀(j:Nat) (n:List Nat),ns[j]?=some n->∃(a:Addr) (o:Obj) (t:Tok) (y:Value) (k:Nat),vs[j]?=some (.ref a)/\h.get? a=some o/\o.cls=.type "tuple"/\o.data=.seq #[.str (Sx n) t,y] k
theorem ye.keeps {h h':Heap} {vs:List Value} {ns:List (List Nat)} (x:ye h vs ns) (hk:∀b o,h.get? b=some o->o.cls=.type "tuple"->h'.get? b=some o):ye h' vs ns:=
 ⟨x.1,fun j n e=>let ⟨a,o,t,y,k,e1,e2,e3,e4⟩:=x.2 j n e;⟨a,o,t,y,k,e1,hk _ _ e2 e3,e3,e4⟩⟩
theorem eq_661 {α:Type} {lt:Nat->Nat->Bool} {n:Nat} {cmp:Nat->Nat->(Bool->Shared->Prop)->Shared->Prop} {s:Shared} (hc:∀i j C,i < n->j < n->i≠j->C (lt i j) s->cmp i j C s) :
  ∀(t:KasT α) (p:α) (Q:α->Shared->Prop),Xx lt n t=some p->Q p s->t.kasWp cmp Q s
 | .ret a,p,Q,h,q=>by cases h;exact q
 | .ask i j k,p,Q,h,q=>by
  have w:=zm (show wo (i < n/\j < n/\i≠j) (Xx lt n (k (lt i j)))=some p from h)
  exact hc i j _ w.1.1 w.1.2.1 w.1.2.2 (eq_661 hc (k (lt i j)) p Q w.2 q)
section
variable {prog:Program} {w:World} {A:Around} {E:Value->Shared->Prop} {s:Shared} {vs:List Value} {ns:List (List Nat)}
theorem eq_151 {i j:Nat} {C:Bool->Shared->Prop} (x:ye s.heap vs ns) (nd:ns.Nodup) (hi:i < ns.length) (hj:j < ns.length) (hij:i≠j) (h:C (ltS ns i j) s) :
  kas_ask prog w A (tuples' true) vs i j C s:=by
 obtain ⟨a,o,t,y,k,e1,e2,e3,e4⟩:=x.2 i ns[i] (List.getElem?_eq_getElem hi)
 obtain ⟨a',o',t',y',k',f1,f2,f3,f4⟩:=x.2 j ns[j] (List.getElem?_eq_getElem hj)
 have g1:vs.getD i Value.none=.ref a:=by rw [List.getD_eq_getElem?_getD,e1];rfl
 have g2:vs.getD j Value.none=.ref a':=by rw [List.getD_eq_getElem?_getD,f1];rfl
 unfold kas_ask
 rw [g1,g2]
 refine kat_lt e2 e4 f2 f4 ?_
 have ne:Sx ns[i]≠Sx ns[j]:=fun q=>by
  have q:=eq_914 q
  have pw:=List.pairwise_iff_getElem.mp nd
  rcases Nat.lt_or_gt_of_ne hij with l | l
  ·exact pw i j hi hj l q
  ·exact pw j i hj hi l q.symm
 refine kat_cons (wpAny_eqBool_str ?_)
 rw [decide_eq_false ne]
 refine kat_no ?_
 show wpAny _ _ (oneLt' true _ _) _ _ _
 refine oneLt_str ?_
 have e:ltS ns i j=decide ((Sx ns[i]).cps.toList < (Sx ns[j]).cps.toList):=by
  unfold ltS
  rw [List.getD_eq_getElem?_getD,List.getD_eq_getElem?_getD,List.getElem?_eq_getElem hi,List.getElem?_eq_getElem hj]
  rfl
 rw [← e]
 exact h
theorem eq_14 {Q:SortKind->Shared->Prop} (x:ye s.heap vs ns) (hne:0 < ns.length) (h:Q (tuples' true) s):wpAny (model prog w) A (keyKind' vs.toArray) Q E s:=by
 obtain ⟨fs,hf,hl,hT⟩:∃fs,KatTups s.heap vs fs/\fs.length=ns.length/\∀v∈fs,∃b t,v=Value.str b t:=by
  clear h hne
  obtain ⟨hl,hx⟩:=x
  revert hx
  revert hl
  revert vs
  induction ns with
  | nil=>
   intro vs hl hx
   have:vs=[]:=List.length_eq_zero_iff.mp hl
   subst this
   exact ⟨[],.nil,rfl,fun _ q=>nomatch q⟩
  | cons n ns ih=>
   intro vs hl hx
   cases vs with
   | nil=>cases hl
   | cons v vs=>
    obtain ⟨a,o,t,y,k,e1,e2,e3,e4⟩:=hx 0 n rfl
    have e1:v=.ref a:=by simpa using e1
    subst e1
    obtain ⟨fs,h1,h2,h3⟩:=ih (vs:=vs) (by simpa using hl) fun j n e=>by
     have:=hx (j+1) n (by simpa using e)
     simpa using this
    refine ⟨.str (Sx n) t::fs,.cons e2 e3 e4 rfl h1,by simp [h2],fun v q=>?_⟩
    cases q with
    | head=>exact ⟨_,_,rfl⟩
    | tail _ q=>exact h3 v q
 refine kat_kind (T:=.type "str") hf (by omega) (fun v q=>?_) (by decide) (by exact h)
 obtain ⟨b,t,rfl⟩:=hT v q
 exact Looks.of_pure rfl
theorem eq_490 {a:Addr} {n:Nat} {p:Array Nat} {P:PySem.Fin->Shared->Prop} (ho:s.heap.get? a=some (seqObj "list" vs.toArray n)) (x:ye s.heap vs ns) (nd:ns.Nodup) (h2:2<=vs.length) (h64:vs.length < 64)
  (hp:Xx (ltS ns) ns.length (kas_sort ns.length)=some p)
  (h:∀h' c,(∀b o,b≠a->s.heap.get? b=some o->h'.get? b=some o)->h'.get? a=some (seqObj "list" (p.toList.map fun i=>vs.getD i Value.none).toArray c)->P (.done (.ret .none)) { s with heap:=h' }) :
  wpAny (model prog w) A (Builtin.«list.sort» ⟨[.ref a],[]⟩) P E s:=by
 have hlen:=x.1
 have ha:a < s.heap.objs.size:=Heap.lt_size ho
 have s1:=Heap.SameBut.update s.heap a (Obj.mapSeq fun _=>(#[]:Array Value))
 obtain ⟨e1,ho1⟩:∃e1,(s.heap.update a (Obj.mapSeq fun _=>(#[]:Array Value))).get? a=some (seqObj "list" #[] e1):=⟨_,get?_update_seq ho fun _=>#[]⟩
 have k3:∀b o,b≠a->s.heap.get? b=some o->(((s.heap.update a (Obj.mapSeq fun _=>(#[]:Array Value))).push (seqObj "tuple" vs.toArray 0)).push (seqObj "list" #[] 0)).get? b=some o:=
  fun b o nb e=>Heap.get?_push_of_some _ (Heap.get?_push_of_some _ (s1.extBut b o nb e))
 have ho3:(((s.heap.update a (Obj.mapSeq fun _=>(#[]:Array Value))).push (seqObj "tuple" vs.toArray 0)).push (seqObj "list" #[] 0)).get? a=some (seqObj "list" #[] e1):=Heap.get?_push_of_some _ (Heap.get?_push_of_some _ ho1)
 have x3:ye (((s.heap.update a (Obj.mapSeq fun _=>(#[]:Array Value))).push (seqObj "tuple" vs.toArray 0)).push (seqObj "list" #[] 0)) vs ns:=x.keeps fun b o e c=>k3 b o (fun q=>by subst q;rw [ho] at e;cases e;exact absurd c (by show ¬ (Value.type "list"=Value.type "tuple");simp)) e
 generalize hH:(((s.heap.update a (Obj.mapSeq fun _=>(#[]:Array Value))).push (seqObj "tuple" vs.toArray 0)).push (seqObj "list" #[] 0))=H3 at k3 ho3 x3
 rw [list_sort_plain]
 refine wpAny_bind (listItems_at ho rfl ?_)
 refine wpAny_bind (listUpdate_at ho rfl ?_ (by rw [List.size_toArray,sizeLine_eq];omega) (Nat.zero_le _))
 refine wpAny_bind (seqEpoch_at ho1 rfl ?_)
 refine wpAny_bind (wpAny_newTuple ?_ (by show vs.length<=_;rw [sizeLine_eq];omega))
 refine wpAny_bind (wpAny_newList ?_ (Nat.zero_le _))
 refine wpAny_holding ?_
 show wpAny (model prog w) A _ P E { s with heap:=(((s.heap.update a (Obj.mapSeq fun _=>(#[]:Array Value))).push (seqObj "tuple" vs.toArray 0)).push (seqObj "list" #[] 0)) }
 rw [hH]
 dsimp only
 have hn2:¬ vs.toArray.size < 2:=by rw [List.size_toArray];omega
 rw [if_neg hn2,if_neg hn2]
 refine wpAny_bind (eq_14 (s:={ s with heap:=H3 }) x3 (by omega) ?_)
 refine wpAny_bind (wpAny_mono (kat_run (κ:=tuples' true) (ks:=vs) (Q:=fun st' s'=>arrOf st'=p.map (kas_item (vs.toArray.zip vs.toArray))/\p.size=vs.length/\failedOf st'=none/\s'={ s with heap:=H3 })
  (G:=fun p' s'=>p'=p/\s'={ s with heap:=H3 })
  rfl h2 h64 (fun p' st' s' a1 a2 a3 a4=>by obtain ⟨rfl,rfl⟩:=a4;exact ⟨a2,a1,a3,rfl⟩) ?run) ?_ fun _ _ e=>e)
 case run=>
  rw [hlen]
  exact eq_661 (fun i j C hi hj hij q=>eq_151 (s:={ s with heap:=H3 }) x3 nd hi hj hij q) _ p _ hp ⟨rfl,rfl⟩
 rintro ⟨⟨⟩,st'⟩ s' ⟨har,hps,hf,rfl⟩
 dsimp only
 have hout:=kat_snds (ks:=vs) (vs:=vs) rfl har
 have hsz:(List.toArray (p.toList.map fun i=>vs.getD i Value.none)).size=vs.length:=by rw [List.size_toArray,List.length_map,Array.length_toList,hps]
 rw [hout]
 have s2:=Heap.SameBut.update H3 a (Obj.mapSeq fun _=>List.toArray (p.toList.map fun i=>vs.getD i Value.none))
 obtain ⟨c2,hc2⟩:∃c2,(H3.update a (Obj.mapSeq fun _=>List.toArray (p.toList.map fun i=>vs.getD i Value.none))).get? a=some (seqObj "list" (List.toArray (p.toList.map fun i=>vs.getD i Value.none)) c2):=⟨_,get?_update_seq ho3 fun _=>List.toArray (p.toList.map fun i=>vs.getD i Value.none)⟩
 refine wpAny_bind (seqEpoch_at ho3 rfl ?_)
 refine wpAny_bind (listUpdate_at ho3 rfl ?_ (Nat.zero_le _) (Nat.le_trans (Nat.le_of_eq hsz) (by rw [sizeLine_eq];omega)))
 rw [hf]
 simp only [bne_self_eq_false,Bool.false_eq_true,if_false]
 exact wpAny_pure (h _ c2 (fun b o nb e=>s2.extBut b o nb (k3 b o nb e)) hc2)
theorem eq_496 {p:Array Nat} {Q:Value->Shared->Prop} (x:ye s.heap vs ns) (nd:ns.Nodup) (h2:2<=vs.length) (h64:vs.length < 64) (hp:Xx (ltS ns) ns.length (kas_sort ns.length)=some p)
  (h:∀h' c,(∀b o,s.heap.get? b=some o->h'.get? b=some o)->h'.get? s.heap.objs.size=some (seqObj "list" (p.toList.map fun i=>vs.getD i Value.none).toArray c)->Q (.ref s.heap.objs.size) { s with heap:=h' }) :
  wpAny (model prog w) A (do
   let l ← newList vs
   let _ ← holding [l] (call (.builtin "list.sort") [l])
   ret l) (fun fin s'=>∃v,fin=.done (.ret v)/\Q v s') E s:=by
 refine wpAny_bind (wpAny_newList ?_ (by rw [sizeLine_eq];omega))
 have hoL:(s.heap.push (seqObj "list" vs.toArray 0)).get? s.heap.objs.size=some (seqObj "list" vs.toArray 0):=Heap.get?_push_size _ rfl
 refine wpAny_bind (wpAny_holding (wpAny_call_entry slot_list_sort ⟨_,hoL,rfl⟩ entry_list_sort ?body (args_list_sort _)))
 case body=>
  refine eq_490 (s:={ s with heap:=s.heap.push (seqObj "list" vs.toArray 0) }) hoL (x.keeps fun b o e _=>Heap.get?_push_of_some _ e) nd h2 h64 hp fun h' c hk hc=>⟨_,rfl,wpAny_pure ⟨_,rfl,?_⟩⟩
  exact h h' c (fun b o e=>hk b o (Nat.ne_of_lt (Heap.lt_size e)) (Heap.get?_push_of_some _ e)) hc
end
theorem eq_498:typeLookup (.type "list") "keys"=pure none:=by rw [typeLookup_type,builtinLookup_eq_fast];kernel_rfl
theorem eq_15 {prog:Program} {w:World} {A:Around} {E:Value->Shared->Prop} {s:Shared} {a:Addr} {o:Obj} {xs:Array Value} {k:Nat} {Q:Option Value->Shared->Prop}
  (hx:s.heap.get? a=some o) (hc:o.cls=.type "list") (hdat:o.data=.seq xs k) (hd:o.dict=none) (hA:A.handled=none)
  (h:∀h' tk,(∀b o,s.heap.get? b=some o->h'.get? b=some o)->Q none { s with heap:=h',toks:=tk }):wpAny (model prog w) A (getAttr? (.ref a) "keys") Q E s:=by
 obtain ⟨c,dct,dat,sl⟩:=o
 simp only at hc hdat hd
 subst hc hdat hd
 obtain ⟨hp,g,d,tk,os⟩:=s
 have hT:∀tk',(⟨hp,g,d,tk',os⟩:Shared).TypeIs (.ref a) "list":=fun _=>⟨_,hx,rfl⟩
 have f1:=sub_AttributeError
 have f3:=F.slot_list_getattribute.lookup
 have f4:=F.slot_list_getattribute.bind (.ref a)
 have f5:=am_list_getattr_none
 unfold getAttr? getAttrBy? getAttrBy
 repeat (any_goals (first | assumption | exact hT _ | ((with_reducible show wpAny _ _ (call (Value.builtin "list.__getattribute__") _ _) _ _ _);refine call_meets F.slot_list_getattribute (hT _) am_entry_list_getattribute (F.args_list_getattribute_2 _ _) (meets_getattribute_miss_list a xs k sl _ _ eq_498 (by decide +kernel) (by decide +kernel)) ⟨hx,hA,fun h' tk' e hx'=>?_⟩) | wp_step))
 obtain ⟨t',u',he⟩:=hx'.there
 show wpAny _ _ (getattributeRaised _ _ _ _ _ _ _) _ _ _
 unfold getattributeRaised
 repeat (any_goals (first | assumption | wp_step))
 exact h _ _ hx'.keeps
theorem eq_668:entryFor table "dict.update.loop"=some Builtin.«dict.update.loop»:=entryFor_of_tree (by kernel_rfl)
theorem eq_846:plainId "dict.update.loop"=true:=by decide +kernel
def xZ (h:Heap) (vs:List Value) (kv:List (Str×Value)):Prop:=
 vs.length=kv.length/\∀(j:Nat) (p:Str×Value),kv[j]?=some p->∃(a:Addr) (o:Obj) (t:Tok) (k:Nat),vs[j]?=some (.ref a)/\h.get? a=some o/\o.cls=.type "tuple"/\o.data=.seq #[.str p.1 t,p.2] k
theorem xZ.keeps {h h':Heap} {vs:List Value} {kv:List (Str×Value)} (x:xZ h vs kv) (hk:∀b o,h.get? b=some o->o.cls=.type "tuple"->h'.get? b=some o):xZ h' vs kv:=
 ⟨x.1,fun j p e=>let ⟨a,o,t,k,e1,e2,e3,e4⟩:=x.2 j p e;⟨a,o,t,k,e1,hk _ _ e2 e3,e3,e4⟩⟩
section
variable {prog:Program} {w:World} {A:Around} {E:Value->Shared->Prop} {s:Shared}
theorem eq_140 {R:Result->Shared->Prop} {d l I:Addr} {vs:List Value} {kv:List (Str×Value)} (hh:A.handled=none) (nd:(kv.map (·.1)).Nodup) (hz:kv.length<=1000) (hId:I≠d) (hlI:l≠I) (hld:l≠d) :
  ∀(k i:Nat) (s:Shared),kv.length - i=k->i<=kv.length->s.heap.IsList l vs.toArray->s.heap.IsListIter I l i->s.heap.DictOf (PySem.strKind prog w) d (kv.take i)->xZ s.heap vs kv->
   (∀h' tk,(∀b o,b≠I->b≠d->s.heap.get? b=some o->h'.get? b=some o)->h'.DictOf (PySem.strKind prog w) d kv->R (.ok (.ret .none)) { s with heap:=h',toks:=tk })->
   codeAny (model prog w) A (.builtin "dict.update.loop" ⟨[.ref d,.ref I,rawInt (i:Int),.none],[]⟩) R s:=by
 intro k
 induction k with
 | zero=>
  intro i s hk hle hl hit hD hP hR
  have hin:i=kv.length:=by omega
  subst hin
  refine codeAny_builtin eq_668 ?_
  rw [Around.under_plainId eq_846 _]
  show wpAny _ A.in1 (pyNext (.ref I) >>= _) _ _ s
  refine wpAny_bind (wpAny_pyNext_list_end hh hit hl (by simp [hP.1]) fun h' he=>?_)
  rw [List.take_length] at hD
  obtain ⟨o,es,ep,ho,r⟩:=hD
  exact wpAny_bind (wpAny_pure (wpAny_pure (hR h' s.toks (fun b o hb _ e=>he b o hb e) ⟨o,es,ep,he d o (Ne.symm hId) ho,r⟩)))
 | succ k ih=>
  intro i s hk hle hl hit hD hP hR
  have hlt:i < kv.length:=by omega
  obtain ⟨a,o,t,n,e1,e2,e3,e4⟩:=hP.2 i kv[i] (List.getElem?_eq_getElem hlt)
  refine codeAny_builtin eq_668 ?_
  rw [Around.under_plainId eq_846 _]
  show wpAny _ A.in1 (pyNext (.ref I) >>= _) _ _ s
  refine wpAny_bind (wpAny_pyNext_list_item (x:=.ref a) hit hl (by simpa using e1) fun h' hit' hs=>?_)
  have tupI:∀b o,s.heap.get? b=some o->o.cls=.type "tuple"->h'.get? b=some o:=fun b o' e c=>hs.extBut b o' (fun q=>by
   subst q
   obtain ⟨oi,hoi,ci,_⟩:=hit
   rw [hoi] at e;cases e;rw [ci] at c;exact absurd c (by simp)) e
  have ha:=tupI a o e2 e3
  refine wpAny_bind (wpAny_holding ?_)
  have hpair:∀{E:Value->Shared->Prop},wpAny (model prog w) A.in1 (Builtin.Dict.pairItems (.ref a)) (fun l s'=>l=[.str kv[i].1 t,kv[i].2]/\s'={ s with heap:=h' }) E { s with heap:=h' }:=by
   intro E
   unfold Builtin.Dict.pairItems
   refine wpAny_bind (wpAny_typeOf (T:="tuple") ⟨o,ha,e3⟩ ?_)
   rw [if_pos (by decide)]
   refine wpAny_bind ?_
   unfold seqItems?
   dsimp only
   refine wpAny_bind (wpAny_load ha ?_)
   rw [e4]
   exact wpAny_pure (wpAny_pure ⟨rfl,rfl⟩)
  have hlen:(kv.take i).length<=sizeLine:=by rw [List.length_take,sizeLine_eq];omega
  have hnot:kv[i].1∉(kv.take i).map (·.1):=fun q=>by
   obtain ⟨p,hp,e⟩:=List.mem_map.mp q
   obtain ⟨j,hj⟩:=List.mem_iff_getElem?.mp hp
   have hji:j < i:=by have:=(List.getElem?_eq_some_iff.mp hj).1;rw [List.length_take] at this;omega
   have hj':kv[j]?=some p:=by rw [List.getElem?_take_of_lt hji] at hj;exact hj
   have pw:=List.pairwise_iff_getElem.mp nd
   have:=pw j i (by simp;omega) (by simpa using hlt) hji
   rw [List.getElem_map,List.getElem_map,(List.getElem?_eq_some_iff.mp hj').2] at this
   exact this e
  have hD':h'.DictOf (PySem.strKind prog w) d (kv.take i):=by
   obtain ⟨od,es,ep,ho,r⟩:=hD
   exact ⟨od,es,ep,hs.extBut d od (Ne.symm hId) ho,r⟩
  refine wpAny_bind (wpAny_tryCatch (wpAny_mono hpair (fun l1 s1 ⟨q1,q2⟩=>?_) fun _ _ x=>x))
  subst q1 q2
  dsimp only
  refine wpAny_holding (wpAny_dictSet_pairs (s:={ s with heap:=h' }) (d:=d) (knd:=PySem.strKind prog w) (k:=kv[i].1) (key:=.str kv[i].1 t) (by show ((kv[i].1:Str) == kv[i].1)=true;simp) hD' (fun h2 hD2 hs2=>?_) hlen)
  rw [eq_707 hnot] at hD2
  have htk:kv.take i++[(kv[i].1,kv[i].2)]=kv.take (i+1):=by rw [List.take_add_one,List.getElem?_eq_getElem hlt];rfl
  rw [htk] at hD2
  have hint:((i:Int)+1)=((i+1:Nat):Int):=by omega
  rw [hint]
  have tupd:∀b o,h'.get? b=some o->o.cls=.type "tuple"->h2.get? b=some o:=fun b o' e c=>hs2.extBut b o' (fun q=>by
   subst q
   obtain ⟨od,ho,cd⟩:=hD'.typeIs (s:={ s with heap:=h' })
   have ho:h'.get? b=some od:=ho
   rw [ho] at e;cases e;rw [cd] at c;exact absurd c (by simp)) e
  refine wpAny_pure ⟨plainId_quiet eq_846 _,ih (i+1) _ (by omega) hlt ?_ ?_ hD2 ?_ fun h3 tk hk3 hD3=>?_⟩
  ·exact (hl.extBut hs.extBut hlI).extBut hs2.extBut hld
  ·exact hit'.extBut hs2.extBut hId
  ·exact (hP.keeps tupI).keeps tupd
  ·exact hR h3 tk (fun b o hbI hbd e=>hk3 b o hbI hbd (hs2.extBut b o hbd (hs.extBut b o hbI e))) hD3
theorem eq_523 {l:Addr} {vs:List Value} {kv:List (Str×Value)} {Q:Value->Shared->Prop} (hh:A.handled=none) (nd:(kv.map (·.1)).Nodup) (hz:kv.length<=1000) {n:Nat} (hl:s.heap.get? l=some { cls:=.type "list",data:=.seq vs.toArray n }) (hP:xZ s.heap vs kv)
  (h:∀h' tk,(∀b o,s.heap.get? b=some o->h'.get? b=some o)->h'.DictOf (PySem.strKind prog w) s.heap.objs.size kv->Q (.ref s.heap.objs.size) { s with heap:=h',toks:=tk }) :
  wpAny (model prog w) A (call (.type "dict") [.ref l]) Q E s:=by
 refine callType_codes (Q₁:=fun obj s₁=>obj=.ref s.heap.objs.size/\s₁={ s with heap:=s.heap.push { cls:=.type "dict",data:=.dict #[] } }) F.kt_called_dict (F.kt_typeCall_dict_1 _) F.entry_dict_init (kt_code_dict_new _ ⟨rfl,rfl⟩) ?_
 rintro obj s₁ ⟨rfl,rfl⟩
 have hnew:(s.heap.push { cls:=.type "dict",data:=.dict #[] }).DictOf (PySem.strKind prog w) s.heap.objs.size []:=Heap.DictOf.new s.heap
 have hll:l < s.heap.objs.size:=Heap.lt_size hl
 have hl1:(s.heap.push { cls:=.type "dict",data:=.dict #[] }).get? l=some { cls:=.type "list",data:=.seq vs.toArray n }:=Heap.get?_push_of_some _ hl
 refine ⟨hnew.typeIs,F.args_dict_init_2 _ _,?_⟩
 unfold Builtin.«dict.__init__»
 refine wpAny_bind ?_
 unfold Builtin.Dict.selfAndRest
 refine wpAny_bind (wpAny_notOrdered_dict hnew.typeIs ?_)
 show wpAny _ _ (pure (s.heap.objs.size,[Value.ref l])) _ _ _
 refine wpAny_pure ?_
 show wpAny _ _ (Builtin.Dict.updateFrom "dict.__init__" s.heap.objs.size (.ref l) [] .none) _ _ _
 unfold Builtin.Dict.updateFrom
 refine wpAny_bind (wpAny_typeOf (T:="list") ⟨_,hl1,rfl⟩ ?_)
 rw [if_pos (by decide)]
 refine wpAny_bind (eq_15 hl1 rfl rfl rfl hh fun h2 tk2 hk2=>?_)
 simp only [Option.isNone_none,if_true]
 refine wpAny_bind (wpAny_rule ?_)
 have hl2:h2.get? l=some { cls:=.type "list",data:=.seq vs.toArray n }:=hk2 _ _ hl1
 have hL2:h2.IsList l vs.toArray:=⟨_,hl2,rfl,_,rfl⟩
 refine wpAny_bind (wpAny_pyIter_list hL2 ?_)
 have hD2:h2.DictOf (PySem.strKind prog w) s.heap.objs.size []:=let ⟨o,es,ep,ho,r⟩:=hnew;⟨o,es,ep,hk2 _ _ ho,r⟩
 have hd2:s.heap.objs.size < h2.objs.size:=let ⟨o,es,ep,ho,r⟩:=hD2;Heap.lt_size ho
 have main:=eq_140 (prog:=prog) (w:=w) (A:=A.in1) (R:=wants (fun r s₂=>r=Value.none/\Q (Value.ref s.heap.objs.size) s₂) E) (d:=s.heap.objs.size) (I:=h2.objs.size) (l:=l) (vs:=vs) (kv:=kv) hh nd hz (Nat.ne_of_gt hd2) (Nat.ne_of_lt (Nat.lt_trans hll hd2)) (Nat.ne_of_lt hll) kv.length 0
  { s with heap:=h2.push { cls:=.type "list_iterator",data:=.fields #[.ref l,.int 0 0] },toks:=tk2 } rfl (Nat.zero_le _) (hL2.push _) ⟨_,Heap.get?_push_size _ rfl,rfl,rfl⟩ (hD2.push _)
  (hP.keeps fun b o e _=>Heap.get?_push_of_some _ (hk2 _ _ (Heap.get?_push_of_some _ e))) fun h3 tk hk3 hD3=>⟨rfl,h h3 tk (fun b o e=>by
   have e2:=hk2 _ _ (Heap.get?_push_of_some { cls:=.type "dict",data:=.dict #[] } e)
   exact hk3 b o (Nat.ne_of_lt (Heap.lt_size e2)) (Nat.ne_of_lt (Heap.lt_size e)) (Heap.get?_push_of_some _ e2)) hD3⟩
 exact wpAny_pure ⟨plainId_quiet eq_846 _,main⟩
end
noncomputable def nuH (h:Heap) (a:Addr):Kn:=Option.casesOn (motive:=fun _=>Kn) (h.get? a) .no fun _=>.fz
theorem zgP {h:Heap} {a:Addr} (n:nuH h a≠.no):h.get? a≠none:=fun e=>n (congrArg (fun o=>Option.casesOn (motive:=fun _=>Kn) o Kn.no fun _=>.fz) e)
theorem Pv.all {g:G} {v:V} {x:Value} {h':Heap} {tk:Nat} (hk:∀b o,g.s.heap.get? b=some o->h'.get? b=some o) (d:∀g1:G,g1.s.heap=h'->Le [] g g1->(∀a o,h'.get? a=some o->g.κ a=.no->g1.κ a=.fz)->g1.D v x):Pv g v g.H x { g.s with heap:=h',toks:=tk }:=
 have S:Stp g [] h' (nuH h'):=⟨nofun,nofun,fun _=>zgP,fun b o _=>hk b o⟩
 ⟨g.stp S tk,rfl,zV S,rfl,d _ rfl (zV S) fun a o e n=>show (g.κ a).or (nuH h' a)=.fz by rw [n];unfold nuH;rw [e];rfl⟩
theorem eq_597 {g:G} {h':Heap} (hk:∀b o,g.s.heap.get? b=some o->h'.get? b=some o) {a:Addr} (h:h'.objs.size<=a):g.κ a=.no:=Classical.byContradiction fun q=>by
 cases e:g.s.heap.get? a with
 | none=>exact g.ok.alive a q e
 | some o=>exact Nat.lt_irrefl _ (Nat.lt_of_lt_of_le (Heap.lt_size (hk a o e)) h)
theorem eq_606 {v:V} {q:List Nat×V} (h:twV v=some q):v=.nd .tup [.str q.1,q.2]:=(zc h).elim fun p h=>have w:=zm h.2;by
 obtain ⟨t,l⟩:=p
 have hv:v=.nd t l:=by
  cases v
  case nd t' l'=>exact congrArg (fun p:zZ×List V=>V.nd p.1 p.2) (Option.some.inj h.1)
  all_goals exact zl h.1
 have ht:t=.tup:=by
  cases t
  case tup=>rfl
  all_goals exact nomatch w.1
 rcases l with _ | ⟨a,_ | ⟨b,_ | ⟨_,_⟩⟩⟩
 ·exact zl w.2
 ·exact zl w.2
 ·obtain ⟨s,hs,e⟩:=zc w.2
  have ha:a=.str s:=by
   cases a
   case str s'=>exact congrArg V.str (Option.some.inj hs)
   all_goals exact zl hs
  obtain rfl:=Option.some.inj e
  rw [hv,ht,ha]
 ·exact zl w.2
theorem eq_671 {g:G} {k:List Nat} {v:V} {x:Value} (d:g.D (.nd .tup [.str k,v]) x):∃a o t y m,x=.ref a/\g.s.heap.get? a=some o/\o.cls=.type "tuple"/\o.data=.seq #[.str (Sx k) t,y] m/\g.D v y:=by
 obtain ⟨a,dx,ys,rfl,_,_,⟨o,_,ho,_,hc,m,hd⟩,y1,r1,rfl,⟨t,rfl⟩,y2,r2,rfl,d2,rfl⟩:=d
 exact ⟨a,o,t,y2,m,rfl,ho,hc,hd,d2⟩
theorem eq_684 {g:G}:∀{l:List V} {xs:List Value} {ns:List (List Nat)},g.DL l xs->zB twI l=some ns->ye g.s.heap xs ns
 | [],_,_=>fun d h=>by
  obtain rfl:_=[]:=d
  obtain rfl:=Option.some.inj h
  exact ⟨rfl,fun _ _ h=>nomatch h⟩
 | v::l,_,_=>fun d h=>by
  obtain ⟨x,xs,rfl,dx,dr⟩:=d
  obtain ⟨n,hn,h⟩:=zc h
  obtain ⟨ns,hs,e⟩:=zc h
  obtain rfl:=Option.some.inj e
  obtain ⟨q,hq,e⟩:=zc hn
  obtain ⟨_,_,e⟩:=zc e
  obtain rfl:=Option.some.inj e
  obtain ⟨a,o,t,y,k,rfl,h1,h2,h3,_⟩:=eq_671 (eq_606 hq▸dx)
  have ih:=eq_684 dr hs
  refine ⟨congrArg (·+1) ih.1,fun j m e=>?_⟩
  cases j with
  | zero=>exact ⟨a,o,t,y,k,rfl,h1,h2,Option.some.inj e▸h3⟩
  | succ j=>exact ih.2 j m e
theorem eq_566 {g:G}:∀{l:List V} {xs:List Value} (d:g.DL l xs) (i:Nat),g.D (l.getD i .none) (xs.getD i .none)
 | [],_=>fun d i=>(show _=[] from d)▸rfl
 | v::l,_=>fun d i=>d.elim fun x d=>d.elim fun xs d=>d.1▸Nat.casesOn (motive:=fun i=>g.D ((v::l).getD i .none) ((x::xs).getD i .none)) i d.2.1 fun i=>eq_566 d.2.2 i
theorem eq_670 {g:G} {l:List V} {xs:List Value} (d:g.DL l xs):∀p:List Nat,g.DL (p.map fun i=>l.getD i .none) (p.map fun i=>xs.getD i .none)
 | []=>rfl
 | i::p=>zh (eq_566 d i) (eq_670 d p)
theorem eq_42 {A:Around} {E:Value->Shared->Prop} {g:G} {h1:Heap} {tk:Nat} {l:List V} {xs:List Value} {ns:List (List Nat)} {p:Array Nat} (k1:∀b o,g.s.heap.get? b=some o->h1.get? b=some o) (x:ye h1 xs ns) (hl:xs.length=l.length)
  (d:∀g1:G,Le [] g g1->(∀b o,h1.get? b=some o->g1.s.heap.get? b=some o)->(∀a o,g1.s.heap.get? a=some o->g.κ a=.no->g1.κ a=.fz)->g1.DL l xs)
  (w:2<=l.length/\l.length < 64/\ns.Nodup) (hp:Xx (ltS ns) ns.length (kas_sort ns.length)=some p) :
  wpAny (model PW w0) A (do
   let l ← newList xs
   let _ ← holding [l] (call (.builtin "list.sort") [l])
   ret l) (fun fin s'=>∃v,fin=.done (.ret v)/\Pv g (.nd .lst (p.toList.map fun i=>l.getD i .none)) g.H v s') E { g.s with heap:=h1,toks:=tk }:=
 eq_496 (s:={ g.s with heap:=h1,toks:=tk }) x w.2.2 (hl▸w.1) (hl▸w.2.1) hp fun h' m hk hc=>Pv.all (tk:=tk) (fun b o e=>hk b o (k1 b o e)) fun g1 e L z=>by
  have f:g1.κ h1.objs.size=.fz:=z _ _ hc (eq_597 k1 (Nat.le_refl _))
  exact ⟨_,h1.objs.size,_,rfl,f,f,⟨_,_,e.symm▸hc,e.symm▸hc,m,rfl⟩,eq_670 (d g1 L (fun b o q=>e.symm▸hk b o q) fun a o q=>z a o (e▸q)) p.toList⟩
theorem eq_618 {fv:Value} {F:List V->Hp->Option V} (h:yr fv F):zA fv (Be F):=fun A g vs xs Q e1 e2 e3 e4 d q=>q.elim fun v q=>zQ h A g vs xs Q e1 e2 e3 e4 d (eq_898 q.1 q.2)
theorem eq_578:∀{ks:List (List Nat)} {vs:List V} {ys:List Value} {as:List Addr} {kvs:List (Str×Value)} {g g1:G} (L:Le [] g g1),kvs.map (·.1)=ks.map Sx->g.DL vs (kvs.map (·.2))->as.length=kvs.length->
  (∀(j:Nat) (a:Addr),as[j]?=some a->g1.κ a=.fz/\∃key k x,kvs[j]?=some (k,x)/\(PySem.strKind PW w0).is k key=true/\g1.s.heap.get? a=some { cls:=.type "tuple",data:=.seq #[key,x] })->g1.DL (q7 ks vs) (as.map .ref)
 | [],_,_,as,kvs,_,_,_,e,_,n,_=>by
  obtain rfl:kvs=[]:=List.map_eq_nil_iff.mp e
  obtain rfl:=List.eq_nil_of_length_eq_zero n
  rfl
 | _::_,_,_,_,[],_,_,_,e,_,_,_=>nomatch e
 | _::_,[],_,_,_::_,_,_,_,_,d,_,_=>nomatch (show List.cons _ _=[] from d)
 | _::_,_::_,_,[],_::_,_,_,_,_,_,n,_=>nomatch n
 | k::ks,v::vs,ys,a::as,(k',x)::kvs,g,g1,L,e,d,n,h=>by
  obtain ⟨e1,e2⟩:=List.cons.inj e
  obtain ⟨y,ys,e3,dy,dr⟩:=d
  obtain ⟨e3,e4⟩:=List.cons.inj e3
  obtain rfl:x=y:=e3
  obtain ⟨f,key,k2,x2,e5,e6,e7⟩:=h 0 a rfl
  obtain ⟨e8,e9⟩:=Prod.mk.inj (Option.some.inj e5)
  obtain ⟨t,rfl⟩:∃t,key=.str k2 t:=Value.isStrOf_shape e6
  refine ⟨.ref a,_,rfl,⟨a,a,_,rfl,f,f,⟨_,_,e7,e7,rfl,0,rfl⟩,zh ⟨t,congrArg (Value.str · t) (e8.symm.trans e1)⟩ (zh (e9▸L.den dy) rfl)⟩,eq_578 (ys:=ys) L e2 (e4▸dr) (Nat.succ.inj n) fun j a h'=>h (j+1) a h'⟩
theorem eq_577 {h1:Heap}:∀{ks:List (List Nat)} {vs:List V} {ns:List (List Nat)} {as:List Addr} {kvs:List (Str×Value)},kvs.map (·.1)=ks.map Sx->as.length=kvs.length->vs.length=kvs.length->zB twI (q7 ks vs)=some ns->
  (∀(j:Nat) (a:Addr),as[j]?=some a->∃key k x,kvs[j]?=some (k,x)/\(PySem.strKind PW w0).is k key=true/\h1.get? a=some { cls:=.type "tuple",data:=.seq #[key,x] })->ye h1 (as.map .ref) ns
 | [],_,_,as,kvs,e,n,_,m,_=>by
  obtain rfl:kvs=[]:=List.map_eq_nil_iff.mp e
  obtain rfl:=List.eq_nil_of_length_eq_zero n
  obtain rfl:=Option.some.inj m
  exact ⟨rfl,fun _ _ h=>nomatch h⟩
 | _::_,_,_,_,[],e,_,_,_,_=>nomatch e
 | _::_,[],_,_,_::_,_,_,d,_,_=>nomatch d
 | _::_,_::_,_,[],_::_,_,n,_,_,_=>nomatch n
 | k::ks,v::vs,ns,a::as,(k',x)::kvs,e,n,d,m,h=>by
  obtain ⟨e1,e2⟩:=List.cons.inj e
  obtain ⟨key,k2,x2,e5,e6,e7⟩:=h 0 a rfl
  obtain ⟨e8,e9⟩:=Prod.mk.inj (Option.some.inj e5)
  obtain ⟨t,rfl⟩:∃t,key=.str k2 t:=Value.isStrOf_shape e6
  obtain ⟨m1,hm,m⟩:=zc (show bo (twI (.nd .tup [.str k,v])) _=_ from m)
  obtain ⟨ms,hs,m⟩:=zc m
  obtain rfl:=Option.some.inj m
  obtain ⟨_,_,hm⟩:=zc (show bo (xB v) (fun _=>some k)=some m1 from hm)
  obtain rfl:=Option.some.inj hm
  have ih:=eq_577 (h1:=h1) e2 (Nat.succ.inj n) (Nat.succ.inj d) hs fun j a h'=>h (j+1) a h'
  refine ⟨congrArg (·+1) ih.1,fun j m e=>?_⟩
  cases j with
  | zero=>
   obtain rfl:k=m:=Option.some.inj e
   exact ⟨a,_,t,x2,0,rfl,e7,rfl,by rw [← e1,← e8]⟩
  | succ j=>exact ih.2 j m e
theorem eq_225 {t:zZ} {l m:List V} (h:srI (t,l)=some m):(t=.lst/\m=l)∨∃ks,t=.vw ks/\m=q7 ks l:=by
 cases t
 case lst=>exact .inl ⟨rfl,(Option.some.inj h).symm⟩
 case vw ks=>exact .inr ⟨ks,rfl,(Option.some.inj h).symm⟩
 all_goals exact zl h
theorem eq_665:∀{ks:List (List Nat)} {vs:List V},ks.length=vs.length->(q7 ks vs).length=ks.length
 | [],[],_=>rfl
 | k::ks,v::vs,h=>congrArg (·+1) (eq_665 (Nat.succ.inj h))
 | [],_::_,h=>nomatch h
 | _::_,[],h=>nomatch h
def srG (l:List V):Option V:=lC (some (.nd .lst [])) l fun _ _=>bo (zB twI l) fun ns=>wo (2<=l.length/\l.length < 64/\ns.Nodup) (bo (Xx (ltS ns) ns.length (kas_sort ns.length)) fun p=>some (.nd .lst (p.toList.map fun i=>l.getD i .none)))
theorem eq_659 {A:Around} {g:G} {h1:Heap} {tk:Nat} {l:List V} {xs:List Value} {v:V} (k1:∀b o,g.s.heap.get? b=some o->h1.get? b=some o) (hl:xs.length=l.length) (hp:∀ns,zB twI l=some ns->ye h1 xs ns)
  (d:∀g1:G,Le [] g g1->(∀b o,h1.get? b=some o->g1.s.heap.get? b=some o)->(∀a o,g1.s.heap.get? a=some o->g.κ a=.no->g1.κ a=.fz)->g1.DL l xs) (h:srG l=some v):wpAny (model PW w0) A (do
   let l ← newList xs
   let _ ← holding [l] (call (.builtin "list.sort") [l])
   ret l) (fun fin s'=>∃x,fin=.done (.ret x)/\Pv g v g.H x s') y9 { g.s with heap:=h1,toks:=tk }:=by
 cases l with
 | nil=>
  obtain rfl:=Option.some.inj (show some (V.nd .lst [])=some v from h)
  obtain rfl:=List.eq_nil_of_length_eq_zero hl
  refine wpAny_bind (wpAny_newList ?_ (Nat.zero_le _))
  have hoL:(h1.push (seqObj "list" ([]:List Value).toArray 0)).get? h1.objs.size=some (seqObj "list" ([]:List Value).toArray 0):=Heap.get?_push_size _ rfl
  refine wpAny_bind (wpAny_holding (wpAny_call_entry slot_list_sort ⟨_,hoL,rfl⟩ entry_list_sort (list_sort_tree (vs:=[]) (ns:=[]) hoL .nil (by decide) fun out ns' a1 a2 a3=>⟨_,rfl,?_⟩) (args_list_sort _)))
  obtain rfl:ns'=[]:=List.Perm.eq_nil a2
  obtain rfl:out=#[]:=Array.toList_inj.mp (by
   cases h:out.toList with
   | nil=>rfl
   | cons x r=>rw [h] at a1;cases a1)
  refine wpAny_pure ⟨_,rfl,?_⟩
  obtain ⟨e1,ho1⟩:∃e1,((h1.push (seqObj "list" ([]:List Value).toArray 0)).update h1.objs.size (Obj.mapSeq fun _=>(#[]:Array Value))).get? h1.objs.size=some (seqObj "list" #[] e1):=⟨_,get?_update_seq hoL fun _=>#[]⟩
  obtain ⟨m',hm⟩:∃m,(sortedHeap (h1.push (seqObj "list" ([]:List Value).toArray 0)) h1.objs.size [] #[]).get? h1.objs.size=some (seqObj "list" #[] m):=⟨_,get?_update_seq (Heap.get?_push_of_some _ (Heap.get?_push_of_some _ ho1)) fun _=>#[]⟩
  refine Pv.extN (tk:=tk) (fun b o q=>?_) (eq_597 k1 (Nat.le_refl _)) ⟨_,_,hm,hm,m',rfl⟩ rfl
  have nb:b≠h1.objs.size:=Nat.ne_of_lt (Heap.lt_size (k1 b o q))
  unfold sortedHeap
  rw [Heap.get?_update_ne _ _ _ _ nb]
  refine Heap.get?_push_of_some _ (Heap.get?_push_of_some _ ?_)
  rw [Heap.get?_update_ne _ _ _ _ nb]
  exact Heap.get?_push_of_some _ (k1 b o q)
 | cons a0 l0=>
  obtain ⟨ns,hn,h3⟩:=zc (show bo (zB twI (a0::l0)) _=some v from h)
  have w:=zm h3
  obtain ⟨p,hr,e⟩:=zc w.2
  obtain rfl:=Option.some.inj e
  exact eq_42 (tk:=tk) k1 (hp ns hn) hl d w.1 hr
theorem eq_660 {l:List V} {v:V} (h:srG l=some v):l.length<=64:=by
 cases l with
 | nil=>exact Nat.zero_le _
 | cons a0 l0=>exact (zc (show bo (zB twI (a0::l0)) _=some v from h)).elim fun ns h3=>Nat.le_of_lt (zm h3.2).1.2.1
theorem eq_406:yr (.builtin "sorted") zbN:=fun g vs xs v d h=>(xw h d).elim fun x z=>z.2.elim fun u z2=>z.1▸(zc z2.2).elim fun p h=>(zc h.2).elim fun l h2=>(eq_860 h.1 z2.1).elim fun a n=>n.elim fun dx n=>n.elim fun ys n=>by
 obtain ⟨rfl,_,_,Li,dl⟩:=n
 obtain ⟨t,m⟩:=p
 have hg:srG l=some v:=h2.2
 refine Calls.call_function_entry kind_sorted plain_sorted entry_sorted (args_sorted1 _) ?_
 unfold Builtin.«sorted»
 refine wpAny_bind (m:=checkCount "sorted" 1 1 _) (wpAny_pure ?_)
 rcases eq_225 h2.1 with ⟨rfl,rfl⟩ | ⟨ks,rfl,rfl⟩
 ·obtain ⟨m,ga⟩:=xi rfl Li
  have hl:=zf dl
  refine wpAny_bind (collect_list (vs:=ys) ⟨_,ga,rfl,m,rfl⟩ ?_ (eq_931 (hl▸Nat.le_trans (eq_660 hg) (by decide))))
  have k1:∀b o,g.s.heap.get? b=some o->((g.s.heap.push (seqObj "list" #[] 0)).update g.s.heap.objs.size (Obj.mapSeq (·++ys.toArray))).get? b=some o:=fun b o q=>by
   rw [Heap.get?_update_ne _ _ _ _ (Nat.ne_of_lt (Heap.lt_size q))]
   exact Heap.get?_push_of_some _ q
  exact eq_659 (tk:=g.s.toks) k1 hl (fun ns hn=>(eq_684 dl hn).keeps fun b o e _=>k1 b o e) (fun g1 L _ _=>L.denL dl) hg
 ·obtain ⟨o,od,h1,h2',rfl,kvs,⟨sm,es,ep,D⟩,ek,rfl⟩:=Li
  have hv:=zf dl
  have hk:=congrArg List.length ek
  rw [List.length_map] at hv
  rw [List.length_map,List.length_map] at hk
  have hlen:(q7 ks m).length=kvs.length:=(eq_665 (hk.symm.trans hv)).trans hk.symm
  refine wpAny_bind (kdx_collect (A:=A0.in1) (knd:=PySem.strKind PW w0) (kvs:=kvs) (ep:=ep) rfl ⟨_,h1,rfl,rfl⟩ ⟨od,es,h2',D⟩ (eq_931 (hlen▸Nat.le_trans (eq_660 hg) (by decide))) fun h1 tk as k1 hl hG=>?_)
  refine eq_659 (tk:=tk) k1 (by rw [List.length_map,hl,hlen]) (fun ns hn=>eq_577 ek hl hv.symm hn hG.pairs) (fun g1 L k z=>eq_578 (ys:=[]) L ek dl hl fun j a ha=>?_) hg
  obtain ⟨key,k',x,e5,e6,e7⟩:=hG.pairs j a ha
  exact ⟨z a _ (k _ _ e7) (eq_830 (Nat.le_of_lt (hG.above a (List.mem_of_getElem? ha)))),key,k',x,e5,e6,k _ _ e7⟩
theorem eq_369:yr (.type "int") intF:=fun g vs xs v d h=>(xw h d).elim fun x z=>z.2.elim fun u z2=>z.1▸(zc z2.2).elim fun s h=>(zI h.1 z2.1).elim fun t e=>by
 obtain ⟨⟨w1,w2⟩,e2⟩:=zm h.2
 generalize s.foldl (fun n c=>n * 10+(c - 48)) 0=m at w1 w2 e2
 obtain rfl:=Option.some.inj e2
 rw [e,show Sx s=Str.ofString (toString (m:Int)) by
  rw [eq_784,← w1]
  unfold yc
  rw [decide_eq_false (Int.not_lt.mpr (Int.natCast_nonneg m))]
  rfl]
 exact KIN.call_num (by omega) (by omega) (Pv.tk zp)
theorem eq_683 {g:G}:∀{l:List V} {xs:List Value} {q:List (List Nat×V)},g.DL l xs->zB twV l=some q->∃yl:List Value,g.DL (q.map (·.2)) yl/\xZ g.s.heap xs ((q.map fun p=>Sx p.1).zip yl)
 | [],_,_=>fun d h=>by
  obtain rfl:_=[]:=d
  obtain rfl:=Option.some.inj h
  exact ⟨[],rfl,rfl,fun _ _ h=>nomatch h⟩
 | v::l,_,_=>fun d h=>by
  obtain ⟨x,xs,rfl,dx,dr⟩:=d
  obtain ⟨n,hn,h⟩:=zc h
  obtain ⟨ns,hs,e⟩:=zc h
  obtain rfl:=Option.some.inj e
  obtain ⟨a,o,t,y,k,rfl,h1,h2,h3,dy⟩:=eq_671 (eq_606 hn▸dx)
  obtain ⟨yl,dl,ih⟩:=eq_683 dr hs
  refine ⟨y::yl,zh dy dl,congrArg (·+1) ih.1,fun j p e=>?_⟩
  cases j with
  | zero=>exact ⟨a,o,t,k,rfl,h1,h2,Option.some.inj e▸h3⟩
  | succ j=>exact ih.2 j p e
theorem eq_372 (sys:zC.get? sysModules≠none):yr (.type "dict") dicF:=fun g vs xs v d h=>(xw h d).elim fun x z=>z.2.elim fun u z2=>z.1▸(zc z2.2).elim fun l h=>(zc h.2).elim fun q h2=>(eq_885 h.1 z2.1).elim fun a n=>n.elim fun ys n=>by
 obtain ⟨rfl,⟨m,ga⟩,dl⟩:=n
 obtain ⟨⟨w1,w2⟩,e⟩:=zm h2.2
 obtain rfl:=Option.some.inj e
 obtain ⟨yl,dy,hP⟩:=eq_683 dl h2.1
 have ly:yl.length=q.length:=(zf dy).trans (List.length_map _)
 have ln:(q.map fun p=>Sx p.1).length=yl.length:=by rw [List.length_map,ly]
 have kmap:((q.map fun p=>Sx p.1).zip yl).map (·.1)=q.map fun p=>Sx p.1:=List.map_fst_zip (Nat.le_of_eq ln)
 have vmap:((q.map fun p=>Sx p.1).zip yl).map (·.2)=yl:=List.map_snd_zip (Nat.le_of_eq ln.symm)
 have ek:(q.map fun p=>Sx p.1)=(q.map (·.1)).map Sx:=(List.map_map (f:=fun p:List Nat×V=>p.1) (g:=Sx) (l:=q)).symm
 refine eq_523 (l:=a) (vs:=ys) (n:=m) hh0 (by rw [kmap,ek];exact List.Pairwise.map Sx (fun a b h q=>h (eq_914 q)) w1) (by rw [List.length_zip,ln,ly,Nat.min_self];exact w2) ga hP fun h' tk hk hD=>?_
 obtain ⟨o,es,ep,ho,r⟩:=hD
 refine Pv.extN hk (zE g) ⟨o,o,ho,ho,_,⟨?_,es,ep,r⟩,kmap.trans ek,vmap⟩ dy
 refine beq_eq_false_iff_ne.mpr fun q=>?_
 cases z:zC.get? sysModules with
 | none=>exact sys z
 | some o=>exact absurd (zE g) (by rw [q,(g.ok.top _ o z).1];exact nofun)
end Mine
end
section
open PySem PySem.W PySem.Calls PyProof.Rows
open Sem (wp)
set_option genInjectivity false
set_option genSizeOf false
namespace Mine
theorem eq_564:mroOf (.type "bytearray")=pure [.type "bytearray",.type "object"]:=by rw [mroOf_type];kernel_rfl
theorem eq_323:typeLookup (.type "bytearray") "__new__"=pure (some (.builtin "bytearray.__new__")):=by rw [typeLookup_type,builtinLookup_eq_fast];kernel_rfl
theorem eq_162:Slot "bytearray" "__init__" "bytearray.__init__":=
 .of (owner:="bytearray") (n:="__init__") (by rw [typeLookup_type,builtinLookup_eq_fast];kernel_rfl) (by decide +kernel) (by decide +kernel) (by decide +kernel)
  (by first | exact .inl (by decide +kernel) | exact .inr (by decide +kernel)) (by rw [isSubtype_type];kernel_rfl)
theorem eq_915:TypeCalled "bytearray" "bytearray.__new__" "bytearray.__init__":=
 ⟨by decide +kernel,by decide +kernel,⟨_,_,eq_564⟩,madeBy_type eq_564 eq_323 (by decide +kernel),by decide +kernel,by rw [isSubtype_type];kernel_rfl,eq_162⟩
theorem eq_420:checkTypeCall "bytearray" ⟨[],[]⟩=pure ():=by kernel_rfl
theorem eq_421:checkBuiltinCall "bytearray.__new__" ⟨[.type "bytearray"],[]⟩=pure ():=by kernel_rfl
theorem eq_675:plainId "bytearray.__new__"=true:=by decide +kernel
theorem eq_56:entryFor table "bytearray.__init__"=some Builtin.«bytearray.__init__»:=entryFor_of_tree (by kernel_rfl)
theorem eq_55:entryFor table "bytearray.__new__"=some Builtin.«list.__new__»:=entryFor_alias (id':="list.__new__") (by rw [fastTable_eq_tree];kernel_rfl) (by first | rfl | decide +kernel) (by decide +kernel) (by rw [fastTable_eq_tree];kernel_rfl)
set_option maxRecDepth 1000000 in
set_option maxHeartbeats 4000000 in
theorem eq_676:("bytearray.__new__".splitOn ".__new__").headD ""="bytearray":=by simp +decide [String.splitOn,String.splitOnAux]
theorem eq_770:isSubtype (.type "bytearray") (.type "bytearray")=pure true:=by rw [isSubtype_type];kernel_rfl
theorem eq_163:Builtin.Bytes.bindOptional "bytearray.__init__" "bytearray" ["source","encoding","errors"] [] []=pure [none,none,none]:=by kernel_rfl
theorem eq_322:typeLookup (.type "bytearray") "__release_buffer__"=pure (some (.builtin "bytearray.__release_buffer__")):=by rw [typeLookup_type,builtinLookup_eq_fast];kernel_rfl
theorem eq_164 (v:Value):argsOk "bytearray.__init__" ⟨[v],[]⟩:=by kernel_rfl
theorem eq_871 {p:Prop} {d:Decidable p} {α:Type} {a:p->α} {b:¬p->α} {c:α} (n:¬ p) (h:b n=c):@dite α p d a b=c:=(dif_neg n).trans h
theorem eq_71 {id s:String} {a:Args} (h:(PySem.Code.builtin id a).isGuard=false) (hs:guardIds.contains s=true):¬ id=s:=fun e=>by
 subst e
 exact Bool.noConfusion (hs.symm.trans h)
theorem eq_70 (self:Value):∃f:PySem.Code×Pos->Bool,Builtin.Bytes.exported self=(stack >>= fun l=>pure (l.any f))/\∀c q,c.isGuard=false->qL c=false->f (c,q)=false:=
 ⟨_,rfl,fun c q h1 h2=>by
  delta PySem.Builtin.Bytes.exported.match_1
  cases c with
  | builtin id args=>
   have g:∀{s:String},guardIds.contains s=true->¬ id=s:=eq_71 h1
   refine eq_871 (p:=id="bytearray.__contains__") (g (by decide +kernel)) ?_
   refine eq_871 (p:=id="bytearray.__mod__") (g (by decide +kernel)) ?_
   refine eq_871 (p:=id="bytearray.__rmod__") (g (by decide +kernel)) ?_
   refine eq_871 (p:=id="_struct.pack_into.held") (g (by decide +kernel)) ?_
   refine eq_871 (p:=id="bytearray.find.held") (g (by decide +kernel)) ?_
   obtain ⟨pos,kw⟩:=args
   cases pos with
   | nil=>rfl
   | cons v t=>exact (congrArg (Builtin.Bytes.sameRef v self&&·) h2).trans (Bool.and_false _)
  | _=>rfl⟩
theorem eq_831:Slot "bytearray" "extend" "bytearray.extend":=
 .of (owner:="bytearray") (n:="extend") (by rw [typeLookup_type,builtinLookup_eq_fast];kernel_rfl) (by decide +kernel) (by decide +kernel) (by decide +kernel)
  (by first | exact .inl (by decide +kernel) | exact .inr (by decide +kernel)) (by rw [isSubtype_type];kernel_rfl)
theorem eq_161 (v x:Value):argsOk "bytearray.extend" ⟨[v,x],[]⟩:=by kernel_rfl
theorem eq_76:entryFor table "bytearray.extend"=some Builtin.«bytearray.extend»:=entryFor_of_tree (by kernel_rfl)
theorem eq_769:typeLookup (.type "bytearray") "__buffer__"=pure (some (.builtin "bytearray.__buffer__")):=by rw [typeLookup_type,builtinLookup_eq_fast];kernel_rfl
theorem eq_321:typeLookup (.type "bytearray") "__bytes__"=pure none:=by rw [typeLookup_type,builtinLookup_eq_fast];kernel_rfl
theorem eq_320:typeLookup (.type "bytearray") "__index__"=pure none:=by rw [typeLookup_type,builtinLookup_eq_fast];kernel_rfl
section
variable {prog:Program} {w:World} {A:Around} {E:Value->Shared->Prop} {s:Shared}
theorem eq_495 {Q₁:Value->Shared->Prop}
  (h:Q₁ (.ref s.heap.objs.size) { s with heap:=s.heap.push { cls:=.type "bytearray",data:=.bytearray #[] } }) :
  codeAny (model prog w) A (.call (.builtin "bytearray.__new__") ⟨[.type "bytearray"],[]⟩) (wants Q₁ E) s:=by
 refine codeAny_of_tree ?_
 show wpAny _ A.in1 (do checkBuiltinCall "bytearray.__new__" ⟨[.type "bytearray"],[]⟩;again (.builtin "bytearray.__new__" ⟨[.type "bytearray"],[]⟩)) _ _ s
 refine wpAny_bind (wpAny_of_eq eq_421 (wpAny_pure ⟨plainId_quiet eq_675 _,codeAny_builtin_stack eq_55 rfl fun p st=>?_⟩))
 rw [Around.under_plainId eq_675 _]
 refine wpAny_bind (m:=isType (.type "bytearray")) (wpAny_of_eq (a:=true) rfl ?_)
 refine bm_if_false rfl ?_
 refine wpAny_bind (m:=isSubtype (.type "bytearray") (.type (("bytearray.__new__".splitOn ".__new__").headD ""))) (wpAny_of_eq (a:=true) (by rw [eq_676];exact eq_770) ?_)
 refine bm_if_false rfl ?_
 rw [eq_676]
 refine wpAny_bind (m:=pure (Data.bytearray #[])) (wpAny_pure ?_)
 refine bm_if_true rfl ?_
 exact wpAny_bind (wpAny_newObj_type (wpAny_pure h))
theorem eq_563 {x:Value} {Q:Bool->Shared->Prop} (hT:s.TypeIs x "bytearray") (h:Q false s):wpAny (model prog w) A (Builtin.Bytes.ownRelease x) Q E s:=by
 unfold Builtin.Bytes.ownRelease Builtin.Bytes.slotIsOwn
 refine wpAny_bind (wpAny_bind (wpAny_specialOf hT eq_322 ?_))
 dsimp only
 have key:∀y:String,y="bytearray"->wpAny (model prog w) A (isInstance x (.type y)) (fun b s=>wpAny (model prog w) A (pure (!b)) Q E s) E s:=fun y hy=>by
  subst hy
  exact wpAny_isInstance hT eq_770 (wpAny_pure h)
 split
 ·rename_i hx
  exact absurd hx (by decide +kernel)
 ·exact key _ (by decide +kernel)
theorem eq_674 {a:Addr} {b:Array UInt8} {f:Array UInt8->Array UInt8} {Q:Unit->Shared->Prop} (ho:s.heap.get? a=some { cls:=.type "bytearray",data:=.bytearray b }) (hz:(f b).size<=sizeLine)
  (h:∀h',h'.get? a=some { cls:=.type "bytearray",data:=.bytearray (f b) }->Heap.SameBut a s.heap h'->Q () { s with heap:=h' }):wpAny (model prog w) A (Builtin.Bytes.write (.ref a) f) Q E s:=by
 show wpAny _ _ (updateBytearray a f) _ _ _
 unfold updateBytearray
 have g:=Heap.get?_update_self (Obj.mapBytearray f) ho rfl
 refine wpAny_bind (wpAny_load ho ?_)
 show wpAny _ _ (update a (Obj.mapBytearray f) >>= fun _=>lookBehind a) _ _ _
 refine wpAny_bind (wpAny_update ho ?_)
 refine wpAny_lookBehind g ?_ (h _ g (Heap.SameBut.update ..))
 show (if (f b).size > sizeLine then some "bytearray:memory" else none)=none
 rw [if_neg (Nat.not_lt.mpr hz)]
theorem eq_160 {c:Array UInt8} {t:Tok}:Builtin.Bytes.takeBuffer? "bytearray.extend" (.bytes c t) 0=pure (some (c,none)):=by
 unfold Builtin.Bytes.takeBuffer?
 rw [KBy.special_eq KBy.look_buffer,KBy.own_buffer]
 have e:Builtin.Bytes.buffer? "bytearray.extend" (.bytes c t) (full:=(0:Int) == Builtin.Bytes.fullReadOnly)=pure (some c):=KBy.buffer_eq
 rw [e]
 kernel_rfl
theorem eq_75 {c:Array UInt8} {t:Tok}:Builtin.Bytes.takeBufferQuiet? "bytearray.extend" (.bytes c t) 0=pure (some (c,none)):=by
 unfold Builtin.Bytes.takeBufferQuiet?
 rw [eq_160]
 rfl
theorem eq_702 {a:Addr} {b:Array UInt8} {Q:Array UInt8->Shared->Prop} (ho:s.heap.get? a=some { cls:=.type "bytearray",data:=.bytearray b }) (h:Q b s):wpAny (model prog w) A (Builtin.Bytes.payload (.ref a)) Q E s:=by
 unfold Builtin.Bytes.payload Builtin.Bytes.payload?
 exact wpAny_bind (wpAny_bind (wpAny_load ho (wpAny_pure (wpAny_pure h))))
theorem eq_318 {x:Value} {Q:Bool->Shared->Prop} (hT:s.TypeIs x "bytearray") (h:Q true s):wpAny (model prog w) A (Builtin.Bytes.slotIsOwn x "__buffer__") Q E s:=by
 unfold Builtin.Bytes.slotIsOwn
 refine wpAny_bind (wpAny_specialOf hT eq_769 ?_)
 dsimp only
 have key:∀y:String,y="bytearray"->wpAny (model prog w) A (isInstance x (.type y)) Q E s:=fun y hy=>by
  subst hy
  exact wpAny_isInstance hT eq_770 h
 split
 ·rename_i hx
  exact absurd hx (by decide +kernel)
 ·exact key _ (by decide +kernel)
theorem eq_319 {a:Addr} {b:Array UInt8} {Q:Value->Shared->Prop} (ho:s.heap.get? a=some { cls:=.type "bytearray",data:=.bytearray b }) (hz:b.size<=sizeLine)
  (hQ:Q (.bytes b s.toks) { s with toks:=s.toks+1 }) :
  codeAny (model prog w) A (.call (.builtin "bytes.__new__") ⟨[.type "bytes",.ref a],[]⟩) (wants Q E) s:=by
 have hT:s.TypeIs (.ref a) "bytearray":=⟨_,ho,rfl⟩
 refine codeAny_of_tree ?_
 show wpAny _ A.in1 (do checkBuiltinCall "bytes.__new__" ⟨[.type "bytes",.ref a],[]⟩;again (.builtin "bytes.__new__" ⟨[.type "bytes",.ref a],[]⟩)) _ _ s
 refine wpAny_bind (wpAny_of_eq (F.bm_newCall _) (wpAny_pure ⟨plainId_quiet F.bm_plain _,codeAny_builtin F.bm_entry ?_⟩))
 rw [Around.under_plainId F.bm_plain _]
 unfold Builtin.«bytes.__new__»
 refine wpAny_bind (wpAny_of_eq (a:=true) rfl ?_)
 refine bm_if_false rfl ?_
 refine wpAny_bind (wpAny_of_eq F.bm_sub ?_)
 refine bm_if_false rfl ?_
 refine wpAny_bind (wpAny_of_eq (F.bm_bind _) ?_)
 refine wpAny_bind (wpAny_of_eq (a:=()) rfl ?_)
 refine wpAny_bind (wpAny_of_eq (a:=()) rfl ?_)
 refine bm_if_false rfl ?_
 refine wpAny_bind (wpAny_specialOf hT eq_321 ?_)
 refine wpAny_bind (wpAny_bind ?_)
 show wpAny _ _ (load a >>= _) _ _ _
 refine wpAny_bind (wpAny_load ho ?_)
 refine wpAny_pure (wpAny_pure ?_)
 refine bm_if_false rfl ?_
 refine wpAny_bind (wpAny_specialOf hT eq_320 ?_)
 refine bm_if_true rfl ?_
 refine wpAny_bind (m:=Builtin.Bytes.buffer? "bytes.__new__" (.ref a) true) ?_
 refine (wpAny_bind (wpAny_specialOf hT eq_769 ?_):wpAny _ _ (Builtin.Bytes.buffer? "bytes.__new__" (.ref a) true) _ _ _)
 refine wpAny_bind (m:=Builtin.Bytes.slotIsOwn (.ref a) "__buffer__") (eq_318 hT ?_)
 refine bm_if_false rfl ?_
 refine wpAny_bind (wpAny_specialOf hT eq_769 ?_)
 refine wpAny_bind (m:=Builtin.Bytes.ownRelease (.ref a)) (eq_563 hT ?_)
 refine bm_if_false rfl ?_
 refine wpAny_bind (eq_702 ho ?_)
 refine wpAny_pure ?_
 refine wpAny_bind (wpAny_rule ?_)
 refine wpAny_bind (wpAny_mkBytes ?_ hz)
 show wpAny _ _ (if (Value.type "bytes" == Value.type "bytes")=true then _ else _) _ _ _
 refine bm_if_true (by decide) ?_
 first
  | exact wpAny_pure hQ
  | exact wpAny_bind (wpAny_pure (wpAny_pure hQ))
theorem eq_503 {a:Addr} {b:Array UInt8} {Q:Value->Shared->Prop} (ho:s.heap.get? a=some { cls:=.type "bytearray",data:=.bytearray b }) (hz:b.size<=sizeLine)
  (hQ:Q (.bytes b s.toks) { s with toks:=s.toks+1 }):wpAny (model prog w) A (call (.type "bytes") [.ref a]) Q E s:=by
 refine callType_codes (Q₁:=fun obj s₁=>s₁.TypeIs obj "bytes"/\Q obj s₁) F.bm_called (F.bm_typeCall _) F.entry_object_init
  (eq_319 ho hz ⟨PySem.W.typeIs_bytes _ _ _,hQ⟩) fun obj s₁ h₁=>?_
 exact ⟨h₁.1,F.args_object_init_2 obj _,object_init_meets F.bm_called.init.lookup F.bm_called.made (by decide) prog w A.in1 _ s₁ ⟨h₁.1,rfl,h₁.2⟩⟩
end
section
variable {A:Around} {s:Shared}
theorem eq_393 {x:Value} {Q:Bool->Shared->Prop} (hg:A.guards=some []) (h:Q false s):J A (Builtin.Bytes.exported x) Q s:=fun Γ p hΓ k=>by
 obtain ⟨f,e,hf⟩:=eq_70 x
 have hgs:guardsOf ((Γ.code,p)::Γ.below)=[]:=by rw [guardsOf_cons];exact hΓ.2.2.2.1 _ hg
 rw [e]
 show Q (((Γ.code,p)::Γ.below).any f) s
 rw [List.any_eq_false.mpr fun y hy=>?_]
 ·exact h
 ·rw [hf y.1 y.2 ?_ ((List.mem_cons.mp hy).elim (fun e=>e▸k.1) (k.2 y))]
  ·exact Bool.false_ne_true
  ·cases hh:y.1.isGuard with
   | false=>rfl
   | true=>
    have:y.1∈guardsOf ((Γ.code,p)::Γ.below):=List.mem_filter.mpr ⟨List.mem_map.mpr ⟨y,hy,rfl⟩,hh⟩
    rw [hgs] at this
    cases this
theorem eq_532 {a:Addr} {b:Array UInt8} {Q:Bool->Shared->Prop} (hg:A.guards=some []) (ho:s.heap.get? a=some { cls:=.type "bytearray",data:=.bytearray b }) (h:Q false s) :
  J A (Builtin.Bytes.exported (.ref a) <||> (do return (← Builtin.Bytes.exportsOf (.ref a)) > 0)) Q s:=by
 unfold orM
 refine .bind (eq_393 hg ?_)
 show J _ (Builtin.Bytes.exportsOf (.ref a) >>= fun n=>pure (decide (n > 0))) Q s
 refine .of (wpAny_bind ?_)
 unfold Builtin.Bytes.exportsOf
 exact wpAny_bind (wpAny_load ho (wpAny_pure (wpAny_pure h)))
theorem eq_324 {a:Addr} {Q:PySem.Fin->Shared->Prop} (hg:A.guards=some []) (ho:s.heap.get? a=some { cls:=.type "bytearray",data:=.bytearray #[] })
  (h:∀h',h'.get? a=some { cls:=.type "bytearray",data:=.bytearray #[] }->Heap.SameBut a s.heap h'->Q (.done (.ret .none)) { s with heap:=h' }) :
  J A (Builtin.«bytearray.__init__» ⟨[.ref a],[]⟩) Q s:=by
 refine (J.bind (m:=Builtin.Bytes.ownRelease (.ref a)) (.of (eq_563 ⟨_,ho,rfl⟩ ?_)):J A (Builtin.«bytearray.__init__» ⟨[.ref a],[]⟩) Q s)
 refine J.bind (m:=Builtin.Bytes.bindOptional "bytearray.__init__" "bytearray" ["source","encoding","errors"] [] []) (.eq eq_163 (.pure ?_))
 refine J.bind (m:=Builtin.Bytes.exported (.ref a) <||> (do return (← Builtin.Bytes.exportsOf (.ref a)) > 0)) (eq_532 hg ho ?_)
 exact .bind (.of (eq_674 ho (Nat.zero_le _) fun h' g' hs=>.pure (h h' g' hs)))
theorem eq_394 {Q:Value->Shared->Prop} (hg:A.guards=some [])
  (h:∀h',h'.get? s.heap.objs.size=some { cls:=.type "bytearray",data:=.bytearray #[] }->(∀b o,s.heap.get? b=some o->h'.get? b=some o)->Q (.ref s.heap.objs.size) { s with heap:=h' }) :
  J A (call (.type "bytearray") []) Q s:=by
 obtain ⟨c,tl,hmro⟩:=eq_915.mro
 have g:(s.heap.push { cls:=.type "bytearray",data:=.bytearray #[] }).get? s.heap.objs.size=some { cls:=.type "bytearray",data:=.bytearray #[] }:=Heap.get?_push_size _ rfl
 have hT:(⟨s.heap.push { cls:=.type "bytearray",data:=.bytearray #[] },s.gens,s.drawn,s.toks,s.os⟩:Shared).TypeIs (.ref s.heap.objs.size) "bytearray":=⟨_,g,rfl⟩
 refine .call (.tree ?_)
 show J _ (callAny (.type "bytearray") _) _ _
 refine J.pure (a:=PySem.Fin.again (.builtin "type.__call__" ⟨[.type "bytearray"],[]⟩)) ⟨PySem.Code.quiet_builtin _ (by decide +kernel),rfl,eq_703 F.entry_type_call ?_⟩
 rw [Around.under_plain (weight_type_call_type "bytearray" [] []) (units_type_call_type "bytearray" [] [])]
 unfold Builtin.«type.__call__»
 dsimp only
 rw [eq_915.notType]
 refine .eq (if_neg Bool.false_ne_true) ?_
 rw [eq_915.canCreate]
 refine .eq (if_neg Bool.false_ne_true) ?_
 rw [eq_420]
 refine .bind (.pure ?_)
 rw [hmro]
 refine .bind (.pure ?_)
 rw [show (c::tl).isEmpty=false from rfl]
 refine .eq (if_neg Bool.false_ne_true) ?_
 rw [eq_915.made]
 refine .bind (.pure ?_)
 dsimp only
 refine .bind (.pure ?_)
 refine .bind (.hold (.of (wpAny_call (codeAny_mono (eq_495 (E:=y9) (Q₁:=fun x s₁=>x=.ref s.heap.objs.size/\s₁={ s with heap:=s.heap.push { cls:=.type "bytearray",data:=.bytearray #[] } }) ⟨rfl,rfl⟩) fun r s₁ hr=>?_))))
 rcases r with e | (obj | _ | _ | _)<;>first | exact hr | exact hr.elim | skip
 obtain ⟨rfl,rfl⟩:=hr
 dsimp only
 refine .bind (.of (wpAny_isInstance hT eq_915.sub ?_))
 refine .eq (if_neg Bool.false_ne_true) ?_
 refine .bind (.hold ?_)
 unfold callSpecial?
 refine .bind (.of (wpAny_specialOf hT eq_915.init.lookup ?_))
 dsimp only
 refine .hold ?_
 rw [eq_915.init.bind]
 refine .bind (.pure ?_)
 dsimp only
 refine .bind (.call (eq_794 (plainId_quiet eq_915.init.plain _) (by decide +kernel) eq_56 (.of (eq_915.init.check _ _ _ _ _ _ _ _ hT (eq_164 _) ?_))))
 rw [Around.under_plainId eq_915.init.plain _]
 refine eq_324 (A:=A.in1.in1) hg g fun h' g' hs=>?_
 exact .pure (.pure (h h' g' fun b o e=>hs.extBut b o (Nat.ne_of_lt (Heap.lt_size e)) (Heap.get?_push_of_some _ e)))
theorem eq_392 {a:Addr} {b c:Array UInt8} {t:Tok} {Q:Value->Shared->Prop} (hg:A.guards=some []) (ho:s.heap.get? a=some { cls:=.type "bytearray",data:=.bytearray b }) (hz:(b++c).size<=sizeLine)
  (h:∀h',h'.get? a=some { cls:=.type "bytearray",data:=.bytearray (b++c) }->Heap.SameBut a s.heap h'->Q .none { s with heap:=h' }) :
  J A (call (.builtin "bytearray.extend") [.ref a,.bytes c t]) Q s:=by
 refine .call (eq_794 (plainId_quiet eq_831.plain _) (by decide +kernel) eq_76 (.of (eq_831.check _ _ _ _ _ _ _ _ ⟨_,ho,rfl⟩ (eq_161 _ _) ?_)))
 rw [Around.under_plainId eq_831.plain _]
 unfold Builtin.«bytearray.extend»
 refine .bind (J.pure (a:=(Value.ref a,Value.bytes c t)) ?_)
 dsimp only
 rw [KBy.special_eq KBy.look_buffer]
 refine .bind (.pure ?_)
 refine .eq (if_pos rfl) ?_
 refine .bind (.of (wpAny_rule ?_))
 refine .bind (.of (eq_702 ho ?_))
 rw [eq_75]
 refine .bind (.pure ?_)
 dsimp only
 refine .eq (if_pos rfl) ?_
 have fin:J A.in1 (do Builtin.Bytes.write (.ref a) (·++c);ret .none) (Fn A (Rt Q)) s:=
  .bind (.of (eq_674 (f:=(·++c)) ho hz fun h' g hs=>J.pure (a:=PySem.Fin.done (.ret .none)) (h h' g hs)))
 show J _ (if (!c.isEmpty)=true then (Builtin.Bytes.checkResize (.ref a) >>= fun _=>(do Builtin.Bytes.write (.ref a) (·++c);ret .none)) else (do Builtin.Bytes.write (.ref a) (·++c);ret .none)) _ s
 split
 ·refine .bind ?_
  unfold Builtin.Bytes.checkResize
  refine .bind (eq_532 (A:=A.in1) hg ho ?_)
  refine .eq (if_neg Bool.false_ne_true) ?_
  exact .pure fin
 ·exact fin
end
end Mine
end
section
open PySem PySem.W PySem.Calls PyProof.Rows
set_option genInjectivity false
set_option genSizeOf false
namespace Mine
theorem eq_82:zA (.type "bytearray") byaS:=fun A g vs xs Q e1 e2 e3 e4 d q=>by
 cases vs with
 | cons=>exact q.elim
 | nil=>
  obtain rfl:xs=[]:=d
  have q:Q (.ref g.H.length) (g.H++[.byt []]):=Eq.mp eq_750 (show Qx g.H (.byt []) 0 (fun m H=>Q (.ref m) H) from q)
  refine eq_394 e2 fun h' e hk=>?_
  have n:=zE g
  have sm:∀a,g.κ a≠.no->h'.get? a=g.s.heap.get? a:=fun a z=>by
   cases e:g.s.heap.get? a with
   | none=>exact (g.ok.alive a z e).elim
   | some o=>exact hk a o e
  have hL:(g.L++[(g.s.heap.objs.size,g.s.heap.objs.size)])[g.H.length]?=some (g.s.heap.objs.size,g.s.heap.objs.size):=by rw [g.ok.len];exact List.getElem?_concat_length
  exact ⟨g.gr (p:=(g.s.heap.objs.size,g.s.heap.objs.size)) g.s.toks n n sm ⟨(fun z=>nomatch z.symm.trans e),(fun z=>nomatch z.symm.trans e)⟩ (.byt []) ⟨rfl,e⟩,rfl,⟨fun _=>eq_652 n n,fun a q=>sm a (yJ q),fun a q _=>sm a (zF q),List.prefix_append _ _,⟨rfl,rfl,rfl⟩⟩,.ref g.H.length,⟨_,hL,rfl⟩,q⟩
theorem eq_732 {v:V} {b:List UInt8} (h:asY v=some b):v=.byt b:=by
 cases v
 case byt b'=>exact congrArg V.byt (Option.some.inj h)
 all_goals exact zl h
theorem eq_81:zA (.builtin "bytearray.extend") extS:=fun A g vs xs Q e1 e2 e3 e4 d q=>(eq_748 d q).elim fun x z=>z.elim fun ys z=>z.2.elim fun o z2=>z2.elim fun us z2=>(h1_e z2.2.1 z2.2.2).elim fun y w=>w.2.elim fun v w2=>(yg w2.2).elim fun i h=>(yg h.2).elim fun b h2=>(yg h2.2).elim fun c h3=>have q:=(eq_900 h3.2).imp_right (Eq.mp (eq_903 ..));by
 obtain rfl:=eq_875 h.1
 obtain ⟨p,hp,rfl⟩:=z2.1
 obtain ⟨t,rfl⟩:=eq_752 h3.1 w2.1
 obtain ⟨o,ho,hb⟩:=zc h2.1
 obtain rfl:=eq_732 hb
 obtain ⟨e,ga⟩:=(g.ok.obj i _ p ho hp).2.2
 rw [z.1,w.1]
 refine eq_392 e2 ga (by rw [Array.size_append];exact Nat.le_trans q.1 (by decide)) fun h' e' hs=>?_
 have e':h'.get? p.1=some { cls:=.type "bytearray",data:=.bytearray (b++c).toArray }:=List.append_toArray b c▸e'
 exact Exists.elim (up_ (tk:=g.s.toks) (o:=.byt (b++c)) (Q:=fun H'=>H'=g.H.set i (.byt (b++c))) hp (List.getElem?_eq_some_iff.mp ho).1 (fun a n _=>hs.2 a n) ⟨(fun z=>nomatch z.symm.trans e'),(fun z=>nomatch (e▸z:h'.get? p.1=none).symm.trans e')⟩ (fun _=>⟨e,e'⟩) rfl) fun g1 z=>⟨g1,z.1,z.2.1,.none,rfl,z.2.2▸q.2⟩
theorem eq_373:yr (.type "bytes") zks:=fun g vs xs v d h=>(xw h d).elim fun x z=>z.2.elim fun u z2=>(oc z2.2).elim (fun h=>eq_133 g vs xs v d h.2) fun h=>h.elim fun b h=>by
 obtain ⟨i,hi,hb⟩:=zc h.1
 obtain ⟨o,ho,hb⟩:=zc hb
 obtain rfl:=eq_875 hi
 obtain rfl:=eq_732 hb
 obtain ⟨p,hp,rfl⟩:=z2.1
 have w:=zm h.2
 exact z.1▸eq_503 (g.ok.obj i _ p ho hp).2.2.2 (eq_931 w.1) (Pv.tk (Option.some.inj w.2▸eq_834))
noncomputable def unl:Nat->Nat->List Nat
 | 0,_=>[]
 | f+1,n=>bif Nat.beq n 0 then [] else (n % 130 - 1)::unl f (n / 130)
def nmx (i:Nat):Str:=Sx (unl 40 i)
def nmK (i:Nat):Bool:=asc (nmx i)&&Nat.beq (xE (nmx i)) i
theorem eq_892 {x:Str} {i:Nat} (h:Nm x i) (b:nmK i=true):x=nmx i:=h.inj ⟨(Bool.and_eq_true_iff.mp b).1,Nat.eq_of_beq_eq_true (Bool.and_eq_true_iff.mp b).2⟩
def K0:Frag:=kF w0.params
theorem hr_:Hr:=fun a m o es ep h1 h2=>by
 have z:(dl.map fun a=>(K0.lookup a).map fun o=>match o.data with
  | .dict es _=>es.toList.map reh
  | _=>[])=dl.map fun a=>(K0.lookup a).map fun o=>match o.data with
  | .dict es _=>es.toList
  | _=>[]:=by kernel_rfl
 have z:=List.map_inj_left.mp z a m
 rw [show K0.lookup a=some o from h1] at z
 have z:=Option.some.inj z
 dsimp only at z
 rw [h2] at z
 exact fun e me=>by
  obtain ⟨i,hi⟩:=List.mem_iff_getElem?.mp me
  have q:=congrArg (·[i]?) z
  dsimp only at q
  rw [List.getElem?_map,hi] at q
  exact (Option.some.inj q).symm
theorem eq_558:(yH.map fun e=>(Ym e).isSome&&((Ym e).map fun s=>asc s.1).getD false)=yH.map fun _=>true:=by kernel_rfl
theorem eq_204:(yH.map fun e=>((Ym e).map fun s=>xE s.1).getD 0).Nodup:=by decide +kernel
theorem eq_203:K0.lookup 3=some ⟨.type "dict",none,.dict yH.toArray 99,#[]⟩:=by kernel_rfl
theorem eq_202:∀e∈yH,∃n t,e.key=.str n t:=fun e m=>by
 have z:=List.map_inj_left.mp eq_558 e m
 cases h:Ym e with
 | none=>rw [h] at z;exact nomatch z
 | some s=>exact ⟨s.1,s.2⟩
theorem eq_205 {e:DictEntry} (m:e∈yH) {s:{ s:Str // ∃t,e.key=.str s t }} (h:Ym e=some s):asc s.1=true:=by
 have z:=List.map_inj_left.mp eq_558 e m
 rw [h] at z
 exact z
def knm (e:DictEntry):Nat:=((Ym e).map fun s=>xE s.1).getD 0
theorem eq_602 {e:DictEntry} {x:Str} {t:Tok} (h:e.key=.str x t):knm e=xE x:=by
 obtain ⟨hs,k,v⟩:=e
 obtain rfl:k=.str x t:=h
 rfl
theorem eq_125 {v:Value} {x:Str} (h:v.isStr x=true):∃t,v=.str x t:=by
 cases v with
 | str s t=>exact ⟨t,congrArg (Value.str · t) (eq_of_beq h)⟩
 | _=>exact nomatch h
theorem eq_277 {e:DictEntry} {x:Str} (h:∃t,e.key=.str x t) {es:List DictEntry} (nd:(es.map knm).Nodup) (m:e∈es):es.find? (·.key.isStr x)=some e:=by
 induction es with
 | nil=>exact nomatch m
 | cons e0 es ih=>
  have nd:=List.nodup_cons.mp nd
  rw [List.find?_cons]
  cases q:e0.key.isStr x with
  | true=>exact (List.mem_cons.mp m).elim (fun z=>congrArg some z.symm) fun m=>absurd (List.mem_map_of_mem m) (h.elim fun t h=>(eq_125 q).elim fun t0 h0=>(eq_602 h).symm▸(eq_602 h0)▸nd.1)
  | false=>exact ih nd.2 ((List.mem_cons.mp m).resolve_left fun z=>h.elim fun t h=>by rw [← z,h] at q;exact Bool.false_ne_true (q.symm.trans (beq_self_eq_true x)))
section
variable (T:zY w0 zC)
include T
theorem eq_651:zC.Ns mainGlobals (nsFind yH.toArray):=⟨_,_,_,T.X 3 _ eq_203,rfl,fun e h=>eq_202 e (Array.mem_toList_iff.mpr h),fun _=>rfl⟩
theorem eq_640 {x:Str} {y:Value} (h:nsFind yH.toArray x=some y):xS x y:=T.bi.elim fun mb hb=>⟨_,mb,eq_651 T,hb.1,.inl h⟩
def zcS (x:Str):Option Value:=Option.casesOn (motive:=fun _=>Option Value) (nsFind yH.toArray x) (bif x == "__name__" then none else bootBuiltins x) some
theorem eq_549 {x:Str} {y:Value} (h:zcS x=some y):xS x y:=by
 rcases oc (o:=nsFind yH.toArray x) h with ⟨e,h⟩ | ⟨z,e,h⟩
 ·obtain ⟨mb,nb,hb⟩:=T.bi
  cases q:x == "__name__" with
  | true=>rw [q] at h;exact nomatch h
  | false=>rw [q] at h;exact ⟨_,mb,eq_651 T,nb,.inr ⟨e,(hb x (beq_eq_false_iff_ne.mp q)).trans h⟩⟩
 ·exact eq_640 T (e.trans h)
end
noncomputable def qZ (x:Str):Bool:=!(x == "__debug__")
theorem eq_730 {x:Str} (h:qZ x=true):x≠"__debug__":=fun e=>by
 unfold qZ at h
 rw [e] at h
 exact nomatch h
noncomputable def gvF:List (Nat×V):=gvT.drop gvl.length
theorem eq_382:(gvF.map fun p=>(nmK p.1&&qZ (nmx p.1),(asF p.2).isSome,zcS (nmx p.1)))=gvF.map fun p=>(true,true,some (fnV ((asF p.2).getD 0))):=by kernel_rfl
theorem eq_381:gvT=gvl++gvF:=by kernel_rfl
theorem eq_379:(gvl.map fun p=>nmK p.1&&qZ (nmx p.1))=gvl.map fun _=>true:=by kernel_rfl
theorem gv_ (T:zY w0 zC) (x:Str) (i:Nat) (v:V) (h:gv i=some v) (hn:Nm x i):x≠"__debug__"/\∃y,xS x y/\∀g:G,g.D v y:=by
 have m:(i,v)∈gvl++gvF:=eq_381▸zw h
 rcases List.mem_append.mp m with m | m
 ·have b:=Bool.and_eq_true_iff.mp (List.map_inj_left.mp eq_379 _ m)
  have ex:=eq_892 hn b.1
  refine ⟨ex▸eq_730 b.2,?_⟩
  rw [← eq_380 T.X hr_] at m
  obtain ⟨e,me,q⟩:=List.mem_filterMap.mp m
  cases ks:Ym e with
  | none=>rw [ks] at q;exact nomatch q
  | some s=>
   rw [ks] at q
   have q:(if gvN.contains (xE s.1) then (rdV T.X dl hr_ 8 e.val).map fun v=>(xE s.1,v.1) else none)=some (i,v):=q
   split at q
   ·obtain ⟨r,_,q⟩:=Option.map_eq_some_iff.mp q
    obtain ⟨q1,q2⟩:=Prod.mk.inj q
    obtain rfl:x=s.1:=hn.inj ⟨eq_205 me ks,q1⟩
    obtain ⟨t,ht⟩:=s.2
    refine ⟨e.val,eq_640 T ?_,fun g=>q2▸r.2 g⟩
    show (yH.toArray.find? fun e=>e.key.isStr s.1).map (·.val)=some e.val
    rw [List.find?_toArray,eq_277 ⟨t,ht⟩ eq_204 me]
    rfl
   ·exact nomatch q
 ·have b:=List.map_inj_left.mp eq_382 _ m
  have b1:=Bool.and_eq_true_iff.mp (congrArg (·.1) b)
  have b2:=congrArg (·.2.1) b
  have b3:=congrArg (·.2.2) b
  have ex:=eq_892 hn b1.1
  refine ⟨ex▸eq_730 b1.2,_,ex▸eq_549 T b3,fun g=>?_⟩
  cases v
  case fn n=>exact rfl
  all_goals exact nomatch b2
theorem eq_634:(nmK Yl&&qZ (nmx Yl),zcS (nmx Yl))=(true,some (.type "enumerate")):=by kernel_rfl
theorem enu_ (T:zY w0 zC) (x:Str) (hn:Nm x Yl):x≠"__debug__"/\xS x (.type "enumerate"):=by
 have b1:=Bool.and_eq_true_iff.mp (show (nmK Yl&&qZ (nmx Yl))=true from congrArg (·.1) eq_634)
 have ex:=eq_892 hn b1.1
 exact ⟨ex▸eq_730 b1.2,ex▸eq_549 T (congrArg (·.2) eq_634)⟩
theorem at_t:(atT.map fun p=>(nmK p.2,plainGet K0 p.1 (nmx p.2),hasDictIn K0 p.1,findIn K0 (.ref p.1) (nmx p.2),findIn K0 (.ref p.1) "__setattr__",plainOver K0 p.1))=atT.map fun _=>(true,true,true,some none,some (some (.builtin "object.__setattr__")),true):=by kernel_rfl
theorem eq_431 (C:Nat) (x:Str) (f:Nat) (h:at0 C f=true) (hn:Nm x f):Q8 C x:=by
 obtain ⟨p,m,q⟩:=List.any_eq_true.mp h
 have q:=Bool.and_eq_true_iff.mp q
 obtain rfl:=Nat.eq_of_beq_eq_true q.1
 obtain rfl:=Nat.eq_of_beq_eq_true q.2
 have z:=List.map_inj_left.mp at_t p m
 rw [eq_892 hn (congrArg (·.1) z)]
 exact ⟨congrArg (·.2.1) z,congrArg (·.2.2.1) z,congrArg (·.2.2.2.1) z,congrArg (·.2.2.2.2.1) z,congrArg (·.2.2.2.2.2) z⟩
theorem ca_t:(caN.map fun p=>(nmK p.1,findCls K0 (.ref 1145) (.type "type") (nmx p.1)))=caN.map fun p=>(true,some (.val (.ref p.2))):=by kernel_rfl
theorem ca_r:readsIn K0 1145 (.type "type")=true:=by kernel_rfl
theorem ca_ (T:zY w0 zC) (c:Nat) (x:Str) (f:Nat) (v:V) (h:ca c f=some v) (hn:Nm x f):∃y,(∀g:G,g.D v y)/\∀(g:G) (P:Value->Shared->Prop),(∀n,P y (g.tk n).s)->wpAny (model PW w0) A0 (getAttr (fnV c) x true) P y9 g.s:=by
 unfold ca at h
 cases e:Nat.beq c 31 with
 | false=>rw [e] at h;exact nomatch h
 | true=>
  rw [e] at h
  obtain rfl:=Nat.eq_of_beq_eq_true e
  have m:=zw (show cal.lookup f=some v from h)
  rw [← eq_442 T.X hr_] at m
  obtain ⟨p,mp,q⟩:=List.mem_filterMap.mp m
  obtain ⟨r,_,q⟩:=Option.map_eq_some_iff.mp q
  obtain ⟨q1,q2⟩:=Prod.mk.inj q
  have z:=List.map_inj_left.mp ca_t p mp
  rw [eq_892 hn (q1▸congrArg (·.1) z),← q1]
  exact ⟨.ref p.2,fun g=>q2▸r.2 g,fun g P k=>cls_value (mc:=.type "type") (fun a o h=>(g.ok.top a o (T.X a o h)).2) ca_r (congrArg (·.2) z) rfl (k _)⟩
noncomputable def kpB (x:Value):Bool:=match x with
 | .ref a=>keepIn K0 (.ref a)
 | .builtin _=>true
 | .type _=>true
 | .none=>true
 | _=>false
theorem eq_329 {x:Value} (b:kpB x=true) (h:Heap) (X:K0.In h):∃k,(k=Keeper.frame∨k=Keeper.machine∨k=Keeper.boundFrame)/\Looks M0 h (keeperOf x) k:=by
 cases x with
 | ref a=>exact keeps_K (K:=K0) (f:=.ref a) b h X
 | builtin _=>exact ⟨.machine,.inr (.inl rfl),Looks.of_pure rfl⟩
 | type _=>exact ⟨.machine,.inr (.inl rfl),Looks.of_pure rfl⟩
 | none=>exact ⟨.machine,.inr (.inl rfl),Looks.of_pure rfl⟩
 | _=>exact nomatch b
theorem fn_t:fnT.all kpB=true:=by kernel_rfl
theorem eq_276 {P:Value->Bool} (h:fnT.all P=true) (h0:P .none=true) (i:Nat):P (fnV i)=true:=by
 show P (fnT.getD i .none)=true
 rw [List.getD_eq_getElem?_getD]
 cases e:fnT[i]? with
 | none=>exact h0
 | some x=>exact List.all_eq_true.mp h x (List.mem_of_getElem? e)
noncomputable def kT (k:Nat):String:=["str","list","dict","dict"].getD (k - 1) "bytearray"
def KdP (g:G) (m k:Nat) (y:Value):Prop:=(k < 10/\g.s.TypeIs y (kT k)/\∀a,y=.ref a->∃o,g.s.heap.get? a=some o/\o.dict=none)∨
 ∃C a dx es n ks,k=C+10/\y=.ref a/\g.s.heap.get? a=some (instObj C dx)/\g.s.heap.get? dx=some (dictOf es n)/\jH es ks/\m∉ks
theorem eq_766 {g:G} {m k a:Nat} {o:Obj} (hk:k < 10) (h:g.s.heap.get? a=some o) (c:o.cls=.type (kT k)) (n:o.dict=none):KdP g m k (.ref a):=.inl ⟨hk,⟨o,h,c⟩,fun b e=>Value.ref.inj e▸⟨o,h,n⟩⟩
theorem kd_p {g:G} {m k:Nat} {v:V} {y:Value} (h:kdV m v g.H=some k) (d:g.D v y) (k0:k≠0):KdP g m k y:=by
 rcases oc (o:=yM v) h with ⟨_,h⟩ | ⟨s,e,h⟩
 ·rcases oc (o:=nv v g.H) h with ⟨_,h⟩ | ⟨p,e,h⟩
  ·obtain ⟨i,hi,h⟩:=zc h
   obtain ⟨o,ho,h⟩:=zc h
   obtain ⟨b,hb,h⟩:=zc h
   obtain rfl:=Option.some.inj h
   obtain rfl:=eq_875 hi
   obtain rfl:=eq_732 hb
   obtain ⟨p,hp,rfl⟩:=d
   exact eq_766 (by decide) (g.ok.obj i _ p ho hp).2.2.2 rfl rfl
  ·obtain ⟨a,dx,ys,rfl,Li,dl⟩:=Zx e d
   obtain ⟨t,l⟩:=p
   cases t with
   | tup=>exact (k0 (Option.some.inj h).symm).elim
   | lst=>
    obtain rfl:=Option.some.inj h
    obtain ⟨n,ga⟩:=xi rfl Li
    exact eq_766 (show 2 < 10 by decide) ga rfl rfl
   | dcs ks=>
    obtain rfl:=Option.some.inj h
    obtain ⟨kvs,_,⟨o,es,ep,ho,r,_⟩,_⟩:=eq_876 Li
    exact eq_766 (show 3 < 10 by decide) ho r.1 r.2.1
   | dci ks=>
    obtain rfl:=Option.some.inj h
    obtain ⟨kvs,_,⟨o,es,ep,ho,r,_⟩,_⟩:=eq_826 Li
    exact eq_766 (show 4 < 10 by decide) ho r.1 r.2.1
   | vw ks=>exact (k0 (Option.some.inj h).symm).elim
   | rng=>exact (k0 (Option.some.inj h).symm).elim
   | ins C ks=>
    have h:(bif ks.contains m then none else some (C+10))=some k:=h
    cases c:ks.contains m with
    | true=>rw [c] at h;exact zl h
    | false=>
     rw [c] at h
     obtain rfl:=Option.some.inj h
     obtain ⟨o,od,h1,h2,es,n,rfl,rfl,kl,_⟩:=Li
     exact .inr ⟨C,a,dx,es,n,ks,rfl,rfl,h1,h2,kl,fun q=>Bool.false_ne_true (c.symm.trans (List.contains_iff_mem.mpr q))⟩
 ·obtain rfl:=Option.some.inj h
  obtain ⟨t,rfl⟩:=zI e d
  exact .inl ⟨by decide,typeIs_str _ _ _,fun a q=>nomatch q⟩
theorem eq_525:PlainAttrs "bytearray":=⟨⟨"bytearray.__getattribute__",by rw [typeLookup_type,builtinLookup_eq_fast];kernel_rfl,by decide +kernel⟩,by rw [typeLookup_type,builtinLookup_eq_fast];kernel_rfl⟩
theorem eq_104:typeOf (.builtin "bytearray.extend")=pure (.type "method_descriptor"):=by show builtinType _=_;rw [builtinType_eq_fast];kernel_rfl
structure Bm where
 k:Nat
 n:String
 id:String
 pa:PlainAttrs (kT k)
 sl:Slot (kT k) n id
 ty:typeOf (.builtin id)=pure (.type "method_descriptor")
noncomputable def bms:List Bm:=[⟨1,_,_,F.plainAttrs_str,F.slot_str_strip,F.type_str_strip⟩,⟨1,_,_,F.plainAttrs_str,F.slot_str_find,F.type_str_find⟩,⟨1,_,_,F.plainAttrs_str,F.slot_str_index,F.type_str_index⟩,⟨1,_,_,F.plainAttrs_str,F.slot_str_rindex,F.type_str_rindex⟩,
 ⟨1,_,_,F.plainAttrs_str,F.slot_str_lower,F.type_str_lower⟩,⟨1,_,_,F.plainAttrs_str,F.slot_str_split,F.type_str_split⟩,⟨1,_,_,F.plainAttrs_str,F.slot_str_replace,F.type_str_replace⟩,⟨1,_,_,F.plainAttrs_str,F.slot_str_join,F.type_str_join⟩,
 ⟨2,_,_,F.plainAttrs_list,F.slot_list_append,F.type_list_append⟩,⟨3,_,_,F.plainAttrs_dict,F.slot_dict_get,F.type_dict_get⟩,⟨4,_,_,F.plainAttrs_dict,F.slot_dict_get,F.type_dict_get⟩,⟨3,_,_,F.plainAttrs_dict,F.slot_dict_items,F.type_dict_items⟩,⟨5,_,_,eq_525,eq_831,eq_104⟩]
theorem mt_b:((mtT.take 13).map fun p=>(nmK p.2.1,p.1,nmx p.2.1,fnV p.2.2))=bms.map fun b=>(true,b.k,Str.ofString b.n,.builtin b.id):=by kernel_rfl
theorem mt_i:((mtT.drop 13).map fun p=>(nmK p.2.1,Nat.ble 10 p.1,plainGet K0 (p.1 - 10) (nmx p.2.1),findIn K0 (.ref (p.1 - 10)) (nmx p.2.1),typeIn K0 (fnV p.2.2),Value.isRef (fnV p.2.2)))=(mtT.drop 13).map fun p=>(true,true,true,some (some (fnV p.2.2)),some (.type "function"),true):=by kernel_rfl
theorem eq_626 {x:Str} {m:Nat} (hx:Nm x m):∀{es:List DictEntry} {ks:List Nat},jH es ks->m∉ks->es.find? (·.key.isStr x)=none
 | [],_,_,_=>rfl
 | e::es,_,kl,hm=>by
  obtain ⟨y,j,r,rfl,hy,⟨t,ht⟩,kl⟩:=kl
  rw [List.mem_cons,not_or] at hm
  rw [List.find?_cons,ht,show (Value.str y t).isStr x=false from beq_eq_false_iff_ne.mpr fun q=>hm.1 (by rw [← hx.2,← hy.2,q])]
  exact eq_626 hx kl hm.2
theorem mth_ (T:zY w0 zC) (k m i:Nat) (x:Str) (h:mtd k m=some i) (hn:Nm x m) (g:G) (v:V) (y:Value) (hk:kdV m v g.H=some k) (d:g.D v y) (imp:Sem Bool) (P:Value×List Value->Shared->Prop) (q:P (fnV i,[y]) g.s):wpAny (model PW w0) A0 (getMethod y x imp) P y9 g.s:=by
 obtain ⟨p,hp,e⟩:=Option.map_eq_some_iff.mp h
 have mp:=List.mem_of_find?_eq_some hp
 have z:=Bool.and_eq_true_iff.mp (List.find?_some (p:=fun p:Nat×Nat×Nat=>Nat.beq p.1 k&&Nat.beq p.2.1 m) hp)
 obtain rfl:=Nat.eq_of_beq_eq_true z.1
 obtain rfl:=Nat.eq_of_beq_eq_true z.2
 subst e
 rw [← List.take_append_drop 13 mtT] at mp
 rcases List.mem_append.mp mp with mp | mp
 ·have mb:=List.mem_map_of_mem (f:=fun p:Nat×Nat×Nat=>(nmK p.2.1,p.1,nmx p.2.1,fnV p.2.2)) mp
  rw [mt_b] at mb
  obtain ⟨b,hb,e⟩:=List.mem_map.mp mb
  obtain ⟨e1,e⟩:=Prod.mk.inj e
  obtain ⟨e2,e⟩:=Prod.mk.inj e
  obtain ⟨e3,e4⟩:=Prod.mk.inj e
  rw [eq_892 hn e1.symm,← e3]
  rw [← e4] at q
  rw [← e2] at hk
  have bk:b.k≠0/\b.k < 10:=by
   have:=List.all_eq_true.mp (show bms.all (fun b=>!(Nat.beq b.k 0)&&Nat.blt b.k 10)=true by kernel_rfl) b hb
   have:=Bool.and_eq_true_iff.mp this
   exact ⟨fun q=>Bool.false_ne_true ((by rw [q];rfl:(!(Nat.beq b.k 0))=false).symm.trans this.1),Nat.le_of_ble_eq_true this.2⟩
  rcases kd_p hk d bk.1 with ⟨_,t,n⟩ | ⟨C,a,dx,es,n,ks,e,_⟩
  ·exact getMethod_builtin t b.pa b.sl b.ty n q
  ·exact absurd bk.2 (by rw [e];exact Nat.not_lt.mpr (Nat.le_add_left 10 C))
 ·have z:=List.map_inj_left.mp mt_i p mp
  obtain ⟨z1,z⟩:=Prod.mk.inj z
  obtain ⟨z2,z⟩:=Prod.mk.inj z
  obtain ⟨z3,z⟩:=Prod.mk.inj z
  obtain ⟨z4,z⟩:=Prod.mk.inj z
  obtain ⟨z5,z6⟩:=Prod.mk.inj z
  have ge:=Nat.le_of_ble_eq_true z2
  obtain ⟨f,hf⟩:∃f,fnV p.2.2=.ref f:=by
   cases e:fnV p.2.2 with
   | ref f=>exact ⟨f,rfl⟩
   | _=>rw [e] at z6;exact nomatch z6
  rw [hf] at q z4 z5
  rw [← eq_892 hn z1] at z3 z4
  rcases kd_p hk d (Nat.ne_of_gt (Nat.lt_of_lt_of_le (by decide) ge)) with ⟨lt,_⟩ | ⟨C,a,dx,es,n,ks,e,rfl,h1,h2,kl,hm⟩
  ·exact absurd lt (Nat.not_lt.mpr ge)
  ·rw [show p.1 - 10=C by rw [e];exact Nat.add_sub_cancel C 10] at z3 z4
   refine method_fn (fun a o h=>(g.ok.top a o (T.X a o h)).2) (show PySem.W.InstAt g.s.heap a (instObj C dx) C (some (dictOf es n)) from ⟨h1,rfl,rfl,h2⟩) (plainGet_of z3).1 (plainGet_of z3).2 z4 z5 ?_ q
   show (lookIn x (dictOf es n)).map _=_
   rw [lookIn_dict]
   unfold getL
   rw [eq_626 hn kl hm]
   show Option.map _ (if es.any (·.refKey) then none else some none)=_
   rw [eq_793 kl]
   rfl
structure Fw where
 j:Nat
 a:Addr
 k:Nat
 dv:List Int
 own:Bool
def Fw.ps (r:Fw):List Nat:=(pT.getD r.j (0,[])).2
noncomputable def fdO (a:Addr):Option { fd:FuncData // ∃o,K0.lookup a=some o/\o.data=.func fd }:=
 Option.casesOn (motive:=fun o=>K0.lookup a=o->Option { fd:FuncData // ∃o,K0.lookup a=some o/\o.data=.func fd }) (K0.lookup a) (fun _=>none) (fun o e=>match e2:o.data with
  | .func fd=>some ⟨fd,o,e,e2⟩
  | _=>none) rfl
noncomputable def Xl (fd:FuncData):List Stmt:=match fd.body with
 | .stmts b=>b
 | _=>[]
noncomputable def zi5 (fd:FuncData):Bool:=match fd.body with
 | .stmts _=>true
 | _=>false
def Dft (fd:FuncData) (d:Option (Array Value)):Prop:=(fd.defaults=.none/\d=none)∨∃T o items n,fd.defaults=.ref T/\K0.lookup T=some o/\o.data=.seq items n/\d=some items
noncomputable def dfO (fd:FuncData):Option { d:Option (Array Value) // Dft fd d }:=match e:fd.defaults with
 | .none=>some ⟨none,.inl ⟨e,rfl⟩⟩
 | .ref T=>Option.casesOn (motive:=fun o=>K0.lookup T=o->Option { d:Option (Array Value) // Dft fd d }) (K0.lookup T) (fun _=>none) (fun o e1=>match e2:o.data with
  | .seq items n=>some ⟨some items,.inr ⟨T,o,items,n,e,e1,e2,rfl⟩⟩
  | _=>none) rfl
 | _=>none
def Cds (fd:FuncData) (s:Str):Prop:=∃c o vs t,fd.code=.ref c/\K0.lookup c=some o/\o.data=.fields vs/\vs[1]?=some (.str s t)
noncomputable def strO (o:Option Value):Option { s:Str // ∃t,o=some (.str s t) }:=match o with
 | some (.str s t)=>some ⟨s,t,rfl⟩
 | _=>none
noncomputable def codS (fd:FuncData):Option { s:Str // Cds fd s }:=match e:fd.code with
 | .ref c=>Option.casesOn (motive:=fun o=>K0.lookup c=o->Option { s:Str // Cds fd s }) (K0.lookup c) (fun _=>none) (fun o e1=>match e2:o.data with
  | .fields vs=>(strO vs[1]?).map fun s=>⟨s.1,s.2.elim fun t e3=>⟨c,o,vs,t,e,e1,e2,e3⟩⟩
  | _=>none) rfl
 | _=>none
noncomputable def bKs:{ k:FuncData->List Value->Option (Array Value)->Sem (List (Str×Value)) // ∀fd xs,bindArgs fd ⟨xs,[]⟩=seqItems? fd.defaults >>= k fd xs }:=⟨_,fun fd xs=>rfl⟩
noncomputable abbrev bK:=bKs.1
noncomputable def dsL (d:Option (Array Value)) (n:Nat):List Value:=(d.getD #[]).toList.drop ((d.getD #[]).size - n)
noncomputable def zhO (x:Value):Option Int:=match x with
 | .int i _=>some i
 | _=>none
theorem eq_545 {g:G}:∀{is:List Int} {xs:List Value},xs.map zhO=is.map some->g.DL (is.map .int) xs
 | [],[],_=>rfl
 | [],_::_,h=>nomatch h
 | _::_,[],h=>nomatch h
 | i::is,x::xs,h=>by
  obtain ⟨h1,h2⟩:=List.cons.inj h
  refine zh ?_ (eq_545 h2)
  cases x with
  | int j t=>exact ⟨t,congrArg (Value.int · t) (Option.some.inj h1)⟩
  | _=>exact nomatch h1
noncomputable def fwL:List Fw:=[⟨1,1183,(pT.getD 1 (0,[])).1,[],false⟩,⟨2,1190,(pT.getD 2 (0,[])).1,[],false⟩,⟨3,1197,(pT.getD 3 (0,[])).1,[],false⟩,⟨4,1204,(pT.getD 4 (0,[])).1,[],false⟩,⟨5,1218,(pT.getD 5 (0,[])).1,[],false⟩,⟨6,1225,(pT.getD 6 (0,[])).1,[],false⟩,⟨7,281,(pT.getD 7 (0,[])).1,[],false⟩,⟨8,1211,(pT.getD 8 (0,[])).1,[],false⟩,⟨9,1232,(pT.getD 9 (0,[])).1,[],false⟩,⟨10,245,(pT.getD 10 (0,[])).1,[],false⟩,⟨11,1239,(pT.getD 11 (0,[])).1,[],false⟩,⟨12,1246,(pT.getD 12 (0,[])).1,[],false⟩,⟨13,1251,(pT.getD 13 (0,[])).1,[],false⟩,⟨14,1258,(pT.getD 14 (0,[])).1,[],false⟩,⟨15,1265,(pT.getD 15 (0,[])).1,[],false⟩,⟨16,252,(pT.getD 16 (0,[])).1,[],false⟩,⟨17,1273,(pT.getD 17 (0,[])).1,[],false⟩,⟨18,1287,(pT.getD 18 (0,[])).1,[],false⟩,⟨19,1294,(pT.getD 19 (0,[])).1,[],true⟩,⟨20,1308,(pT.getD 20 (0,[])).1,[],false⟩,⟨21,1346,(pT.getD 21 (0,[])).1,[],false⟩,⟨22,1313,(pT.getD 22 (0,[])).1,[],false⟩,⟨23,1318,(pT.getD 23 (0,[])).1,[],false⟩,⟨24,1325,(pT.getD 24 (0,[])).1,[],false⟩,⟨25,1332,(pT.getD 25 (0,[])).1,[],true⟩,⟨26,1339,(pT.getD 26 (0,[])).1,[],false⟩,⟨27,1593,(pT.getD 27 (0,[])).1,[],false⟩,⟨28,1586,(pT.getD 28 (0,[])).1,[0],false⟩,⟨29,1605,(pT.getD 29 (0,[])).1,[],false⟩,⟨30,1612,(pT.getD 30 (0,[])).1,[],false⟩,⟨31,1619,(pT.getD 31 (0,[])).1,[],false⟩,⟨32,1631,(pT.getD 32 (0,[])).1,[],false⟩,⟨33,1643,(pT.getD 33 (0,[])).1,[],false⟩,⟨34,1626,(pT.getD 34 (0,[])).1,[],false⟩,⟨35,1650,(pT.getD 35 (0,[])).1,[],false⟩,⟨36,1657,(pT.getD 36 (0,[])).1,[],false⟩,⟨37,1662,(pT.getD 37 (0,[])).1,[],false⟩,⟨38,1636,(pT.getD 38 (0,[])).1,[],false⟩,⟨39,1510,(pT.getD 39 (0,[])).1,[],false⟩,⟨40,1667,(pT.getD 40 (0,[])).1,[],false⟩,⟨41,1688,(pT.getD 41 (0,[])).1,[],false⟩,⟨42,1681,(pT.getD 42 (0,[])).1,[],false⟩,⟨43,1416,(pT.getD 43 (0,[])).1,[],false⟩,⟨44,1477,(pT.getD 44 (0,[])).1,[],false⟩,⟨45,1470,(pT.getD 45 (0,[])).1,[],false⟩,⟨46,1449,(pT.getD 46 (0,[])).1,[],false⟩,⟨47,1444,(pT.getD 47 (0,[])).1,[],true⟩,⟨48,1552,(pT.getD 48 (0,[])).1,[],false⟩,⟨49,1566,(pT.getD 49 (0,[])).1,[],true⟩,⟨50,1531,(pT.getD 50 (0,[])).1,[],false⟩,⟨51,1700,(pT.getD 51 (0,[])).1,[],false⟩,⟨52,1715,(pT.getD 52 (0,[])).1,[4],false⟩,⟨53,1722,(pT.getD 53 (0,[])).1,[],true⟩,⟨54,1729,(pT.getD 54 (0,[])).1,[],false⟩,⟨55,1753,(pT.getD 55 (0,[])).1,[],false⟩,⟨56,1758,(pT.getD 56 (0,[])).1,[],false⟩,⟨57,1741,(pT.getD 57 (0,[])).1,[],false⟩,⟨58,1746,(pT.getD 58 (0,[])).1,[],false⟩,⟨59,1736,(pT.getD 59 (0,[])).1,[],true⟩,⟨60,1765,(pT.getD 60 (0,[])).1,[],false⟩,⟨61,1770,(pT.getD 61 (0,[])).1,[],false⟩,⟨62,1775,(pT.getD 62 (0,[])).1,[],false⟩,⟨10,245,2,[0,0,0,0,0],false⟩,⟨10,245,5,[0,0],false⟩,⟨10,245,6,[0],false⟩]
def Fw.pn (r:Fw):List Str:=r.ps.map nmx
noncomputable def Fw.c (r:Fw) (fd:FuncData):Cf:=(fd.scope.names,r.own)
def fnB (r:Fw) (fd:FuncData):Bool:=decide r.pn.Nodup&&((r.pn.all fun x=>asc x&&isL (r.c fd) x)&&(decide (fd.scope.names.map (·.1)).Nodup&&(zi5 fd&&r.ps.all nmK)))
noncomputable def zg6 {α:Type} (l:List α):Bool:=List.casesOn (motive:=fun _=>Bool) l true fun _ _=>false
noncomputable def fnI (fd:FuncData):ScopeKind×Bool×Bool×Addr×Addr×Bool:=(fd.scope.kind,fd.scope.isGenerator,fd.scope.isCoroutine,fd.globals,fd.builtins,zg6 fd.closure)
noncomputable def fnI0:ScopeKind×Bool×Bool×Addr×Addr×Bool:=(.function,false,false,mainGlobals,builtinsNs,true)
theorem f0_t:(fwL.map fun r=>(fdO r.a).map fun fd=>fnB r fd.1)=fwL.map fun r=>(fdO r.a).map fun _=>true:=by kernel_rfl
theorem f1_t:(fwL.map fun r=>(fdO r.a).map fun fd=>fnI fd.1)=fwL.map fun r=>(fdO r.a).map fun _=>fnI0:=by kernel_rfl
theorem f5_t:(fwL.map fun r=>(fdO r.a).map fun fd=>(codS fd.1).map (·.1))=fwL.map fun r=>(fdO r.a).map fun fd=>some fd.1.qualname:=by kernel_rfl
theorem f2_t (f:Nat->Value):(fwL.map fun r=>(fdO r.a).bind fun fd=>(dfO fd.1).map fun d=>(bK fd.1 ((List.range r.k).map f) d.1,(dsL d.1 (r.ps.length - r.k)).map zhO))=fwL.map fun r=>(fdO r.a).bind fun fd=>(dfO fd.1).map fun d=>(pure (r.pn.zip ((List.range r.k).map f++dsL d.1 (r.ps.length - r.k))),r.dv.map some):=by kernel_rfl
theorem f3_t (T:yy):(fwL.map fun r=>(fdO r.a).map fun fd=>zdp T (r.c fd.1) (Xl fd.1))=fwL.map fun r=>some (cd (r.j - 1)):=by kernel_rfl
theorem f4_t:(fwL.map fun r=>(fdO r.a).bind fun fd=>(dfO fd.1).map fun _=>())=fwL.map fun _=>some ():=by kernel_rfl
theorem eq_166 {xs:List Value} {k:Nat} (h:xs.length=k):xs=(List.range k).map fun i=>xs.getD i .none:=by
 subst h
 refine List.ext_getElem (by rw [List.length_map,List.length_range]) fun i h1 h2=>?_
 rw [List.getElem_map,List.getElem_range,List.getD_eq_getElem?_getD,List.getElem?_eq_getElem h1]
 rfl
theorem eq_154 {l:List Nat} (h:l.all nmK=true):(l.map nmx).map xE=l:=by
 rw [List.map_map]
 exact (List.map_congr_left fun i m=>Nat.eq_of_beq_eq_true (Bool.and_eq_true_iff.mp (List.all_eq_true.mp h i m)).2).trans (List.map_id l)
theorem st_b {fd:FuncData} (h:zi5 fd=true):fd.body=.stmts (Xl fd):=by
 unfold zi5 at h
 unfold Xl
 cases q:fd.body with
 | stmts b=>rfl
 | _=>rw [q] at h;exact nomatch h
theorem eq_341 {α:Type} {l:List α} (h:zg6 l=true):l=[]:=by
 cases l with
 | nil=>rfl
 | cons=>exact nomatch h
theorem eq_359 (T:zY w0 zC) {fd:FuncData} {xs ds:List Value} {d:Option (Array Value)} {pn:List Str} (hd:Dft fd d) (e:bK fd xs d=pure (pn.zip (xs++ds))) {s:Shared} (hk:∀b o,zC.get? b=some o->s.heap.get? b=some o):BindsTo s fd ⟨xs,[]⟩ (pn.zip (xs++ds)):=fun M A E Q q=>by
 rw [bKs.2]
 rcases hd with ⟨f1,rfl⟩ | ⟨T',o',items,n,f1,f2,f3,rfl⟩
 ·rw [f1]
  exact wpAny_bind (m:=seqItems? Value.none) (wpAny_pure (a:=none) (by rw [show bKs.1 fd xs _=_ from e];exact wpAny_pure q))
 ·rw [f1]
  exact wpAny_bind (wpAny_seqItems (hk _ _ (T.X _ _ f2)) f3 (by rw [show bKs.1 fd xs _=_ from e];exact wpAny_pure q))
theorem eq_816 {α β:Type} {o:Option α} {f g:α->β} {x:α} (h:o.map f=o.map g) (e:o=some x):f x=g x:=Option.some.inj (e▸h:(some x).map f=(some x).map g)
theorem fnR_ (T:zY w0 zC) {r:Fw} (m:r∈fwL):∃fd,fdO r.a=some fd/\r.pn.map xE=r.ps/\FnR r.a r.k r.pn (r.dv.map .int) (r.c fd.1) (Xl fd.1):=by
 have z4:=List.map_inj_left.mp f4_t r m
 obtain ⟨fd,e,z4⟩:=Option.bind_eq_some_iff.mp z4
 obtain ⟨d,e2,_⟩:=Option.map_eq_some_iff.mp z4
 have b:=eq_816 (List.map_inj_left.mp f0_t r m) e
 have z1:fnI fd.1=fnI0:=eq_816 (List.map_inj_left.mp f1_t r m) e
 have z5:=eq_816 (List.map_inj_left.mp f5_t r m) e
 have z2:∀f,(bK fd.1 ((List.range r.k).map f) d.1,(dsL d.1 (r.ps.length - r.k)).map zhO)=(pure (r.pn.zip ((List.range r.k).map f++dsL d.1 (r.ps.length - r.k))),r.dv.map some):=fun f=>by
  have z:=List.map_inj_left.mp (f2_t f) r m
  rw [e] at z
  exact eq_816 (o:=dfO fd.1) z e2
 unfold fnB at b
 rw [Bool.and_eq_true,Bool.and_eq_true,Bool.and_eq_true,Bool.and_eq_true] at b
 have w:=wn_e b.2.1
 obtain ⟨cs,_,hcs⟩:=Option.map_eq_some_iff.mp z5
 refine ⟨fd,e,eq_154 b.2.2.2.2,of_decide_eq_true b.1,fun x m=>(w x m).1,of_decide_eq_true b.2.2.1,fun x m=>(w x m).2,fd.2.elim fun o h=>⟨o,fd.1,T.X _ _ h.1,h.2,st_b b.2.2.2.1,rfl,congrArg (·.1) z1,congrArg (·.2.1) z1,congrArg (·.2.2.1) z1,congrArg (·.2.2.2.1) z1,congrArg (·.2.2.2.2.1) z1,eq_341 (congrArg (·.2.2.2.2.2) z1),
  cs.2.elim fun c h=>h.elim fun oc h=>h.elim fun vs h=>h.elim fun t h=>⟨c,oc,vs,t,h.1,T.X _ _ h.2.1,h.2.2.1,hcs▸h.2.2.2⟩,fun xs hx=>?_⟩⟩
 have z3:=z2 fun i=>xs.getD i .none
 rw [← eq_166 hx] at z3
 exact ⟨_,fun g=>eq_545 (congrArg (·.2) z3),fun s hk=>eq_359 T d.2 (congrArg (·.1) z3) hk⟩
theorem eq_358 (T:zY w0 zC) (Tb:yy) {r:Fw} (m:r∈fwL):xf (.ref r.a) (fnS xX r.k r.ps (r.dv.map .int) (cd (r.j - 1))):=by
 obtain ⟨fd,e,en,R⟩:=fnR_ T m
 have z:=List.map_inj_left.mp (f3_t Tb) r m
 rw [e] at z
 exact en▸Option.some.inj z▸eq_316 Tb T.nolim R
end Mine
end
section
open PySem PySem.W PySem.Calls PyProof.Rows
set_option genSizeOf false
set_option genInjectivity false
namespace Mine
local macro_rules | `(tactic| kd_p)=>`(tactic| conv=>whnf)
theorem zu {b:Bool} {A B:Prop} (e:b=true) (h:A):Bool.rec (motive:=fun _=>Prop) B A b:=e▸h
theorem zg {b:Bool} {A B:Prop} (e:b=false) (h:B):Bool.rec (motive:=fun _=>Prop) B A b:=e▸h
theorem br {b:Bool} {A B:Prop} (t:b=true->A) (f:b=false->B):Bool.rec (motive:=fun _=>Prop) B A b:=Bool.casesOn (motive:=fun b=>(b=true->A)->(b=false->B)->Bool.rec (motive:=fun _=>Prop) B A b) b (fun _ f=>f rfl) (fun t _=>t rfl) t f
theorem eq_884 {b:Bool} {A B C:Prop} (t:b=true->C->A) (f:b=false->C->B) (c:C):Bool.rec (motive:=fun _=>Prop) B A b:=br (fun e=>t e c) fun e=>f e c
theorem dT {p:Prop} [Decidable p] (h:p):decide p=true:=decide_eq_true h
theorem dF {p:Prop} [Decidable p] (h:¬ p):decide p=false:=decide_eq_false h
theorem nT {b:Bool} (h:b=true):(!b)=false:=h▸rfl
theorem nF {b:Bool} (h:b=false):(!b)=true:=h▸rfl
theorem tD {p:Prop} [Decidable p] (h:decide p=true):p:=of_decide_eq_true h
theorem fD {p:Prop} [Decidable p] (h:decide p=false):¬ p:=of_decide_eq_false h
theorem os {α:Type} {o:Option α} {x:α} {k:α->Prop} (e:o=some x) (h:k x):Option.rec (motive:=fun _=>Prop) False k o:=e▸h
theorem yY {α:Type} {p:Prop} [d:Decidable p] {o:Option α} (h:p):wo p o=o:=by unfold wo;rw [decide_eq_true h]
theorem ci {x y:Int} {H:Hp} {Q:QE} (e:x=y) (q:Q (.int y) H):Q (.int x) H:=e▸q
theorem cq {a b:V} {H:Hp} {Q:QE} (e:a=b) (q:Q b H):Q a H:=e▸q
section
variable {H:Hp} {x y:Int} {a b:List Nat}
theorem eq_864 {op:Operator} {z:Int} (ha:JY op=false) (e:zgc op x y=some z):yK (.bin op) [.int x,.int y] H=some (.int z,H):=by
 show hr H (zd4 op _ _ H)=_
 unfold zd4
 rw [ha]
 show hr H (bo (zgc op x y) _)=_
 rw [e];rfl
theorem zH (h:x.natAbs < B64) (hy:0<=y/\y<=1000000):yK (.bin .LShift) [.int x,.int y] H=some (.int (x * 2 ^ y.toNat),H):=eq_864 rfl ((yY hy.1).trans ((yY hy.2).trans (yY h)))
theorem eq_923 (h:x.natAbs < 1152921504606846976∨y.natAbs < 1152921504606846976):yK (.bin .Mult) [.int x,.int y] H=some (.int (x * y),H):=eq_864 rfl (yY h)
theorem eq_604 (h:x.natAbs < B64) (hy:0<=y/\y<=1000000):yK (.bin .Pow) [.int x,.int y] H=some (.int (x ^ y.toNat),H):=eq_864 rfl ((yY hy.1).trans ((yY hy.2).trans (yY h)))
theorem eq_922 (h:a.length+b.length<=100000):yK (.bin .Add) [.str a,.str b] H=some (.str (a++b),H):=by
 show hr H (wo _ _)=_
 rw [yY h];rfl
theorem eq_940 {v i w:V} (e:zat v i H=some w):yK .sub [v,i] H=some (w,H):=by
 show hr H (zat v i H)=_
 rw [e];rfl
theorem eq_929 {o:Option V} {w:V} (e:o=some w):hr H o=some (w,H):=e▸rfl
end
section
variable {H:Hp} {bind:V->Lo->Option Lo} {g:Hp->Prop->Prop} (G:∀P,P->g H P) (I:Lo->Prop)
include G
theorem eq_811 {body:Lo->Hp->Kt->Jt->Prop} {Q:Lo->Hp->Prop} {J:Jt} (q:∀lo,I lo->Q lo H):∀(l:List V),(∀v∈l,∀lo,I lo->∃lo1,bind v lo=some lo1/\∀(K:Kt) (J:Jt),(∀st lo2,I lo2->K st lo2 H)->body lo1 H K J)->∀lo,I lo->jy bind body g Q J l lo H
 | [],_,lo,i=>G _ (q lo i)
 | v::r,h,lo,i=>G _ (Exists.elim (h v (.head _) lo i) fun _ z=>eq_898 z.1 (z.2 _ _ fun _ lo2 i2=>eq_811 q r (fun v m=>h v (.tail _ m)) lo2 i2))
theorem eq_758 {t e:Lo->Hp->Kt->Prop} (p:V->Bool) (f:V->V):∀(l:List V) (lo:Lo) (Q:List V->Hp->Prop),I lo->
  (∀v∈l,∀lo,I lo->∃lo1,bind v lo=some lo1/\I lo1/\(∀K:Kt,(∀lo,K [.bool (p v)] lo H)->t lo1 H K)/\(p v=true->∀K:Kt,(∀lo,K [f v] lo H)->e lo1 H K))->Q ((l.filter p).map f) H->xO bind t e g l lo H Q
 | [],_,Q,_,_,q=>G _ q
 | v::r,lo,Q,i,h,q=>G _ (Exists.elim (h v (.head _) lo i) fun lo1 z=>eq_898 z.1 (z.2.2.1 _ fun _=>show ifb (p v) _ _ from Bool.casesOn (motive:=fun b=>p v=b->ifb b (e lo1 H _) (xO bind t e g r lo1 H Q)) (p v)
   (fun b=>show xO bind t e g r lo1 H Q from eq_758 p f r lo1 Q z.2.1 (fun v m=>h v (.tail _ m)) (by rwa [List.filter_cons_of_neg (by rw [b];exact Bool.false_ne_true)] at q))
   (fun b=>z.2.2.2 b _ fun _=>eq_758 p f r lo1 _ z.2.1 (fun v m=>h v (.tail _ m)) (by rwa [List.filter_cons_of_pos b,List.map_cons] at q)) rfl))
theorem cm_a {t e:Lo->Hp->Kt->Prop} (f:V->V) (l:List V) (lo:Lo) (Q:List V->Hp->Prop) (i:I lo)
  (h:∀v∈l,∀lo,I lo->∃lo1,bind v lo=some lo1/\I lo1/\(∀K:Kt,(∀lo,K [.bool true] lo H)->t lo1 H K)/\∀K:Kt,(∀lo,K [f v] lo H)->e lo1 H K) (q:Q (l.map f) H):xO bind t e g l lo H Q:=
 eq_758 G I (fun _=>true) f l lo Q i (fun v m lo i=>(h v m lo i).imp fun _ z=>⟨z.1,z.2.1,z.2.2.1,fun _=>z.2.2.2⟩) (by rw [List.filter_eq_self.mpr fun _ _=>rfl];exact q)
end
theorem eq_865 {t:Lo->Hp->Kt->Prop} {b:Lo->Hp->Kt->Jt->Prop} {Q:Lo->Hp->Prop} {J:Jt} (I:Nat->Lo->Hp->Prop)
  (step:∀d lo H,I (d+1) lo H->∀(W:Lo->Hp->Prop) (J':Jt),(∀lo H,I d lo H->W lo H)->t lo H fun st _ H1=>h1 st fun c=>ob (asB c) fun c=>ifb c (b lo H1 (fun _=>W) J') (Q lo H1))
  (last:∀lo H,I 0 lo H->∀X:Hp->Prop,t lo H fun st _ H1=>h1 st fun c=>ob (asB c) fun c=>ifb c (X H1) (Q lo H1)):∀d lo H,I d lo H->Qz t b Q J (d+1) lo H
 | 0,lo,H,i=>last lo H i fun H1=>b lo H1 (fun _=>Qz t b Q J 0) (lpJ (Qz t b Q J 0) Q J)
 | d+1,lo,H,i=>step d lo H i _ _ fun lo H i=>eq_865 I step last d lo H i
theorem g0 {H:Hp}:∀{l:List V} (P:Prop),P->gd none l H P:=fun _ p=>p
theorem eq_726 {bind:V->Lo->Option Lo} {body:Lo->Hp->Kt->Jt->Prop} {Q:Lo->Hp->Prop} {J:Jt} {v:V} {l:List V} {lo lo1:Lo} {H:Hp} (e:bind v lo=some lo1) (h:∀(K:Kt) (J:Jt),(∀st lo H,Q lo H->K st lo H)->body lo1 H K J):jy bind body (gd none l) Q J [v] lo H:=eq_898 e (h _ _ fun _ _ _ q=>q)
theorem xu {α:Type} {P:α->Prop}:∀v∈([]:List α),P v:=nofun
theorem zN {α:Type} {P:α->Prop} {a:α} {l:List α} (h:P a) (t:∀v∈l,P v):∀v∈a::l,P v:=fun v m=>(List.mem_cons.mp m).elim (fun e=>e▸h) (t v)
theorem eq_817 {α:Type} {f g:Kd->α} (h:Z6.map f=Z6.map g) (k:Kd):f k=g k:=List.map_inj_left.mp h k (List.mem_of_getElem? (i:=k.i) (by cases k<;>rfl))
theorem eq_917 {α:Type} {f g:Row->α} (h:yu.map f=yu.map g) {i:Ix} (o:Ok i):f (i.n,i.k,i.op,i.t,i.s)=g (i.n,i.k,i.op,i.t,i.s):=List.map_inj_left.mp h _ o.row
def shR (r:Row):V:=ins 284 1 [.str r.1,.str r.2.1.s,.int r.2.2.1,.int r.2.2.2.1,.int r.2.2.2.2]
theorem eq_35:yu.map (fun r=>zP (dK (gc 340791740857167)) (dV (gc 340791740857167)) r.1)=yu.map fun r=>some (shR r):=by kernel_rfl
theorem eq_882 {α:Type} [DecidableEq α] {x:α}:∀{ks:List α} {vs:List V} {v:V},zP ks vs x=some v->x∈ks
 | [],_,_=>zl
 | k::ks,[],_=>zl
 | k::ks,u::vs,v=>fun h=>Decidable.byCases (fun e:k=x=>e▸.head _) fun e=>.tail _ (eq_882 (vs:=vs) (v:=v) (by
  have h:(bif decide (k=x) then some u else zP ks vs x)=some v:=h
  rwa [decide_eq_false e] at h))
theorem eq_840 {i:Ix} (o:Ok i):zP (dK (gc 340791740857167)) (dV (gc 340791740857167)) i.n=some (Xu i):=eq_917 eq_35 o
theorem eq_774 {i:Ix} (o:Ok i):i.n∈dK (gc 340791740857167):=eq_882 (eq_840 o)
theorem eq_648:∀(a b:Lw),yA (a++b)=yA a ||| yA b
 | [],b=>(Nat.zero_or _).symm
 | p::a,b=>(congrArg (_ ||| ·) (eq_648 a b)).trans (Nat.or_assoc ..).symm
theorem eq_415 (x y:Nat):Builtin.bitOr (x:Int) (y:Int)=((x ||| y:Nat):Int):=by
 have e:=nat_or_add_and x y
 rw [bitOr_and,bitAnd_pp (Int.natCast_nonneg x) (Int.natCast_nonneg y)]
 show (x:Int)+y - ((x &&& y:Nat):Int)=_
 lia
theorem bo_ {x y:Int} {a b:Lw} (h1:x=(yA a:Nat)) (h2:y=(yA b:Nat)):Builtin.bitOr x y=(yA (a++b):Nat):=by rw [h1,h2,eq_415,eq_648]
theorem bo2 {x y z:Int} {a:Lw} {p q:Nat×Nat×Int} (h1:x=(yA a:Nat)) (h2:y=(yA [p]:Nat)) (h3:z=(yA [q]:Nat)):Builtin.bitOr (Builtin.bitOr x y) z=(yA (a++[p,q]):Nat):=(bo_ (bo_ h1 h2) h3).trans (by rw [List.append_assoc];rfl)
theorem lf {v:Int} {s:Nat} (w:Nat) (h:0<=v):v * 2 ^ s=(yA [(s,w,v)]:Nat):=by
 show _=((v.toNat <<< s ||| 0:Nat):Int)
 rw [Nat.or_zero,Nat.shiftLeft_eq,Int.natCast_mul,Int.toNat_of_nonneg h]
 rfl
theorem lf0 {v:Int} (w:Nat) (h:0<=v):v=(yA [(0,w,v)]:Nat):=by
 show _=((v.toNat <<< 0 ||| 0:Nat):Int)
 rw [Nat.or_zero,Nat.shiftLeft_zero,Int.toNat_of_nonneg h]
def Vw (L:Lw):Prop:=∀p∈L,0<=p.2.2/\p.2.2 < 2 ^ p.2.1
theorem toNat_lt {v:Int} {w:Nat} (h:0<=v/\v < 2 ^ w):v.toNat < 2 ^ w:=(Int.toNat_lt h.1).mpr (by rw [Int.natCast_pow];exact h.2)
theorem eq_301 {L:Lw} {n:Nat} (V:Vw L) (h:∀p∈L,p.1+p.2.1<=n):yA L < 2 ^ n:=by
 induction L with
 | nil=>exact Nat.two_pow_pos n
 | cons p r ih=>
  refine Nat.or_lt_two_pow ?_ (ih (fun q m=>V q (.tail _ m)) fun q m=>h q (.tail _ m))
  rw [Nat.shiftLeft_eq]
  exact Nat.lt_of_lt_of_le (Nat.mul_lt_mul_of_pos_right (toNat_lt (V p (.head _))) (Nat.two_pow_pos _)) (by rw [← Nat.pow_add,Nat.add_comm];exact Nat.pow_le_pow_right (by decide) (h p (.head _)))
noncomputable def srO (a:Nat) (p:Nat×Nat×Int):Option (Nat×Nat×Int):=bif Nat.ble (p.1+p.2.1) a then none else some (p.1 - a,p.2.1,p.2.2)
noncomputable def sr (a:Nat) (L:Lw):Lw:=L.filterMap (srO a)
noncomputable def md (n:Nat) (L:Lw):Lw:=L.filter fun p=>Nat.blt p.1 n
theorem sr_ {L:Lw} {a:Nat} (V:Vw L) (h:(L.all fun p=>Nat.ble (p.1+p.2.1) a||Nat.ble a p.1)=true):yA L / 2 ^ a=yA (sr a L)/\Vw (sr a L):=by
 induction L with
 | nil=>exact ⟨Nat.zero_div _,nofun⟩
 | cons p r ih=>
  rw [List.all_cons,Bool.and_eq_true,Bool.or_eq_true] at h
  have ih:=ih (fun q m=>V q (.tail _ m)) h.2
  have hv:=V p (.head _)
  show (p.2.2.toNat <<< p.1 ||| yA r) / 2 ^ a=yA ((p::r).filterMap (srO a))/\Vw ((p::r).filterMap (srO a))
  rw [Nat.or_div_two_pow,ih.1,List.filterMap_cons]
  cases e:Nat.ble (p.1+p.2.1) a with
  | true=>
   have z:srO a p=none:=by unfold srO;rw [e];rfl
   rw [z]
   refine ⟨?_,ih.2⟩
   have:=Nat.le_of_ble_eq_true e
   rw [Nat.shiftLeft_eq,Nat.div_eq_of_lt (Nat.lt_of_lt_of_le (Nat.mul_lt_mul_of_pos_right (toNat_lt hv) (Nat.two_pow_pos _)) (by rw [← Nat.pow_add,Nat.add_comm];exact Nat.pow_le_pow_right (by decide) this)),Nat.zero_or]
   rfl
  | false=>
   have z:srO a p=some (p.1 - a,p.2.1,p.2.2):=by unfold srO;rw [e];rfl
   have le:a<=p.1:=(h.1.elim (fun q=>absurd q (by rw [e];exact Bool.false_ne_true)) Nat.le_of_ble_eq_true)
   rw [z]
   refine ⟨?_,fun q m=>(List.mem_cons.mp m).elim (fun q'=>q'▸hv) (ih.2 q)⟩
   show _=(p.2.2.toNat <<< (p.1 - a)) ||| _
   congr 1
   rw [Nat.shiftLeft_eq,Nat.shiftLeft_eq]
   obtain ⟨d,q⟩:=Nat.exists_eq_add_of_le le
   rw [q,Nat.add_sub_cancel_left,Nat.pow_add,Nat.mul_comm (2 ^ a),← Nat.mul_assoc,Nat.mul_div_cancel _ (Nat.two_pow_pos a)]
theorem md_ {L:Lw} {n:Nat} (V:Vw L) (h:(L.all fun p=>Nat.ble (p.1+p.2.1) n||Nat.ble n p.1)=true):yA L % 2 ^ n=yA (md n L)/\Vw (md n L):=by
 refine ⟨?_,fun p m=>V p ((List.mem_filter.mp m).1)⟩
 induction L with
 | nil=>exact Nat.zero_mod _
 | cons p r ih=>
  rw [List.all_cons,Bool.and_eq_true,Bool.or_eq_true] at h
  have ih:=ih (fun q m=>V q (.tail _ m)) h.2
  have hv:=V p (.head _)
  show (p.2.2.toNat <<< p.1 ||| yA r) % 2 ^ n=yA ((p::r).filter _)
  rw [Nat.or_mod_two_pow,ih,Nat.shiftLeft_eq]
  cases e:Nat.blt p.1 n with
  | true=>
   rw [List.filter_cons_of_pos (p:=fun p:Nat×Nat×Int=>Nat.blt p.1 n) e]
   have lt:p.1 < n:=Nat.le_of_ble_eq_true e
   have le:p.1+p.2.1<=n:=h.1.elim Nat.le_of_ble_eq_true fun q=>absurd (Nat.le_of_ble_eq_true q) (Nat.not_le.mpr lt)
   rw [Nat.mod_eq_of_lt (Nat.lt_of_lt_of_le (Nat.mul_lt_mul_of_pos_right (toNat_lt hv) (Nat.two_pow_pos _)) (by rw [← Nat.pow_add,Nat.add_comm];exact Nat.pow_le_pow_right (by decide) le)),← Nat.shiftLeft_eq]
   rfl
  | false=>
   rw [List.filter_cons_of_neg (p:=fun p:Nat×Nat×Int=>Nat.blt p.1 n) (by rw [e];exact Bool.false_ne_true)]
   have le:n<=p.1:=Nat.not_lt.mp fun q=>Bool.false_ne_true (e.symm.trans (Nat.ble_eq.mpr q))
   obtain ⟨d,q⟩:=Nat.exists_eq_add_of_le le
   rw [q,Nat.pow_add,Nat.mul_comm (2 ^ n),← Nat.mul_assoc,Nat.mul_mod_left,Nat.zero_or]
   rfl
theorem fd_ {L:Lw} (a n:Nat) (V:Vw L) (h:(L.all fun p=>Nat.ble (p.1+p.2.1) a||Nat.ble a p.1)=true) (h2:((sr a L).all fun p=>Nat.ble (p.1+p.2.1) n||Nat.ble n p.1)=true):((yA L:Nat):Int) / 2 ^ a % 2 ^ n=(yA (md n (sr a L)):Nat):=by
 have s:=sr_ V h
 have m:=md_ s.2 h2
 rw [← m.1,← s.1,Int.natCast_emod,Int.natCast_ediv,Int.natCast_pow,Int.natCast_pow]
 rfl
theorem hi_ {L:Lw} (a:Nat) (V:Vw L) (h:(L.all fun p=>Nat.ble (p.1+p.2.1) a||Nat.ble a p.1)=true):((yA L:Nat):Int) / 2 ^ a=(yA (sr a L):Nat):=by
 rw [← (sr_ V h).1,Int.natCast_ediv,Int.natCast_pow]
 rfl
theorem eq_886 {v:Int} {w:Nat} (h:0<=v):((yA [(0,w,v)]:Nat):Int)=v:=(lf0 w h).symm
noncomputable def sm:Lw->Int
 | []=>0
 | p::r=>p.2.2 * 2 ^ p.1+sm r
theorem dj_ {x y a b:Nat} (h1:x < 2 ^ (a+b)) (h0:x % 2 ^ a=0) (h:y / 2 ^ a % 2 ^ b=0):x &&& y=0:=by
 refine Nat.eq_of_testBit_eq fun j=>?_
 rw [Nat.testBit_and,Nat.zero_testBit]
 by_cases h2:j < a
 ·have q:(x % 2 ^ a).testBit j=false:=by rw [h0];exact Nat.zero_testBit _
  rw [Nat.testBit_mod_two_pow,decide_eq_true h2,Bool.true_and] at q
  rw [q,Bool.false_and]
 ·by_cases h3:j < a+b
  ·obtain ⟨d,rfl⟩:=Nat.exists_eq_add_of_le (Nat.not_lt.mp h2)
   have q:(y / 2 ^ a % 2 ^ b).testBit d=false:=by rw [h];exact Nat.zero_testBit _
   rw [Nat.testBit_mod_two_pow,decide_eq_true (Nat.add_lt_add_iff_left.mp h3),Bool.true_and,Nat.testBit_div_two_pow] at q
   rw [Nat.add_comm a d,q,Bool.and_false]
  ·rw [Nat.testBit_lt_two_pow (Nat.lt_of_lt_of_le h1 (Nat.pow_le_pow_right (by decide) (Nat.not_lt.mp h3))),Bool.false_and]
noncomputable def djB:Lw->Bool
 | []=>true
 | p::r=>(r.all fun q=>Nat.ble (p.1+p.2.1) q.1||Nat.ble (q.1+q.2.1) p.1)&&djB r
theorem sm_:∀{L:Lw},Vw L->djB L=true->((yA L:Nat):Int)=sm L
 | [],_,_=>rfl
 | p::r,V,D=>by
  have hv:=V p (.head _)
  have Vr:Vw r:=fun q m=>V q (.tail _ m)
  have D:(∀q∈r,p.1+p.2.1<=q.1∨q.1+q.2.1<=p.1)/\djB r=true:=(Bool.and_eq_true _ _▸D:_/\_).imp_left fun h q m=>(Bool.or_eq_true ..▸List.all_eq_true.mp h q m:_∨_).imp Nat.le_of_ble_eq_true Nat.le_of_ble_eq_true
  have ih:=sm_ Vr D.2
  have al:(r.all fun q=>Nat.ble (q.1+q.2.1) p.1||Nat.ble p.1 q.1)=true:=List.all_eq_true.mpr fun q m=>(D.1 q m).elim (fun z=>by rw [Nat.ble_eq.mpr (Nat.le_trans (Nat.le_add_right _ _) z),Bool.or_true]) fun z=>by rw [Nat.ble_eq.mpr z];rfl
  have s:=sr_ Vr al
  have al2:((sr p.1 r).all fun q=>Nat.ble (q.1+q.2.1) p.2.1||Nat.ble p.2.1 q.1)=true:=List.all_eq_true.mpr fun q m=>by
   obtain ⟨q',m',e⟩:=List.mem_filterMap.mp m
   unfold srO at e
   cases z:Nat.ble (q'.1+q'.2.1) p.1 with
   | true=>rw [z] at e;exact nomatch e
   | false=>
    rw [z] at e
    obtain rfl:=Option.some.inj e
    refine (D.1 q' m').elim (fun z2=>?_) fun z2=>absurd (Nat.ble_eq.mpr z2) (by rw [z];exact Bool.false_ne_true)
    show (_||Nat.ble p.2.1 (q'.1 - p.1))=true
    rw [Nat.ble_eq.mpr (Nat.le_sub_of_add_le (Nat.add_comm _ _▸z2)),Bool.or_true]
  have m:=md_ s.2 al2
  have z0:yA (md p.2.1 (sr p.1 r))=0:=by
   have:md p.2.1 (sr p.1 r)=[]:=List.filter_eq_nil_iff.mpr fun q mq h=>by
    obtain ⟨q',m',e⟩:=List.mem_filterMap.mp mq
    unfold srO at e
    cases z:Nat.ble (q'.1+q'.2.1) p.1 with
    | true=>rw [z] at e;exact nomatch e
    | false=>
     rw [z] at e
     obtain rfl:=Option.some.inj e
     have h:q'.1 - p.1+1<=p.2.1:=Nat.le_of_ble_eq_true h
     refine (D.1 q' m').elim (fun z2=>?_) fun z2=>absurd (Nat.ble_eq.mpr z2) (by rw [z];exact Bool.false_ne_true)
     lia
   rw [this];rfl
  have x:p.2.2.toNat <<< p.1 &&& yA r=0:=by
   rw [Nat.shiftLeft_eq]
   refine dj_ (a:=p.1) (b:=p.2.1) ?_ (Nat.mul_mod_left ..) ?_
   ·rw [Nat.pow_add,Nat.mul_comm];exact Nat.mul_lt_mul_of_pos_left (toNat_lt hv) (Nat.two_pow_pos _)
   ·rw [s.1,m.1,z0]
  show ((p.2.2.toNat <<< p.1 ||| yA r:Nat):Int)=p.2.2 * 2 ^ p.1+sm r
  have e:=nat_or_add_and (p.2.2.toNat <<< p.1) (yA r)
  rw [x,Nat.add_zero] at e
  rw [e,Int.natCast_add,ih,Nat.shiftLeft_eq,Int.natCast_mul,Int.toNat_of_nonneg hv.1]
  rfl
noncomputable def rowB (r:Row):Bool:=(lvB r.2.1 r.2.2.1 r.2.2.2.1 r.2.2.2.2 0 0 0).all fun p=>decide (0<=p.2.2)&&decide (p.2.2 < 2 ^ p.2.1)
theorem eq_226:yu.map rowB=yu.map fun _=>true:=by kernel_rfl
theorem fl5 {u:Bool} {x:Int} (h:fld u (0,31,1) x):0<=x/\x < 2 ^ (bif u then 5 else 0):=Bool.casesOn (motive:=fun u=>fld u (0,31,1) x->0<=x/\x < 2 ^ (bif u then 5 else 0)) u (fun h=>⟨Int.le_of_eq h.symm,(show x=0 from h)▸by decide⟩) (fun h=>⟨h.1,Int.lt_add_one_of_le h.2.1⟩) h
theorem eq_761 {u:Bool} {x:Int} (h:fld u (0,4095,1) x):0<=x/\x < 4096:=Bool.casesOn (motive:=fun u=>fld u (0,4095,1) x->0<=x/\x < 4096) u (fun h=>(show 0=x from (show x=0 from h).symm)▸(⟨by decide,by decide⟩:(0:Int)<=0/\(0:Int) < 4096)) (fun h=>⟨h.1,Int.lt_add_one_of_le h.2.1⟩) h
theorem em {x n:Int} (h:0 < n):0<=x % n/\x % n < n:=⟨Int.emod_nonneg _ (Int.ne_of_gt h),Int.emod_lt_of_pos _ h⟩
theorem v1 {p:Nat×Nat×Int} {L:Lw} (h:0<=p.2.2/\p.2.2 < 2 ^ p.2.1) (r:Vw L):Vw (p::L):=fun q m=>(List.mem_cons.mp m).elim (fun e=>e▸h) (r q)
theorem v0:Vw []:=nofun
theorem eq_555 {i:Ix} (o:Ok i):Vw (lvB i.k i.op i.t i.s i.rd i.r1 i.r2):=by
 have b:=eq_917 eq_226 o
 unfold rowB at b
 rw [List.all_eq_true] at b
 have c:∀{p:Nat×Nat×Int},p∈lvB i.k i.op i.t i.s 0 0 0->0<=p.2.2/\p.2.2 < 2 ^ p.2.1:=fun m=>have z:=(Bool.and_eq_true _ _▸b _ m:_/\_);⟨tD z.1,tD z.2⟩
 exact v1 (c (.head _)) (v1 (c (.tail _ (.head _))) (v1 (c (.tail _ (.tail _ (.head _)))) (v1 (fl5 o.rd) (v1 (fl5 o.r1) (v1 (fl5 o.r2) v0)))))
theorem eq_554 {i:Ix} (o:Ok i):Vw (lvX i.k i.im i.cs):=by
 have h:=o.im
 have g:=eq_761 o.cs
 revert h
 generalize i.k=k
 intro h
 cases k
 case R=>exact v0
 case I=>exact v1 (em (by decide)) v0
 case S=>exact v1 (em (by decide)) (v1 (em (by decide)) v0)
 case B=>exact v1 (em (by decide)) (v1 (em (by decide)) (v1 (em (by decide)) (v1 (em (by decide)) v0)))
 case U=>exact v1 ⟨h.1,Int.lt_add_one_of_le h.2.1⟩ v0
 case J=>exact v1 (em (by decide)) (v1 (em (by decide)) (v1 (em (by decide)) (v1 (em (by decide)) v0)))
 case sh=>exact v1 ⟨(em (by decide)).1,(show _ % 4096 < (32:Int) from (Int.emod_eq_of_lt h.1 (Int.lt_of_le_of_lt h.2.1 (show (31:Int) < 4096 by decide))).symm▸Int.lt_add_one_of_le h.2.1)⟩ v0
 case fe=>exact v1 (em (by decide)) v0
 case cw=>exact v1 g v0
 case ci=>exact v1 g (v1 ⟨h.1,Int.lt_add_one_of_le h.2.1⟩ v0)
 case fl=>exact v0
 case sy=>exact v0
theorem eq_901 {i:Ix} (o:Ok i):Vw (lv i):=fun p m=>(List.mem_append.mp m).elim (eq_555 o p) (eq_554 o p)
theorem all_ {α:Type} {f:α->Bool} {l:List α} (h:l.all f=true) {x:α} (m:x∈l):f x=true:=List.all_eq_true.mp h x m
theorem eq_905 {i:Ix} (o:Ok i):0<=z8 i/\z8 i < 4294967296:=⟨Int.natCast_nonneg _,by
 have h:∀p∈lv i,p.1+p.2.1<=32:=by
  unfold lv
  generalize i.k=k
  cases k<;>exact fun p m=>Nat.le_of_ble_eq_true (all_ (f:=fun p:Nat×Nat×Int=>Nat.ble (p.1+p.2.1) 32) rfl m)
 exact Int.ofNat_lt.mpr (eq_301 (eq_901 o) h)⟩
theorem eq_419 {k:Kd} {op t s rd r1 r2:Int} (V:Vw (lvB k op t s rd r1 r2)):Builtin.bitOr (Builtin.bitOr (Builtin.bitOr (Builtin.bitOr (Builtin.bitOr (s * 2 ^ 25) (t * 2 ^ 12)) op) (rd * 2 ^ 7)) (r1 * 2 ^ 15)) (r2 * 2 ^ 20)=(yA (lvB k op t s rd r1 r2):Nat):=
 bo_ (bo_ (bo_ (bo_ (bo_ (lf _ (V _ (.head _)).1) (lf _ (V _ (.tail _ (.head _))).1)) (lf0 _ (V _ (.tail _ (.tail _ (.head _)))).1)) (lf _ (V _ (.tail _ (.tail _ (.tail _ (.head _))))).1)) (lf _ (V _ (.tail _ (.tail _ (.tail _ (.tail _ (.head _)))))).1)) (lf _ (V _ (.tail _ (.tail _ (.tail _ (.tail _ (.tail _ (.head _))))))).1)
theorem yd {x:Int} {n:Nat} (h:0<=x/\x < 2 ^ n) (hn:n<=32):x.natAbs < B64:=by
 obtain ⟨m,rfl⟩:=Int.eq_ofNat_of_zero_le h.1
 have:m < 2 ^ n:=by exact_mod_cast h.2
 exact Nat.lt_of_lt_of_le this (Nat.le_trans (Nat.pow_le_pow_right (by decide) hn) (by decide))
theorem eq_939 {x n:Int} (h:0 < n/\n<=4294967296):(x % n).natAbs < B64:=yd (n:=32) ⟨(em h.1).1,Int.lt_of_lt_of_le (em h.1).2 h.2⟩ (by decide)
theorem eq_856 (k:Kd):kdO k.s=k:=by cases k<;>rfl
theorem zr {k:Kd} {s:List Nat} (h:decide (k.s=s)=true):k=kdO s:=(eq_856 k).symm.trans (congrArg kdO (tD h))
theorem eq_330 {k:Kd} {l:List (List Nat)} (h:decide (k.s∈l)=true):k∈l.map kdO:=eq_856 k▸List.mem_map_of_mem (tD h)
theorem eq_902 {i:Ix} {x:Int} {a:Lw} (h:lvX i.k i.im i.cs=a) (e:x=(yA (lvB i.k i.op i.t i.s i.rd i.r1 i.r2++a):Nat)):x=z8 i:=by unfold z8 lv;rw [h];exact e
theorem lx_I {k:Kd} {im cs:Int} (h:k∈[Kd.I,.sh,.fe]):∃w,lvX k im cs=[(20,w,im % 4096)]:=by
 rcases List.mem_cons.mp h with rfl | h
 ·exact ⟨_,rfl⟩
 rcases List.mem_cons.mp h with rfl | h
 ·exact ⟨_,rfl⟩
 exact List.mem_singleton.mp h▸⟨_,rfl⟩
theorem lx_0 {k:Kd} {im cs:Int} (h0:decide (k.s∈[[73],[115,104,105,102,116],[102,101,110,99,101]])=false) (h1:decide (k.s=[83])=false) (h2:decide (k.s=[66])=false) (h3:decide (k.s=[85])=false) (h4:decide (k.s=[74])=false) (h5:decide (k.s=[67,83,82])=false) (h6:decide (k.s=[67,83,82,73])=false):lvX k im cs=[]:=by
 cases k
 case R=>rfl
 case fl=>rfl
 case sy=>rfl
 case I=>exact nomatch h0
 case sh=>exact nomatch h0
 case fe=>exact nomatch h0
 case S=>exact nomatch h1
 case B=>exact nomatch h2
 case U=>exact nomatch h3
 case J=>exact nomatch h4
 case cw=>exact nomatch h5
 case ci=>exact nomatch h6
theorem eq_744 {k k':Kd} {im cs:Int} (e:k=k') (W:Vw (lvX k im cs)):Vw (lvX k' im cs):=e▸W
theorem eq_304 {i:Ix} {H:Hp} {Q:QE} (o:Ok i) (q:Q (.int (z8 i)) H):fI [] 8 (yn 8) [xK i] H Q:=by
 have W:=eq_555 o
 have X:=eq_554 o
 have B:=eq_419 W
 have w5:∀u:Bool,(bif u then 5 else 0)<=32:=fun u=>by cases u<;>decide
 have w7:kc i.k 7 0 0 0 0 0 7 0 0 0 7 0<=32/\kc i.k 3 3 3 3 0 0 3 3 3 3 3 0<=32:=by cases i.k<;>decide
 kd_p
 refine zg (nT (dT (eq_774 o))) ?_;kd_p
 refine os (eq_940 (eq_840 o)) ?_;kd_p
 refine ⟨i,o,trivial,rfl,?_⟩
 kd_p
 refine os (zH (yd (W _ (.head _)) w7.1) (by decide)) ?_;kd_p
 refine os (zH (yd (W _ (.tail _ (.head _))) w7.2) (by decide)) ?_;kd_p
 refine os (zH (yd (fl5 o.rd) (w5 _)) (by decide)) ?_;kd_p
 refine os (zH (yd (fl5 o.r1) (w5 _)) (by decide)) ?_;kd_p
 refine os (zH (yd (fl5 o.r2) (w5 _)) (by decide)) ?_;kd_p
 refine br (fun h=>?_) fun h0=>?_
 ·obtain ⟨w,e⟩:=lx_I (im:=i.im) (cs:=i.cs) (eq_330 h)
  kd_p
  refine os (zH (eq_939 (by decide)) (by decide)) ?_;kd_p
  exact ci (eq_902 e (bo_ B (lf w (em (by decide)).1))) q
 kd_p
 refine br (fun h=>?_) fun h1=>?_
 ·kd_p
  refine os (zH (eq_939 (by decide)) (by decide)) ?_;kd_p
  refine os (zH (eq_939 (by decide)) (by decide)) ?_;kd_p
  exact ci (eq_902 (by rw [zr h];rfl) (bo2 B (lf 7 (em (by decide)).1) (lf 5 (em (by decide)).1))) q
 kd_p
 refine br (fun h=>?_) fun h2=>?_
 ·kd_p
  refine os (zH (eq_939 (by decide)) (by decide)) ?_;kd_p
  refine os (zH (eq_939 (by decide)) (by decide)) ?_;kd_p
  refine os (zH (eq_939 (by decide)) (by decide)) ?_;kd_p
  refine os (zH (eq_939 (by decide)) (by decide)) ?_;kd_p
  exact ci (eq_902 (by rw [zr h];rfl) (bo_ B (bo_ (bo_ (bo_ (lf 1 (em (by decide)).1) (lf 6 (em (by decide)).1)) (lf 4 (em (by decide)).1)) (lf 1 (em (by decide)).1)))) q
 kd_p
 refine br (fun h=>?_) fun h3=>?_
 ·have X:=eq_744 (zr h) X
  kd_p
  refine os (zH (yd (X _ (.head _)) (of_decide_eq_true rfl)) (by decide)) ?_;kd_p
  exact ci (eq_902 (by rw [zr h];rfl) (bo_ B (lf 20 (X _ (.head _)).1))) q
 kd_p
 refine br (fun h=>?_) fun h4=>?_
 ·kd_p
  refine os (zH (eq_939 (by decide)) (by decide)) ?_;kd_p
  refine os (zH (eq_939 (by decide)) (by decide)) ?_;kd_p
  refine os (zH (eq_939 (by decide)) (by decide)) ?_;kd_p
  refine os (zH (eq_939 (by decide)) (by decide)) ?_;kd_p
  exact ci (eq_902 (by rw [zr h];rfl) (bo_ B (bo_ (bo_ (bo_ (lf 1 (em (by decide)).1) (lf 10 (em (by decide)).1)) (lf 1 (em (by decide)).1)) (lf 8 (em (by decide)).1)))) q
 kd_p
 refine br (fun h=>?_) fun h5=>?_
 ·have X:=eq_744 (zr h) X
  kd_p
  refine os (zH (yd (X _ (.head _)) (of_decide_eq_true rfl)) (by decide)) ?_;kd_p
  exact ci (eq_902 (by rw [zr h];rfl) (bo_ B (lf 12 (X _ (.head _)).1))) q
 kd_p
 refine br (fun h=>?_) fun h6=>?_
 ·have X:=eq_744 (zr h) X
  kd_p
  refine os (zH (yd (X _ (.head _)) (of_decide_eq_true rfl)) (by decide)) ?_;kd_p
  refine os (zH (yd (X _ (.tail _ (.head _))) (of_decide_eq_true rfl)) (by decide)) ?_;kd_p
  exact ci (eq_902 (by rw [zr h];rfl) (bo2 B (lf 12 (X _ (.head _)).1) (lf 5 (X _ (.tail _ (.head _))).1))) q
 kd_p
 exact ci (eq_902 (a:=[]) (lx_0 h0 h1 h2 h3 h4 h5 h6) B) q
noncomputable def fN:List (List Nat):=[[114,100],[114,115,49],[114,115,50],[105,109,109],[99,115,114]]
def zeM (k:Kd):List (List Nat):=(fN.zip k.u).filterMap fun p=>bif p.2 then some p.1 else none
noncomputable abbrev gq (i:Nat):V:=(gv i).getD .none
theorem eq_58:Z6.map (fun k=>zP (dK (gq 152787006)) (dV (gq 152787006)) k.s)=Z6.map fun k=>some (.nd .tup ((zeM k).map .str)):=by kernel_rfl
theorem eq_177:Z6.map (fun k=>fN.map fun s=>decide (s∈zeM k))=Z6.map Kd.u:=by kernel_rfl
theorem eq_912 {k:Kd} (j:Nat) (s:List Nat) (h:fN[j]?=some s):decide (s∈zeM k)=k.u.getD j false:=by
 have e:=eq_817 eq_177 k
 rw [← e,List.getD_eq_getElem?_getD,List.getElem?_map,h]
 rfl
theorem eq_714:∀l:List (List Nat),zB yM (l.map .str)=some l
 | []=>rfl
 | s::l=>by
  show bo (some s) (fun b=>bo (zB yM (l.map .str)) fun r=>some (b::r))=_
  rw [eq_714 l]
theorem eq_294 {H:Hp} {s:List Nat} {l:List (List Nat)}:yK (.cmp .NotIn) [.str s,.nd .tup (l.map .str)] H=some (.bool (!(decide (s∈l))),H):=by
 show hr H (bo (bo (bo (zB yM (l.map .str)) fun ss=>some (decide (s∈ss))) fun r=>some (!r)) fun r=>some (V.bool r))=_
 rw [eq_714 l];rfl
theorem eq_809 {u:Bool} {r:Int×Int×Int} {x:Int} (h:fld u r x):(u=true/\r.1<=x/\x<=r.2.1/\x % r.2.2=0)∨(u=false/\x=0):=Bool.casesOn (motive:=fun u=>fld u r x->(u=true/\r.1<=x/\x<=r.2.1/\x % r.2.2=0)∨(u=false/\x=0)) u (fun h=>.inr ⟨rfl,h⟩) (fun h=>.inl ⟨rfl,h⟩) h
theorem eq_716 {x y:Int} {H:Hp} (h:0 < y):yK (.bin .Mod) [.int x,.int y] H=some (.int (x % y),H):=eq_864 rfl (yY h)
theorem eq_36:Z6.map (fun k=>bif k.u.getD 3 false then zP (dK (gq 3139013427763)) (dV (gq 3139013427763)) k.s else none)=Z6.map fun k=>bif k.u.getD 3 false then some (.nd .tup [.int k.rg.1,.int k.rg.2.1,.int k.rg.2.2]) else none:=by kernel_rfl
theorem eq_227:Z6.map (fun k=>decide (0 < k.rg.2.2))=Z6.map fun _=>true:=by kernel_rfl
theorem eq_308 {i:Ix} {H:Hp} {Q:QE} (o:Ok i) (q:Q .none H):fI [] 2 (yn 2) [xK i,.str i.k.s] H Q:=by
 kd_p
 refine os (eq_940 (eq_817 eq_58 i.k)) ?_;kd_p
 refine ⟨eq_811 g0 (fun lo=>lo 223635998=some (.nd .tup ((zeM i.k).map .str))/\lo 223786788=some (.str i.k.s)) (fun _ _=>q) _ (zN ?_ (zN ?_ (zN ?_ (zN ?_ (zN ?_ xu))))) _ ⟨rfl,rfl⟩⟩
 all_goals
  refine fun lo z=>⟨_,rfl,fun K J h=>?_⟩
  kd_p
  refine os z.1 ?_;kd_p
  refine os eq_294 ?_;kd_p
 ·rcases eq_809 o.rd with ⟨e,f⟩ | ⟨e,f⟩
  ·refine zg (nT ((eq_912 0 _ rfl).trans e)) ?_;kd_p
   refine zu (dT f.1) ?_;kd_p
   refine zg (nT (dT (Int.lt_add_one_of_le f.2.1))) ?_;kd_p
   exact h _ _ z
  ·refine zu (nF ((eq_912 0 _ rfl).trans e)) ?_;kd_p
   refine zg (nT (dT f)) ?_;kd_p
   exact h _ _ z
 ·rcases eq_809 o.r1 with ⟨e,f⟩ | ⟨e,f⟩
  ·refine zg (nT ((eq_912 1 _ rfl).trans e)) ?_;kd_p
   refine zu (dT f.1) ?_;kd_p
   refine zg (nT (dT (Int.lt_add_one_of_le f.2.1))) ?_;kd_p
   exact h _ _ z
  ·refine zu (nF ((eq_912 1 _ rfl).trans e)) ?_;kd_p
   refine zg (nT (dT f)) ?_;kd_p
   exact h _ _ z
 ·rcases eq_809 o.r2 with ⟨e,f⟩ | ⟨e,f⟩
  ·refine zg (nT ((eq_912 2 _ rfl).trans e)) ?_;kd_p
   refine zu (dT f.1) ?_;kd_p
   refine zg (nT (dT (Int.lt_add_one_of_le f.2.1))) ?_;kd_p
   exact h _ _ z
  ·refine zu (nF ((eq_912 2 _ rfl).trans e)) ?_;kd_p
   refine zg (nT (dT f)) ?_;kd_p
   exact h _ _ z
 ·rcases eq_809 o.im with ⟨e,f⟩ | ⟨e,f⟩
  ·refine zg (nT ((eq_912 3 _ rfl).trans e)) ?_;kd_p
   refine os z.2 ?_;kd_p
   have r:=eq_817 eq_36 i.k
   rw [e] at r
   have r:zP _ _ i.k.s=some (.nd .tup [.int i.k.rg.1,.int i.k.rg.2.1,.int i.k.rg.2.2]):=r
   refine os (eq_940 r) ?_;kd_p
   refine zu (dT f.1) ?_;kd_p
   refine zg (nT (dT f.2.1)) ?_;kd_p
   refine os (eq_716 (tD (eq_817 eq_227 i.k))) ?_;kd_p
   refine zg (nT (dT f.2.2)) ?_;kd_p
   exact h _ _ z
  ·refine zu (nF ((eq_912 3 _ rfl).trans e)) ?_;kd_p
   refine zg (nT (dT f)) ?_;kd_p
   exact h _ _ z
 ·rcases eq_809 o.cs with ⟨e,f⟩ | ⟨e,f⟩
  ·refine zg (nT ((eq_912 4 _ rfl).trans e)) ?_;kd_p
   refine zu (dT f.1) ?_;kd_p
   refine zg (nT (dT (Int.lt_add_one_of_le f.2.1))) ?_;kd_p
   exact h _ _ z
  ·refine zu (nF ((eq_912 4 _ rfl).trans e)) ?_;kd_p
   refine zg (nT (dT f)) ?_;kd_p
   exact h _ _ z
theorem g_ {L:Lw} {w:Nat} {v:Int} (a n:Nat) (V:Vw L) (h:(L.all fun p=>Nat.ble (p.1+p.2.1) a||Nat.ble a p.1)=true) (h2:((sr a L).all fun p=>Nat.ble (p.1+p.2.1) n||Nat.ble n p.1)=true) (e:md n (sr a L)=[(0,w,v)]):((yA L:Nat):Int) / 2 ^ a % 2 ^ n=v:=
 (fd_ a n V h h2).trans (e▸eq_886 ((e▸(md_ (sr_ V h).2 h2).2:Vw [(0,w,v)]) _ (.head _)).1)
theorem g0_ {L:Lw} {w:Nat} {v:Int} (n:Nat) (V:Vw L) (h2:(L.all fun p=>Nat.ble (p.1+p.2.1) n||Nat.ble n p.1)=true) (e:md n L=[(0,w,v)]):((yA L:Nat):Int) % 2 ^ n=v:=by
 have m:=md_ V h2
 rw [e] at m
 rw [show ((yA L:Nat):Int) % 2 ^ n=((yA L % 2 ^ n:Nat):Int) by rw [Int.natCast_emod,Int.natCast_pow];rfl,m.1]
 exact eq_886 (m.2 _ (.head _)).1
noncomputable def cls (k:Kd):Nat:=kc k 2 1 1 1 0 0 2 1 1 1 2 3
section
variable {k:Kd} {op t s rd r1 r2 im cs:Int} (V:Vw (lvB k op t s rd r1 r2++lvX k im cs))
include V
theorem eq_808 (h:Nat.blt (cls k) 3=true):((yA (lvB k op t s rd r1 r2++lvX k im cs):Nat):Int) % 2 ^ 7=op:=by
 cases k
 case sy=>exact nomatch h
 all_goals exact g0_ 7 V rfl rfl
theorem w_t (h:(Nat.ble 1 (cls k)&&Nat.blt (cls k) 3)=true):((yA (lvB k op t s rd r1 r2++lvX k im cs):Nat):Int) / 2 ^ 12 % 2 ^ 3=t:=by
 cases k
 case sy=>exact nomatch h
 case U=>exact nomatch h
 case J=>exact nomatch h
 all_goals exact g_ 12 3 V rfl rfl rfl
theorem w_s (h:Nat.beq (cls k) 2=true):((yA (lvB k op t s rd r1 r2++lvX k im cs):Nat):Int) / 2 ^ 25=s:=by
 cases k
 case R=>exact (hi_ 25 V rfl).trans (eq_886 (V _ (.head _)).1)
 case sh=>exact (hi_ 25 V rfl).trans (eq_886 (V _ (.head _)).1)
 case fl=>exact (hi_ 25 V rfl).trans (eq_886 (V _ (.head _)).1)
 all_goals exact nomatch h
end
theorem nz_ {sh:Nat} {v:Int} {r:Lw} (h:0<=v/\v < 2 ^ 0):yA ((sh,0,v)::r)=yA r:=by
 obtain rfl:v=0:=Int.le_antisymm (Int.lt_add_one_iff.mp h.2) h.1
 show (0:Int).toNat <<< sh ||| yA r=_
 rw [show (0:Int).toNat=0 from rfl,Nat.zero_shiftLeft,Nat.zero_or]
theorem oc_ {p:Nat×Nat×Int} {r s:Lw} (h:yA r=yA s):yA (p::r)=yA (p::s):=congrArg (_ ||| ·) h
theorem w_sy {op t s rd r1 r2:Int} (V:Vw (lvB .sy op t s rd r1 r2)):((yA (lvB .sy op t s rd r1 r2):Nat):Int)=op:=
 (congrArg (Nat.cast (R:=Int)) ((nz_ (V _ (.head _))).trans ((nz_ (V _ (.tail _ (.head _)))).trans (oc_ (p:=(0,32,op)) ((nz_ (V _ (.tail _ (.tail _ (.tail _ (.head _)))))).trans ((nz_ (V _ (.tail _ (.tail _ (.tail _ (.tail _ (.head _))))))).trans (nz_ (V _ (.tail _ (.tail _ (.tail _ (.tail _ (.tail _ (.head _)))))))))))))).trans (eq_886 (w:=32) (V _ (.tail _ (.tail _ (.head _)))).1)
theorem eq_802 (k w a b:Nat) (ha:a < 2 ^ k):w &&& (2 ^ k * b+a)=2 ^ k * ((w / 2 ^ k) &&& b)+((w % 2 ^ k) &&& a):=by
 have h2:(w % 2 ^ k) &&& a < 2 ^ k:=Nat.lt_of_le_of_lt Nat.and_le_right ha
 refine Nat.eq_of_testBit_eq fun j=>?_
 rw [Nat.testBit_and,Nat.testBit_two_pow_mul_add _ ha,Nat.testBit_two_pow_mul_add _ h2]
 by_cases hj:j < k
 ·rw [if_pos hj,if_pos hj,Nat.testBit_and,Nat.testBit_mod_two_pow,decide_eq_true hj,Bool.true_and]
 ·rw [if_neg hj,if_neg hj,Nat.testBit_and,Nat.testBit_div_two_pow,Nat.sub_add_cancel (Nat.not_lt.mp hj)]
theorem mk3 (n:Nat):n &&& 28799=n % 128+n / 4096 % 8 * 4096:=by
 have e1:n &&& 28799=2 ^ 12 * ((n / 2 ^ 12) &&& 7)+((n % 2 ^ 12) &&& 127):=eq_802 12 n 127 7 (by decide)
 rw [e1,show (n / 2 ^ 12) &&& 7=n / 2 ^ 12 % 8 from Nat.and_two_pow_sub_one_eq_mod _ 3,show (n % 2 ^ 12) &&& 127=n % 2 ^ 12 % 128 from Nat.and_two_pow_sub_one_eq_mod _ 7,Nat.mod_mod_of_dvd n (show 128 ∣ 2 ^ 12 by decide),Nat.add_comm,Nat.mul_comm]
theorem mk7 {n:Nat} (h:n < 4294967296):n &&& 4261441663=n % 128+n / 4096 % 8 * 4096+n / 33554432 * 33554432:=by
 have e0:n &&& 4261441663=2 ^ 25 * ((n / 2 ^ 25) &&& 127)+((n % 2 ^ 25) &&& 28799):=eq_802 25 n 28799 127 (by decide)
 have e1:n % 2 ^ 25 / 4096=n / 4096 % 8192:=Nat.mod_mul_right_div_self n 4096 8192
 rw [e0,mk3,show (n / 2 ^ 25) &&& 127=n / 2 ^ 25 % 128 from Nat.and_two_pow_sub_one_eq_mod _ 7,Nat.mod_mod_of_dvd n (show 128 ∣ 2 ^ 25 by decide),e1,Nat.mod_mod_of_dvd (n / 4096) (show 8 ∣ 8192 by decide),Nat.mod_eq_of_lt (Nat.div_lt_of_lt_mul (show n < 2 ^ 25 * 128 from h)),Nat.add_comm,Nat.mul_comm (2 ^ 25)]
theorem eq_346 {w:Int} (h:0<=w):Builtin.bitAnd w 28799=w % 2 ^ 7+w / 2 ^ 12 % 2 ^ 3 * 4096:=by
 rw [bitAnd_pp h (by decide)]
 obtain ⟨n,rfl⟩:=Int.eq_ofNat_of_zero_le h
 show ((n &&& 28799:Nat):Int)=_
 rw [mk3]
 rfl
theorem eq_345 {w:Int} (h:0<=w/\w < 4294967296):Builtin.bitAnd w 4261441663=w % 2 ^ 7+w / 2 ^ 12 % 2 ^ 3 * 4096+w / 2 ^ 25 * 33554432:=by
 rw [bitAnd_pp h.1 (by decide)]
 obtain ⟨n,rfl⟩:=Int.eq_ofNat_of_zero_le h.1
 show ((n &&& 4261441663:Nat):Int)=_
 rw [mk7 (Int.ofNat_lt.mp h.2)]
 rfl
noncomputable def tO:V:=gc 5753800216554204167
noncomputable def tT:V:=gc 43699870483109167
noncomputable def tS:V:=gc 781112077812987982167
noncomputable def tW:V:=gc 20163230578
noncomputable def pk {α:Type} (k:Kd) (a b c d:α):α:=kc k c b b b a a c b b b c d
noncomputable def m1 (k:Kd) (op:Int):Int:=pk k op op op (op % 2 ^ 7)
noncomputable def m3 (k:Kd) (op t:Int):Int:=pk k 0 (op+t * 4096) (op+t * 4096) (op % 2 ^ 7+op / 2 ^ 12 % 2 ^ 3 * 4096)
noncomputable def m7 (k:Kd) (op t s:Int):Int:=pk k 0 0 (op+t * 4096+s * 33554432) (op % 2 ^ 7+op / 2 ^ 12 % 2 ^ 3 * 4096+op / 2 ^ 25 * 33554432)
noncomputable def zfv (r:Row):V×Int:=pk r.2.1 (tO,m1 r.2.1 r.2.2.1) (tT,m3 r.2.1 r.2.2.1 r.2.2.2.1) (tS,m7 r.2.1 r.2.2.1 r.2.2.2.1 r.2.2.2.2) (tW,r.2.2.1)
theorem eq_63:yu.map (fun r=>zP (dI (zfv r).1) (dV (zfv r).1) (zfv r).2)=yu.map fun r=>some (shR r):=by kernel_rfl
def noB (r:Row):Bool×Bool×Bool:=(pk r.2.1 true (decide (m1 r.2.1 r.2.2.1∉dI tO)) (decide (m1 r.2.1 r.2.2.1∉dI tO)) (decide (m1 r.2.1 r.2.2.1∉dI tO)),pk r.2.1 true true (decide (m3 r.2.1 r.2.2.1 r.2.2.2.1∉dI tT)) (decide (m3 r.2.1 r.2.2.1 r.2.2.2.1∉dI tT)),pk r.2.1 true true true (decide (m7 r.2.1 r.2.2.1 r.2.2.2.1 r.2.2.2.2∉dI tS)))
theorem eq_153:yu.map noB=yu.map fun _=>(true,true,true):=by kernel_rfl
theorem eq_821 {op t s rd r1 r2 im cs:Int} (W:Vw (lvB .sy op t s rd r1 r2++lvX .sy im cs)):((yA (lvB .sy op t s rd r1 r2++lvX .sy im cs):Nat):Int)=op:=(congrArg (fun l=>((yA l:Nat):Int)) (List.append_nil _)).trans (w_sy fun p m=>W p (List.mem_append_left _ m))
theorem e1 {i:Ix} (o:Ok i):z8 i % 2 ^ 7=m1 i.k i.op:=by
 have W:=eq_901 o
 unfold z8 lv at *
 revert W
 generalize i.k=k
 intro W
 cases k
 case sy=>rw [eq_821 W];rfl
 all_goals exact eq_808 W rfl
theorem e3 {i:Ix} (o:Ok i) (h:Nat.ble 1 (cls i.k)=true):z8 i % 2 ^ 7+z8 i / 2 ^ 12 % 2 ^ 3 * 4096=m3 i.k i.op i.t:=by
 have W:=eq_901 o
 unfold z8 lv at *
 revert W h
 generalize i.k=k
 intro h W
 cases k
 case U=>exact nomatch h
 case J=>exact nomatch h
 case sy=>rw [eq_821 W];rfl
 all_goals (rw [eq_808 W rfl,w_t W rfl];rfl)
theorem e7 {i:Ix} (o:Ok i) (h:Nat.ble 2 (cls i.k)=true):z8 i % 2 ^ 7+z8 i / 2 ^ 12 % 2 ^ 3 * 4096+z8 i / 2 ^ 25 * 33554432=m7 i.k i.op i.t i.s:=by
 have W:=eq_901 o
 unfold z8 lv at *
 revert W h
 generalize i.k=k
 intro h W
 cases k
 case R=>rw [eq_808 W rfl,w_t W rfl,w_s W rfl];rfl
 case sh=>rw [eq_808 W rfl,w_t W rfl,w_s W rfl];rfl
 case fl=>rw [eq_808 W rfl,w_t W rfl,w_s W rfl];rfl
 case sy=>rw [eq_821 W];rfl
 all_goals exact nomatch h
theorem cl4 (k:Kd):cls k=0∨cls k=1∨cls k=2∨cls k=3:=by cases k<;>first | exact .inl rfl | exact .inr (.inl rfl) | exact .inr (.inr (.inl rfl)) | exact .inr (.inr (.inr rfl))
theorem pk_ {α:Type} {k:Kd} {a b c d:α}:pk k a b c d=[a,b,c,d].getD (cls k) a:=by cases k<;>rfl
abbrev lk (t:V) (x:Int):Option V:=zP (dI t) (dV t) x
theorem eq_386 {i:Ix} (o:Ok i):lk tO (jb (z8 i) 127)=some (Xu i)∨(jb (z8 i) 127∉dI tO/\(lk tT (jb (z8 i) 28799)=some (Xu i)∨(jb (z8 i) 28799∉dI tT/\((cls i.k=2/\lk tS (jb (z8 i) 4261441663)=some (Xu i))∨(jb (z8 i) 4261441663∉dI tS/\lk tW (z8 i)=some (Xu i)))))):=by
 have l:=eq_917 eq_63 o
 have n:=eq_917 eq_153 o
 have b1:jb (z8 i) 127=m1 i.k i.op:=e1 o
 have b3:Nat.ble 1 (cls i.k)=true->jb (z8 i) 28799=m3 i.k i.op i.t:=fun h=>(eq_346 (eq_905 o).1).trans (e3 o h)
 have b7:Nat.ble 2 (cls i.k)=true->jb (z8 i) 4261441663=m7 i.k i.op i.t i.s:=fun h=>(eq_345 (eq_905 o)).trans (e7 o h)
 have bw:cls i.k=3->z8 i=i.op:=fun h=>by
  have W:=eq_901 o
  unfold z8 lv at *
  revert W h
  generalize i.k=k
  intro h W
  cases k
  case sy=>exact eq_821 W
  all_goals exact nomatch h
 unfold noB at n
 unfold zfv at l
 rw [pk_,pk_,pk_] at n
 rw [pk_] at l
 have n1:=congrArg (·.1) n
 have n3:=congrArg (·.2.1) n
 have n7:=congrArg (·.2.2) n
 clear n
 rcases cl4 i.k with c | c | c | c<;>rw [c] at l n1 n3 n7 b3 b7
 ·exact .inl (b1▸l)
 ·exact .inr ⟨b1▸tD n1,.inl (b3 rfl▸l)⟩
 ·exact .inr ⟨b1▸tD n1,.inr ⟨b3 rfl▸tD n3,.inl ⟨c,b7 rfl▸l⟩⟩⟩
 ·exact .inr ⟨b1▸tD n1,.inr ⟨b3 rfl▸tD n3,.inr ⟨b7 rfl▸tD n7,bw c▸l⟩⟩⟩
theorem fl0 {i:Ix} (o:Ok i) (h:i.k=.fl):jb (z8 i / 2 ^ 7) 31=0:=by
 have W:=eq_901 o
 show z8 i / 2 ^ 7 % 2 ^ 5=0
 unfold z8 lv at *
 rw [h] at *
 exact fd_ 7 5 W rfl rfl
theorem eq_239 {i:Ix} {H:Hp} {Q:QE} (o:Ok i) (q:Q (Xu i) H):fI [] 9 (yn 9) [.int (z8 i)] H Q:=by
 kd_p
 rcases eq_386 o with l | ⟨n,l | ⟨n3,⟨c,l⟩ | ⟨n7,l⟩⟩⟩
 ·refine zu (dT (eq_882 l)) ?_;kd_p
  refine os (eq_940 l) ?_;kd_p
  exact q
 all_goals
  refine zg (dF n) ?_;kd_p
 ·refine zu (dT (eq_882 l)) ?_;kd_p
  refine os (eq_940 l) ?_;kd_p
  exact q
 all_goals
  refine zg (dF n3) ?_;kd_p
 ·refine zu (dT (eq_882 l)) ?_;kd_p
  refine os (eq_940 l) ?_;kd_p
  refine br (fun h=>?_) fun h=>?_<;>kd_p
  ·refine zg (dF (fun z=>z (fl0 o (zr h)))) ?_;kd_p
   exact q
  ·exact q
 ·refine zg (dF n7) ?_;kd_p
  refine cq (b:=Xu i) ?_ q
  exact congrArg (Option.getD · V.none) l
theorem pw2 (a:Nat):(0:Int) < 2 ^ a:=Int.pow_pos (by decide)
theorem dv2 (x:Int) (a b:Nat):x % 2 ^ (a+b)=x % 2 ^ a+x / 2 ^ a % 2 ^ b * 2 ^ a:=by
 have e1:=Int.mul_ediv_add_emod x (2 ^ a)
 have e2:=Int.mul_ediv_add_emod (x / 2 ^ a) (2 ^ b)
 have r:=em (x:=x) (pw2 a)
 have s:=em (x:=x / 2 ^ a) (pw2 b)
 have e:x=(x % 2 ^ a+2 ^ a * (x / 2 ^ a % 2 ^ b))+2 ^ (a+b) * (x / 2 ^ a / 2 ^ b):=by
  rw [Int.pow_add,Int.mul_assoc,Int.add_assoc,← Int.mul_add,Int.add_comm (x / 2 ^ a % 2 ^ b),e2,Int.add_comm,e1]
 have lt:x % 2 ^ a+2 ^ a * (x / 2 ^ a % 2 ^ b) < 2 ^ (a+b):=by
  rw [Int.pow_add]
  have:=Int.mul_le_mul_of_nonneg_left (Int.le_sub_one_of_lt s.2) (Int.le_of_lt (pw2 a))
  rw [Int.mul_sub,Int.mul_one] at this
  exact Int.lt_of_lt_of_le (Int.add_lt_add_of_lt_of_le r.2 this) (by rw [Int.add_comm,Int.sub_add_cancel];exact Int.le_refl _)
 refine (congrArg (· % 2 ^ (a+b)) e).trans ?_
 show (x % 2 ^ a+2 ^ a * (x / 2 ^ a % 2 ^ b)+2 ^ (a+b) * (x / 2 ^ a / 2 ^ b)) % 2 ^ (a+b)=_
 rw [Int.add_mul_emod_self_left,Int.mul_comm (_ % _)]
 exact Int.emod_eq_of_lt (Int.add_nonneg r.1 (Int.mul_nonneg (Int.le_of_lt (pw2 a)) s.1)) lt
theorem dv3 (x:Int) (a b:Nat):x % 2 ^ (a+b) / 2 ^ a=x / 2 ^ a % 2 ^ b:=by
 rw [dv2,Int.add_mul_ediv_right _ _ (Int.ne_of_gt (pw2 a)),Int.ediv_eq_zero_of_lt (em (pw2 a)).1 (em (pw2 a)).2,Int.zero_add]
theorem sg {x:Int} {n:Nat} (h:-2 ^ n<=x/\x < 2 ^ n):(x / 2 ^ n % 2 ^ 1≠0->x % 2 ^ n - 2 ^ n=x)/\(¬ (x / 2 ^ n % 2 ^ 1≠0)->x % 2 ^ n=x):=by
 have e:=Int.mul_ediv_add_emod x (2 ^ n)
 by_cases p:0<=x
 ·rw [Int.ediv_eq_zero_of_lt p h.2,Int.emod_eq_of_lt p h.2]
  exact ⟨fun z=>(z rfl).elim,fun _=>rfl⟩
 ·have q:x / 2 ^ n=-1:=Int.le_antisymm (Int.le_sub_one_of_lt (Int.ediv_neg_of_neg_of_pos (Int.not_le.mp p) (pw2 n))) ((Int.le_ediv_iff_mul_le (pw2 n)).mpr (by rw [Int.neg_mul,Int.one_mul];exact h.1))
  rw [q] at e ⊢
  refine ⟨fun _=>?_,fun z=>(z (by decide)).elim⟩
  rw [Int.mul_neg,Int.mul_one,Int.add_comm,← Int.sub_eq_add_neg] at e
  exact e
theorem sg2 {x:Int} {n:Nat} (h:-2 ^ n<=x/\x < 2 ^ n):(x / 2 ^ n % 2 ^ 1≠0->x % 2 ^ (n+1) - 2 ^ (n+1)=x)/\(¬ (x / 2 ^ n % 2 ^ 1≠0)->x % 2 ^ (n+1)=x):=by
 have s:=sg h
 have b:x / 2 ^ n % 2 ^ 1=0∨x / 2 ^ n % 2 ^ 1=1:=Int.emod_two_eq _
 rw [dv2]
 rcases b with b | b
 ·rw [b,Int.zero_mul,Int.add_zero]
  exact ⟨fun z=>(z rfl).elim,fun _=>s.2 (by rw [b];exact fun z=>z rfl)⟩
 ·rw [b,Int.one_mul]
  refine ⟨fun _=>?_,fun z=>(z (by decide)).elim⟩
  rw [Int.pow_succ,show (2:Int) ^ n * 2=2 ^ n+2 ^ n by rw [Int.mul_comm];exact Int.two_mul _,Int.add_sub_add_right]
  exact s.1 (by rw [b];decide)
theorem eq_409 {x:Int} (h:0<=x):(Builtin.bitAnd x 2048≠0)↔(x / 2 ^ 11 % 2 ^ 1≠0):=by
 obtain ⟨n,rfl⟩:=Int.eq_ofNat_of_zero_le h
 have e1:n &&& 2048=2 ^ 11 * ((n / 2 ^ 11) &&& 1)+((n % 2 ^ 11) &&& 0):=eq_802 11 n 0 1 (by decide)
 rw [Nat.and_zero,Nat.and_one_is_mod] at e1
 rw [bitAnd_pp h (by decide)]
 show ((n &&& 2048:Nat):Int)≠0↔_
 rw [e1]
 show ((2 ^ 11 * (n / 2 ^ 11 % 2)+0:Nat):Int)≠0↔((n / 2 ^ 11 % 2 ^ 1:Nat):Int)≠0
 rw [Nat.add_zero]
 rcases Nat.mod_two_eq_zero_or_one (n / 2 ^ 11) with z | z
 ·rw [show n / 2 ^ 11 % 2 ^ 1=0 from z]
 ·rw [show n / 2 ^ 11 % 2 ^ 1=1 from z];decide
section
variable {x:Int} {L:Lw} (e:x=(yA L:Nat)) (W:Vw L) (a n:Nat)
include e W
theorem gx {w:Nat} {v:Int} (h:(L.all fun p=>Nat.ble (p.1+p.2.1) a||Nat.ble a p.1)=true) (h2:((sr a L).all fun p=>Nat.ble (p.1+p.2.1) n||Nat.ble n p.1)=true) (g:md n (sr a L)=[(0,w,v)]):x / 2 ^ a % 2 ^ n=v:=e▸g_ a n W h h2 g
theorem hx {w:Nat} {v:Int} (h:(L.all fun p=>Nat.ble (p.1+p.2.1) a||Nat.ble a p.1)=true) (g:sr a L=[(0,w,v)]):x / 2 ^ a=v:=e▸((hi_ a W h).trans (g▸eq_886 ((g▸(sr_ W h).2:Vw [(0,w,v)]) _ (.head _)).1))
end
noncomputable def nzL (L:Lw):Lw:=L.filter fun p=>!(Nat.beq p.2.1 0)
theorem nzl:∀{L:Lw},Vw L->yA L=yA (nzL L)/\Vw (nzL L)
 | [],_=>⟨rfl,v0⟩
 | (a,0,v)::r,W=>have h:=nzl (L:=r) fun q m=>W q (.tail _ m);⟨(nz_ (W _ (.head _))).trans h.1,h.2⟩
 | (a,n+1,v)::r,W=>have h:=nzl (L:=r) fun q m=>W q (.tail _ m);⟨oc_ h.1,v1 (W _ (.head _)) h.2⟩
theorem dk {i:Ix} (o:Ok i) {k:Kd} (hk:i.k=k):z8 i=(yA (nzL (lvB k i.op i.t i.s i.rd i.r1 i.r2++lvX k i.im i.cs)):Nat)/\Vw (nzL (lvB k i.op i.t i.s i.rd i.r1 i.r2++lvX k i.im i.cs))/\fld (k.u.getD 0 false) (0,31,1) i.rd/\fld (k.u.getD 1 false) (0,31,1) i.r1/\fld (k.u.getD 2 false) (0,31,1) i.r2/\fld (k.u.getD 3 false) k.rg i.im/\fld (k.u.getD 4 false) (0,4095,1) i.cs:=hk▸⟨congrArg (fun n:Nat=>(n:Int)) (nzl (eq_901 o)).1,(nzl (eq_901 o)).2,o.rd,o.r1,o.r2,o.im,o.cs⟩
theorem yp {i:Ix} {H:Hp} {Q:QE} {a b c d e:Int} (q:Q (xK i) H) (h1:a=i.rd) (h2:b=i.r1) (h3:c=i.r2) (h4:d=i.im) (h5:e=i.cs):Q (ins 255 0 [.str i.n,.int a,.int b,.int c,.int d,.int e]) H:=by subst h1 h2 h3 h4 h5;exact q
theorem imB (x:Int):sm [(11,1,x / 2 ^ 11 % 2),(1,4,x / 2 ^ 1 % 16),(5,6,x / 2 ^ 5 % 64)]=x / 2 ^ 1 % 2 ^ 11 * 2 ^ 1:=by
 rw [dv2 (x / 2 ^ 1) 4 7,dv2 (x / 2 ^ 1 / 2 ^ 4) 6 1]
 show _+(_+(_+0))=_
 rw [Int.ediv_ediv_of_nonneg (by decide),Int.ediv_ediv_of_nonneg (by decide)]
 show x / 2048 % 2 * 2048+(x / 2 % 16 * 2+(x / 32 % 64 * 32+0))=(x / 2 % 16+(x / 32 % 64+x / 2048 % 2 * 64) * 16) * 2
 lia
theorem imJ (x:Int):sm [(12,8,x / 2 ^ 12 % 256),(11,1,x / 2 ^ 11 % 2),(1,10,x / 2 ^ 1 % 1024)]=x / 2 ^ 1 % 2 ^ 19 * 2 ^ 1:=by
 rw [dv2 (x / 2 ^ 1) 10 9,dv2 (x / 2 ^ 1 / 2 ^ 10) 1 8]
 show _+(_+(_+0))=_
 rw [Int.ediv_ediv_of_nonneg (by decide),Int.ediv_ediv_of_nonneg (by decide)]
 show x / 4096 % 256 * 4096+(x / 2048 % 2 * 2048+(x / 2 % 1024 * 2+0))=(x / 2 % 1024+(x / 2048 % 2+x / 4096 % 256 * 2) * 1024) * 2
 lia
theorem ev2 {x:Int} (n:Nat) (h:x % 2=0):x / 2 ^ 1 % 2 ^ n * 2 ^ 1=x % 2 ^ (n+1):=by
 rw [Nat.add_comm,dv2 x 1 n,show x % 2 ^ 1=0 from h,Int.zero_add]
theorem i12 {x:Int} (h:-2048<=x/\x < 2048):(Builtin.bitAnd (x % 4096) 2048≠0->x % 4096 - 4096=x)/\(¬ (Builtin.bitAnd (x % 4096) 2048≠0)->x % 4096=x):=by
 have s:=sg2 (n:=11) h
 rw [eq_409 (em (by decide)).1,show x % 4096 / 2 ^ 11 % 2 ^ 1=x / 2 ^ 11 % 2 ^ 1 from (congrArg (· % 2) (dv3 x 11 1)).trans (Int.emod_emod_of_dvd _ (Int.dvd_refl _))]
 exact s
theorem s12 {x:Int} (h:-2048<=x/\x < 2048):(x / 2 ^ 5 % 128 / 2 ^ 6≠0->x % 4096 - 4096=x)/\(¬ (x / 2 ^ 5 % 128 / 2 ^ 6≠0)->x % 4096=x):=by
 have s:=sg2 (n:=11) h
 rw [show x / 2 ^ 5 % 128 / 2 ^ 6=x / 2 ^ 11 % 2 ^ 1 from (dv3 (x / 2 ^ 5) 6 1).trans (congrArg (· % 2 ^ 1) (Int.ediv_ediv_of_nonneg (by decide)))]
 exact s
theorem imS (x:Int):sm [(5,7,x / 2 ^ 5 % 128),(0,5,x % 32)]=x % 4096:=by
 rw [show x % 4096=x % 2 ^ 5+x / 2 ^ 5 % 2 ^ 7 * 2 ^ 5 from dv2 x 5 7]
 show x / 32 % 128 * 32+(x % 32 * 1+0)=x % 32+x / 32 % 128 * 32
 lia
theorem k_sy {k:Kd} (h0:decide (k.s=[73])=false) (h1:decide (k.s=[82])=false) (h2:decide (k.s=[66])=false) (h3:decide (k.s=[83])=false) (h4:decide (k.s=[85])=false) (h5:decide (k.s=[74])=false) (h6:decide (k.s=[115,104,105,102,116])=false) (h7:decide (k.s=[102,101,110,99,101])=false)
  (h8:decide (k.s=[67,83,82])=false) (h9:decide (k.s=[67,83,82,73])=false) (ha:decide (k.s=[102,108,117,115,104])=false):k=.sy:=by
 cases k
 case sy=>rfl
 case I=>exact nomatch h0
 case R=>exact nomatch h1
 case B=>exact nomatch h2
 case S=>exact nomatch h3
 case U=>exact nomatch h4
 case J=>exact nomatch h5
 case sh=>exact nomatch h6
 case fe=>exact nomatch h7
 case cw=>exact nomatch h8
 case ci=>exact nomatch h9
 case fl=>exact nomatch ha
theorem eq_305 {i:Ix} {H:Hp} {Q:QE} (o:Ok i) (q:Q (xK i) H):fI [] 11 (yn 11) [.int (z8 i)] H Q:=by
 have bd:=eq_905 o
 kd_p
 refine zg (dF (fun z=>z (Int.ediv_eq_zero_of_lt bd.1 bd.2))) ?_;kd_p
 refine ⟨i,o,trivial,rfl,?_⟩
 kd_p
 refine br (fun h=>?_) fun h0=>?_<;>kd_p
 ·obtain ⟨e,W,f0,f1,f2,f3,f4⟩:=dk o (zr h)
  have hi:z8 i / 2 ^ 20=i.im % 4096:=hx e W 20 rfl rfl
  have s:=i12 ⟨f3.1,Int.lt_add_one_of_le f3.2.1⟩
  rw [← hi] at s
  refine br (fun h2=>?_) fun h2=>?_<;>kd_p
  ·exact yp q (gx e W 7 5 rfl rfl rfl) (gx e W 15 5 rfl rfl rfl) f2.symm (s.1 (tD h2)) f4.symm
  ·exact yp q (gx e W 7 5 rfl rfl rfl) (gx e W 15 5 rfl rfl rfl) f2.symm (s.2 (fD h2)) f4.symm
 refine br (fun h=>?_) fun h1=>?_<;>kd_p
 ·obtain ⟨e,W,f0,f1,f2,f3,f4⟩:=dk o (zr h)
  exact yp q (gx e W 7 5 rfl rfl rfl) (gx e W 15 5 rfl rfl rfl) (gx e W 20 5 rfl rfl rfl) f3.symm f4.symm
 refine br (fun h=>?_) fun h2=>?_<;>kd_p
 ·obtain ⟨e,W,f0,f1,f2,f3,f4⟩:=dk o (zr h)
  have X:Vw [(11,1,i.im / 2 ^ 11 % 2),(1,4,i.im / 2 ^ 1 % 16),(5,6,i.im / 2 ^ 5 % 64)]:=v1 (em (by decide)) (v1 (em (by decide)) (v1 (em (by decide)) v0))
  have a1:z8 i / 2 ^ 7 % 2=i.im / 2 ^ 11 % 2:=gx e W 7 1 rfl rfl rfl
  have a2:z8 i / 2 ^ 8 % 16=i.im / 2 ^ 1 % 16:=gx e W 8 4 rfl rfl rfl
  have a3:z8 i / 2 ^ 25 % 64=i.im / 2 ^ 5 % 64:=gx e W 25 6 rfl rfl rfl
  have a4:z8 i / 2 ^ 31=i.im / 2 ^ 12 % 2 ^ 1:=hx e W 31 rfl rfl
  have hi:Builtin.bitOr (Builtin.bitOr (z8 i / 2 ^ 7 % 2 * 2 ^ 11) (z8 i / 2 ^ 8 % 16 * 2 ^ 1)) (z8 i / 2 ^ 25 % 64 * 2 ^ 5)=i.im % 2 ^ 12:=by
   rw [a1,a2,a3]
   exact (bo_ (bo_ (lf 1 (em (by decide)).1) (lf 4 (em (by decide)).1)) (lf 6 (em (by decide)).1)).trans ((sm_ X rfl).trans ((imB i.im).trans (ev2 11 f3.2.2)))
  have s:=sg (x:=i.im) (n:=12) ⟨f3.1,Int.lt_of_le_of_lt f3.2.1 (of_decide_eq_true rfl)⟩
  rw [← hi,← a4] at s
  refine os (zH (eq_939 (by decide)) (by decide)) ?_;kd_p
  refine os (zH (eq_939 (by decide)) (by decide)) ?_;kd_p
  refine os (zH (eq_939 (by decide)) (by decide)) ?_;kd_p
  refine br (fun h2=>?_) fun h2=>?_<;>kd_p
  ·exact yp q f0.symm (gx e W 15 5 rfl rfl rfl) (gx e W 20 5 rfl rfl rfl) (s.1 (tD h2)) f4.symm
  ·exact yp q f0.symm (gx e W 15 5 rfl rfl rfl) (gx e W 20 5 rfl rfl rfl) (s.2 (fD h2)) f4.symm
 refine br (fun h=>?_) fun h3=>?_<;>kd_p
 ·obtain ⟨e,W,f0,f1,f2,f3,f4⟩:=dk o (zr h)
  have X:Vw [(5,7,i.im / 2 ^ 5 % 128),(0,5,i.im % 32)]:=v1 (em (by decide)) (v1 (em (by decide)) v0)
  have a1:z8 i / 2 ^ 25=i.im / 2 ^ 5 % 128:=hx e W 25 rfl rfl
  have a2:z8 i / 2 ^ 7 % 32=i.im % 32:=gx e W 7 5 rfl rfl rfl
  have a3:z8 i / 2 ^ 31=i.im / 2 ^ 5 % 128 / 2 ^ 6:=by rw [← a1,Int.ediv_ediv_of_nonneg (by decide)];rfl
  have hi:Builtin.bitOr (z8 i / 2 ^ 25 * 2 ^ 5) (z8 i / 2 ^ 7 % 32)=i.im % 4096:=by
   rw [a1,a2]
   exact (bo_ (lf 7 (em (by decide)).1) (lf0 5 (em (by decide)).1)).trans ((sm_ X rfl).trans (imS i.im))
  have s:=s12 ⟨f3.1,Int.lt_add_one_of_le f3.2.1⟩
  rw [← hi,← a3] at s
  refine os (zH (yd (n:=7) (a1▸em (by decide)) (by decide)) (by decide)) ?_;kd_p
  refine br (fun h2=>?_) fun h2=>?_<;>kd_p
  ·exact yp q f0.symm (gx e W 15 5 rfl rfl rfl) (gx e W 20 5 rfl rfl rfl) (s.1 (tD h2)) f4.symm
  ·exact yp q f0.symm (gx e W 15 5 rfl rfl rfl) (gx e W 20 5 rfl rfl rfl) (s.2 (fD h2)) f4.symm
 refine br (fun h=>?_) fun h4=>?_<;>kd_p
 ·obtain ⟨e,W,f0,f1,f2,f3,f4⟩:=dk o (zr h)
  exact yp q (gx e W 7 5 rfl rfl rfl) f1.symm f2.symm (hx e W 12 rfl rfl) f4.symm
 refine br (fun h=>?_) fun h5=>?_<;>kd_p
 ·obtain ⟨e,W,f0,f1,f2,f3,f4⟩:=dk o (zr h)
  have X:Vw [(12,8,i.im / 2 ^ 12 % 256),(11,1,i.im / 2 ^ 11 % 2),(1,10,i.im / 2 ^ 1 % 1024)]:=v1 (em (by decide)) (v1 (em (by decide)) (v1 (em (by decide)) v0))
  have a1:z8 i / 2 ^ 12 % 256=i.im / 2 ^ 12 % 256:=gx e W 12 8 rfl rfl rfl
  have a2:z8 i / 2 ^ 20 % 2=i.im / 2 ^ 11 % 2:=gx e W 20 1 rfl rfl rfl
  have a3:z8 i / 2 ^ 21 % 1024=i.im / 2 ^ 1 % 1024:=gx e W 21 10 rfl rfl rfl
  have a4:z8 i / 2 ^ 31=i.im / 2 ^ 20 % 2 ^ 1:=hx e W 31 rfl rfl
  have hi:Builtin.bitOr (Builtin.bitOr (z8 i / 2 ^ 12 % 256 * 2 ^ 12) (z8 i / 2 ^ 20 % 2 * 2 ^ 11)) (z8 i / 2 ^ 21 % 1024 * 2 ^ 1)=i.im % 2 ^ 20:=by
   rw [a1,a2,a3]
   exact (bo_ (bo_ (lf 8 (em (by decide)).1) (lf 1 (em (by decide)).1)) (lf 10 (em (by decide)).1)).trans ((sm_ X rfl).trans ((imJ i.im).trans (ev2 19 f3.2.2)))
  have s:=sg (x:=i.im) (n:=20) ⟨f3.1,Int.lt_of_le_of_lt f3.2.1 (of_decide_eq_true rfl)⟩
  rw [← hi,← a4] at s
  refine os (zH (eq_939 (by decide)) (by decide)) ?_;kd_p
  refine os (zH (eq_939 (by decide)) (by decide)) ?_;kd_p
  refine os (zH (eq_939 (by decide)) (by decide)) ?_;kd_p
  refine br (fun h2=>?_) fun h2=>?_<;>kd_p
  ·exact yp q (gx e W 7 5 rfl rfl rfl) f1.symm f2.symm (s.1 (tD h2)) f4.symm
  ·exact yp q (gx e W 7 5 rfl rfl rfl) f1.symm f2.symm (s.2 (fD h2)) f4.symm
 refine br (fun h=>?_) fun h6=>?_<;>kd_p
 ·obtain ⟨e,W,f0,f1,f2,f3,f4⟩:=dk o (zr h)
  exact yp q (gx e W 7 5 rfl rfl rfl) (gx e W 15 5 rfl rfl rfl) f2.symm ((gx e W 20 5 rfl rfl rfl).trans (Int.emod_eq_of_lt f3.1 (Int.lt_of_le_of_lt f3.2.1 (of_decide_eq_true rfl)))) f4.symm
 refine br (fun h=>?_) fun h7=>?_<;>kd_p
 ·obtain ⟨e,W,f0,f1,f2,f3,f4⟩:=dk o (zr h)
  exact yp q (gx e W 7 5 rfl rfl rfl) (gx e W 15 5 rfl rfl rfl) f2.symm ((hx e W 20 rfl rfl).trans (Int.emod_eq_of_lt f3.1 (Int.lt_of_le_of_lt f3.2.1 (of_decide_eq_true rfl)))) f4.symm
 refine br (fun h=>?_) fun h8=>?_<;>kd_p
 ·obtain ⟨e,W,f0,f1,f2,f3,f4⟩:=dk o (zr h)
  exact yp q (gx e W 7 5 rfl rfl rfl) (gx e W 15 5 rfl rfl rfl) f2.symm f3.symm (hx e W 20 rfl rfl)
 refine br (fun h=>?_) fun h9=>?_<;>kd_p
 ·obtain ⟨e,W,f0,f1,f2,f3,f4⟩:=dk o (zr h)
  exact yp q (gx e W 7 5 rfl rfl rfl) f1.symm f2.symm (gx e W 15 5 rfl rfl rfl) (hx e W 20 rfl rfl)
 refine br (fun h=>?_) fun ha=>?_<;>kd_p
 ·obtain ⟨e,W,f0,f1,f2,f3,f4⟩:=dk o (zr h)
  exact yp q f0.symm (gx e W 15 5 rfl rfl rfl) (gx e W 20 5 rfl rfl rfl) f3.symm f4.symm
 obtain ⟨e,W,f0,f1,f2,f3,f4⟩:=dk o (k_sy h0 h1 h2 h3 h4 h5 h6 h7 h8 h9 ha)
 exact yp q f0.symm f1.symm f2.symm f3.symm f4.symm
theorem yS {α:Type} {f g:Nat->α} (n:Nat) (h:(List.range n).map f=(List.range n).map g) {i:Nat} (hi:i < n):f i=g i:=List.map_inj_left.mp h i (List.mem_range.mpr hi)
theorem eq_252 {H:Hp} {Q:QE} {b:Int} (h:0<=b/\b < 16) (q:Q (.str (yD b)) H):fI [] 13 (yn 13) [.int b] H Q:=by
 obtain ⟨n,rfl⟩:=Int.eq_ofNat_of_zero_le h.1
 have e:=yS (f:=fun n:Nat=>fI [] 13 (yn 13) [.int n] H Q) (g:=fun n:Nat=>Q (.str (yD n)) H) 16 (by kernel_rfl) (Int.ofNat_lt.mp h.2)
 exact e▸q
theorem eq_233 {H:Hp} {Q:QE} {b:Int} (h:0<=b/\b < 16) (q:Q (.str (yD b)) H):fI [] 56 (yn 56) [.int b] H Q:=by
 obtain ⟨n,rfl⟩:=Int.eq_ofNat_of_zero_le h.1
 have e:=yS (f:=fun n:Nat=>fI [] 56 (yn 56) [.int n] H Q) (g:=fun n:Nat=>Q (.str (yD n)) H) 16 (by kernel_rfl) (Int.ofNat_lt.mp h.2)
 exact e▸q
theorem eq_255 {H:Hp} {Q:QE} {r:Int} (h:qn r) (q:Q (.int r) H):fI [] 29 (yn 29) [.ref 6,.str (reg r),.ref 5] H Q:=by
 obtain ⟨n,rfl⟩:=Int.eq_ofNat_of_zero_le h.1
 have e:=yS (f:=fun n:Nat=>fI [] 29 (yn 29) [.ref 6,.str (reg n),.ref 5] H Q) (g:=fun n:Nat=>Q (.int n) H) 32 (by kernel_rfl) (Int.ofNat_lt.mp h.2)
 exact e▸q
theorem eq_238 {H:Hp} {Q:QE} {b:Int} (h:0 < b/\b < 16) (q:Q (.int b) H):fI [] 32 (yn 32) [.ref 6,.str (yD b),.ref 5] H Q:=by
 obtain ⟨n,rfl⟩:=Int.eq_ofNat_of_zero_le (Int.le_of_lt h.1)
 obtain ⟨m,rfl⟩:=Nat.exists_eq_succ_of_ne_zero (Nat.ne_of_gt (Int.ofNat_lt.mp h.1))
 have e:=yS (f:=fun n:Nat=>fI [] 32 (yn 32) [.ref 6,.str (yD ((n+1:Nat):Int)),.ref 5] H Q) (g:=fun n:Nat=>Q (.int ((n+1:Nat):Int)) H) 15 (by kernel_rfl) (Nat.lt_of_succ_lt_succ (Int.ofNat_lt.mp h.2))
 exact e▸q
theorem eq_254 {H:Hp} {Q:QE}:fI [] 57 (yn 57) [] H Q=Q (Zd YO) H:=by kernel_rfl
theorem eq_306 {H:Hp} {Q:QE}:fI [] 58 (yn 58) [] H Q=Q (.nd .lst (xj csK csI)) H:=by kernel_rfl
theorem eq_237 {Q:QE}:fI [] 59 (yn 59) [] [] (fun v H=>fzV 6 H v=some Yn):=by
 have e:fI [] 59 (yn 59) [] [] (fun v H=>fzV 6 H v=some Yn)=(some Yn=some Yn):=by kernel_rfl
 exact e▸rfl
noncomputable def yi (d:Nat):Nat:=(Nat.digitChar d).toNat
noncomputable def zK (b n:Nat):List Nat:=(Nat.toDigits b n).map Char.toNat
noncomputable def HEX:List Nat:=[48,49,50,51,52,53,54,55,56,57,97,98,99,100,101,102]
theorem eq_832 {b:Nat} (hb:1 < b) (n:Nat):zK b n=if n < b then [yi n] else zK b (n / b)++[yi (n % b)]:=by
 unfold zK
 rw [Nat.toDigits_eq_if hb]
 split
 ·rfl
 ·rw [List.map_append];rfl
theorem eq_833 {b:Nat} (hb:1 < b) {P:Nat->List Nat->Prop} (h0:∀n,n < b->P n [yi n]) (h1:∀n l,b<=n->P (n / b) l->P n (l++[yi (n % b)])) (n:Nat):P n (zK b n):=by
 induction n using Nat.strongRecOn with
 | ind n ih=>
  rw [eq_832 hb]
  split
  ·exact h0 n (by assumption)
  ·rename_i h
   have h:=Nat.not_lt.mp h
   exact h1 n _ h (ih (n / b) (Nat.div_lt_self (Nat.lt_of_lt_of_le (Nat.lt_trans Nat.zero_lt_one hb) h) hb))
theorem eq_271:(List.range 16).map (fun d=>(y4 (yi d) HEX,X5 (yi d),aln (yi d),Nat.beq (yi d) 48,at_ HEX (d:Int)))=(List.range 16).map fun d:Nat=>((d:Int),true,true,Nat.beq d 0,some (yi d)):=by kernel_rfl
theorem eq_904 {d:Nat} (h:d < 16):(y4 (yi d) HEX,X5 (yi d),aln (yi d),Nat.beq (yi d) 48,at_ HEX (d:Int))=((d:Int),true,true,Nat.beq d 0,some (yi d)):=yS 16 eq_271 h
theorem eq_134:(List.range 10).map (fun d=>Nat.ble 48 (yi d)&&Nat.ble (yi d) 57)=(List.range 10).map fun _=>true:=by kernel_rfl
def zeL (b:Nat) (v:Int) (l:List Nat):Int:=l.foldl (fun (v:Int) c=>v * b+y4 c HEX) v
theorem eq_657 {b:Nat} (hb:1 < b) (h16:b<=16) (n:Nat):zeL b 0 (zK b n)=n:=eq_833 (P:=fun n l=>zeL b 0 l=n) hb (fun n h=>by
  show (0:Int) * b+y4 (yi n) HEX=n
  rw [show y4 (yi n) HEX=n from congrArg (·.1) (eq_904 (Nat.lt_of_lt_of_le h h16)),Int.zero_mul,Int.zero_add]) (fun n l h ih=>by
  unfold zeL at ih ⊢
  rw [List.foldl_append,ih]
  show ((n / b:Nat):Int) * b+y4 (yi (n % b)) HEX=n
  rw [show y4 (yi (n % b)) HEX=((n % b:Nat):Int) from congrArg (·.1) (eq_904 (Nat.lt_of_lt_of_le (Nat.mod_lt _ (Nat.lt_trans Nat.zero_lt_one hb)) h16))]
  have:=Nat.div_add_mod n b
  rw [Nat.mul_comm] at this
  exact_mod_cast this) n
theorem eq_879 {b:Nat} (hb:1 < b) (n:Nat):∀c∈zK b n,∃d,d < b/\c=yi d:=eq_833 (P:=fun _ l=>∀c∈l,∃d,d < b/\c=yi d) hb (fun n h c m=>⟨n,h,List.mem_singleton.mp m⟩) (fun n l h ih c m=>(List.mem_append.mp m).elim (ih c) fun m=>⟨n % b,Nat.mod_lt _ (Nat.lt_trans Nat.zero_lt_one hb),List.mem_singleton.mp m⟩) n
theorem eq_906 {b:Nat} (hb:1 < b) (n:Nat):zK b n≠[]:=eq_833 (P:=fun _ l=>l≠[]) hb (fun _ _=>nofun) (fun _ _ _ _ h=>nomatch (List.append_eq_nil_iff.mp h).2) n
theorem eq_282 {b:Nat} (hb:1 < b) (h16:b<=16) (n:Nat) (hn:0 < n):(zK b n).head?≠some 48:=eq_833 (P:=fun n l=>0 < n->l.head?≠some 48/\l≠[]) hb (fun n h hn=>⟨fun e=>by
  have e:yi n=48:=Option.some.inj e
  have f:=congrArg (·.2.2.2.1) (eq_904 (Nat.lt_of_lt_of_le h h16))
  rw [e] at f
  exact Nat.ne_of_gt hn (Nat.eq_of_beq_eq_true f.symm),nofun⟩) (fun n l h ih hn=>by
  have z:=ih (Nat.div_pos h (Nat.lt_trans Nat.zero_lt_one hb))
  cases l with
  | nil=>exact (z.2 rfl).elim
  | cons c r=>exact ⟨z.1,nofun⟩) n hn |>.1
theorem eq_645 {b k n:Nat} (hb:2<=b) (hk:1<=k) (hn:n < b ^ k):(zK b n).length<=k:=by
 unfold zK;rw [List.length_map];exact toDigits_len_pow hb hk hn
theorem eq_893 {i:Int} (h:0<=i):zW i=48::120::zK 16 i.toNat:=by
 obtain ⟨n,rfl⟩:=Int.eq_ofNat_of_zero_le h
 unfold zW
 rw [if_neg (Int.not_lt.mpr h)]
 rfl
theorem eq_783 {i:Int} (h:0<=i):yc i=zK 10 i.toNat:=by
 obtain ⟨n,rfl⟩:=Int.eq_ofNat_of_zero_le h
 rfl
theorem eq_836 {i:Int} (h:i < 0):yc i=45::zK 10 i.natAbs:=by
 unfold yc
 rw [decide_eq_true h]
 rfl
theorem eq_835 {n:Nat} (h:n < B64):(zK 10 n).length<=20:=eq_645 (by decide) (by decide) (Nat.lt_trans h (by decide))
theorem eq_843 {n:Nat} (h:n < B64):(zK 16 n).length<=16:=eq_645 (by decide) (by decide) h
theorem eq_881 {i:Int} (h:yh i):(yc i).length<=21:=by
 by_cases p:0<=i
 ·rw [eq_783 p];exact Nat.le_succ_of_le (eq_835 (by obtain ⟨n,rfl⟩:=Int.eq_ofNat_of_zero_le p;exact h))
 ·rw [eq_836 (Int.not_le.mp p)];exact Nat.succ_le_succ (eq_835 h)
theorem eq_894 {i:Int} (h0:0<=i) (h:yh i):(zW i).length<=18:=by
 rw [eq_893 h0];exact Nat.succ_le_succ (Nat.succ_le_succ (eq_843 (by obtain ⟨n,rfl⟩:=Int.eq_ofNat_of_zero_le h0;exact h)))
theorem eq_628 {H:Hp} {bind:V->Lo->Option Lo} {g:Hp->Prop->Prop} {body:Lo->Hp->Kt->Jt->Prop} {Q:Lo->Hp->Prop} {J:Jt} {x:Int} {d:List Nat} (G:∀P,P->g H P) (I:Lo->Prop) (R:List Nat->Prop)
  (step:∀k v lo,I lo->∃lo1,bind (.nd .tup [.str k,.int v]) lo=some lo1/\∀(K:Kt) (J:Jt),(v=x->∀lo,J (.ret (.str k)) lo H)->(v≠x->∀st lo2,I lo2->K st lo2 H)->body lo1 H K J)
  (q:R d->∀lo,I lo->Q lo H) (hJ:∀k,R k->∀lo,J (.ret (.str k)) lo H):∀(ks:List (List Nat)) (vs:List Int) (lo:Lo),I lo->R (csF ks vs x d)->jy bind body g Q J (q7 ks (vs.map .int)) lo H
 | [],_,lo,i,r=>G _ (q r lo i)
 | k::ks,[],lo,i,r=>G _ (q r lo i)
 | k::ks,v::vs,lo,i,r=>G _ (Exists.elim (step k v lo i) fun lo1 z=>eq_898 z.1 (by
   have r:R (bif decide (v=x) then k else csF ks vs x d):=r
   by_cases e:v=x
   ·rw [decide_eq_true e] at r
    exact z.2 _ _ (fun _=>hJ k r) fun n=>(n e).elim
   ·rw [decide_eq_false e] at r
    exact z.2 _ _ (fun n=>(e n).elim) fun _ _ lo2 i2=>eq_628 G I R step q hJ ks vs lo2 i2 r))
theorem eq_717 {H:Hp} {i:Int} (h:(zW i).length<=100000):zjl [.int i] H=some (.str (zW i)):=yY h
theorem eq_307 {H:Hp} {Q:QE} {x:Int} (h:0<=x/\x < 4096) (q:Q (.str (ZP x)) H):fI [] 12 (yn 12) [.int x] H Q:=by
 have n:yh x:=yd (n:=12) h (by decide)
 kd_p
 refine ⟨eq_628 (x:=x) (d:=zW x) g0 (fun lo=>lo 4299221097451=some (.int x)) (fun s=>Q (.str s) H) (fun k v lo i=>⟨_,rfl,fun K J a b=>?_⟩) (fun r lo i=>?_) (fun k r lo=>r) csK csI _ rfl q⟩
 ·kd_p
  refine os i ?_;kd_p
  exact br (fun e=>a (tD e) _) fun e=>b (fD e) _ _ i
 ·kd_p
  refine os i ?_;kd_p
  exact os (eq_717 (Nat.le_trans (eq_894 h.1 n) (by decide))) r
theorem eq_932 {H:Hp} {s:List Nat} (h:s.length<=1000):yK .pce [.str s] H=some (.str s,H):=by
 show hr H (wo _ _)=_
 rw [yY h];rfl
theorem eq_933 {H:Hp} {s:List Nat} (h:s.length<=1000):yK .fv [.str s] H=some (.str s,H):=by
 show hr H (bo (wo _ _) _)=_
 rw [yY (Nat.le_trans h (by decide))];rfl
theorem eq_934 {H:Hp} {i:Int} (h:yh i):yK .fv [.int i] H=some (.str (yc i),H):=by
 show hr H (bo (wo (i.natAbs < 18446744073709551616) (wo _ _)) _)=_
 rw [yY (show i.natAbs < 18446744073709551616 from h),yY (Nat.le_trans (eq_881 h) (by decide))];rfl
theorem eq_408 {H:Hp}:(List.range 32).map (fun n:Nat=>zat (gq 1259376) (.int n) H)=(List.range 32).map fun n:Nat=>some (.str (reg n)):=by kernel_rfl
theorem eq_740 {H:Hp} {r:Int} (h:qn r):zat (gq 1259376) (.int r) H=some (.str (reg r)):=by
 obtain ⟨n,rfl⟩:=Int.eq_ofNat_of_zero_le h.1
 exact yS 32 eq_408 (Int.ofNat_lt.mp h.2)
theorem eq_824:(List.range 32).map (fun n:Nat=>(Nat.ble (reg n).length 4,(reg n).all aln,decide (reg n=[])))=(List.range 32).map fun _=>(true,true,false):=by kernel_rfl
theorem eq_839 {r:Int} (h:qn r):(reg r).length<=4:=by
 obtain ⟨n,rfl⟩:=Int.eq_ofNat_of_zero_le h.1
 exact Nat.le_of_ble_eq_true (congrArg (·.1) (yS 32 eq_824 (Int.ofNat_lt.mp h.2)))
theorem eq_727 {r:Int} (h:qn r):(reg r).length<=1000:=Nat.le_trans (eq_839 h) (by decide)
theorem eq_910 {u:Bool} {x:Int} (h:fld u (0,31,1) x):qn x:=⟨(fl5 h).1,Int.lt_of_lt_of_le (fl5 h).2 (by cases u<;>decide)⟩
noncomputable def ziu (r:Row):Bool:=Nat.ble r.1.length 12&&(r.1.all fun c=>Nat.ble 97 c&&Nat.ble c 122||Nat.beq c 46)&&(!decide (r.1=[])&&(!(Qg r.2.1)||decide (r.1=tx 5)||decide (r.1=tx 6))&&(!(decide (r.1=tx 6))||Qg r.2.1))
theorem eq_588:yu.map ziu=yu.map fun _=>true:=by kernel_rfl
theorem eq_357 {i:Ix} (o:Ok i):i.n.length<=1000:=by
 have e:=eq_917 eq_588 o
 unfold ziu at e
 rw [Bool.and_eq_true,Bool.and_eq_true] at e
 exact Nat.le_trans (Nat.le_of_ble_eq_true e.1.1) (by decide)
theorem cs_ {s t:List Nat} {H:Hp} {Q:QE} (e:s=t) (q:Q (.str t) H):Q (.str s) H:=e▸q
theorem eq_921 {i:Ix} {k:Kd} (h:i.k=k) {l:List yG} (f:Qg k=false) (e:zck { i with k:=k }=l):lnT (ln i)=lnT (i.n,l):=by
 subst h
 unfold ln
 rw [f]
 exact congrArg (fun l=>lnT (i.n,l)) e
theorem eq_776 {i:Ix} (o:Ok i):yh i.im:=by
 have h:=o.im
 revert h
 generalize i.k=k
 intro h
 have b:-1048576<=i.im/\i.im<=1048575:=by
  cases k
  case R=>exact (show i.im=0 from h)▸(by decide)
  case cw=>exact (show i.im=0 from h)▸(by decide)
  case fl=>exact (show i.im=0 from h)▸(by decide)
  case sy=>exact (show i.im=0 from h)▸(by decide)
  all_goals exact ⟨Int.le_trans (of_decide_eq_true rfl) h.1,Int.le_trans h.2.1 (of_decide_eq_true rfl)⟩
 unfold yh B64
 lia
theorem mm_ {v r:Int}:yc v++([40]++(reg r++([41]++[])))=qJ v r++[]:=(List.append_nil _).symm
noncomputable def zf5:List (List Nat)->List Int->Bool
 | []=>fun _=>true
 | k::ks=>fun vs=>lC true vs fun v vs=>(Nat.ble k.length 18&&!decide (k=[])&&k.all aln)&&zf5 ks vs
theorem cs_b:zf5 csK csI=true:=by kernel_rfl
theorem eq_638 {x:Int} {d:List Nat} {P:List Nat->Prop} (hd:P d) (hP:∀k:List Nat,(Nat.ble k.length 18&&!decide (k=[])&&k.all aln)=true->P k):∀(ks:List (List Nat)) (vs:List Int),zf5 ks vs=true->P (csF ks vs x d)
 | [],_,_=>hd
 | _::_,[],_=>hd
 | k::ks,v::vs,h=>by
  have h:((Nat.ble k.length 18&&!decide (k=[])&&k.all aln)&&zf5 ks vs)=true:=h
  rw [Bool.and_eq_true] at h
  show P (bif decide (v=x) then k else csF ks vs x d)
  cases decide (v=x) with
  | true=>exact hP k h.1
  | false=>exact eq_638 hd hP ks vs h.2
theorem eq_529 {x:Int} (h:0<=x/\x < 4096):(ZP x).length<=18:=eq_638 (P:=fun s=>s.length<=18) (eq_894 h.1 (yd (n:=12) h (by decide))) (fun k h=>by rw [Bool.and_eq_true,Bool.and_eq_true] at h;exact Nat.le_of_ble_eq_true h.1.1) csK csI cs_b
theorem eq_820 {H:Hp} {a b:List Nat} (h:a.length<=1000/\b.length<=1000):yK (.bin .Add) [.str a,.str b] H=some (.str (a++b),H):=eq_922 (Nat.le_trans (Nat.add_le_add h.1 h.2) (by decide))
theorem fe_n {i:Ix} (o:Ok i) (h:i.k=.fe):i.n=tx 5∨i.n=tx 6:=by
 have e:=eq_917 eq_588 o
 unfold ziu at e
 simp only [Bool.and_eq_true] at e
 have e:=e.2.1.2
 rw [h] at e
 exact (Bool.or_eq_true ..▸e:_∨_).imp of_decide_eq_true of_decide_eq_true
theorem ln_f {i:Ix} (h:i.k=.fe):ln i=bif decide (i.n=tx 6) then (i.n,[]) else bif yI i then (i.n,[.st (i.im / 16),.st (i.im % 16)]) else (tx 3,[.hx (z8 i)]):=by
 unfold ln
 rw [h]
 rfl
theorem eq_352:(List.range 16).map (fun n:Nat=>Nat.ble (yD n).length 4)=(List.range 16).map fun _=>true:=by kernel_rfl
theorem eq_838 {b:Int} (h:0<=b/\b < 16):(yD b).length<=4:=by
 obtain ⟨n,rfl⟩:=Int.eq_ofNat_of_zero_le h.1
 exact Nat.le_of_ble_eq_true (yS 16 eq_352 (Int.ofNat_lt.mp h.2))
theorem eq_247 {i:Ix} {H:Hp} {Q:QE} (o:Ok i) (sc:Sc i) (q:Q (.str (lnT (ln i))) H):fI [] 15 (yn 15) [xK i] H Q:=by
 have g0:=eq_910 o.rd
 have g1:=eq_910 o.r1
 have g2:=eq_910 o.r2
 have n0:=eq_727 g0
 have n1:=eq_727 g1
 have n2:=eq_727 g2
 have gn:=eq_357 o
 have gi:=eq_776 o
 have gc:=eq_761 o.cs
 have ni:(yc i.im).length<=1000:=Nat.le_trans (eq_881 gi) (by decide)
 have nc:(ZP i.cs).length<=1000:=Nat.le_trans (eq_529 gc) (by decide)
 kd_p
 refine zg (nT (dT (eq_774 o))) ?_;kd_p
 refine os (eq_940 (eq_840 o)) ?_;kd_p
 refine os (eq_940 (eq_740 g0)) ?_;kd_p
 refine os (eq_940 (eq_740 g1)) ?_;kd_p
 refine os (eq_940 (eq_740 g2)) ?_;kd_p
 refine br (fun h=>?_) fun h0=>?_<;>kd_p
 ·repeat ((first | refine os (eq_932 (by assumption)) ?_ | refine os (eq_933 (by assumption)) ?_ | refine os (eq_934 (by assumption)) ?_);conv=>whnf)
  exact cs_ (eq_921 (zr h) rfl rfl).symm q
 have mem:i.k=.I->xJ i=true->lnT (ln i)=i.n++([32]++(reg i.rd++([44,32]++(yc i.im++([40]++(reg i.r1++([41]++[]))))))):=fun h m=>(eq_921 (l:=[.rg i.rd,.mm i.im i.r1]) h rfl (by show cond (xJ i) _ _=_;rw [m];rfl)).trans (by rw [mm_];rfl)
 refine br (fun h=>?_) fun h1=>?_<;>kd_p
 ·refine br (fun j=>?_) fun j=>?_<;>kd_p
  ·repeat ((first | refine os (eq_932 (by assumption)) ?_ | refine os (eq_933 (by assumption)) ?_ | refine os (eq_934 (by assumption)) ?_);conv=>whnf)
   exact cs_ (mem (zr h) (by unfold xJ;rw [show decide (i.n=tx 4)=true from j];rfl)).symm q
  ·refine zg (nT (dT (eq_774 o))) ?_;kd_p
   refine os (eq_940 (eq_840 o)) ?_;kd_p
   refine br (fun j2=>?_) fun j2=>?_<;>kd_p
   ·repeat ((first | refine os (eq_932 (by assumption)) ?_ | refine os (eq_933 (by assumption)) ?_ | refine os (eq_934 (by assumption)) ?_);conv=>whnf)
    exact cs_ (mem (zr h) (by unfold xJ;rw [show decide (i.op=3)=true from j2,Bool.or_true])).symm q
   ·refine zu (dT (by rw [tD h];exact .head _)) ?_;kd_p
    repeat ((first | refine os (eq_932 (by assumption)) ?_ | refine os (eq_933 (by assumption)) ?_ | refine os (eq_934 (by assumption)) ?_);conv=>whnf)
    exact cs_ (eq_921 (l:=[.rg i.rd,.rg i.r1,.dc i.im]) (zr h) rfl (by show cond (xJ i) _ _=_;rw [show xJ i=false by unfold xJ;rw [show decide (i.n=tx 4)=false from j,show decide (i.op=3)=false from j2];rfl];rfl)).symm q
 refine br (fun h=>?_) fun h2=>?_<;>kd_p
 ·have h:=(List.mem_cons.mp (tD h)).elim (fun e=>absurd e (fD h1)) List.mem_singleton.mp
  repeat ((first | refine os (eq_932 (by assumption)) ?_ | refine os (eq_933 (by assumption)) ?_ | refine os (eq_934 (by assumption)) ?_);conv=>whnf)
  exact cs_ (eq_921 (zr (dT h)) rfl rfl).symm q
 refine br (fun h=>?_) fun h3=>?_<;>kd_p
 ·repeat ((first | refine os (eq_932 (by assumption)) ?_ | refine os (eq_933 (by assumption)) ?_ | refine os (eq_934 (by assumption)) ?_);conv=>whnf)
  exact cs_ ((eq_921 (zr h) rfl rfl).trans (congrArg (fun z=>i.n++32::(reg i.r2++44::32::z)) mm_.symm)).symm q
 refine br (fun h=>?_) fun h4=>?_<;>kd_p
 ·repeat ((first | refine os (eq_932 (by assumption)) ?_ | refine os (eq_933 (by assumption)) ?_ | refine os (eq_934 (by assumption)) ?_);conv=>whnf)
  exact cs_ (eq_921 (zr h) rfl rfl).symm q
 refine br (fun h=>?_) fun h5=>?_<;>kd_p
 ·have f:=(dk o (zr h)).2.2.2.2.2.1
  have nx:(zW i.im).length<=1000:=Nat.le_trans (eq_894 f.1 gi) (by decide)
  repeat ((first | refine os (eq_932 (by assumption)) ?_ | refine os (eq_933 (by assumption)) ?_ | refine os (eq_934 (by assumption)) ?_);conv=>whnf)
  refine os (eq_717 (Nat.le_trans nx (by decide))) ?_;kd_p
  repeat ((first | refine os (eq_932 (by assumption)) ?_ | refine os (eq_933 (by assumption)) ?_ | refine os (eq_934 (by assumption)) ?_);conv=>whnf)
  exact cs_ (eq_921 (zr h) rfl rfl).symm q
 refine br (fun h=>?_) fun h6=>?_<;>kd_p
 ·repeat ((first | refine os (eq_932 (by assumption)) ?_ | refine os (eq_933 (by assumption)) ?_ | refine os (eq_934 (by assumption)) ?_);conv=>whnf)
  exact cs_ (eq_921 (zr h) rfl rfl).symm q
 refine br (fun h=>?_) fun h7=>?_<;>kd_p
 ·repeat ((first | refine os (eq_932 (by assumption)) ?_ | refine os (eq_933 (by assumption)) ?_ | refine os (eq_934 (by assumption)) ?_);conv=>whnf)
  refine ⟨i.cs,gc,rfl,?_⟩
  kd_p
  repeat ((first | refine os (eq_932 (by assumption)) ?_ | refine os (eq_933 (by assumption)) ?_ | refine os (eq_934 (by assumption)) ?_);conv=>whnf)
  exact cs_ (eq_921 (zr h) rfl rfl).symm q
 refine br (fun h=>?_) fun h8=>?_<;>kd_p
 ·repeat ((first | refine os (eq_932 (by assumption)) ?_ | refine os (eq_933 (by assumption)) ?_ | refine os (eq_934 (by assumption)) ?_);conv=>whnf)
  refine ⟨i.cs,gc,rfl,?_⟩
  kd_p
  repeat ((first | refine os (eq_932 (by assumption)) ?_ | refine os (eq_933 (by assumption)) ?_ | refine os (eq_934 (by assumption)) ?_);conv=>whnf)
  exact cs_ (eq_921 (zr h) rfl rfl).symm q
 refine br (fun h=>?_) fun h9=>?_<;>kd_p
 ·repeat ((first | refine os (eq_932 (by assumption)) ?_ | refine os (eq_933 (by assumption)) ?_ | refine os (eq_934 (by assumption)) ?_);conv=>whnf)
  exact cs_ (eq_921 (zr h) rfl rfl).symm q
 refine br (fun h=>?_) fun ha=>?_<;>kd_p
 ·have hk:=zr h
  have f:=(dk o hk).2.2.2.2.2.1
  have fl:0<=i.im/\i.im<=4095:=⟨f.1,f.2.1⟩
  have lf:=ln_f hk
  clear mem h0 h1 h2 h3 h4 h5 h6 h7 h8 h9 n0 n1 n2 g0 g1 g2 ni nc gc f
  rcases fe_n o hk with n | n
  ·have n6:¬ (i.n=tx 6):=fun e=>nomatch n.symm.trans e
   rw [dF n6] at lf
   cases fb:yI i with
   | true=>
    have b:=fb
    unfold yI at b
    rw [Bool.and_eq_true,Bool.and_eq_true,Bool.and_eq_true,Bool.and_eq_true] at b
    have b2:0<=i.im % 16/\i.im % 16 < 16:=em (by decide)
    have b3:0<=i.im / 16/\i.im / 16 < 16:=⟨Int.ediv_nonneg fl.1 (by decide),Int.ediv_lt_of_lt_mul (by decide) (tD b.2.2.1)⟩
    rw [fb] at lf
    refine zu b.1 ?_;kd_p
    refine zu b.2.1 ?_;kd_p
    refine zg (dF n6) ?_;kd_p
    refine zu (dT n) ?_;kd_p
    refine zu b.2.2.1 ?_;kd_p
    refine zu b.2.2.2.1 ?_;kd_p
    refine zu (dT (fun e=>Int.not_le.mpr (Int.lt_of_sub_neg (by decide:(0:Int) - 1 < 0)) (by
     have:=(Int.le_ediv_iff_mul_le (show (0:Int) < 16 by decide)).mpr (show 1 * 16<=i.im from tD b.2.2.2.2)
     rw [show i.im / 16=0 from e] at this
     exact this))) ?_;kd_p
    refine ⟨_,b3,rfl,?_⟩
    kd_p
    have l3:=Nat.le_trans (eq_838 b3) (show 4<=900 by decide)
    have l2:=Nat.le_trans (eq_838 b2) (show 4<=900 by decide)
    refine os (eq_820 ⟨by decide,Nat.le_trans l3 (by decide)⟩) ?_;kd_p
    refine os (eq_820 ⟨List.length_append▸Nat.add_le_add (show 6<=6 by decide) (Nat.le_trans (eq_838 b3) (show 4<=994 by decide)),by decide⟩) ?_;kd_p
    refine ⟨_,b2,rfl,?_⟩
    kd_p
    refine os (eq_820 ⟨?_,Nat.le_trans l2 (by decide)⟩) ?_
    ·rw [List.length_append,List.length_append]
     exact Nat.add_le_add (Nat.add_le_add (show 6<=6 by decide) (Nat.le_trans (eq_838 b3) (show 4<=4 by decide))) (show 2<=990 by decide)
    kd_p
    rw [lf] at q
    refine cs_ ?_ q
    show _=i.n++32::(yD (i.im / 16)++44::32::(yD (i.im % 16)++[]))
    rw [n,List.append_nil,List.append_assoc,List.append_assoc]
    rfl
   | false=>
    rw [fb] at lf
    refine eq_884 (C:=?C) (fun e c=>?_) (fun e c=>?_) ?_;rotate_left
    ·kd_p
     refine br (fun e1=>?_) fun e1=>?_<;>kd_p
     ·refine zg (dF n6) ?_;kd_p
      refine zu (dT n) ?_;kd_p
      refine br (fun e2=>?_) fun e2=>?_<;>kd_p
      ·refine br (fun e3=>?_) fun e3=>?_<;>kd_p
       ·refine zg (dF fun e4=>?_) ?_
        ·unfold yI at fb
         rw [show decide (i.rd=0)=true from e,show decide (i.r1=0)=true from e1,show decide (i.im < 256)=true from e2,show decide (i.im % 16≠0)=true from e3,Bool.true_and,Bool.true_and,Bool.true_and,Bool.true_and] at fb
         exact e4 (Int.ediv_eq_zero_of_lt fl.1 (Int.not_le.mp (fD fb)))
        kd_p
        exact c
       ·exact c
      ·exact c
     ·exact c
    ·kd_p
     exact c
    ·have bd:=eq_905 o
     have nx:(zW (z8 i)).length<=900:=Nat.le_trans (eq_894 bd.1 (yd (n:=32) bd (by decide))) (by decide)
     refine ⟨i,o,trivial,rfl,?_⟩
     kd_p
     refine os (eq_717 (Nat.le_trans nx (by decide))) ?_;kd_p
     refine os (eq_820 ⟨by decide,Nat.le_trans nx (by decide)⟩) ?_;kd_p
     rw [lf] at q
     exact cs_ (show _=tx 3++32::(zW (z8 i)++[]) by rw [List.append_nil];rfl) q
  ·obtain ⟨z0,z1,z2⟩:=sc n
   refine zu (dT z0) ?_;kd_p
   refine zu (dT z1) ?_;kd_p
   refine zu (dT n) ?_;kd_p
   refine zu (dT z2) ?_;kd_p
   rw [dT n] at lf
   rw [lf] at q
   exact cs_ (n.symm.trans (List.append_nil i.n).symm) q
 ·exact cs_ ((eq_921 (l:=[]) (k_sy h1 h0 h4 h3 h5 h6 (dF fun e=>fD h2 (e▸.tail _ (.head _))) ha h7 h8 h9) rfl rfl).trans (List.append_nil _)).symm q
theorem eq_337:(List.range 128).map (fun c=>!(okc c)||(Nat.ble 32 c&&Nat.ble c 126&&!([9,34,35,39,58].contains c)))=(List.range 128).map fun _=>true:=by kernel_rfl
theorem eq_195 {c:Nat} (h:okc c=true):c < 128:=by
 unfold okc aln at h
 simp only [Bool.or_eq_true,Bool.and_eq_true,List.contains_iff_mem,List.mem_cons,List.not_mem_nil,or_false] at h
 rcases h with (h | h) | h
 ·exact Nat.lt_of_le_of_lt (Nat.le_of_ble_eq_true h.2) (by decide)
 ·exact Nat.lt_of_le_of_lt (Nat.le_of_ble_eq_true h.2) (by decide)
 ·rcases h with rfl | rfl | rfl | rfl | rfl | rfl<;>decide
theorem JK {c:Nat} (h:okc c=true):(32<=c/\c<=126)/\c∉[9,34,35,39,58]:=by
 have e:=yS 128 eq_337 (eq_195 h)
 rw [h] at e
 rw [Bool.not_true,Bool.false_or,Bool.and_eq_true,Bool.and_eq_true] at e
 exact ⟨⟨Nat.le_of_ble_eq_true e.1.1,Nat.le_of_ble_eq_true e.1.2⟩,fun m=>by rw [List.contains_iff_mem.mpr m] at e;exact nomatch e.2⟩
theorem eq_927 {α β:Type} {f:α->β} {l:List α} {n:Nat} (h:l.length<=n):(l.map f).length<=n:=List.length_map f▸h
theorem eq_899 {n:Nat} (h:n<=1000):n<=1000000:=Nat.le_trans h (by decide)
theorem eq_251 {x:List Nat} {l:V} {H:Hp} {Q:QE} (hl:x.length<=1000) (h:x.all okc=true) (q:Q .none H):fI [] 17 (yn 17) [.str x,l] H Q:=by
 kd_p
 refine zu (dT (eq_927 (eq_899 hl))) ⟨eq_811 g0 (fun _=>True) (fun _ _=>q) _ (fun v m lo _=>?_) _ trivial⟩
 obtain ⟨c,hc,rfl⟩:=List.mem_map.mp m
 have e:=(JK (List.all_eq_true.mp h c hc)).1
 refine ⟨_,rfl,fun K J k=>?_⟩
 kd_p
 refine zu (dT (Int.ofNat_le.mpr e.1)) ?_;kd_p
 refine zg (nT (dT (Int.ofNat_le.mpr e.2))) ?_;kd_p
 exact k _ _ trivial
theorem eq_930 {H:Hp} {x:List Nat} (h:x.length<=1000):zfs [.str x] H=some (.int x.length):=yY (eq_899 h)
theorem eq_916 {H:Hp} {x:List Nat} {i c:Nat} (hl:x.length<=1000) (h:x[i]?=some c):yK .sub [.str x,.int i] H=some (.str [c],H):=eq_940 (by
 show wo _ (bo x[i]? _)=_
 rw [yY (eq_899 hl),h])
theorem eq_925 {x:List Nat} {lo hi:Option Int} (hl:x.length<=1000):zay (.str x) lo hi=some (.str (cut x lo hi)):=yY (Nat.le_trans hl (by decide))
theorem eq_861 {n k:Nat} (h:k<=n):nrm n (k:Int)=k:=by
 unfold nrm
 rw [if_neg (Int.not_lt.mpr (Int.natCast_nonneg k)),Int.min_eq_left (Int.ofNat_le.mpr h),Int.max_eq_right (Int.natCast_nonneg k)]
 rfl
theorem eq_734 {α:Type} {l:List α} {a b:Nat} (ha:a<=l.length) (hb:b<=l.length):cut l (some (a:Int)) (some (b:Int))=(l.take b).drop a:=by
 show (l.take (nrm l.length b)).drop (nrm l.length a)=_
 rw [eq_861 ha,eq_861 hb]
theorem eq_735 {α:Type} {l:List α} {b:Nat} (hb:b<=l.length):cut l none (some (b:Int))=l.take b:=by
 show (l.take (nrm l.length b)).drop 0=_
 rw [eq_861 hb,List.drop_zero]
theorem zdi {α:Type} {l:List α} {a:Nat} (ha:a<=l.length):cut l (some (a:Int)) none=l.drop a:=by
 show (l.take l.length).drop (nrm l.length a)=_
 rw [eq_861 ha,List.take_length]
theorem eq_384 {α:Type} {x:List α} {i d:Nat} (h:i+(d+1)=x.length):∃c,x[i]?=some c/\c∈x:=have p:i < x.length:=h▸Nat.lt_add_of_pos_right (Nat.succ_pos d);⟨x[i],List.getElem?_eq_getElem p,List.getElem_mem p⟩
theorem eq_311 {x:List Nat} {l:V} {H:Hp} {Q:QE} (hl:x.length<=1000) (h:x.all okc=true) (s:zz 32 x=x) (q:Q (.str x) H):fI [] 18 (yn 18) [.str x,l] H Q:=by
 have ok:∀c∈x,c∉[9,34,35,39,58]:=fun c hc=>(JK (List.all_eq_true.mp h c hc)).2
 kd_p
 refine ⟨x.length+1,eq_865 (fun d lo H'=>H'=H/\lo 259107277=some (.str x)/\∃i:Nat,lo 29353590483=some (.int i)/\i+d=x.length) ?_ ?_ x.length _ _ ⟨rfl,rfl,0,rfl,Nat.zero_add _⟩⟩
 ·rintro d lo _ ⟨rfl,ht,i,hp,e⟩ W J' k
  obtain ⟨c,hc,hm⟩:=eq_384 e
  have no:=ok c hm
  kd_p
  refine os hp ?_;kd_p
  refine os ht ?_;kd_p
  refine os (eq_930 hl) ?_;kd_p
  refine zu (dT (Int.ofNat_lt.mpr (e▸Nat.lt_add_of_pos_right (Nat.succ_pos d)))) ?_;kd_p
  refine os ht ?_;kd_p
  refine os hp ?_;kd_p
  refine os (eq_916 hl hc) ?_;kd_p
  refine zu (nF (dF fun z=>no (by rw [List.head_eq_of_cons_eq z];decide))) ?_;kd_p
  refine os ht ?_;kd_p
  refine os hp ?_;kd_p
  refine os (eq_916 hl hc) ?_;kd_p
  refine zg (dF fun z=>no ((List.mem_cons.mp z).elim (fun z=>by rw [show c=34 from z];decide) fun z=>by rw [show c=39 from List.mem_singleton.mp z];decide)) ?_
  kd_p
  refine os hp ?_;kd_p
  exact k _ _ ⟨rfl,ht,i+1,rfl,Nat.add_right_comm i 1 d▸e⟩
 ·rintro lo _ ⟨rfl,ht,i,hp,e⟩ X
  obtain rfl:i=x.length:=e
  kd_p
  refine os hp ?_;kd_p
  refine os ht ?_;kd_p
  refine os (eq_930 hl) ?_;kd_p
  refine zg (dF (Int.lt_irrefl _)) ?_;kd_p
  refine os ht ?_;kd_p
  refine os hp ?_;kd_p
  refine os (eq_929 (eq_925 hl)) ?_
  rw [show cut x none (some (x.length:Int))=x from (eq_735 (Nat.le_refl _)).trans List.take_length]
  kd_p
  refine os (yY fun m=>ok 9 m (by decide)) ?_;kd_p
  refine os (yY (Nat.le_trans hl (by decide))) ?_;kd_p
  exact cs_ s q
noncomputable def fin:List (List Nat)->List Nat->List Nat->List (List Nat)
 | F,p,[]=>F++[zz 32 p]
 | F,p,c::y=>bif Nat.beq c 44 then fin (F++[zz 32 p]) [] y else fin F (p++[c]) y
theorem eq_641 {n:Nat} {H:Hp}:∀l:List (List Nat),zB (fzV (n+1) H) (l.map .str)=some (l.map .str)
 | []=>rfl
 | s::l=>by
  show bo (some (V.str s)) (fun b=>bo (zB (fzV (n+1) H) (l.map .str)) fun r=>some (b::r))=_
  rw [eq_641 l];rfl
theorem fz_l {n:Nat} {H:Hp} {i:Nat} {l:List (List Nat)} (h:H[i]?=some (.nd .lst (l.map .str))):fzV (n+2) H (.ref i)=some (.nd .lst (l.map .str)):=by
 show bo H[i]? (fun o=>bo (asN o) fun p=>bo (zB (fzV (n+1) H) p.2) fun l=>some (V.nd p.1 l))=_
 rw [h]
 show bo (zB (fzV (n+1) H) (l.map .str)) (fun l=>some (V.nd .lst l))=_
 rw [eq_641]
theorem eq_297 {H:Hp} {i:Nat} {s:List Nat} {l:List (List Nat)} (h:H[i]?=some (.nd .lst (l.map .str))):yK (.cmp .In) [.str s,.ref i] H=some (.bool (decide (s∈l)),H):=by
 show hr H (bo (bo (bo H[i]? asN) fun p=>inN p (.str s)) fun r=>some (V.bool r))=_
 rw [h]
 show hr H (bo (bo (zB yM (l.map .str)) fun ss=>some (decide (s∈ss))) fun r=>some (V.bool r))=_
 rw [eq_714];rfl
theorem eq_258 {x:List Nat} {l:V} {R:List (List Nat)} (hx:x≠[]) (hl:x.length<=1000) (h:∀c∈x,c∉[34,39]) (hR:fin [] [] x=R) (hn:[]∉R):fI [] 19 (yn 19) [.str x,l] [] (fun v H=>fzV 6 H v=some (.nd .lst (R.map .str))):=by
 kd_p
 refine zg (dF hx) ?_;kd_p
 refine ⟨x.length+1,eq_865 (fun d lo H=>∃(F:List (List Nat)) (x0 p y:List Nat),H=[.nd .lst (F.map .str)]/\lo 259107277=some (.str x)/\lo 29092485863=some (.ref 0)/\lo 31937362959=some (.int x0.length)/\lo 29353590483=some (.int (x0.length+p.length:Nat))/\x=x0++(p++y)/\y.length=d/\F.length<=x0.length/\fin F p y=R) ?_ ?_ x.length _ _ ⟨[],[],[],x,rfl,rfl,rfl,rfl,rfl,rfl,rfl,Nat.le_refl _,hR⟩⟩
 ·rintro d lo _ ⟨F,x0,p,y,rfl,ht,hf,hb,hp,ex,hy,hF,e⟩ W J' k
  cases y with
  | nil=>exact nomatch hy
  | cons c y=>
  have xl:x.length=x0.length+p.length+(d+1):=by rw [ex,List.length_append,List.length_append,hy,Nat.add_assoc]
  have hc:x[x0.length+p.length]?=some c:=by
   rw [ex,← List.append_assoc,← List.length_append,List.getElem?_append_right (Nat.le_refl _),Nat.sub_self];rfl
  have no:=h c (ex▸List.mem_append_right _ (List.mem_append_right _ (.head _)))
  have lt:x0.length+p.length < x.length:=xl▸Nat.lt_add_of_pos_right (Nat.succ_pos d)
  kd_p
  refine os hp ?_;kd_p
  refine os ht ?_;kd_p
  refine os (eq_930 hl) ?_;kd_p
  refine zu (dT (Int.ofNat_lt.mpr lt)) ?_;kd_p
  refine os ht ?_;kd_p
  refine os hp ?_;kd_p
  refine os (eq_916 hl hc) ?_;kd_p
  refine br (fun e4=>?_) fun e4=>?_<;>kd_p
  ·obtain rfl:c=44:=List.head_eq_of_cons_eq (tD e4)
   have pl:p.length<=1000:=Nat.le_trans (Nat.le_trans (Nat.le_add_left _ _) (Nat.le_of_lt lt)) hl
   have ec:cut x (some (x0.length:Int)) (some ((x0.length+p.length:Nat):Int))=p:=by
    rw [eq_734 (Nat.le_trans (Nat.le_add_right _ _) (Nat.le_of_lt lt)) (Nat.le_of_lt lt),ex,← List.append_assoc,List.take_left' List.length_append,List.drop_left' rfl]
   refine os hf ?_;kd_p
   refine os ht ?_;kd_p
   refine os hb ?_;kd_p
   refine os hp ?_;kd_p
   refine os (eq_929 (eq_925 hl)) ?_
   rw [ec]
   kd_p
   refine os (yY (Nat.le_trans pl (by decide))) ?_;kd_p
   refine zu (dT ⟨rfl,eq_927 (Nat.le_trans (Nat.le_trans hF (Nat.le_trans (Nat.le_trans (Nat.le_add_right _ _) (Nat.le_of_lt lt)) hl)) (by decide))⟩) ?_;kd_p
   refine os hp ?_;kd_p
   refine os ht ?_;kd_p
   refine os hp ?_;kd_p
   refine os (eq_916 hl hc) ?_;kd_p
   refine os hp ?_;kd_p
   refine k _ _ ⟨F++[zz 32 p],x0++p++[44],[],y,?_,ht,hf,?_,?_,?_,Nat.succ.inj hy,?_,e⟩
   ·rw [List.map_append];rfl
   ·show some (V.int (((x0.length+p.length:Nat):Int)+1))=_
    rw [List.length_append,List.length_append];rfl
   ·show some (V.int (((x0.length+p.length:Nat):Int)+1))=_
    rw [List.length_append,List.length_append];rfl
   ·rw [ex,List.append_assoc,List.append_assoc];rfl
   ·rw [List.length_append,List.length_append,List.length_append]
    exact Nat.add_le_add (Nat.le_trans hF (Nat.le_add_right _ _)) (Nat.le_refl 1)
  ·refine os ht ?_;kd_p
   refine os hp ?_;kd_p
   refine os (eq_916 hl hc) ?_;kd_p
   refine zg (dF no) ?_;kd_p
   refine os hp ?_;kd_p
   have e5:Nat.beq c 44=false:=Bool.eq_false_iff.mpr fun z=>fD e4 (Nat.eq_of_beq_eq_true z▸rfl)
   refine k _ _ ⟨F,x0,p++[c],y,rfl,ht,hf,hb,?_,?_,Nat.succ.inj hy,hF,?_⟩
   ·show some (V.int (((x0.length+p.length:Nat):Int)+1))=_
    rw [List.length_append];rfl
   ·rw [ex,List.append_assoc];rfl
   ·rw [← e]
    show _=bif Nat.beq c 44 then _ else _
    rw [e5];rfl
 ·rintro lo _ ⟨F,x0,p,y,rfl,ht,hf,hb,hp,ex,hy,hF,e⟩ X
  obtain rfl:=List.eq_nil_of_length_eq_zero hy
  rw [List.append_nil] at ex
  kd_p
  refine os hp ?_;kd_p
  refine os ht ?_;kd_p
  refine os (eq_930 hl) ?_;kd_p
  refine zg (dF (by rw [ex,List.length_append];exact Int.lt_irrefl _)) ?_;kd_p
  have pl:p.length<=1000:=Nat.le_trans (by rw [ex,List.length_append];exact Nat.le_add_left _ _) hl
  have xl:x0.length<=x.length:=by rw [ex,List.length_append];exact Nat.le_add_right _ _
  have ec:cut x (some (x0.length:Int)) none=p:=by rw [zdi xl,ex,List.drop_left' rfl]
  have e:F++[zz 32 p]=R:=e
  have em:F.map V.str++[V.str (zz 32 p)]=R.map V.str:=by rw [← e,List.map_append];rfl
  refine os hf ?_;kd_p
  refine os ht ?_;kd_p
  refine os hb ?_;kd_p
  refine os (eq_929 (eq_925 hl)) ?_
  rw [ec]
  kd_p
  refine os (yY (Nat.le_trans pl (by decide))) ?_;kd_p
  refine zu (dT ⟨rfl,eq_927 (Nat.le_trans (Nat.le_trans hF (Nat.le_trans xl hl)) (by decide))⟩) ?_
  rw [eq_903]
  show Rc _ _ _ _ [V.nd .lst (F.map V.str++[V.str (zz 32 p)])] _ _
  rw [em]
  kd_p
  refine os hf ?_;kd_p
  refine os (eq_297 (l:=R) rfl) ?_;kd_p
  refine zg (dF hn) ?_;kd_p
  refine os hf ?_;kd_p
  exact fz_l rfl
theorem eq_725 {H:Hp} {bind:V->Lo->Option Lo} {g:Hp->Prop->Prop} {body:Lo->Hp->Kt->Jt->Prop} {Q:Lo->Hp->Prop} {J:Jt} {b:Nat} (G:∀P,P->g H P) (I:Int->Lo->Prop):∀(l:List Nat) (v:Int) (lo:Lo),
  (∀c∈l,∀v lo,I v lo->∃lo1,bind (.str [c]) lo=some lo1/\∀(K:Kt) (J:Jt),(∀st lo2,I (v * b+y4 c HEX) lo2->K st lo2 H)->body lo1 H K J)->(∀lo,I (zeL b v l) lo->Q lo H)->I v lo->jy bind body g Q J (l.map fun c=>.str [c]) lo H
 | [],_,lo,_,q,i=>G _ (q lo i)
 | c::l,v,lo,h,q,i=>G _ (Exists.elim (h c (.head _) v lo i) fun _ z=>eq_898 z.1 (z.2 _ _ fun _ lo2 i2=>eq_725 G I l _ lo2 (fun c m=>h c (.tail _ m)) q i2))
theorem eq_637 {c:Nat} {b:Nat} (h16:b<=16) (h:∃d,d < b/\c=yi d):0<=y4 c HEX/\y4 c HEX < b:=h.elim fun d z=>by
 rw [z.2,show y4 (yi d) HEX=(d:Int) from congrArg (·.1) (eq_904 (Nat.lt_of_lt_of_le z.1 h16))]
 exact ⟨Int.natCast_nonneg d,Int.ofNat_lt.mpr z.1⟩
theorem eq_785 {α:Type} {x:List α} {a b:Option Int} {c:α} (h:c∈cut x a b):c∈x:=List.mem_of_mem_take (List.mem_of_mem_drop h)
theorem eq_812 {c:Nat} (h:∃d,d < 10/\c=yi d):48<=c/\c<=57:=h.elim fun d z=>by
 have e:=yS 10 eq_134 z.1
 rw [Bool.and_eq_true] at e
 exact z.2▸⟨Nat.le_of_ble_eq_true e.1,Nat.le_of_ble_eq_true e.2⟩
theorem no2 {x:List Nat} (h:∀c∈x,c<=57):cut x none (some 2)∉[[48,120],[48,88],[48,98],[48,66]]:=fun m=>by
 have no:∀k,57 < k->cut x none (some 2)≠[48,k]:=fun k hk e=>Nat.not_le.mpr hk (h k (eq_785 (show k∈cut x none (some 2) from e.symm▸List.Mem.tail _ (.head _))))
 rcases List.mem_cons.mp m with e | m
 ·exact no _ (by decide) e
 rcases List.mem_cons.mp m with e | m
 ·exact no _ (by decide) e
 rcases List.mem_cons.mp m with e | m
 ·exact no _ (by decide) e
 exact no _ (by decide) (List.mem_singleton.mp m)
theorem eq_807 {H:Hp} {x:List Nat} {c:Nat} {r:List Nat} (hl:x.length<=1000) (h:x=c::r):yK .sub [.str x,.int 0] H=some (.str [c],H):=eq_916 (i:=0) hl (h▸rfl)
theorem eq_245 {m:Nat} {l:V} {H:Hp} {Q:QE} (hm:m < B64) (q:Q (.int m) H):fI [] 20 (yn 20) [.str (zK 10 m),l] H Q:=by
 have dl:=Nat.le_trans (eq_835 hm) (show 20<=1000 by decide)
 have da:=eq_879 (b:=10) (by decide) m
 have hv:=eq_657 (b:=10) (by decide) (by decide) m
 have hne:=eq_906 (b:=10) (by decide) m
 have hz:(zK 10 m).length > 1->(zK 10 m).head?≠some 48:=fun h=>by
  by_cases z:0 < m
  ·exact eq_282 (by decide) (by decide) m z
  ·rw [Nat.eq_zero_of_not_pos z] at h
   exact absurd h (by rw [eq_832 (by decide)];decide)
 kd_p
 refine os (eq_929 (eq_925 dl)) ?_;kd_p
 refine zg (dF (no2 fun c m=>(eq_812 (da c m)).2)) ?_;kd_p
 refine zu (dT (eq_927 (eq_899 dl))) ⟨eq_725 (b:=10) g0 (fun v lo=>lo 226067239=some (.int 10)/\lo 563730138767483=some (.str (zK 10 m))/\lo 29393320959=some (.int v)) _ 0 _ (fun c mc v lo i=>⟨_,rfl,fun K J k=>?_⟩) (fun lo i=>?_) ⟨rfl,rfl,rfl⟩⟩
 ·have d:=eq_637 (by decide) (da c mc)
  kd_p
  refine zu (dT d.1) ?_;kd_p
  refine os i.1 ?_;kd_p
  refine zg (nT (dT d.2)) ?_;kd_p
  refine os i.2.2 ?_;kd_p
  refine os i.1 ?_;kd_p
  refine os (eq_923 (.inr (by decide))) ?_;kd_p
  exact k _ _ ⟨i.1,i.2.1,rfl⟩
 ·rw [hv] at i
  kd_p
  refine os i.2.1 ?_;kd_p
  refine zg (dF hne) ?_;kd_p
  refine os i.1 ?_;kd_p
  refine os i.2.1 ?_;kd_p
  refine os (eq_930 dl) ?_;kd_p
  refine eq_884 (C:=?C) (fun e c=>?_) (fun e c=>?_) ?_;rotate_left
  ·kd_p
   refine os i.2.1 ?_;kd_p
   obtain ⟨c0,r,e0⟩:=List.exists_cons_of_ne_nil hne
   refine os (eq_807 dl e0) ?_;kd_p
   refine zg (dF fun z=>hz (Int.ofNat_lt.mp (tD e)) (by rw [e0];exact congrArg some (List.head_eq_of_cons_eq z))) ?_;kd_p
   exact c
  ·kd_p
   exact c
  ·refine os i.2.2 ?_;kd_p
   exact q
theorem eq_605 {H:Hp} {x:List Nat} (h:x.length<=1000) (a:x.all X5=true):ziR [.str x] H=some (.str x):=(yY (Nat.le_trans h (by decide))).trans (yY a)
theorem eq_135 {m:Nat}:(zK 16 m).all X5=true:=List.all_eq_true.mpr fun c mc=>(eq_879 (b:=16) (by decide) m c mc).elim fun d z=>z.2▸congrArg (·.2.1) (eq_904 z.1)
theorem eq_244 {m:Nat} {l:V} {H:Hp} {Q:QE} (hm:m < B64) (q:Q (.int m) H):fI [] 20 (yn 20) [.str (zW m),l] H Q:=by
 have dl:=Nat.le_trans (eq_843 hm) (show 16<=900 by decide)
 have da:=eq_879 (b:=16) (by decide) m
 have hv:=eq_657 (b:=16) (by decide) (by decide) m
 have hne:=eq_906 (b:=16) (by decide) m
 rw [show zW m=48::120::zK 16 m from eq_893 (Int.natCast_nonneg m)]
 have xl:(48::120::zK 16 m).length<=1000:=Nat.le_trans (Nat.succ_le_succ (Nat.succ_le_succ dl)) (by decide)
 kd_p
 refine os (eq_929 (eq_925 xl)) ?_
 rw [show cut (48::120::zK 16 m) none (some (Int.ofNat 2))=[48,120] from eq_735 (b:=2) (Nat.succ_le_succ (Nat.succ_le_succ (Nat.zero_le _)))]
 kd_p
 refine os (eq_916 (i:=1) (c:=120) xl rfl) ?_;kd_p
 refine os (eq_929 (eq_925 xl)) ?_
 rw [show cut (48::120::zK 16 m) (some (Int.ofNat 2)) none=zK 16 m from zdi (a:=2) (Nat.succ_le_succ (Nat.succ_le_succ (Nat.zero_le _)))]
 kd_p
 refine os (eq_605 (Nat.le_trans dl (by decide)) eq_135) ?_;kd_p
 refine zu (dT (eq_927 (eq_899 (Nat.le_trans dl (by decide))))) ⟨eq_725 (b:=16) g0 (fun v lo=>lo 226067239=some (.int 16)/\lo 563730138767483=some (.str (zK 16 m))/\lo 29393320959=some (.int v)) _ 0 _ (fun c mc v lo i=>⟨_,rfl,fun K J k=>?_⟩) (fun lo i=>?_) ⟨rfl,rfl,rfl⟩⟩
 ·have d:=eq_637 (by decide) (da c mc)
  kd_p
  refine zu (dT d.1) ?_;kd_p
  refine os i.1 ?_;kd_p
  refine zg (nT (dT d.2)) ?_;kd_p
  refine os i.2.2 ?_;kd_p
  refine os i.1 ?_;kd_p
  refine os (eq_923 (.inr (by decide))) ?_;kd_p
  exact k _ _ ⟨i.1,i.2.1,rfl⟩
 ·rw [hv] at i
  kd_p
  refine os i.2.1 ?_;kd_p
  refine zg (dF hne) ?_;kd_p
  refine os i.1 ?_;kd_p
  refine os i.2.2 ?_;kd_p
  exact q
theorem eq_243 {m:Nat} {a:List Nat} {l:V} {H:Hp} {Q:QE} (h:jc m a) (hm:m < B64) (q:Q (.int m) H):fI [] 20 (yn 20) [.str a,l] H Q:=h.elim (fun e=>e▸eq_245 hm q) fun e=>e▸eq_244 hm q
structure zem (a:List Nat):Prop where
 l9:a.length<=900
 hd:∃c r,a=c::r/\48<=c/\c<=57
 al:a.all aln=true
 la:∀c,a.getLast?=some c->c∈[98,102]->∃r,a=48::120::r/\r≠[]
theorem zem.len {a:List Nat} (F:zem a):a.length<=1000:=Nat.le_trans F.l9 (by decide)
theorem eq_887 {m:Nat} {a:List Nat} (h:jc m a) (hm:m < B64):zem a:=by
 rcases h with rfl | rfl
 ·show zem (zK 10 m)
  have da:=eq_879 (b:=10) (by decide) m
  refine ⟨Nat.le_trans (eq_835 hm) (by decide),?_,List.all_eq_true.mpr fun c mc=>?_,fun c e mb=>?_⟩
  ·obtain ⟨c,r,e⟩:=List.exists_cons_of_ne_nil (eq_906 (b:=10) (by decide) m)
   exact ⟨c,r,e,eq_812 (da c (e▸.head _))⟩
  ·have z:=eq_812 (da c mc)
   unfold aln
   rw [Nat.ble_eq.mpr z.1,Nat.ble_eq.mpr z.2];rfl
  ·have z:=eq_812 (da c (List.mem_of_getLast? e))
   rcases List.mem_cons.mp mb with rfl | mb
   ·exact absurd z.2 (by decide)
   ·exact absurd (List.mem_singleton.mp mb▸z.2) (by decide)
 ·rw [show zW m=48::120::zK 16 m from eq_893 (Int.natCast_nonneg m)]
  refine ⟨Nat.le_trans (Nat.succ_le_succ (Nat.succ_le_succ (eq_843 hm))) (by decide),⟨48,_,rfl,by decide,by decide⟩,List.all_eq_true.mpr fun c mc=>?_,fun c e mb=>⟨_,rfl,eq_906 (by decide) m⟩⟩
  rcases List.mem_cons.mp mc with rfl | mc
  ·rfl
  rcases List.mem_cons.mp mc with rfl | mc
  ·rfl
  exact (eq_879 (b:=16) (by decide) m c mc).elim fun d z=>z.2▸congrArg (·.2.2.1) (eq_904 z.1)
theorem eq_361:(List.range 58).map (fun c=>!(Nat.ble 48 c)||decide (c∈[48,49,50,51,52,53,54,55,56,57]))=(List.range 58).map fun _=>true:=by kernel_rfl
theorem eq_362 {c:Nat} (h:48<=c/\c<=57):decide (c∈[48,49,50,51,52,53,54,55,56,57])=true:=by
 have e:=yS 58 eq_361 (Nat.lt_succ_of_le h.2)
 rw [Nat.ble_eq.mpr h.1] at e
 exact e
theorem eq_561:∀l:List Bool,zB asB (l.map .bool)=some l
 | []=>rfl
 | b::l=>by
  show bo (some b) (fun b=>bo (zB asB (l.map .bool)) fun r=>some (b::r))=_
  rw [eq_561 l]
theorem eq_299 {H:Hp} {l:List Bool}:zkC [.nd .lst (l.map .bool)] H=some (.bool (l.all id)):=by
 show bo (zB asB (l.map .bool)) (fun bs=>some (V.bool (bs.all id)))=_
 rw [eq_561]
theorem eq_542 {H:Hp} {x:List Nat} {c:Nat} (hl:x.length<=1000) (h:x.getLast?=some c):yK .sub [.str x,.int (-1)] H=some (.str [c],H):=eq_940 (by
 have p:0 < x.length:=List.length_pos_iff.mpr fun e=>by rw [e] at h;exact nomatch h
 have g:x[(-1+(x.length:Int)).toNat]?=some c:=by
  rw [List.getLast?_eq_getElem?] at h
  rw [show (-1+(x.length:Int)).toNat=x.length - 1 by rw [Int.add_comm];exact Int.toNat_sub x.length 1]
  exact h
 show wo _ (bo (wo (0<=(-1:Int)+x.length) x[(-1+(x.length:Int)).toNat]?) _)=_
 rw [yY (eq_899 hl),yY (by rw [Int.add_comm];exact Int.sub_nonneg_of_le (Int.ofNat_le.mpr p)),g])
theorem eq_595 {n:Nat}:nrm (n+1) (-1)=n:=by
 unfold nrm
 rw [if_pos (by decide),show (-1:Int)+((n+1:Nat):Int)=(n:Int) by rw [Int.natCast_add,Int.add_comm,Int.add_assoc];exact Int.add_zero _,Int.min_eq_left (Int.ofNat_le.mpr (Nat.le_succ n)),Int.max_eq_right (Int.natCast_nonneg n)]
 rfl
theorem eq_262 {m:Nat} {a:List Nat} {H:Hp} {Q:QE} (h:jc m a) (hm:m < B64) (q:Q (.bool false) H):fI [] 22 (yn 22) [.str a] H Q:=by
 have F:=eq_887 h hm
 obtain ⟨c,r,e,hc⟩:=F.hd
 kd_p
 refine zu (nF (dF fun z=>nomatch e.symm.trans z)) ?_;kd_p
 refine os (eq_807 F.len e) ?_;kd_p
 refine zg (nT (eq_362 hc)) ?_;kd_p
 exact q
theorem eq_232 {m:Nat} {a:List Nat} {H:Hp} {Q:QE} (h:jc m a) (hm:m < B64) (q:Q (.bool false) H):fI [] 23 (yn 23) [.str a] H Q:=by
 have F:=eq_887 h hm
 kd_p
 refine os (eq_930 F.len) ?_;kd_p
 refine br (fun e=>?_) fun e=>?_<;>kd_p
 ·cases e1:a.getLast? with
  | none=>rw [List.getLast?_eq_none_iff.mp e1] at e;exact nomatch e
  | some c=>
  refine os (eq_542 F.len e1) ?_;kd_p
  refine br (fun e2=>?_) fun e2=>?_<;>kd_p
  ·obtain ⟨r,er,nr⟩:=F.la c e1 (tD e2)
   refine os (eq_929 (eq_925 F.len)) ?_;kd_p
   have ec:cut a none (some (-Int.ofNat 1))=48::120::r.take (r.length - 1):=by
    rw [er]
    show (48::120::r).take (nrm (r.length+1+1) (-1))=_
    rw [eq_595]
    obtain ⟨c,z,rfl⟩:=List.exists_cons_of_ne_nil nr
    rfl
   rw [ec]
   refine zu (dT (eq_927 ?_)) (cm_a g0 (fun _=>True) (fun v=>.bool (decide ((sO v).headD 0∈[48,49,50,51,52,53,54,55,56,57]))) _ _ _ trivial (fun v mv lo _=>?_) ?_)
   ·rw [← ec]
    exact Nat.le_trans (List.length_drop▸Nat.le_trans (Nat.sub_le _ _) (List.length_take_le' _ _)) (Nat.le_trans F.len (by decide))
   ·obtain ⟨c,mc,rfl⟩:=List.mem_map.mp mv
    refine ⟨_,rfl,trivial,fun K k=>?_,fun K k=>?_⟩
    ·kd_p
     exact k _
    ·kd_p
     exact k _
   ·rw [show List.map (fun v=>V.bool (decide ((sO v).headD 0∈[48,49,50,51,52,53,54,55,56,57]))) (List.map (fun c=>V.str [c]) (48::120::r.take (r.length - 1)))=List.map V.bool (List.map (fun c=>decide ([c].headD 0∈[48,49,50,51,52,53,54,55,56,57])) (48::120::r.take (r.length - 1))) by rw [List.map_map,List.map_map];rfl]
    kd_p
    refine os eq_299 ?_;kd_p
    exact q
  ·exact q
 ·exact q
theorem eq_351:(List.range 123).map (fun c=>!(aln c)||decide (c∈sO (gq 897267759290440876859)))=(List.range 123).map fun _=>true:=by kernel_rfl
theorem eq_571 {c:Nat} (h:aln c=true):c < 123:=by
 unfold aln at h
 rw [Bool.or_eq_true,Bool.and_eq_true,Bool.and_eq_true] at h
 exact h.elim (fun h=>Nat.lt_of_le_of_lt (Nat.le_of_ble_eq_true h.2) (by decide)) fun h=>Nat.lt_of_le_of_lt (Nat.le_of_ble_eq_true h.2) (by decide)
theorem eq_165 {c:Nat} (h:aln c=true):c∈sO (gq 897267759290440876859):=by
 have e:=yS 123 eq_351 (eq_571 h)
 rw [h] at e
 exact tD e
theorem eq_314 {x:List Nat} {l:V} {p:Nat} {H:Hp} {Q:QE} (hl:x.length<=1000) (hp:p < x.length) (h:(x.drop p).all aln=true) (q:Q (.int x.length) H):fI [] 24 (yn 24) [.str x,.int p,l] H Q:=by
 have hat:∀i d,p<=i->i+(d+1)=x.length->∃c,x[i]?=some c/\aln c=true:=fun i d hi e=>by
  have lt:i < x.length:=e▸Nat.lt_add_of_pos_right (Nat.succ_pos d)
  refine ⟨x[i],List.getElem?_eq_getElem lt,List.all_eq_true.mp h _ ?_⟩
  obtain ⟨j,rfl⟩:=Nat.exists_eq_add_of_le hi
  exact List.mem_of_getElem? (i:=j) (by rw [List.getElem?_drop,List.getElem?_eq_getElem lt])
 obtain ⟨d0,e0⟩:=Nat.exists_eq_add_of_lt hp
 obtain ⟨c0,g0',a0⟩:=hat p d0 (Nat.le_refl p) (by rw [← Nat.add_assoc];exact e0.symm)
 kd_p
 refine os (eq_916 hl g0') ?_;kd_p
 refine zg (dF fun z=>?_) ?_
 ·rw [List.head_eq_of_cons_eq z] at a0
  exact nomatch a0
 kd_p
 refine ⟨x.length - p+1,eq_865 (fun d lo H'=>H'=H/\lo 259107277=some (.str x)/\lo 29353590483=some (.int p)/\∃i:Nat,lo 1721432=some (.int i)/\p<=i/\i+d=x.length) ?_ ?_ (x.length - p) _ _ ⟨rfl,rfl,rfl,p,rfl,Nat.le_refl p,Nat.add_sub_cancel' (Nat.le_of_lt hp)⟩⟩
 ·rintro d lo _ ⟨rfl,ht,hq,i,hi,pi,e⟩ W J' k
  obtain ⟨c,hc,ha⟩:=hat i d pi e
  kd_p
  refine os hi ?_;kd_p
  refine os ht ?_;kd_p
  refine os (eq_930 hl) ?_;kd_p
  refine zu (dT (Int.ofNat_lt.mpr (e▸Nat.lt_add_of_pos_right (Nat.succ_pos d)))) ?_;kd_p
  refine os ht ?_;kd_p
  refine os hi ?_;kd_p
  refine os (eq_916 hl hc) ?_;kd_p
  refine zu (dT (eq_165 ha)) ?_;kd_p
  refine os hi ?_;kd_p
  exact k _ _ ⟨rfl,ht,hq,i+1,rfl,Nat.le_succ_of_le pi,Nat.add_right_comm i 1 d▸e⟩
 ·rintro lo _ ⟨rfl,ht,hq,i,hi,pi,e⟩ X
  obtain rfl:i=x.length:=e
  kd_p
  refine os hi ?_;kd_p
  refine os ht ?_;kd_p
  refine os (eq_930 hl) ?_;kd_p
  refine zg (dF (Int.lt_irrefl _)) ?_;kd_p
  refine os hi ?_;kd_p
  refine os hq ?_;kd_p
  refine zg (dF fun z=>Nat.ne_of_gt hp (Int.ofNat.inj z)) ?_;kd_p
  refine os hi ?_;kd_p
  exact q
theorem eq_596 {c:Nat} (hc:48<=c/\c<=57):c∉[43,45]/\[c]≠[32]:=⟨fun z=>(List.mem_cons.mp z).elim (fun z=>absurd (z▸hc.1) (by decide)) fun z=>absurd (List.mem_singleton.mp z▸hc.1) (by decide),fun z=>absurd (List.head_eq_of_cons_eq z▸hc.1) (by decide)⟩
theorem eq_312 {m:Nat} {a:List Nat} {n:Int} (h:jc m a) (hm:m < B64):fI [] 25 (yn 25) [.str a,.int n] [] fun v H=>fzV 6 H v=some (.nd .lst [.nd .tup [.int 1,.str a]]):=by
 have F:=eq_887 h hm
 obtain ⟨c,r,e,hc⟩:=F.hd
 have p:0 < a.length:=e▸Nat.succ_pos _
 have no:=eq_596 hc
 kd_p
 refine ⟨2,?_⟩
 kd_p
 refine os (eq_930 F.len) ?_;kd_p
 refine zu (dT (Int.ofNat_lt.mpr p)) ?_;kd_p
 refine os (eq_807 F.len e) ?_;kd_p
 refine zg (dF no.1) ?_;kd_p
 refine zg (dF no.2) ?_;kd_p
 refine ⟨a,.int n,_,⟨0,F.len,p,F.al,rfl,rfl⟩,?_⟩
 kd_p
 refine os (eq_929 (eq_925 F.len)) ?_
 rw [show cut a (some (Int.ofNat 0)) (some (a.length:Int))=a from (eq_734 (Nat.zero_le _) (Nat.le_refl _)).trans List.take_length]
 kd_p
 refine os (eq_930 F.len) ?_;kd_p
 refine zg (dF (Int.lt_irrefl _)) ?_;kd_p
 rfl
theorem eq_313 {m:Nat} {a:List Nat} {n:Int} (h:jc m a) (hm:m < B64):fI [] 25 (yn 25) [.str (45::a),.int n] [] fun v H=>fzV 6 H v=some (.nd .lst [.nd .tup [.int (-1),.str a]]):=by
 have F:=eq_887 h hm
 obtain ⟨c,r,e,hc⟩:=F.hd
 have p:0 < a.length:=e▸Nat.succ_pos _
 have no:=eq_596 hc
 have l:(45::a).length<=1000:=Nat.le_trans (Nat.succ_le_succ F.l9) (by decide)
 have p1:1 < (45::a).length:=Nat.succ_lt_succ p
 kd_p
 refine ⟨3,?_⟩
 kd_p
 refine os (eq_930 l) ?_;kd_p
 refine zu (dT (Int.ofNat_lt.mpr (Nat.succ_pos _))) ?_;kd_p
 refine os (eq_807 l rfl) ?_;kd_p
 refine os (eq_930 l) ?_;kd_p
 refine zu (dT (Int.ofNat_lt.mpr p1)) ?_;kd_p
 refine os (eq_916 (i:=1) (c:=c) l (congrArg (fun z=>(45::z)[1]?) e)) ?_;kd_p
 refine zg (dF no.1) ?_;kd_p
 refine zg (dF no.2) ?_;kd_p
 refine ⟨45::a,.int n,_,⟨1,l,p1,F.al,rfl,rfl⟩,?_⟩
 kd_p
 refine os (eq_929 (eq_925 l)) ?_
 rw [show cut (45::a) (some (Int.ofNat 0+Int.ofNat 1)) (some ((45::a).length:Int))=a from (eq_734 (a:=1) (Nat.le_of_lt p1) (Nat.le_refl _)).trans (by rw [List.take_length];rfl)]
 kd_p
 refine os (eq_930 l) ?_;kd_p
 refine zg (dF (Int.lt_irrefl _)) ?_;kd_p
 rfl
theorem eq_743 {v:Int} {x:List Nat} (h:Z9 v x):∃m a s,jc m a/\m < B64/\v=s * (m:Int)/\s.natAbs=1/\((x=a/\s=1)∨(x=45::a/\s=-1)):=by
 obtain ⟨n,rfl | ⟨p,rfl⟩⟩:=h
 ·by_cases p:0<=v
  ·obtain ⟨m,rfl⟩:=Int.eq_ofNat_of_zero_le p
   exact ⟨m,_,1,.inl rfl,n,(Int.one_mul _).symm,rfl,.inl ⟨rfl,rfl⟩⟩
  ·have q:=Int.not_le.mp p
   refine ⟨v.natAbs,zK 10 v.natAbs,-1,.inl rfl,n,?_,rfl,.inr ⟨eq_836 q,rfl⟩⟩
   rw [Int.neg_mul,Int.one_mul,Int.ofNat_natAbs_of_nonpos (Int.le_of_lt q),Int.neg_neg]
 ·obtain ⟨m,rfl⟩:=Int.eq_ofNat_of_zero_le p
  exact ⟨m,_,1,.inr rfl,n,(Int.one_mul _).symm,rfl,.inl ⟨rfl,rfl⟩⟩
theorem eq_593 {m:Nat} {a x:List Nat} {s n:Int} (h:jc m a) (hm:m < B64) (z:(x=a/\s=1)∨(x=45::a/\s=-1)) :
  ∃m' a' n',jc m' a'/\m' < B64/\(([V.str x,.int n]=[.str a',.int n']/\V.nd .lst [.nd .tup [.int s,.str a]]=.nd .lst [.nd .tup [.int 1,.str a']])∨([V.str x,.int n]=[.str (45::a'),.int n']/\V.nd .lst [.nd .tup [.int s,.str a]]=.nd .lst [.nd .tup [.int (-1),.str a']])):=
 ⟨m,a,n,h,hm,z.imp (fun z=>by rw [z.1,z.2];exact ⟨rfl,rfl⟩) fun z=>by rw [z.1,z.2];exact ⟨rfl,rfl⟩⟩
theorem eq_556 {a:List Nat} (F:zem a):a≠[46]:=fun e=>F.hd.elim fun c z=>z.elim fun r z=>absurd (List.head_eq_of_cons_eq (z.1.symm.trans e)▸z.2.1) (by decide)
theorem eq_261 {v:Int} {x:List Nat} {n:Int} {H:Hp} {Q:QE} (h:Z9 v x) (q:Q (.bool false) H):fI [] 26 (yn 26) [.str x,.int n] H Q:=by
 obtain ⟨m,a,s,ha,hm,_,_,z⟩:=eq_743 h
 kd_p
 refine ⟨[.str x,.int n],_,rfl,eq_593 ha hm z,?_⟩
 kd_p
 refine ⟨?_⟩
 kd_p
 refine zg (dF (eq_556 (eq_887 ha hm))) ?_;kd_p
 refine ⟨a,.none,_,⟨m,ha,hm,rfl,rfl⟩,?_⟩
 kd_p
 refine ⟨a,.none,_,⟨m,ha,hm,rfl,rfl⟩,?_⟩
 kd_p
 exact q
theorem eq_777 {v:Int} {x:List Nat} (h:Z9 v x):x.length<=1000/\∀c∈x,aln c=true∨c=45:=by
 obtain ⟨m,a,s,ha,hm,_,_,z⟩:=eq_743 h
 have F:=eq_887 ha hm
 have al:=List.all_eq_true.mp F.al
 rcases z with ⟨rfl,_⟩ | ⟨rfl,_⟩
 ·exact ⟨F.len,fun c mc=>.inl (al c mc)⟩
 ·exact ⟨Nat.le_trans (Nat.succ_le_succ F.l9) (by decide),fun c mc=>(List.mem_cons.mp mc).elim .inr fun mc=>.inl (al c mc)⟩
theorem eq_339 {v:Int} {x:List Nat} (h:Z9 v x):cut x none (some 4)∉[[37,104,105,40],[37,108,111,40]]:=fun m=>by
 have no:∀r,cut x none (some 4)≠37::r:=fun r e=>((eq_777 h).2 37 (eq_785 (show 37∈cut x none (some 4) from e.symm▸List.Mem.head _))).elim (fun z=>nomatch z) fun z=>nomatch z
 rcases List.mem_cons.mp m with e | m
 ·exact no _ e
 exact no _ (List.mem_singleton.mp m)
theorem eq_246 {v:Int} {x:List Nat} {p:List Nat×List yG} {b:Int} {Q:QE} (h:Z9 v x) (q:Q (.int v) (hC p b)):fI [.int 0] 28 (yn 28) [.ref 6,.str x,.ref 5] (hC p b) Q:=by
 obtain ⟨m,a,s,ha,hm,ev,hs,z⟩:=eq_743 h
 have F:=eq_887 ha hm
 obtain ⟨c,r,e,hc⟩:=F.hd
 kd_p
 refine os (eq_929 (eq_925 (eq_777 h).1)) ?_;kd_p
 refine zg (dF (eq_339 h)) ?_;kd_p
 refine ⟨[.str x,.int 1],_,rfl,eq_593 ha hm z,?_⟩
 kd_p
 refine zg (dF (eq_556 F)) ?_;kd_p
 refine ⟨a,.none,_,⟨m,ha,hm,rfl,rfl⟩,?_⟩
 kd_p
 refine ⟨a,.none,_,⟨m,ha,hm,rfl,rfl⟩,?_⟩
 kd_p
 refine os (eq_807 F.len e) ?_;kd_p
 refine zg (dF fun z=>absurd (List.head_eq_of_cons_eq z▸hc.1) (by decide)) ?_;kd_p
 refine ⟨m,a,ha,hm,⟨_,rfl⟩,?_⟩
 kd_p
 refine os (eq_923 (.inl (by rw [hs];decide))) ?_;kd_p
 exact ci ((Int.add_zero (s * (m:Int))).trans ev.symm) q
theorem eq_248 {v:Int} {x:List Nat} {p:List Nat×List yG} {b:Int} {Q:QE} (h:Z9 v x) (q:Q (.int v) (hC p b)):fI [] 30 (yn 30) [.ref 6,.str x,.ref 5] (hC p b) Q:=by
 kd_p
 refine ⟨p,b,_,rfl,⟨v,x,h,rfl,rfl⟩,?_⟩
 kd_p
 refine ⟨x,.none,_,⟨v,1,h,rfl,rfl⟩,?_⟩
 kd_p
 exact q
theorem cs_t:(csK.zip csI).map (fun z=>zP csK (csI.map .int) z.1)=(csK.zip csI).map fun z=>some (.int z.2):=by kernel_rfl
theorem eq_438:csK.all (fun k=>!(decide (k.head?=some 48)))=true:=by kernel_rfl
theorem eq_736 {x:Int} {d:List Nat}:∀(ks:List (List Nat)) (vs:List Int),csF ks vs x d=d∨(csF ks vs x d,x)∈ks.zip vs
 | [],_=>.inl rfl
 | _::_,[]=>.inl rfl
 | k::ks,v::vs=>by
  show (bif decide (v=x) then k else csF ks vs x d)=d∨((bif decide (v=x) then k else csF ks vs x d),x)∈_
  by_cases e:v=x
  ·rw [decide_eq_true e]
   exact .inr (e▸.head _)
  ·rw [decide_eq_false e]
   exact (eq_736 ks vs).imp id (.tail _)
theorem eq_263 {x:Int} {p:List Nat×List yG} {b:Int} {Q:QE} (h:0<=x/\x < 4096) (q:Q (.int x) (hC p b)):fI [] 31 (yn 31) [.ref 6,.str (ZP x),.ref 5] (hC p b) Q:=by
 rcases eq_736 (x:=x) (d:=zW x) csK csI with e | m
 ·rw [show ZP x=zW x from e]
  kd_p
  refine zg (dF fun z=>?_) ?_
  ·have:=all_ eq_438 z
   rw [eq_893 h.1] at this
   exact nomatch this
  kd_p
  refine ⟨p,b,_,rfl,⟨x,zW x,⟨yd (n:=12) h (by decide),.inr ⟨h.1,rfl⟩⟩,rfl,rfl⟩,?_⟩
  kd_p
  exact q
 ·have l:zP csK (csI.map .int) (ZP x)=some (.int x):=List.map_inj_left.mp cs_t _ m
  kd_p
  refine zu (dT (eq_882 l)) ?_;kd_p
  refine os (eq_940 l) ?_;kd_p
  exact q
theorem eq_866 {a c:Nat} {l:List Nat} (h:c∉a::l):Nat.beq a c=false:=Bool.eq_false_iff.mpr fun z=>h ((Nat.eq_of_beq_eq_true z:a=c)▸.head _)
theorem eq_699 {c:Nat}:∀{l:List Nat} {k:Nat},c∉l->yb c k l=[]
 | [],_,_=>rfl
 | a::l,k,h=>by
  show (bif Nat.beq a c then k::yb c (k+1) l else yb c (k+1) l)=[]
  rw [eq_866 h]
  exact eq_699 fun m=>h (.tail _ m)
theorem eq_681 {c:Nat} {z:List Nat} (hz:c∉z):∀{a:List Nat} {k:Nat},c∉a->yb c k (a++c::z)=[k+a.length]
 | [],k,_=>by
  show (bif Nat.beq c c then k::yb c (k+1) z else yb c (k+1) z)=_
  rw [Nat.beq_refl,eq_699 hz];rfl
 | b::a,k,h=>by
  show (bif Nat.beq b c then _ else yb c (k+1) (a++c::z))=_
  rw [eq_866 h]
  show yb c (k+1) (a++c::z)=_
  rw [eq_681 hz fun m=>h (.tail _ m),Nat.add_assoc,Nat.add_comm 1]
  rfl
theorem eq_636 {c:Nat} {l:List Nat} (h:c∉l):l.dropWhile (· == c)=l:=by
 cases l with
 | nil=>rfl
 | cons a r=>exact List.dropWhile_cons_of_neg fun z=>h (beq_iff_eq.mp z▸.head _)
theorem eq_852 {c:Nat} {l:List Nat} (h:c∉l):zz c l=l:=by
 unfold zz
 rw [eq_636 h,eq_636 fun m=>h (List.mem_reverse.mp m),List.reverse_reverse]
theorem eq_435 {α:Type} {l:List α} {a n:Nat} (e:l.length=n+1) (ha:a<=n+1):cut l (some (a:Int)) (some (-1))=(l.take n).drop a:=by
 show (l.take (nrm l.length (-1))).drop (nrm l.length a)=_
 rw [e,eq_595,eq_861 ha]
theorem eq_791 {r:Int} (h:qn r):∀c∈reg r,aln c=true:=by
 obtain ⟨n,rfl⟩:=Int.eq_ofNat_of_zero_le h.1
 exact List.all_eq_true.mp (congrArg (·.2.1) (yS 32 eq_824 (Int.ofNat_lt.mp h.2)))
theorem eq_646 {v:Int}:yc v≠[]:=fun z=>by
 by_cases p:0<=v
 ·rw [eq_783 p] at z
  exact eq_906 (by decide) _ z
 ·rw [eq_836 (Int.not_le.mp p)] at z
  exact nomatch z
theorem eq_310 {v r:Int} {p:List Nat×List yG} {b:Int} {Q:QE} (hv:yh v) (hr:qn r) (q:Q (.nd .tup [.int v,.int r]) (hC p b)):fI [] 34 (yn 34) [.ref 6,.str (qJ v r),.ref 5] (hC p b) Q:=by
 have X:Z9 v (yc v):=⟨hv,.inl rfl⟩
 have dc:=eq_777 X
 have d32:32∉yc v:=fun m=>(dc.2 _ m).elim (fun z=>nomatch z) fun z=>nomatch z
 have d40:40∉yc v:=fun m=>(dc.2 _ m).elim (fun z=>nomatch z) fun z=>nomatch z
 have r32:32∉reg r:=fun m=>nomatch eq_791 hr _ m
 have r40:40∉reg r++[41]:=fun m=>(List.mem_append.mp m).elim (fun m=>nomatch eq_791 hr _ m) fun m=>nomatch List.mem_singleton.mp m
 have dl:=eq_881 hv
 have ln:(qJ v r).length=(yc v).length+(reg r).length+1+1:=by
  unfold qJ
  rw [List.length_append,List.length_cons,List.length_append];rfl
 have hl:(qJ v r).length<=1000:=ln▸Nat.le_trans (Nat.succ_le_succ (Nat.succ_le_succ (Nat.add_le_add dl (eq_839 hr)))) (by decide)
 have la:(qJ v r).getLast?=some 41:=by
  unfold qJ
  rw [List.getLast?_append,← List.cons_append,List.getLast?_append];rfl
 kd_p
 refine os (eq_542 hl la) ?_;kd_p
 refine zg (nT (dT (List.mem_append_right _ (.head _)))) ?_;kd_p
 refine os (x:=.int ((yc v).length:Int)) (show bo (yb 40 0 (qJ v r)).getLast? _=_ by unfold qJ;rw [eq_681 r40 d40,Nat.zero_add];rfl) ?_;kd_p
 refine os (eq_929 (eq_925 hl)) ?_
 rw [show cut (qJ v r) none (some ((yc v).length:Int))=yc v from (eq_735 (ln▸Nat.le_trans (Nat.le_add_right _ _) (Nat.le_add_right _ 2))).trans (List.take_left' rfl)]
 kd_p
 refine os (yY (Nat.le_trans dl (by decide))) ?_
 rw [eq_852 d32]
 kd_p
 refine zg (dF fun z=>?_) ?_
 ·exact eq_646 z
 kd_p
 refine ⟨p,b,_,rfl,⟨v,_,X,rfl,rfl⟩,?_⟩
 kd_p
 refine os (eq_929 (eq_925 hl)) ?_
 rw [show cut (qJ v r) (some ((yc v).length+Int.ofNat 1)) (some (-Int.ofNat 1))=reg r from (eq_435 (a:=(yc v).length+1) ln (Nat.succ_le_succ (Nat.le_trans (Nat.le_add_right _ _) (Nat.le_succ _)))).trans (by
  unfold qJ
  rw [List.append_cons,← List.append_assoc,List.take_left' (by rw [List.length_append,List.length_append,Nat.add_right_comm];rfl),List.drop_left' (by rw [List.length_append];rfl)])]
 kd_p
 refine os (yY (Nat.le_trans (eq_839 hr) (by decide))) ?_
 rw [eq_852 r32]
 kd_p
 refine ⟨r,hr,rfl,?_⟩
 kd_p
 exact q
theorem eq_68:yu.map (fun r=>zP (dK (gq 408626969539171)) (dV (gq 408626969539171)) r.1)=yu.map fun r=>some (V.str r.2.1.s):=by kernel_rfl
theorem eq_196 {i:Ix} (o:Ok i):zP (dK (gq 408626969539171)) (dV (gq 408626969539171)) i.n=some (.str i.k.s):=eq_917 eq_68 o
theorem eq_754 {H:Hp} {l:List V} (h:l.length<=1000):zfs [.nd .lst l] H=some (.int l.length):=by
 show bo (wo (2≠0) (some l)) (fun l=>wo (l.length<=1000000) (some (V.int l.length)))=_
 rw [yY (by decide)]
 exact yY (eq_899 h)
theorem eq_649 {i:Ix}:(ln i).2.length<=3:=by
 unfold ln zck
 generalize i.k=k
 cases k
 case I=>show List.length (cond (xJ i) _ _)<=3;cases xJ i<;>exact of_decide_eq_true rfl
 case fe=>show List.length (Prod.snd (cond _ _ (cond _ _ _)))<=3;cases decide (i.n=tx 6)<;>cases yI i<;>exact of_decide_eq_true rfl
 all_goals exact of_decide_eq_true rfl
theorem ln2 {i:Ix} {k:Kd} (h:i.k=k) {l:List yG} (f:Qg k=false) (e:zck { i with k:=k }=l):(ln i).2=l:=by
 subst h
 unfold ln
 rw [f]
 exact e
noncomputable def isI (k:Kd):Bool:=kc k false true false false false false false false false false false false
noncomputable def isJ (k:Kd):Bool:=kc k false false false false false true false false false false false false
theorem eq_355:yu.map (fun r=>(decide (r.1=[106,97,108]),decide (r.1=tx 4)&&!(isI r.2.1),decide (r.1∈[[108,98],[108,104],[108,119],[108,98,117],[108,104,117]]),decide (r.1=tx 5)))=yu.map fun r=>(isJ r.2.1,false,isI r.2.1&&decide (r.2.2.1=3),Qg r.2.1&&!(decide (r.1=tx 6))):=by kernel_rfl
theorem eq_913 {i:Ix} (o:Ok i):decide (i.n=[106,97,108])=isJ i.k/\(decide (i.n=tx 4)&&!(isI i.k))=false/\decide (i.n∈[[108,98],[108,104],[108,119],[108,98,117],[108,104,117]])=(isI i.k&&decide (i.op=3))/\decide (i.n=tx 5)=(Qg i.k&&!(decide (i.n=tx 6))):=
 have e:=eq_917 eq_355 o;⟨congrArg (·.1) e,congrArg (·.2.1) e,congrArg (·.2.2.1) e,congrArg (·.2.2.2) e⟩
theorem k3 {k:Kd} (h0:decide (k.s∈[[82],[66],[67,83,82],[67,83,82,73]])=false) (h1:decide (k.s∈[[85],[74],[83]])=false) (h2:decide (k.s∈[[73],[115,104,105,102,116]])=false):k=.fl∨k=.sy∨k=.fe:=by
 cases k
 case fl=>exact .inl rfl
 case sy=>exact .inr (.inl rfl)
 case fe=>exact .inr (.inr rfl)
 case I=>exact nomatch h2
 case sh=>exact nomatch h2
 case S=>exact nomatch h1
 case U=>exact nomatch h1
 case J=>exact nomatch h1
 all_goals exact nomatch h0
theorem eq_257 {i:Ix} {p:List Nat×List yG} {b:Int} {Q:QE} (o:Ok i) (sc:Sc i) (hn:(ln i).1=i.n) (q:Q (xK i) (hC p b)):fI [] 38 (yn 38) [.ref 6,.str i.n,opV (ln i).2,.ref 5] (hC p b) Q:=by
 have g0:=eq_910 o.rd
 have g1:=eq_910 o.r1
 have g2:=eq_910 o.r2
 have gi:=eq_776 o
 have gc:=eq_761 o.cs
 have X:Z9 i.im (yc i.im):=⟨gi,.inl rfl⟩
 obtain ⟨l,el⟩:∃l,(ln i).2=l:=⟨_,rfl⟩
 have ll:l.length<=3:=el▸eq_649
 rw [el]
 kd_p
 refine os (eq_940 (eq_196 o)) ?_;kd_p
 refine os (eq_754 (eq_927 (Nat.le_trans ll (by decide)))) ?_;kd_p
 refine br (fun h=>?_) fun h0=>?_
 ·rcases List.mem_cons.mp (tD h) with s | h
  ·have hk:=zr (dT s)
   obtain ⟨_,_,f0,f1,f2,f3,f4⟩:=dk o hk
   obtain rfl:l=[.rg i.rd,.rg i.r1,.rg i.r2]:=el.symm.trans (ln2 hk rfl rfl)
   kd_p
   refine zu (dT s) ?_;kd_p
   refine ⟨i.rd,g0,rfl,?_⟩
   kd_p
   refine ⟨i.r1,g1,rfl,?_⟩
   kd_p
   refine ⟨i.r2,g2,rfl,?_⟩
   kd_p
   exact yp q rfl rfl rfl f3.symm f4.symm
  rcases List.mem_cons.mp h with s | h
  ·have hk:=zr (dT s)
   obtain ⟨_,_,f0,f1,f2,f3,f4⟩:=dk o hk
   obtain rfl:l=[.rg i.r1,.rg i.r2,.dc i.im]:=el.symm.trans (ln2 hk rfl rfl)
   kd_p
   refine zg (dF fun z=>nomatch s.symm.trans z) ?_;kd_p
   refine zu (dT s) ?_;kd_p
   refine ⟨i.r1,g1,rfl,?_⟩
   kd_p
   refine ⟨i.r2,g2,rfl,?_⟩
   kd_p
   refine ⟨p,b,_,rfl,⟨i.im,_,X,rfl,rfl⟩,?_⟩
   kd_p
   exact yp q f0.symm rfl rfl rfl f4.symm
  rcases List.mem_cons.mp h with s | h
  ·have hk:=zr (dT s)
   obtain ⟨_,_,f0,f1,f2,f3,f4⟩:=dk o hk
   obtain rfl:l=[.rg i.rd,.cs i.cs,.rg i.r1]:=el.symm.trans (ln2 hk rfl rfl)
   kd_p
   refine zg (dF fun z=>nomatch s.symm.trans z) ?_;kd_p
   refine zg (dF fun z=>nomatch s.symm.trans z) ?_;kd_p
   refine zu (dT (s▸.head _)) ?_;kd_p
   refine ⟨i.rd,g0,rfl,?_⟩
   kd_p
   refine ⟨p,b,_,rfl,⟨i.cs,gc,rfl,rfl⟩,?_⟩
   kd_p
   refine zu (dT s) ?_;kd_p
   refine ⟨i.r1,g1,rfl,?_⟩
   kd_p
   exact yp q rfl rfl f2.symm f3.symm rfl
  ·have s:=List.mem_singleton.mp h
   have hk:=zr (dT s)
   obtain ⟨_,_,f0,f1,f2,f3,f4⟩:=dk o hk
   obtain rfl:l=[.rg i.rd,.cs i.cs,.dc i.im]:=el.symm.trans (ln2 hk rfl rfl)
   kd_p
   refine zg (dF fun z=>nomatch s.symm.trans z) ?_;kd_p
   refine zg (dF fun z=>nomatch s.symm.trans z) ?_;kd_p
   refine zu (dT (s▸.tail _ (.head _))) ?_;kd_p
   refine ⟨i.rd,g0,rfl,?_⟩
   kd_p
   refine ⟨p,b,_,rfl,⟨i.cs,gc,rfl,rfl⟩,?_⟩
   kd_p
   refine zg (dF fun z=>nomatch s.symm.trans z) ?_;kd_p
   refine ⟨p,b,_,rfl,⟨i.im,_,X,rfl,rfl⟩,?_⟩
   kd_p
   exact yp q rfl f1.symm f2.symm rfl rfl
 kd_p
 refine zg (dF fun z=>fD h0 (z▸.head _)) ?_;kd_p
 refine zg (dF fun z=>fD h0 (z▸.tail _ (.head _))) ?_;kd_p
 refine zg (dF fun z=>fD h0 (.tail _ (.tail _ z))) ?_;kd_p
 refine br (fun h=>?_) fun h1=>?_
 ·rcases List.mem_cons.mp (tD h) with s | h
  ·have hk:=zr (dT s)
   obtain ⟨_,_,f0,f1,f2,f3,f4⟩:=dk o hk
   obtain rfl:l=[.rg i.rd,.hx i.im]:=el.symm.trans (ln2 hk rfl rfl)
   kd_p
   refine zg ((eq_913 o).1.trans (by rw [hk];rfl)) ?_;kd_p
   refine ⟨i.rd,g0,rfl,?_⟩
   kd_p
   refine zg (dF fun z=>nomatch s.symm.trans z) ?_;kd_p
   refine zg (dF fun z=>nomatch s.symm.trans z) ?_;kd_p
   refine ⟨p,b,_,rfl,⟨i.im,_,⟨gi,.inr ⟨f3.1,rfl⟩⟩,rfl,rfl⟩,?_⟩
   kd_p
   exact yp q rfl f1.symm f2.symm rfl f4.symm
  rcases List.mem_cons.mp h with s | h
  ·have hk:=zr (dT s)
   obtain ⟨_,_,f0,f1,f2,f3,f4⟩:=dk o hk
   obtain rfl:l=[.rg i.rd,.dc i.im]:=el.symm.trans (ln2 hk rfl rfl)
   kd_p
   refine zu ((eq_913 o).1.trans (by rw [hk];rfl)) ?_;kd_p
   refine ⟨i.rd,g0,rfl,?_⟩
   kd_p
   refine zg (dF fun z=>nomatch s.symm.trans z) ?_;kd_p
   refine zu (dT s) ?_;kd_p
   refine ⟨p,b,_,rfl,⟨i.im,_,X,rfl,rfl⟩,?_⟩
   kd_p
   exact yp q rfl f1.symm f2.symm rfl f4.symm
  ·have s:=List.mem_singleton.mp h
   have hk:=zr (dT s)
   obtain ⟨_,_,f0,f1,f2,f3,f4⟩:=dk o hk
   obtain rfl:l=[.rg i.r2,.mm i.im i.r1]:=el.symm.trans (ln2 hk rfl rfl)
   kd_p
   refine zg ((eq_913 o).1.trans (by rw [hk];rfl)) ?_;kd_p
   refine ⟨i.r2,g2,rfl,?_⟩
   kd_p
   refine zu (dT s) ?_;kd_p
   refine ⟨p,b,_,rfl,⟨i.im,i.r1,gi,g1,rfl,rfl⟩,?_⟩
   kd_p
   exact yp q f0.symm rfl rfl rfl f4.symm
 kd_p
 refine br (fun h=>?_) fun h2=>?_
 ·rcases List.mem_cons.mp (tD h) with s | h
  ·have hk:=zr (dT s)
   obtain ⟨_,_,f0,f1,f2,f3,f4⟩:=dk o hk
   cases m:xJ i with
   | true=>
    obtain rfl:l=[.rg i.rd,.mm i.im i.r1]:=el.symm.trans (ln2 hk rfl (by show cond (xJ i) _ _=_;rw [m];rfl))
    kd_p
    refine eq_884 (C:=?C) (fun e c=>?_) (fun e c=>?_) ?_;rotate_left
    ·kd_p
     refine zg (dF fun z=>?_) ?_
     ·rw [tD e] at z
      exact absurd z (by decide)
     kd_p
     refine zu e ?_;kd_p
     exact c
    ·kd_p
     refine zu ((eq_913 o).2.2.1.trans ?_) ?_
     ·rw [hk]
      unfold xJ at m
      rw [show decide (i.n=tx 4)=false from e] at m
      exact m
     kd_p
     exact c
    refine ⟨p,b,_,rfl,⟨i.im,i.r1,gi,g1,rfl,rfl⟩,?_⟩
    kd_p
    refine ⟨i.rd,g0,rfl,?_⟩
    kd_p
    exact yp q rfl rfl f2.symm rfl f4.symm
   | false=>
    obtain rfl:l=[.rg i.rd,.rg i.r1,.dc i.im]:=el.symm.trans (ln2 hk rfl (by show cond (xJ i) _ _=_;rw [m];rfl))
    unfold xJ at m
    rw [Bool.or_eq_false_iff] at m
    kd_p
    refine zg m.1 ?_;kd_p
    refine zg ((eq_913 o).2.2.1.trans (by rw [hk];exact m.2)) ?_;kd_p
    refine zg m.1 ?_;kd_p
    refine ⟨i.rd,g0,rfl,?_⟩
    kd_p
    refine ⟨i.r1,g1,rfl,?_⟩
    kd_p
    refine ⟨p,b,_,rfl,⟨i.im,_,X,rfl,rfl⟩,?_⟩
    kd_p
    exact yp q rfl rfl f2.symm rfl f4.symm
  ·have s:=List.mem_singleton.mp h
   have hk:=zr (dT s)
   obtain ⟨_,_,f0,f1,f2,f3,f4⟩:=dk o hk
   obtain rfl:l=[.rg i.rd,.rg i.r1,.dc i.im]:=el.symm.trans (ln2 hk rfl rfl)
   have n4:decide (i.n=tx 4)=false:=by
    have z:=(eq_913 o).2.1
    rw [hk] at z
    exact (Bool.and_true _).symm.trans z
   kd_p
   refine zg n4 ?_;kd_p
   refine zg ((eq_913 o).2.2.1.trans (by rw [hk];rfl)) ?_;kd_p
   refine zg n4 ?_;kd_p
   refine ⟨i.rd,g0,rfl,?_⟩
   kd_p
   refine ⟨i.r1,g1,rfl,?_⟩
   kd_p
   refine ⟨p,b,_,rfl,⟨i.im,_,X,rfl,rfl⟩,?_⟩
   kd_p
   exact yp q rfl rfl f2.symm rfl f4.symm
 kd_p
 rcases k3 h0 h1 h2 with hk | hk | hk
 ·have s:i.k.s=[102,108,117,115,104]:=by rw [hk];rfl
  obtain ⟨_,_,f0,f1,f2,f3,f4⟩:=dk o hk
  obtain rfl:l=[.rg i.r1,.rg i.r2]:=el.symm.trans (ln2 hk rfl rfl)
  refine zu (dT s) ?_;kd_p
  refine ⟨i.r1,g1,rfl,?_⟩
  kd_p
  refine ⟨i.r2,g2,rfl,?_⟩
  kd_p
  exact yp q f0.symm rfl rfl f3.symm f4.symm
 ·have s:i.k.s=[115,121,115,116,101,109]:=by rw [hk];rfl
  obtain ⟨_,_,f0,f1,f2,f3,f4⟩:=dk o hk
  obtain rfl:l=[]:=el.symm.trans (ln2 hk rfl rfl)
  have n5:decide (i.n=tx 5)=false:=(eq_913 o).2.2.2.trans (by rw [hk];rfl)
  refine zg (dF fun z=>nomatch s.symm.trans z) ?_;kd_p
  refine zg n5 ?_;kd_p
  refine zg n5 ?_;kd_p
  exact yp q f0.symm f1.symm f2.symm f3.symm f4.symm
 ·have s:i.k.s=[102,101,110,99,101]:=by rw [hk];rfl
  obtain ⟨_,_,f0,f1,f2,f3,f4⟩:=dk o hk
  have lq:=ln_f hk
  refine zg (dF fun z=>nomatch s.symm.trans z) ?_;kd_p
  cases n6:decide (i.n=tx 6) with
  | true=>
   have n5:decide (i.n=tx 5)=false:=(eq_913 o).2.2.2.trans (by rw [hk,n6];rfl)
   obtain ⟨z0,z1,z2⟩:=sc (tD n6)
   rw [n6] at lq
   obtain rfl:l=[]:=el.symm.trans (congrArg (·.2) lq)
   refine zg n5 ?_;kd_p
   refine zg n5 ?_;kd_p
   exact yp q z0.symm z1.symm f2.symm z2.symm f4.symm
  | false=>
   have n5:decide (i.n=tx 5)=true:=(eq_913 o).2.2.2.trans (by rw [hk,n6];rfl)
   rw [n6] at lq
   cases fb:yI i with
   | false=>
    rw [fb] at lq
    have z:=(congrArg (·.1) lq).symm.trans hn
    rw [← z] at n5
    exact absurd (show tx 3=tx 5 from tD n5) (by decide)
   | true=>
    rw [fb] at lq
    obtain rfl:l=[.st (i.im / 16),.st (i.im % 16)]:=el.symm.trans (congrArg (·.2) lq)
    unfold yI at fb
    rw [Bool.and_eq_true,Bool.and_eq_true,Bool.and_eq_true,Bool.and_eq_true] at fb
    have b2:0 < i.im % 16/\i.im % 16 < 16:=⟨Int.lt_iff_le_and_ne.mpr ⟨(em (by decide)).1,Ne.symm (tD fb.2.2.2.1)⟩,(em (by decide)).2⟩
    have b3:0 < i.im / 16/\i.im / 16 < 16:=⟨Int.le_ediv_of_mul_le (by decide) (tD fb.2.2.2.2),Int.ediv_lt_of_lt_mul (by decide) (tD fb.2.2.1)⟩
    refine zu n5 ?_;kd_p
    refine ⟨_,b3,rfl,?_⟩
    kd_p
    refine ⟨_,b2,rfl,?_⟩
    kd_p
    refine os (zH (yd (n:=4) ⟨Int.le_of_lt b3.1,b3.2⟩ (by decide)) (by decide)) ?_;kd_p
    refine yp q (tD fb.1).symm (tD fb.2.1).symm f2.symm ?_ f4.symm
    refine (bo_ (lf 28 (Int.le_of_lt b3.1)) (lf0 4 (Int.le_of_lt b2.1))).trans ((sm_ (v1 ⟨Int.le_of_lt b3.1,Int.lt_trans b3.2 (show (16:Int) < 2 ^ 28 by decide)⟩ (v1 ⟨Int.le_of_lt b2.1,b2.2⟩ v0)) rfl).trans ?_)
    show i.im / 16 * 16+(i.im % 16 * 1+0)=i.im
    rw [Int.mul_one,Int.add_zero]
    exact Int.ediv_mul_add_emod _ _
theorem x_b4 {H:Hp} {a b c d:Int} (h0:0<=a/\a < 256) (h1:0<=b/\b < 256) (h2:0<=c/\c < 256) (h3:0<=d/\d < 256):zks [.nd .lst [.int a,.int b,.int c,.int d]] H=some (.byt ([a,b,c,d].map fun n=>n.toNat.toUInt8)):=yY ⟨zN h0 (zN h1 (zN h2 (zN h3 xu))),show 4<=100000 by decide⟩
theorem eq_231 {w:Int} {H:Hp} {Q:QE} (q:Q (.byt (le4 w)) H):fI [] 39 (yn 39) [.int w,.int 4] H Q:=by
 kd_p
 refine os (x_b4 (em (by decide)) (em (by decide)) (em (by decide)) (em (by decide))) ?_;kd_p
 exact cq (congrArg (fun z=>V.byt ([z % 256,w / 256 % 256,w / 65536 % 256,w / 16777216 % 256].map fun n=>n.toNat.toUInt8)) (Int.ediv_one w)) q
theorem eq_356:yu.map (fun r=>(decide (r.1∈dK (gq 24146577604)),decide (r.1∈[[46,97,115,99,105,105],[46,97,115,99,105,122],[46,115,116,114,105,110,103]]),decide (r.1∈[[46,115,112,97,99,101],[46,122,101,114,111],[46,97,108,105,103,110]]),decide (r.1=[108,105]),decide (r.1∈dK (gq 154965808)),decide (r.1∈dK (gq 2582089376965)),decide (r.1∈dK (gq 408626969539171))))=yu.map fun _=>(false,false,false,false,false,false,true):=by kernel_rfl
theorem eq_587 {i:Ix} (o:Ok i):(decide (i.n∈dK (gq 24146577604)),decide (i.n∈[[46,97,115,99,105,105],[46,97,115,99,105,122],[46,115,116,114,105,110,103]]),decide (i.n∈[[46,115,112,97,99,101],[46,122,101,114,111],[46,97,108,105,103,110]]),decide (i.n=[108,105]),decide (i.n∈dK (gq 154965808)),decide (i.n∈dK (gq 2582089376965)),decide (i.n∈dK (gq 408626969539171)))=(false,false,false,false,false,false,true):=eq_917 eq_356 o
theorem eq_746 (i:Ix):(ln i).1=i.n∨ln i=(tx 3,[.hx (z8 i)]):=by
 unfold ln
 cases Qg i.k
 ·exact .inl rfl
 ·cases decide (i.n=tx 6)
  ·cases yI i
   ·exact .inr rfl
   ·exact .inl rfl
  ·exact .inl rfl
theorem eq_259 {w b:Int} {Q:QE} (bd:0<=w/\w < 4294967296) (q:Q (.byt (le4 w)) (hC (tx 3,[.hx w]) b)):fI [] 42 (yn 42) [.ref 6,.ref 5] (hC (tx 3,[.hx w]) b) Q:=by
 kd_p
 refine ⟨eq_726 rfl fun K J' k=>?_⟩
 kd_p
 refine ⟨(tx 3,[.hx w]),b,_,rfl,⟨w,_,⟨yd (n:=32) bd (by decide),.inr ⟨bd.1,rfl⟩⟩,rfl,rfl⟩,?_⟩
 kd_p
 refine zu (dT (Int.le_trans (of_decide_eq_true rfl) bd.1)) ?_;kd_p
 refine zg (nT (dT bd.2)) ?_;kd_p
 refine ⟨w,bd,rfl,?_⟩
 kd_p
 refine k _ _ _ ?_
 kd_p
 exact cq (congrArg V.byt (List.nil_append _)) q
theorem eq_260 {i:Ix} {b:Int} {Q:QE} (o:Ok i) (sc:Sc i) (q:Q (.byt (le4 (z8 i))) (hC (ln i) b)):fI [] 42 (yn 42) [.ref 6,.ref 5] (hC (ln i) b) Q:=by
 have bd:=eq_905 o
 rcases eq_746 i with hn | lw
 ·have z:=eq_587 o
  rw [← hn] at z
  kd_p
  refine zg (congrArg (·.1) z) ?_;kd_p
  refine zg (congrArg (·.2.1) z) ?_;kd_p
  refine zg (congrArg (·.2.2.1) z) ?_;kd_p
  refine zg (congrArg (·.2.2.2.1) z) ?_;kd_p
  refine zg (congrArg (·.2.2.2.2.1) z) ?_;kd_p
  refine zg (congrArg (·.2.2.2.2.2.1) z) ?_;kd_p
  refine ⟨ln i,b,_,rfl,⟨i,o,sc,hn,by rw [← hn],rfl⟩,?_⟩
  kd_p
  refine ⟨eq_726 rfl fun K J' k=>?_⟩
  kd_p
  refine ⟨i,o,trivial,rfl,?_⟩
  kd_p
  refine ⟨z8 i,bd,rfl,?_⟩
  kd_p
  refine k _ _ _ ?_
  kd_p
  exact cq (congrArg V.byt (List.nil_append _)) q
 ·rw [lw] at q ⊢
  exact eq_259 bd q
theorem eq_436 {p:List Nat×List yG} {Q:QE} (hp:Ln p) (q:Q (.int 4) (hP p)):fI [] 44 (yn 44) [.ref 0,.ref 5] (hP p) Q:=by
 obtain ⟨i,o,sc,rfl⟩:=hp
 rcases eq_746 i with hn | lw
 ·have z:=eq_587 o
  rw [← hn] at z
  kd_p
  refine zg (congrArg (·.2.2.1) z) ?_;kd_p
  refine zg (congrArg (·.1) z) ?_;kd_p
  refine zg (congrArg (·.2.1) z) ?_;kd_p
  refine zg (congrArg (·.2.2.2.1) z) ?_;kd_p
  refine zg (nT (congrArg (·.2.2.2.2.2.2) z)) ?_;kd_p
  refine zg (congrArg (·.2.2.2.2.1) z) ?_;kd_p
  exact q
 ·rw [lw] at q ⊢
  kd_p
  exact q
noncomputable def opB (c:Nat):Bool:=aln c||[40,41,45].contains c
noncomputable def otB (x:List Nat):Bool:=!(x.isEmpty)&&(Nat.ble x.length 40&&x.all opB)
theorem eq_763 {x:List Nat} (h:x≠[]) (l:x.length<=40) (a:∀c∈x,opB c=true):otB x=true:=by
 unfold otB
 rw [Nat.ble_eq.mpr l,List.all_eq_true.mpr a,List.isEmpty_eq_false_iff.mpr h];rfl
theorem otE {x:List Nat} (h:otB x=true):x≠[]/\x.length<=40/\∀c∈x,opB c=true:=by
 unfold otB at h
 rw [Bool.and_eq_true,Bool.and_eq_true] at h
 exact ⟨fun e=>by rw [e] at h;exact (nomatch h.1),Nat.le_of_ble_eq_true h.2.1,List.all_eq_true.mp h.2.2⟩
theorem eq_594 {c:Nat} (h:aln c=true):opB c=true:=by unfold opB;rw [h];rfl
theorem eq_336:(List.range 123).map (fun c=>!(opB c)||(okc c&&!([32,44].contains c)))=(List.range 123).map fun _=>true:=by kernel_rfl
theorem eq_814 {c:Nat} (h:opB c=true):okc c=true/\c∉[32,44]:=by
 have lt:c < 123:=(Bool.or_eq_true _ _▸(show (aln c||[40,41,45].contains c)=true from h)).elim eq_571 fun m=>by
  have m:=List.contains_iff_mem.mp m
  rcases List.mem_cons.mp m with rfl | m
  ·decide
  rcases List.mem_cons.mp m with rfl | m
  ·decide
  exact List.mem_singleton.mp m▸by decide
 have e:=yS 123 eq_336 lt
 rw [h] at e
 have e:(okc c&&!([32,44].contains c))=true:=e
 rw [Bool.and_eq_true] at e
 exact ⟨e.1,fun m=>by rw [List.contains_iff_mem.mpr m] at e;exact nomatch e.2⟩
theorem eq_353:(List.range 15).map (fun n:Nat=>otB (yD ((n+1:Nat):Int)))=(List.range 15).map fun _=>true:=by kernel_rfl
theorem eq_437:csK.all otB=true:=by kernel_rfl
theorem eq_272 {b d:Nat} (h16:b<=16) (h:d < b):aln (yi d)=true:=congrArg (·.2.2.1) (eq_904 (Nat.lt_of_lt_of_le h h16))
theorem eq_779 {b n:Nat} (hb:1 < b) (h16:b<=16):∀c∈zK b n,opB c=true:=fun c m=>(eq_879 hb n c m).elim fun d z=>z.2▸eq_594 (eq_272 h16 z.1)
theorem eq_567 {v:Int}:∀c∈yc v,opB c=true:=fun c m=>by
 by_cases p:0<=v
 ·rw [eq_783 p] at m;exact eq_779 (by decide) (by decide) c m
 ·rw [eq_836 (Int.not_le.mp p)] at m
  exact (List.mem_cons.mp m).elim (fun e=>e▸rfl) (eq_779 (by decide) (by decide) c)
theorem eq_273 {v:Int} (h:0<=v):∀c∈zW v,opB c=true:=fun c m=>by
 rw [eq_893 h] at m
 exact (List.mem_cons.mp m).elim (fun e=>e▸rfl) fun m=>(List.mem_cons.mp m).elim (fun e=>e▸rfl) (eq_779 (by decide) (by decide) c)
theorem eq_551 {r:Int} (h:qn r):otB (reg r)=true:=by
 obtain ⟨n,rfl⟩:=Int.eq_ofNat_of_zero_le h.1
 have z:=yS 32 eq_824 (Int.ofNat_lt.mp h.2)
 exact eq_763 (fD (congrArg (·.2.2) z)) (Nat.le_trans (Nat.le_of_ble_eq_true (congrArg (·.1) z)) (by decide)) fun c m=>eq_594 (eq_791 h c m)
theorem eq_546 {v:Int} (h:0<=v) (n:yh v):otB (zW v)=true:=eq_763 (by rw [eq_893 h];exact nofun) (Nat.le_trans (eq_894 h n) (by decide)) (eq_273 h)
theorem ziA {o:yG} (h:o.ok):otB o.t=true:=match o,h with
 | .rg r,h=>eq_551 h
 | .dc v,h=>eq_763 eq_646 (Nat.le_trans (eq_881 h) (by decide)) eq_567
 | .hx v,h=>eq_546 h.1 h.2
 | .mm v r,h=>by
  refine eq_763 (fun e=>nomatch (List.append_eq_nil_iff.mp e).2) ?_ fun c m=>?_
  ·obtain ⟨n,rfl⟩:=Int.eq_ofNat_of_zero_le h.2.1
   show (yc v++40::(reg n++[41])).length<=40
   rw [List.length_append]
   refine Nat.le_trans (Nat.add_le_add (eq_881 h.1) ?_) (show 21+6<=40 by decide)
   show (reg n++[41]).length+1<=6
   rw [List.length_append]
   exact Nat.succ_le_succ (Nat.add_le_add (Nat.le_of_ble_eq_true (congrArg (·.1) (yS 32 eq_824 (Int.ofNat_lt.mp h.2.2)))) (Nat.le_refl 1))
  ·rcases List.mem_append.mp m with m | m
   ·exact eq_567 c m
   rcases List.mem_cons.mp m with rfl | m
   ·rfl
   rcases List.mem_append.mp m with m | m
   ·exact (otE (eq_551 h.2)).2.2 c m
   exact List.mem_singleton.mp m▸rfl
 | .cs x,h=>(eq_736 csK csI (x:=x) (d:=zW x)).elim (fun e=>(show (yG.cs x).t=zW x from e)▸eq_546 h.1 (yd (n:=12) h (by decide))) fun m=>List.all_eq_true.mp eq_437 _ (List.of_mem_zip m).1
 | .st b,h=>by
  obtain ⟨n,rfl⟩:=Int.eq_ofNat_of_zero_le (Int.le_of_lt h.1)
  obtain ⟨m,rfl⟩:=Nat.exists_eq_succ_of_ne_zero (Nat.ne_of_gt (Int.ofNat_lt.mp h.1))
  exact yS 15 eq_353 (Nat.lt_of_succ_lt_succ (Int.ofNat_lt.mp h.2))
theorem eq_583 {o q:yG} {r:List yG}:yZ (o::q::r)=o.t++44::32::yZ (q::r):=rfl
theorem eq_823 {o:yG}:yZ [o]=o.t:=List.append_nil _
theorem eq_790:∀{l:List yG},(∀o∈l,otB o.t=true)->∀c∈yZ l,okc c=true
 | [],_=>nofun
 | [o],h=>fun c m=>(eq_814 ((otE (h o (.head _))).2.2 c (eq_823▸m))).1
 | o::q::r,h=>fun c m=>by
  rcases List.mem_append.mp (eq_583▸m) with m | m
  ·exact (eq_814 ((otE (h o (.head _))).2.2 c m)).1
  rcases List.mem_cons.mp m with rfl | m
  ·rfl
  rcases List.mem_cons.mp m with rfl | m
  ·rfl
  exact eq_790 (fun o m=>h o (.tail _ m)) c m
theorem YK:∀{l:List yG},(∀o∈l,otB o.t=true)->(yZ l).length<=42 * l.length
 | [],_=>Nat.le_refl 0
 | [o],h=>by rw [eq_823];exact Nat.le_trans (otE (h o (.head _))).2.1 (show 40<=42 by decide)
 | o::q::r,h=>by
  have z:=YK (l:=q::r) fun o m=>h o (.tail _ m)
  show (o.t++44::32::yZ (q::r)).length<=42 * (q::r).length+42
  rw [List.length_append]
  exact Nat.le_trans (Nat.add_le_add (otE (h o (.head _))).2.1 (show (yZ (q::r)).length+2<=42 * (q::r).length+2 from Nat.add_le_add_right z 2)) (Nat.le_of_eq (Nat.add_left_comm 40 _ 2))
theorem eq_335 {x:List Nat} (h:otB x=true):∃c r,x=c::r/\opB c=true:=by
 obtain ⟨c,r,e⟩:=List.exists_cons_of_ne_nil (otE h).1
 exact ⟨c,r,e,(otE h).2.2 c (e▸.head _)⟩
theorem eq_334 {x:List Nat} (h:otB x=true):∃c,x.getLast?=some c/\opB c=true:=⟨x.getLast (otE h).1,List.getLast?_eq_some_getLast _,(otE h).2.2 _ (List.getLast_mem _)⟩
theorem QS {x y:List Nat} {c:Nat} (h:y.getLast?=some c):(x++y).getLast?=some c:=by rw [List.getLast?_append,h];rfl
theorem ziV {d:Nat} {y:List Nat} {c:Nat} (h:y.getLast?=some c):(d::y).getLast?=some c:=QS (x:=[d]) h
theorem QF:∀{o:yG} {r:List yG},(∀q∈o::r,otB q.t=true)->∃c,(yZ (o::r)).getLast?=some c/\opB c=true
 | o,[],h=>eq_823▸eq_334 (h o (.head _))
 | o,q::r,h=>(QF (o:=q) (r:=r) fun o m=>h o (.tail _ m)).imp fun c z=>⟨QS (ziV (ziV z.1)),z.2⟩
theorem eq_536 {o:yG} {r:List yG} (h:otB o.t=true):∃c y,yZ (o::r)=c::y/\opB c=true:=(eq_335 h).elim fun c z=>z.elim fun y z=>⟨c,y++_,(congrArg (·++_) z.1:o.t++_=(c::y)++_),z.2⟩
theorem eq_644 {c:Nat}:∀{l:List Nat},l.head?≠some c->l.dropWhile (· == c)=l
 | [],_=>rfl
 | a::l,h=>List.dropWhile_cons_of_neg fun e=>h (beq_iff_eq.mp e▸rfl)
theorem Xr {c:Nat} {l:List Nat} (h1:l.head?≠some c) (h2:l.getLast?≠some c):zz c l=l:=by
 unfold zz
 rw [eq_644 h1,eq_644 (by rw [List.head?_reverse];exact h2),List.reverse_reverse]
theorem Jg {c:Nat} {l:List Nat}:zz c (c::l)=zz c l:=by
 unfold zz
 rw [show (c::l).dropWhile (· == c)=l.dropWhile (· == c) from List.dropWhile_cons_of_pos (beq_self_eq_true c)]
theorem XY {c:Nat} (h:opB c=true):c≠32/\c≠44:=⟨fun e=>(eq_814 h).2 (e▸.head _),fun e=>(eq_814 h).2 (e▸.tail _ (.head _))⟩
theorem Jk {c d:Nat} {x:Option Nat} (e:x=some c) (h:c≠d):x≠some d:=fun z=>h (Option.some.inj (e.symm.trans z))
theorem zfe {l:List yG} (h:∀o∈l,otB o.t=true):zz 32 (yZ l)=yZ l:=match l,h with
 | [],_=>rfl
 | o::r,h=>Xr ((eq_536 (h o (.head _))).elim fun c z=>z.elim fun y z=>Jk (z.1▸rfl) (XY z.2).1) ((QF h).elim fun c z=>Jk z.1 (XY z.2).1)
theorem eq_718:∀{a:List Nat} {F:List (List Nat)} {p z:List Nat},44∉a->fin F p (a++z)=fin F (p++a) z
 | [],F,p,z,h=>by rw [List.append_nil];rfl
 | c::a,F,p,z,h=>by
  show (bif Nat.beq c 44 then _ else fin F (p++[c]) (a++z))=_
  rw [eq_866 h,List.append_cons p c a]
  exact eq_718 fun m=>h (.tail _ m)
theorem eq_333 {x:List Nat} (h:otB x=true):44∉x/\32∉x:=⟨fun m=>(XY ((otE h).2.2 _ m)).2 rfl,fun m=>(XY ((otE h).2.2 _ m)).1 rfl⟩
theorem eq_630:∀{r:List yG} {o:yG} {F:List (List Nat)} {p:List Nat},(p=[]∨p=[32])->(∀q∈o::r,otB q.t=true)->fin F p (yZ (o::r))=F++(o::r).map yG.t
 | r,o,F,p,hp,h=>by
  have n:=eq_333 (h o (.head _))
  have e:zz 32 (p++o.t)=o.t:=hp.elim (fun e=>e▸eq_852 n.2) fun e=>e▸Jg.trans (eq_852 n.2)
  match r,h with
  | [],_=>
   rw [eq_823,← List.append_nil o.t,eq_718 n.1]
   show F++[zz 32 (p++o.t)]=_
   rw [e];rfl
  | q::r,h=>
   rw [eq_583,eq_718 n.1]
   show fin (F++[zz 32 (p++o.t)]) [32] (yZ (q::r))=_
   rw [e,eq_630 (.inr rfl) fun q m=>h q (.tail _ m),List.append_assoc];rfl
theorem nN {b:Bool} (h:(!b)=true):b=false:=Bool.casesOn (motive:=fun b=>(!b)=true->b=false) b (fun _=>rfl) (fun h=>nomatch h) h
theorem eq_138 {i:Ix} (o:Ok i):yh (z8 i):=yd (n:=32) (eq_905 o) (by decide)
theorem eq_938 {i:Ix} (h:yI i=true):(0 < i.im / 16/\i.im / 16 < 16)/\0 < i.im % 16/\i.im % 16 < 16:=by
 unfold yI at h
 rw [Bool.and_eq_true,Bool.and_eq_true,Bool.and_eq_true,Bool.and_eq_true] at h
 obtain ⟨-,-,a,b,c⟩:=h
 exact ⟨⟨Int.le_ediv_of_mul_le (by decide) (tD c),Int.ediv_lt_of_lt_mul (by decide) (tD a)⟩,Int.lt_iff_le_and_ne.mpr ⟨(em (by decide)).1,Ne.symm (tD b)⟩,(em (by decide)).2⟩
theorem eq_194 {i:Ix} (o:Ok i):∀q∈(ln i).2,q.ok:=by
 have g0:=eq_910 o.rd
 have g1:=eq_910 o.r1
 have g2:=eq_910 o.r2
 have gi:=eq_776 o
 have gc:=eq_761 o.cs
 have e:=eq_138 o
 have e0:=(eq_905 o).1
 have u:=o.im
 have f:=@eq_938 i
 unfold ln zck
 revert u
 generalize i.k=k
 intro u
 cases k
 case I=>show ∀q∈cond (xJ i) _ _,yG.ok q;cases xJ i;exact zN g0 (zN g1 (zN gi xu));exact zN g0 (zN ⟨gi,g1⟩ xu)
 case fe=>
  show ∀q∈Prod.snd (cond _ _ (cond _ _ _)),yG.ok q
  revert f
  cases decide (i.n=tx 6)<;>cases yI i<;>intro f
  ·exact zN ⟨e0,e⟩ xu
  ·exact zN (f rfl).1 (zN (f rfl).2 xu)
  ·exact xu
  ·exact xu
 case R=>exact zN g0 (zN g1 (zN g2 xu))
 case S=>exact zN g2 (zN ⟨gi,g1⟩ xu)
 case B=>exact zN g1 (zN g2 (zN gi xu))
 case U=>exact zN g0 (zN ⟨u.1,gi⟩ xu)
 case J=>exact zN g0 (zN gi xu)
 case sh=>exact zN g0 (zN g1 (zN gi xu))
 case cw=>exact zN g0 (zN gc (zN g1 xu))
 case ci=>exact zN g0 (zN gc (zN gi xu))
 case fl=>exact zN g1 (zN g2 xu)
 case sy=>exact xu
noncomputable def nmc (c:Nat):Bool:=(Nat.ble 97 c&&Nat.ble c 122)||Nat.beq c 46
def nmB (x:List Nat):Bool:=!(x.isEmpty)&&(Nat.ble x.length 40&&(x.all nmc&&(x.all X5&&!(decide (x∈[[46,116,101,120,116],[46,100,97,116,97],[46,98,115,115]])||decide (x∈[[46,103,108,111,98,108],[46,103,108,111,98,97,108],[46,101,113,117],[46,115,101,116]])))))
theorem nm_t:yu.map (fun r=>nmB r.1)=yu.map fun _=>true:=by kernel_rfl
theorem eq_340:(List.range 123).map (fun c=>!(nmc c)||(okc c&&!([32].contains c)))=(List.range 123).map fun _=>true:=by kernel_rfl
structure jd (p:List Nat×List yG):Prop where
 ne:p.1≠[]
 nl:p.1.length<=40
 nc:∀c∈p.1,okc c=true/\c≠32
 lo:p.1.all X5=true
 no:decide (p.1∈[[46,116,101,120,116],[46,100,97,116,97],[46,98,115,115]])=false/\decide (p.1∈[[46,103,108,111,98,108],[46,103,108,111,98,97,108],[46,101,113,117],[46,115,101,116]])=false
 ok:∀q∈p.2,q.ok
 le:p.2.length<=3
theorem eq_325 {p:List Nat×List yG} (h:Ln p):jd p:=by
 obtain ⟨i,o,sc,rfl⟩:=h
 have z:nmB (ln i).1=true:=(eq_746 i).elim (fun e=>e▸eq_917 nm_t o) fun e=>e▸by kernel_rfl
 unfold nmB at z
 rw [Bool.and_eq_true,Bool.and_eq_true,Bool.and_eq_true,Bool.and_eq_true] at z
 obtain ⟨a,b,c,d,e⟩:=z
 have e:=Bool.or_eq_false_iff.mp (nN e)
 refine ⟨fun h=>by rw [h] at a;exact (nomatch a),Nat.le_of_ble_eq_true b,fun x m=>?_,d,e,eq_194 o,eq_649⟩
 have m:=List.all_eq_true.mp c x m
 have lt:x < 123:=(Bool.or_eq_true _ _▸(show (_||_)=true from m)).elim (fun m=>Nat.lt_succ_of_le (Nat.le_of_ble_eq_true (Bool.and_eq_true _ _▸m).2)) fun m=>(show x=46 from Nat.eq_of_beq_eq_true m)▸by decide
 have e:=yS 123 eq_340 lt
 rw [m] at e
 have e:(okc x&&!([32].contains x))=true:=e
 rw [Bool.and_eq_true] at e
 exact ⟨e.1,fun m=>by rw [m] at e;exact nomatch e.2⟩
theorem zie {c:Nat}:∀{l w:List Nat},c∉l->zS c w l=[w++l]
 | [],w,_=>congrArg (fun z=>[z]) (List.append_nil w).symm
 | a::l,w,h=>by
  show (bif Nat.beq a c then _ else zS c (w++[a]) l)=_
  rw [eq_866 h,List.append_cons w a l]
  exact zie fun m=>h (.tail _ m)
theorem zgw {c:Nat} {z:List Nat}:∀{l w:List Nat},c∉l->∃r,zS c w (l++c::z)=(w++l)::r
 | [],w,_=>⟨zS c [] z,by
  show (bif Nat.beq c c then w::zS c [] z else _)=_
  rw [Nat.beq_refl,List.append_nil];rfl⟩
 | a::l,w,h=>by
  show ∃r,(bif Nat.beq a c then _ else zS c (w++[a]) (l++c::z))=_
  rw [eq_866 h,List.append_cons w a l]
  exact zgw fun m=>h (.tail _ m)
section
variable {p:List Nat×List yG} (L:jd p)
include L
theorem jd.ot:∀q∈p.2,otB q.t=true:=fun q m=>ziA (L.ok q m)
def rst (l:List yG):List Nat:=lC [] l fun _ _=>32::yZ l
theorem zis:∀c∈rst p.2,okc c=true:=by
 have h:=L.ot
 revert h
 cases p.2 with
 | nil=>exact fun _=>xu
 | cons q r=>exact fun h=>zN rfl (eq_790 h)
theorem jd.all:(lnT p).all okc=true:=List.all_eq_true.mpr fun c m=>(List.mem_append.mp m).elim (fun m=>(L.nc c m).1) (zis L c)
theorem jd.len:(lnT p).length<=1000:=by
 have h:=YK L.ot
 have l:=L.le
 revert h l
 show _->_->(p.1++rst p.2).length<=1000
 rw [List.length_append]
 cases p.2 with
 | nil=>exact fun _ _=>Nat.le_trans L.nl (by decide)
 | cons q r=>exact fun h l=>Nat.le_trans (Nat.add_le_add L.nl (Nat.succ_le_succ (Nat.le_trans h (Nat.mul_le_mul_left 42 l)))) (by decide)
theorem jd.str:zz 32 (lnT p)=lnT p:=by
 obtain ⟨c,y,e⟩:=List.exists_cons_of_ne_nil L.ne
 refine Xr (Jk (c:=c) (show (p.1++rst p.2).head?=some c by rw [e];rfl) (L.nc c (e▸.head _)).2) ?_
 show (p.1++rst p.2).getLast?≠_
 have h:=L.ot
 revert h
 cases p.2 with
 | nil=>
  intro h
  show (p.1++[]).getLast?≠_
  rw [List.append_nil]
  exact fun e=>(L.nc _ (List.mem_of_getLast? e)).2 rfl
 | cons q r=>exact fun h=>(QF h).elim fun c z=>Jk (QS (ziV z.1)) (XY z.2).1
theorem jd.no58:58∉lnT p:=fun m=>(JK (List.all_eq_true.mp L.all _ m)).2 (by decide)
theorem jd.no10:10∉lnT p:=fun m=>absurd (JK (List.all_eq_true.mp L.all _ m)).1.1 (by decide)
theorem jd.no0:lnT p≠[]:=fun e=>L.ne (List.append_eq_nil_iff.mp e).1
theorem jd.sp:∃r,xF 32 (lnT p)=p.1::r:=by
 have h:32∉p.1:=fun m=>(L.nc _ m).2 rfl
 show ∃r,zS 32 [] (p.1++rst p.2)=_
 cases p.2 with
 | nil=>exact ⟨[],(List.append_nil p.1).symm▸zie h⟩
 | cons q r=>exact zgw h
theorem jd.cut:cut (lnT p) (some (p.1.length:Int)) none=rst p.2:=by
 show Mine.cut (p.1++rst p.2) _ _=_
 rw [zdi (show p.1.length<=(p.1++rst p.2).length by rw [List.length_append];exact Nat.le_add_right _ _)]
 exact List.drop_left' rfl
theorem jd.rs:zz 32 (rst p.2)=yZ p.2:=by
 have h:=zfe L.ot
 revert h
 cases p.2 with
 | nil=>exact fun _=>rfl
 | cons q r=>exact fun h=>Jg.trans h
end
theorem eq_603 {H:Hp} {x:List Nat} {c:Nat} {l:List (List Nat)} (hl:x.length<=1000) (hc:c < 256) (e:xF c x=l):zif [.str x,.str [c]] H=some (.nd .lst (l.map .str)):=(yY hc).trans ((yY (Nat.le_trans hl (by decide))).trans (e▸rfl))
theorem eq_715 {c:Nat}:∀{l w:List Nat},(zS c w l).length<=l.length+1
 | [],_=>Nat.le_refl 1
 | a::l,w=>Bool.casesOn (motive:=fun b=>(bif b then w::zS c [] l else zS c (w++[a]) l).length<=l.length+1+1) (Nat.beq a c) (Nat.le_succ_of_le eq_715) (Nat.succ_le_succ eq_715)
theorem x_l0 {H:Hp} {a:V} {l:List V} (h:(a::l).length<=1000000):yK .sub [.nd .lst (a::l),.int 0] H=some (a,H):=eq_940 (show wo (2≠0) (wo _ (some a))=_ from (yY (by decide)).trans (yY h))
theorem eq_292 {H:Hp} {x y:List Nat} {c:Nat} (hl:x.length<=1000) (e:zz c x=y):zbI [.str x,.str [c]] H=some (.str y):=(yY (Nat.le_trans hl (by decide))).trans (e▸rfl)
theorem eq_354 {p:List Nat×List yG} (L:jd p):(rst p.2).length<=1000:=Nat.le_trans (Nat.le_add_left _ p.1.length) (List.length_append (as:=p.1) (bs:=rst p.2)▸(L.len:(p.1++rst p.2).length<=1000))
theorem eq_250 {p:List Nat×List yG} {Q:QE} (h:Ln p) (q:Q (.ref 0) (hB p)):mkS 1501 (fI [] 47 (yn 47)) [.str (lnT p)] [] Q:=by
 have L:=eq_325 h
 kd_p
 refine os (eq_603 L.len (by decide) (zie L.no10)) ?_;kd_p
 refine ⟨eq_726 rfl fun K J' k=>?_⟩
 kd_p
 refine ⟨lnT p,_,_,⟨L.len,L.all,rfl,rfl⟩,?_⟩
 kd_p
 refine ⟨lnT p,_,_,⟨L.len,L.all,L.str,rfl,rfl⟩,?_⟩
 kd_p
 refine ⟨1,?_⟩
 kd_p
 refine zg (dF L.no58) ?_;kd_p
 refine zg (dF L.no0) ?_;kd_p
 refine L.sp.elim fun rs sp=>?_
 refine os (eq_603 L.len (by decide) sp) ?_;kd_p
 refine os (x_l0 (eq_927 (l:=p.1::rs) (sp▸(Nat.le_trans (eq_715 (c:=32) (w:=[])) (Nat.le_trans (Nat.succ_le_succ L.len) (by decide)):(xF 32 (lnT p)).length<=1000000)))) ?_;kd_p
 refine os (eq_930 (Nat.le_trans L.nl (by decide))) ?_;kd_p
 refine os (eq_929 (eq_925 L.len)) ?_
 rw [L.cut]
 kd_p
 refine os (eq_292 (eq_354 L) L.rs) ?_;kd_p
 refine ⟨[.str (yZ p.2),.int 1],opV p.2,rfl,⟨p.2,1,L.ok,L.le,rfl,rfl⟩,?_⟩;kd_p
 refine os (eq_605 (Nat.le_trans L.nl (by decide)) L.lo) ?_
 kd_p
 refine zg L.no.1 ?_;kd_p
 refine zg L.no.2 ?_;kd_p
 refine ⟨p,h,rfl,rfl,?_⟩;kd_p
 refine k _ _ _ ?_;kd_p
 refine ⟨⟨rfl,?_⟩⟩;kd_p
 exact q
theorem abv {x:Int} (h:x % 4=0):x+-x % 4=x:=by rw [Int.emod_eq_zero_of_dvd (Int.dvd_neg.mpr (Int.dvd_of_emod_eq_zero h)),Int.add_zero]
noncomputable def up1 (b:Int):Int:=b+4+-(b+4) % (if (4:Int) > 4 then 4 else 4)
def up2 (b:Int):Int:=up1 b+0+-(up1 b+0) % 4
theorem up1_ {b:Int} (h:b % 4=0):up1 b=b+4:=abv ((Int.add_emod_right b 4).trans h)
theorem up2_ {b:Int} (h:b % 4=0):up2 b=b+4:=by
 unfold up2
 rw [up1_ h,Int.add_zero]
 exact abv ((Int.add_emod_right b 4).trans h)
theorem eq_385 {bind:V->Lo->Option Lo} {body:Lo->Hp->Kt->Jt->Prop} {Q:Lo->Hp->Prop} {J:Jt} {v:V} {l:List V} {lo lo1:Lo} {H:Hp} {i:Nat} (e:bind v lo=some lo1) (g:H[i]?=some (.nd .lst l)) (h:∀(K:Kt) (J:Jt),(∀st lo H,H[i]?=some (.nd .lst l)->Q lo H->K st lo H)->body lo1 H K J):jy bind body (gd (some i) l) Q J [v] lo H:=⟨g,eq_898 e (h _ _ fun _ _ _ g q=>⟨g,q⟩)⟩
theorem eq_360 {e1 e2 b:Int} {p:List Nat×List yG} {Q:QE} (h1:e1=b+4) (h2:e2=b+4) (q:Q (.ref 6) (hC p b)):Q (.ref 6) (hB p++[ins 1703 4 [.ref 0,.ref 7,.ref 11],dc3 (.int b) (.int e1) (.int e2),.byt [],.byt [],.byt [],dc3 (.ref 8) (.ref 9) (.ref 10)]):=by
 rw [h1,h2];exact q
theorem no_m {e b:Int} (h:e=b+4) (hb:b<=4000):¬ e+0 > 4294967296:=by
 rw [h]
 exact Int.not_lt.mpr (Int.le_trans (Int.add_le_add_right (Int.add_le_add_right hb 4) 0) (of_decide_eq_true rfl))
theorem eq_230 {p:List Nat×List yG} {b:Int} {Q:QE} (hb:0<=b/\b<=4000/\b % 4=0) (q:Q (.ref 6) (hC p b)):mkS 1703 (fI [] 49 (yn 49)) [.ref 0,.int b,.int 4] (hB p) Q:=by
 kd_p
 refine zg (nT (dT hb.2.2)) ?_;kd_p
 refine zg (dF (Int.not_lt.mpr hb.1)) ?_;kd_p
 refine zg (dF (no_m (up2_ hb.2.2) hb.2.1)) ?_;kd_p
 exact eq_360 (up1_ hb.2.2) (up2_ hb.2.2) q
theorem eq_315 {i:Ix} {b:Int} (o:Ok i) (sc:Sc i) (hb:0<=b/\b<=4000/\b % 4=0):fI [.int 4] 52 (yn 52) [.str (lnT (ln i)),.int b] [] fun v H=>fzV 6 H v=some (prgV (le4 (z8 i)) b):=by
 kd_p
 refine ⟨ln i,⟨i,o,sc,rfl⟩,rfl,rfl,?_⟩;kd_p
 refine ⟨ln i,b,hb,rfl,rfl,?_⟩;kd_p
 refine ⟨eq_385 rfl rfl fun K J' k=>?_⟩;kd_p
 refine ⟨i,b,o,sc,rfl,rfl,?_⟩;kd_p
 refine k _ _ _ rfl ?_;kd_p
 refine ⟨?_⟩;kd_p
 refine ⟨?_⟩;kd_p
 refine ⟨rfl,?_⟩;kd_p
 refine ⟨.nd .lst [],rfl,?_⟩;kd_p
 exact rfl
theorem eq_293 {l:List V} {lo hi:Option Int} (hl:l.length<=1000):zay (.nd .lst l) lo hi=some (.nd .lst (cut l lo hi)):=(yY (show 2=2 from rfl)).trans (yY (eq_899 hl))
theorem eq_242 {α:Type} (l:List α) {a b:Option Int}:(cut l a b).length<=l.length:=by
 unfold cut
 rw [List.length_drop]
 exact Nat.le_trans (Nat.sub_le _ _) (List.length_take_le' _ _)
theorem ab0 (c:Int):0<=if c < 0 then -c else c:=by split<;>omega
theorem eq_309 {l:List Int} {Q:QE} (hl:l.length<=63) (q:∀H,zR 0 H->Q (.ref 0) H):fI [] 53 (yn 53) [.nd .lst (l.map .int)] [] Q:=by
 kd_p
 refine os (eq_929 (eq_293 (eq_927 (Nat.le_trans hl (by decide))))) ?_;kd_p
 refine zu (dT (Nat.le_trans (Nat.le_trans (eq_242 _) (eq_927 hl)) (by decide))) ?_;kd_p
 refine ⟨eq_811 g0 (fun lo=>∃g s:Int,(0<=g/\(0<=s/\s < 2147483629))/\lo 33633414854=some (.int g)/\lo 223634176=some (.int s)) (fun lo i=>?_) _ (fun v mv lo i=>?_) _ ⟨0,43,by decide,rfl,rfl⟩⟩
 ·obtain ⟨g,s,b,eg,es⟩:=i
  kd_p
  refine os eg ?_;kd_p
  refine os es ?_;kd_p
  exact q _ ⟨g,s,0,[],rfl,b.1,b.2,Int.le_refl 0,Int.le_refl 0⟩
 ·obtain ⟨g,s,b,eg,es⟩:=i
  obtain ⟨c,mc,rfl⟩:=List.mem_map.mp (eq_785 mv)
  refine ⟨_,rfl,fun K J k=>?_⟩
  kd_p
  refine os es ?_;kd_p
  refine os (eq_923 (.inr (by decide))) ?_;kd_p
  refine os (eq_923 (.inr (by decide))) ?_;kd_p
  refine os eg ?_;kd_p
  have B:=em (x:=s * 48271+c * 69621+7) (n:=2147483629) (by decide)
  refine br (fun e=>?_) fun e=>?_<;>kd_p
  ·refine br (fun e=>?_) fun e=>?_<;>kd_p
   ·exact k _ _ ⟨_,_,⟨ab0 c,B⟩,rfl,rfl⟩
   ·exact k _ _ ⟨_,_,⟨b.1,B⟩,eg,rfl⟩
  ·exact k _ _ ⟨_,_,⟨b.1,B⟩,eg,rfl⟩
theorem eq_298 {x y:Int} {H:Hp} (h:0 < y) (h2:y.natAbs < 1073741824):yK (.bin .FloorDiv) [.int x,.int y] H=some (.int (x / y),H):=eq_864 rfl ((yY h).trans (yY h2))
theorem eq_739 {x:Int} {n:Nat} (h0:0<=x) (h:x < n):x.natAbs < n:=by
 obtain ⟨k,rfl⟩:=Int.eq_ofNat_of_zero_le h0
 exact Int.ofNat_lt.mp h
theorem bk1 {s c:Int} (hs:0<=s/\s < 2147483629) (hc:0<=c/\c<=100000):(s+15485867 * (c+1)+13).natAbs < B64:=eq_739 (by omega) (by show _ < (18446744073709551616:Int);omega)
theorem bk2 {x c:Int} (hs:0<=x/\x < 2147483647) (hc:0<=c/\c<=100000):(x * 48271+7919 * (c+1)).natAbs < B64:=eq_739 (by omega) (by show _ < (18446744073709551616:Int);omega)
theorem eq_249 {m:Int} {n:Nat} {H:Hp} {Q:QE} (hm:0 < m/\m<=1048576) (hn:n<=100000) (hH:zR n H) (q:∀(d:Int) (H:Hp),0<=d/\d < m->zR (n+1) H->Q (.int d) H):fI [] 54 (yn 54) [.ref 0,.int m] H Q:=by
 obtain ⟨g,s,c,tl,rfl,hg,hs,hc⟩:=hH
 kd_p
 refine br (fun e=>?_) fun e=>?_<;>kd_p
 ·refine os (eq_716 hm.1) ?_;kd_p
  refine os (eq_298 hm.1 (eq_739 (Int.le_of_lt hm.1) (Int.lt_of_le_of_lt hm.2 (by decide)))) ?_;kd_p
  exact q _ _ (em hm.1) ⟨_,s,c,tl,rfl,Int.ediv_nonneg hg (Int.le_of_lt hm.1),hs,hc.1,Int.le_trans hc.2 (Int.ofNat_le.mpr (Nat.le_succ n))⟩
 ·have hc2:0<=c/\c<=100000:=⟨hc.1,Int.le_trans hc.2 (Int.ofNat_le.mpr hn)⟩
  refine os (eq_604 (bk1 hs hc2) (by decide)) ?_;kd_p
  refine os (eq_923 (.inr (by decide))) ?_;kd_p
  refine os (eq_604 (bk2 (em (by decide)) hc2) (by decide)) ?_;kd_p
  refine os (eq_716 hm.1) ?_;kd_p
  exact q _ _ (em hm.1) ⟨g,s,_,tl,rfl,hg,hs,Int.le_trans hc.1 (Int.le_add_of_nonneg_right (by decide)),Int.add_le_add_right hc.2 1⟩
def hxI (w:Nat) (H0:Hp) (d:Nat) (lo:Lo) (H:Hp):Prop:=∃(v:Nat) (f:List Nat),H=H0/\lo 29393320959=some (.int v)/\lo 563730138767483=some (.str f)/\f.length<=100/\Nat.casesOn (motive:=fun _=>Prop) d (v=0/\f=zK 16 w) fun d=>zK 16 v++f=zK 16 w/\(zK 16 v).length=d+1/\(0 < v∨f=[])
theorem hx_s {w v d:Nat} {f:List Nat} (e1:zK 16 v++f=zK 16 w) (e2:(zK 16 v).length=d+1):Nat.casesOn (motive:=fun _=>Prop) d (v / 16=0/\yi (v % 16)::f=zK 16 w) fun d=>zK 16 (v / 16)++yi (v % 16)::f=zK 16 w/\(zK 16 (v / 16)).length=d+1/\(0 < v / 16∨yi (v % 16)::f=[]):=by
 by_cases p:v < 16
 ·rw [eq_832 (by decide),if_pos p] at e1 e2
  obtain rfl:0=d:=Nat.succ.inj e2
  exact ⟨Nat.div_eq_of_lt p,by rw [Nat.mod_eq_of_lt p];exact e1⟩
 ·rw [eq_832 (by decide),if_neg p] at e1 e2
  rw [List.length_append] at e2
  have e2:=Nat.succ.inj e2
  cases d with
  | zero=>exact (eq_906 (b:=16) (by decide) _ (List.eq_nil_of_length_eq_zero e2)).elim
  | succ d=>exact ⟨by rw [← e1,List.append_assoc];rfl,e2,.inl (Nat.div_pos (Nat.not_lt.mp p) (by decide))⟩
theorem eq_236 {w:Int} {H:Hp} {Q:QE} (h:0<=w/\w < 4294967296) (q:Q (.str (zW w)) H):fI [] 55 (yn 55) [.int w] H Q:=by
 obtain ⟨w,rfl⟩:=Int.eq_ofNat_of_zero_le h.1
 have l16:=eq_843 (n:=w) (Nat.lt_trans (Int.ofNat_lt.mp h.2) (by decide))
 obtain ⟨k,ek⟩:=Nat.exists_eq_succ_of_ne_zero (n:=(zK 16 w).length) fun e=>eq_906 (b:=16) (by decide) w (List.eq_nil_of_length_eq_zero e)
 kd_p
 refine ⟨k+2,eq_865 (hxI w H) (fun d lo H i W J k=>?_) (fun lo H i X=>?_) (k+1) _ _ ?_⟩
 ·obtain ⟨v,f,rfl,ev,ef,fl,e1,e2,e3⟩:=i
  kd_p
  refine os ev ?_;kd_p
  refine eq_884 (C:=?C) (fun e c=>?_) (fun e c=>?_) ?_;rotate_left
  ·exact c
  ·kd_p
   refine os ef ?_;kd_p
   refine zu (dT (e3.resolve_left fun z=>fD e (Int.ofNat_lt.mpr z))) ?_;kd_p
   exact c
  refine os ev ?_;kd_p
  have m16:v % 16 < 16:=Nat.mod_lt v (by decide)
  refine os (eq_916 (x:=HEX) (i:=v % 16) (by decide) (congrArg (·.2.2.2.2) (eq_904 m16))) ?_;kd_p
  refine os ef ?_;kd_p
  refine os (eq_922 (Nat.le_trans (Nat.add_le_add_left fl 1) (by decide))) ?_;kd_p
  refine os ev ?_;kd_p
  have lf:f.length+1<=100:=Nat.le_trans (Nat.add_le_add_left (Nat.le_add_left 1 d) _) (Nat.le_trans (Nat.le_of_eq (by rw [← e2,Nat.add_comm,← List.length_append,e1])) (Nat.le_trans l16 (by decide)))
  exact k _ _ ⟨v / 16,yi (v % 16)::f,rfl,rfl,rfl,lf,hx_s e1 e2⟩
 ·obtain ⟨v,f,rfl,ev,ef,fl,rfl,rfl⟩:=i
  kd_p
  refine os ev ?_;kd_p
  refine os ef ?_;kd_p
  refine zg (dF (eq_906 (by decide) w)) ?_;kd_p
  refine os ef ?_;kd_p
  refine os (eq_922 (Nat.le_trans (Nat.add_le_add_left fl 2) (by decide))) ?_;kd_p
  exact cq (congrArg V.str (eq_893 (Int.natCast_nonneg w)).symm) q
 ·exact ⟨w,[],rfl,rfl,rfl,by decide,List.append_nil _,ek,.inr rfl⟩
theorem eq_755 {a b c d e:Int} {H:Hp} {P:Int->Prop} (he:0<=e/\e < 4) (h0:P a) (h1:P b) (h2:P c) (h3:P d):∃x,yK .sub [.nd .lst [.int a,.int b,.int c,.int d],.int e] H=some (.int x,H)/\P x:=by
 obtain ⟨n,rfl⟩:=Int.eq_ofNat_of_zero_le he.1
 match n,Int.ofNat_lt.mp he.2 with
 | 0,_=>exact ⟨a,rfl,h0⟩
 | 1,_=>exact ⟨b,rfl,h1⟩
 | 2,_=>exact ⟨c,rfl,h2⟩
 | 3,_=>exact ⟨d,rfl,h3⟩
noncomputable def fe (rd r1 im:Int):Ix:=⟨tx 5,.fe,15,0,0,rd,r1,0,im,0⟩
section
variable {rd r1 im:Int}
theorem eq_279:decide ((tx 5,Kd.fe.i,(15:Int),(0:Int),(0:Int))∈yu.map fun r=>(r.1,r.2.1.i,r.2.2))=true:=by kernel_rfl
theorem eq_857 (h1:0<=rd/\rd < 32) (h2:0<=r1/\r1 < 32) (h3:0<=im/\im < 4096):Ok (fe rd r1 im) where
 row:=by
  obtain ⟨r,m,e⟩:=List.mem_map.mp (tD eq_279)
  have k:r.2.1=.fe:=(eq_856 r.2.1).symm.trans (congrArg (fun z:List Nat×Nat×Int×Int×Int=>kdO (kdS.getD z.2.1 [])) e)
  have e1:=congrArg (·.1) e
  have e2:=congrArg (·.2.2) e
  exact (show r=(tx 5,Kd.fe,15,0,0) from Prod.ext e1 (Prod.ext k e2))▸m
 rd:=⟨h1.1,Int.le_of_lt_add_one h1.2,Int.emod_one _⟩
 r1:=⟨h2.1,Int.le_of_lt_add_one h2.2,Int.emod_one _⟩
 r2:=rfl
 im:=⟨h3.1,Int.le_of_lt_add_one h3.2,Int.emod_one _⟩
 cs:=rfl
theorem eq_631:Sc (fe rd r1 im):=fun h=>absurd h (show ¬ tx 5=tx 6 by decide)
theorem eq_544 (h1:0<=rd/\rd < 32) (h2:0<=r1/\r1 < 32) (h3:0<=im/\im < 4096):z8 (fe rd r1 im)=im * 2 ^ 20+r1 * 2 ^ 15+rd * 2 ^ 7+15:=by
 have d:=dk (eq_857 h1 h2 h3) rfl
 refine d.1.trans ((sm_ d.2.1 rfl).trans ?_)
 show (0 * 2 ^ 12+(15 * 2 ^ 0+(rd * 2 ^ 7+(r1 * 2 ^ 15+(im % 4096 * 2 ^ 20+0)))):Int)=_
 rw [Int.emod_eq_of_lt h3.1 h3.2]
 omega
theorem fe_w (w:yI (fe rd r1 im)=false):lnT (ln (fe rd r1 im))=[46,119,111,114,100,32]++zW (z8 (fe rd r1 im)):=by
 have e:ln (fe rd r1 im)=bif yI (fe rd r1 im) then (tx 5,[.st (im / 16),.st (im % 16)]) else (tx 3,[.hx (z8 (fe rd r1 im))]):=rfl
 rw [e,w]
 exact congrArg ([46,119,111,114,100,32]++·) (List.append_nil (zW (z8 (fe rd r1 im))))
theorem fe_f (w:yI (fe rd r1 im)=true):lnT (ln (fe rd r1 im))=[102,101,110,99,101,32]++yD (im / 16)++[44,32]++yD (im % 16):=by
 have e:ln (fe rd r1 im)=bif yI (fe rd r1 im) then (tx 5,[.st (im / 16),.st (im % 16)]) else (tx 3,[.hx (z8 (fe rd r1 im))]):=rfl
 rw [e,w,List.append_assoc,List.append_assoc]
 exact congrArg (fun z=>[102,101,110,99,101,32]++(yD (im / 16)++([44,32]++z))) (List.append_nil (yD (im % 16)))
theorem eq_889 (h:0 < rd∨0 < r1∨255 < im∨im % 16=0∨im < 16):yI (fe rd r1 im)=false:=Bool.eq_false_iff.mpr fun z=>by
 have z:(decide (rd=0)&&(decide (r1=0)&&(decide (im < 256)&&(decide (im % 16≠0)&&decide (16<=im)))))=true:=z
 rw [Bool.and_eq_true,Bool.and_eq_true,Bool.and_eq_true,Bool.and_eq_true] at z
 obtain ⟨a,b,c,d,e⟩:=z
 have a:=tD a
 have b:=tD b
 have c:=tD c
 have d:=tD d
 have e:=tD e
 omega
theorem fe_y (a:rd=0) (b:r1=0) (c:¬ 255 < im) (d:¬ im % 16=0) (e:¬ im < 16):yI (fe rd r1 im)=true:=by
 show (decide (rd=0)&&(decide (r1=0)&&(decide (im < 256)&&(decide (im % 16≠0)&&decide (16<=im)))))=true
 rw [dT a,dT b,dT (show im < 256 from Int.lt_add_one_of_le (Int.not_lt.mp c)),dT d,dT (Int.not_lt.mp e)];rfl
end
theorem eq_935 {n m:Nat} {H:Hp} (h:zR n H) (le:n<=m):zR m H:=h.imp fun _ z=>z.imp fun _ z=>z.imp fun _ z=>z.imp fun _ z=>⟨z.1,z.2.1,z.2.2.1,z.2.2.2.1,Int.le_trans z.2.2.2.2 (Int.ofNat_le.mpr le)⟩
theorem fe_t {rd r1 im:Int} (h1:0<=rd/\rd < 32) (h2:0<=r1/\r1 < 32) (h3:0<=im/\im < 4096) (w:yI (fe rd r1 im)=false) {k:Nat} {H:Hp} {Q:QE} (hH:zR k H) {n:Nat} (le:k<=n) (q:∀i H,Ok i->Sc i->zR n H->Q (Xw i) H):Q (.nd .tup [xK (fe rd r1 im),.str ([46,119,111,114,100,32]++zW (im * 2 ^ 20+r1 * 2 ^ 15+rd * 2 ^ 7+15))]) H:=
 cq (congrArg (fun z=>V.nd .tup [xK (fe rd r1 im),.str z]) ((congrArg (fun z=>[46,119,111,114,100,32]++zW z) (eq_544 h1 h2 h3).symm).trans (fe_w w).symm)) (q _ _ (eq_857 h1 h2 h3) eq_631 (eq_935 hH le))
theorem eq_632 {rd r1 im:Int} (h1:0<=rd/\rd < 32) (h2:0<=r1/\r1 < 32) (h3:0<=im/\im < 4096):0<=im * 2 ^ 20+r1 * 2 ^ 15+rd * 2 ^ 7+15/\im * 2 ^ 20+r1 * 2 ^ 15+rd * 2 ^ 7+15 < 4294967296:=eq_544 h1 h2 h3▸eq_905 (eq_857 h1 h2 h3)
theorem eq_625 {w:Int} (h:0<=w/\w < 4294967296) {n:Nat} (hn:n<=1000):n+(zW w).length<=100000:=Nat.le_trans (Nat.add_le_add hn (eq_894 h.1 (yd (n:=32) h (by decide)))) (by decide)
theorem eq_756 {b:Int} (h:0 < b/\b < 16):(yD b).length<=40:=(otE (ziA (o:=.st b) h)).2.1
theorem eq_608 {b:Int} (h:0 < b/\b < 16) {n:Nat} (hn:n<=1000):n+(yD b).length<=100000:=Nat.le_trans (Nat.add_le_add hn (eq_756 h)) (by decide)
theorem eq_610 {b:Int} {x:List Nat} {n:Nat} (h:0 < b/\b < 16) (hx:x.length<=100) (hn:n<=1000):(x++yD b).length+n<=100000:=by
 rw [List.length_append]
 exact Nat.le_trans (Nat.add_le_add (Nat.add_le_add hx (eq_756 h)) hn) (by decide)
theorem eq_609 {b c:Int} {x y:List Nat} (h:0 < b/\b < 16) (h2:0 < c/\c < 16) (hx:x.length<=100) (hy:y.length<=100):(x++yD b++y).length+(yD c).length<=100000:=by
 rw [List.length_append,List.length_append]
 exact Nat.le_trans (Nat.add_le_add (Nat.add_le_add (Nat.add_le_add hx (eq_756 h)) hy) (eq_756 h2)) (by decide)
theorem fe_l {im:Int} (h3:0<=im/\im < 4096) (w:yI (fe 0 0 im)=true) {k:Nat} {H:Hp} {Q:QE} (hH:zR k H) {n:Nat} (le:k<=n) (q:∀i H,Ok i->Sc i->zR n H->Q (Xw i) H):Q (.nd .tup [xK (fe 0 0 im),.str ([102,101,110,99,101,32]++yD (im / 16)++[44,32]++yD (im % 16))]) H:=
 cq (congrArg (fun z=>V.nd .tup [xK (fe 0 0 im),.str z]) (fe_f w).symm) (q _ _ (eq_857 (by decide) (by decide) h3) eq_631 (eq_935 hH le))
theorem e_0 {im:Int}:im * 2 ^ 20+0 * 2 ^ 15+0 * 2 ^ 7+15=im * 2 ^ 20+15:=by omega
theorem eq_363 {im:Int} (h3:0<=im/\im < 4096) (w:yI (fe 0 0 im)=false) {k:Nat} {H:Hp} {Q:QE} (hH:zR k H) {n:Nat} (le:k<=n) (q:∀i H,Ok i->Sc i->zR n H->Q (Xw i) H):Q (.nd .tup [xK (fe 0 0 im),.str ([46,119,111,114,100,32]++zW (im * 2 ^ 20+15))]) H:=e_0▸fe_t (rd:=0) (r1:=0) (by decide) (by decide) h3 w hH le q
theorem eq_280 {im:Int} (h3:0<=im/\im < 4096):0<=im * 2 ^ 20+15/\im * 2 ^ 20+15 < 4294967296:=e_0▸eq_632 (rd:=0) (r1:=0) (by decide) (by decide) h3
theorem eq_303 {n:Nat} {H:Hp} {Q:QE} (hn:n<=90000) (hH:zR n H) (q:∀i H,Ok i->Sc i->zR (n+20) H->Q (Xw i) H):fI [] 60 (yn 60) [.ref 0] H Q:=by
 kd_p
 refine ⟨16,n,rfl,by decide,Nat.le_trans hn (by decide),hH,fun d1 H b1 hH=>?_⟩;kd_p
 refine ⟨4,n+1,rfl,by decide,Nat.le_trans (Nat.add_le_add_right hn 1) (by decide),hH,fun d2 H b2 hH=>?_⟩;kd_p
 obtain ⟨x,ex,hx⟩:=eq_755 (H:=H) (P:=fun x=>0<=x/\x < 16) b2 (a:=8) (b:=15) (c:=1) (d:=d1) (by decide) (by decide) (by decide) b1
 refine os ex ?_;kd_p
 refine ⟨16,n+2,rfl,by decide,Nat.le_trans (Nat.add_le_add_right hn 2) (by decide),hH,fun d3 H b3 hH=>?_⟩;kd_p
 refine ⟨4,n+3,rfl,by decide,Nat.le_trans (Nat.add_le_add_right hn 3) (by decide),hH,fun d4 H b4 hH=>?_⟩;kd_p
 obtain ⟨y,ey,hy⟩:=eq_755 (H:=H) (P:=fun x=>0<=x/\x < 16) b4 (a:=4) (b:=15) (c:=0) (d:=d3) (by decide) (by decide) (by decide) b3
 refine os ey ?_;kd_p
 refine ⟨4,n+4,rfl,by decide,Nat.le_trans (Nat.add_le_add_right hn 4) (by decide),hH,fun d5 H b5 hH=>?_⟩;kd_p
 refine br (fun e=>?_) fun e=>?_<;>kd_p
 ·refine ⟨32,n+5,rfl,by decide,Nat.le_trans (Nat.add_le_add_right hn 5) (by decide),hH,fun rd H brd hH=>?_⟩;kd_p
  refine ⟨32,n+6,rfl,by decide,Nat.le_trans (Nat.add_le_add_right hn 6) (by decide),hH,fun r1 H br1 hH=>?_⟩;kd_p
  refine ⟨16,n+7,rfl,by decide,Nat.le_trans (Nat.add_le_add_right hn 7) (by decide),hH,fun hg H bhg hH=>?_⟩;kd_p
  have bi:0<=16 * x+y+256 * hg/\16 * x+y+256 * hg < 4096:=by omega
  have ok:=eq_857 brd br1 bi
  refine eq_884 (C:=yI (fe rd r1 (16 * x+y+256 * hg))=false->?C) (fun e c=>?_) (fun e0 c=>?_) ?_;rotate_left
  ·exact c (eq_889 (.inl (tD e)))
  ·kd_p
   refine br (fun e=>?_) fun e1=>?_<;>kd_p
   ·exact c (eq_889 (.inr (.inl (tD e))))
   refine br (fun e=>?_) fun e2=>?_<;>kd_p
   ·exact c (eq_889 (.inr (.inr (.inl (tD e)))))
   refine br (fun e=>?_) fun e3=>?_<;>kd_p
   ·exact c (eq_889 (.inr (.inr (.inr (.inl (tD e))))))
   refine br (fun e=>?_) fun e4=>?_<;>kd_p
   ·exact c (eq_889 (.inr (.inr (.inr (.inr (tD e))))))
   refine zg e3 ?_;kd_p
   refine zg e4 ?_;kd_p
   have w:yI (fe 0 0 (16 * x+y+256 * hg))=true:=fe_y rfl rfl (fD e2) (fD e3) (fD e4)
   refine ⟨_,⟨Int.le_of_lt (eq_938 w).1.1,(eq_938 w).1.2⟩,rfl,?_⟩;kd_p
   refine os (eq_922 (eq_608 (eq_938 w).1 (by decide))) ?_;kd_p
   refine os (eq_922 (eq_610 (eq_938 w).1 (by decide) (by decide))) ?_;kd_p
   refine ⟨_,⟨Int.le_of_lt (eq_938 w).2.1,(eq_938 w).2.2⟩,rfl,?_⟩;kd_p
   refine os (eq_922 (eq_609 (eq_938 w).1 (eq_938 w).2 (by decide) (by decide))) ?_;kd_p
   exact fe_l bi w hH (Nat.add_le_add_left (show 8<=20 by decide) n) q
  ·intro w
   kd_p
   refine os (eq_923 (.inr (by decide))) ?_;kd_p
   refine os (eq_923 (.inr (by decide))) ?_;kd_p
   refine os (eq_923 (.inr (by decide))) ?_;kd_p
   have bw:=eq_632 brd br1 bi
   refine ⟨_,bw,rfl,?_⟩;kd_p
   refine os (eq_922 (eq_625 bw (by decide))) ?_;kd_p
   exact fe_t brd br1 bi w hH (Nat.add_le_add_left (show 8<=20 by decide) n) q
 ·have bi:0<=16 * x+y/\16 * x+y < 256:=by omega
  have bi2:0<=16 * x+y/\16 * x+y < 4096:=by omega
  refine eq_884 (C:=yI (fe 0 0 (16 * x+y))=false->?D) (fun e c=>?_) (fun e3 c=>?_) ?_;rotate_left
  ·exact c (eq_889 (.inr (.inr (.inr (.inl (tD e))))))
  ·kd_p
   refine br (fun e=>?_) fun e4=>?_<;>kd_p
   ·exact c (eq_889 (.inr (.inr (.inr (.inr (tD e))))))
   have w:yI (fe 0 0 (16 * x+y))=true:=fe_y rfl rfl (Int.not_lt.mpr (Int.le_of_lt_add_one bi.2)) (fD e3) (fD e4)
   refine ⟨_,⟨Int.le_of_lt (eq_938 w).1.1,(eq_938 w).1.2⟩,rfl,?_⟩;kd_p
   refine os (eq_922 (eq_608 (eq_938 w).1 (by decide))) ?_;kd_p
   refine os (eq_922 (eq_610 (eq_938 w).1 (by decide) (by decide))) ?_;kd_p
   refine ⟨_,⟨Int.le_of_lt (eq_938 w).2.1,(eq_938 w).2.2⟩,rfl,?_⟩;kd_p
   refine os (eq_922 (eq_609 (eq_938 w).1 (eq_938 w).2 (by decide) (by decide))) ?_;kd_p
   exact fe_l bi2 w hH (Nat.add_le_add_left (show 5<=20 by decide) n) q
  ·intro w
   kd_p
   refine os (eq_923 (.inr (by decide))) ?_;kd_p
   have bw:=eq_280 bi2
   refine ⟨_,bw,rfl,?_⟩;kd_p
   refine os (eq_922 (eq_625 bw (by decide))) ?_;kd_p
   exact eq_363 bi2 w hH (Nat.add_le_add_left (show 5<=20 by decide) n) q
noncomputable def xr (x:List Nat):Row:=(yu.find? fun r=>decide (r.1=x)).getD ([],.sy,0,0,0)
noncomputable def gK (s:List Nat):Nat:=(y8.map (·.1)).findIdx fun x=>decide (x=s)
noncomputable def gKd (n:Nat):Kd:=[Kd.fe,.R,.I,.sh,.I,.S,.B,.U,.J,.cw,.ci,.fl,.sy].getD n .sy
noncomputable def grC (n:Nat) (x:List Nat):Bool:=Nat.ble x.length 21&&((yu.find? fun r=>decide (r.1=x)).isSome&&bif Nat.beq n 12 then (bif decide (x=tx 6) then Nat.beq (xr x).2.1.i 7 else Nat.beq (xr x).2.1.i 11) else Nat.beq (xr x).2.1.i (gKd n).i&&(!(decide (x=tx 6))&&decide ((decide (x=tx 4)||decide ((xr x).2.2.1=3))=Nat.beq n 4)))
theorem gr_t:y8.all (fun p=>Nat.beq (gK p.1) 0||p.2.all (grC (gK p.1)))=true:=by kernel_rfl
theorem eq_741 {r:Int} {H:Hp} (h:qn r):yK .sub [Zd YO,.int r] H=some (.str (reg r),H):=by
 obtain ⟨n,rfl⟩:=Int.eq_ofNat_of_zero_le h.1
 exact yS (f:=fun n:Nat=>yK .sub [Zd YO,.int n] H) (g:=fun n:Nat=>some (.str (reg n),H)) 32 (by kernel_rfl) (Int.ofNat_lt.mp h.2)
noncomputable def gz (x:List Nat) (k:Kd) (rd r1 r2 im cs:Int):Ix:=⟨x,k,(xr x).2.2.1,(xr x).2.2.2.1,(xr x).2.2.2.2,rd,r1,r2,im,cs⟩
structure Gx (n:Nat) (x:List Nat) (k:Kd):Prop where
 row:(x,k,(xr x).2.2.1,(xr x).2.2.2.1,(xr x).2.2.2.2)∈yu
 ld:(decide (x=tx 4)||decide ((xr x).2.2.1=3))=Nat.beq n 4
 sc:x≠tx 6
theorem eq_749 {p:List Nat×List (List Nat)} {x:List Nat} (hp:p∈y8) (hx:x∈p.2) (h0:gK p.1≠0):grC (gK p.1) x=true:=by
 have z:=List.all_eq_true.mp gr_t p hp
 rw [show Nat.beq (gK p.1) 0=false from Bool.eq_false_iff.mpr fun z=>h0 (Nat.eq_of_beq_eq_true z),Bool.false_or] at z
 exact List.all_eq_true.mp z x hx
theorem eq_713 {x:List Nat} {k:Kd} (h:(yu.find? fun r=>decide (r.1=x)).isSome=true) (hk:Nat.beq (xr x).2.1.i k.i=true):(x,k,(xr x).2.2.1,(xr x).2.2.2.1,(xr x).2.2.2.2)∈yu:=by
 obtain ⟨r,e⟩:=Option.isSome_iff_exists.mp h
 have m:=List.mem_of_find?_eq_some e
 have en:r.1=x:=of_decide_eq_true (p:=r.1=x) (List.find?_some (p:=fun r:Row=>decide (r.1=x)) e)
 have er:xr x=r:=by unfold xr;rw [e];rfl
 rw [er] at hk
 rw [er,← en,show k=r.2.1 from (eq_856 k).symm.trans ((congrArg (fun z=>kdO (kdS.getD z [])) (Nat.eq_of_beq_eq_true hk).symm).trans (eq_856 r.2.1))]
 exact m
theorem gx_ {p:List Nat×List (List Nat)} {x:List Nat} (hp:p∈y8) (hx:x∈p.2) {n:Nat} (hn:gK p.1=n) (h0:n≠0) (h12:Nat.beq n 12=false):Gx n x (gKd n):=by
 have z:=eq_749 hp hx (hn▸h0)
 rw [hn] at z
 unfold grC at z
 rw [h12,Bool.and_eq_true,Bool.and_eq_true,cond_false,Bool.and_eq_true,Bool.and_eq_true] at z
 exact ⟨eq_713 z.2.1 z.2.2.1,tD z.2.2.2.2,fun e=>Bool.false_ne_true ((nT (dT e)).symm.trans z.2.2.2.1)⟩
theorem lx_ {p:List Nat×List (List Nat)} {x:List Nat} (hp:p∈y8) (hx:x∈p.2) (h0:gK p.1≠0):x.length<=21 * 1:=Nat.le_of_ble_eq_true (Bool.and_eq_true_iff.mp (eq_749 hp hx h0)).1
def Lb (k:Nat) (s:List Nat):Prop:=s.length<=21 * k
theorem zd {a b:Nat} {s t:List Nat} (h1:Lb a s) (h2:Lb b t):Lb (a+b) (s++t):=by
 unfold Lb
 rw [List.length_append,Nat.mul_add]
 exact Nat.add_le_add h1 h2
theorem zi {a b:Nat} {s t:List Nat} {H:Hp} (h1:Lb a s) (h2:Lb b t) (h:a+b<=1000):yK (.bin .Add) [.str s,.str t] H=some (.str (s++t),H):=eq_922 (Nat.le_trans (Nat.add_le_add h1 h2) (by rw [← Nat.mul_add];exact Nat.le_trans (Nat.mul_le_mul_left 21 h) (by decide)))
theorem ym:Lb 1 [32]:=show 1<=21 by decide
theorem yF:Lb 1 [44,32]:=show 2<=21 by decide
theorem lb3:Lb 1 [40]:=show 1<=21 by decide
theorem lb4:Lb 1 [41]:=show 1<=21 by decide
theorem zq {r:Int} (h:qn r):Lb 1 (reg r):=Nat.le_trans (eq_839 h) (by decide)
theorem rb {r:Int} (h:0<=r/\r < 32):fld true (0,31,1) r:=⟨h.1,Int.le_of_lt_add_one h.2,Int.emod_one _⟩
theorem eq_924 {i:Int} (h:yh i):Lb 1 (yc i):=eq_881 h
theorem hx_b {i:Int} (h:0<=i/\i < 4294967296):Lb 1 (zW i):=Nat.le_trans (eq_894 h.1 (yd (n:=32) h (by decide))) (by decide)
theorem eq_874 {x:Int} (h:0<=x/\x < 4096):Lb 1 (ZP x):=Nat.le_trans (eq_529 h) (by decide)
theorem eq_855 {α:Type} {x a b c:List Nat} (f:List Nat->α):f (x++[32]++a++[44,32]++b++[44,32]++c)=f (x++32::(a++44::32::(b++44::32::(c++[])))):=by
 rw [List.append_nil,List.append_assoc,List.append_assoc,List.append_assoc,List.append_assoc,List.append_assoc];rfl
theorem eq_712 {α:Type} {x a b:List Nat} (f:List Nat->α):f (x++[32]++a++[44,32]++b)=f (x++32::(a++44::32::(b++[]))):=by
 rw [List.append_nil,List.append_assoc,List.append_assoc,List.append_assoc];rfl
theorem eq_527 {α:Type} {x a s b:List Nat} (f:List Nat->α):f (x++[32]++a++[44,32]++s++[40]++b++[41])=f (x++32::(a++44::32::((s++40::(b++[41]))++[]))):=by
 rw [List.append_nil,List.append_assoc,List.append_assoc,List.append_assoc,List.append_assoc,List.append_assoc,List.append_assoc];rfl
theorem eq_891 {H:Hp} {i:Int} (h:yh i):zh1 [.int i] H=some (.str (yc i)):=yY h
theorem eq_926 {x:Int} {n:Int} (h:-n<=x/\x<=n) (hn:n<=2097152):yh x:=by show x.natAbs < 18446744073709551616;omega
theorem lnI {x:List Nat} {a b c im cs:Int} {m:Bool} (e:(decide (x=tx 4)||decide ((xr x).2.2.1=3))=m):x++32::yZ (bif m then [.rg a,.mm im b] else [.rg a,.rg b,.dc im])=lnT (ln (gz x .I a b c im cs)):=by
 show _=lnT (x,bif decide (x=tx 4)||decide ((xr x).2.2.1=3) then _ else _)
 rw [e]
 cases m<;>rfl
theorem eq_627 {p:List Nat×List (List Nat)} {a b:List Nat} (h:decide (p.1∈[a,b])=true) (n:decide (p.1=a)=false):gK p.1=gK b:=congrArg gK ((List.mem_cons.mp (tD h)).elim (fun e=>(fD n e).elim) List.mem_singleton.mp)
theorem rw_t {H:Hp}:(List.range 36).map (fun n:Nat=>yK .sub [.nd .lst (xj csK csI),.int n] H)=(List.range 36).map fun n:Nat=>some (.nd .tup [.int (csI.getD n 0),.str (csK.getD n [])],H):=by kernel_rfl
theorem rw_b:(List.range 36).map (fun n:Nat=>decide (0<=csI.getD n 0/\csI.getD n 0 < 4096))=(List.range 36).map fun _=>true:=by kernel_rfl
theorem x_rw {d:Int} {H:Hp} (h:0<=d/\d < 36):∃c s,yK .sub [.nd .lst (xj csK csI),.int d] H=some (.nd .tup [.int c,.str s],H)/\0<=c/\c < 4096:=by
 obtain ⟨n,rfl⟩:=Int.eq_ofNat_of_zero_le h.1
 exact ⟨_,_,yS 36 rw_t (Int.ofNat_lt.mp h.2),tD (yS 36 rw_b (Int.ofNat_lt.mp h.2))⟩
theorem eq_828 {l:List V} (h:l=xj csK csI):l.length<=1000:=h▸by decide
def zaA (c:Int) (v:V):Bool:=decide (iO ((dV v).getD 0 .none)=c)
def zbY (v:V):V:=(dV v).getD 1 .none
theorem eq_585:∀(ks:List (List Nat)) (vs:List Int),∀v∈xj ks vs,∃y s,v=.nd .tup [.int y,.str s]
 | [],_,_=>nofun
 | _::_,[],_=>nofun
 | k::ks,y::vs,v=>fun m=>(List.mem_cons.mp m).elim (fun e=>⟨y,k,e⟩) (eq_585 ks vs v)
theorem eq_584 {v:V} (m:v∈xj csK csI):∃y s,v=.nd .tup [.int y,.str s]:=eq_585 _ _ v m
theorem eq_586 {l:List V} {c:Int} {y:V} (h:l=xj csK csI):((l.filter (zaA c)).map zbY).length+[y].length<=100000:=by
 rw [List.length_map]
 exact Nat.le_trans (Nat.add_le_add_right (Nat.le_trans (List.length_filter_le _ _) (eq_828 h)) 1) (by decide)
theorem rw_g (x:Int) (d:List Nat):∀(ks:List (List Nat)) (vs:List Int),(((xj ks vs).filter (zaA x)).map zbY++[.str d])[0]?=some (.str (csF ks vs x d))
 | [],_=>rfl
 | _::_,[]=>rfl
 | k::ks,y::vs=>by
  show ((((V.nd .tup [.int y,.str k])::xj ks vs).filter (zaA x)).map zbY++[.str d])[0]?=some (.str (bif decide (y=x) then k else csF ks vs x d))
  have p:zaA x (V.nd .tup [.int y,.str k])=decide (y=x):=rfl
  cases e:decide (y=x) with
  | true=>rw [List.filter_cons_of_pos (p.trans e)];rfl
  | false=>rw [List.filter_cons_of_neg (by rw [p,e];exact Bool.false_ne_true)];exact rw_g x d ks vs
theorem eq_300 {a b:List V} {H:Hp} (h:a.length+b.length<=100000):yK (.bin .Add) [.nd .lst a,.nd .lst b] H=some (.nd .lst (a++b),H):=by
 show hr H (wo _ _)=_
 rw [yY h];rfl
theorem rw_1 {l:List V} (h:l=xj csK csI) (H:Hp) {x:Int} (hx:0<=x):yK .sub [.nd .lst ((l.filter (zaA x)).map zbY++[.str (zW x)]),.int 0] H=some (.str (ZP x),H):=by
 refine eq_940 ((yY (by rw [List.length_append];exact Nat.le_trans (eq_586 h) (by decide))).trans ?_)
 rw [h]
 exact rw_g x _ _ _
noncomputable def nxG (s:List Nat):Bool:=decide (s=[102,101,110,99,101])||decide (s=[116,104,114,101,101])||decide (s∈[[110,117,109,98,101,114],[97,109,111,117,110,116]])||decide (s=[108,111,97,100])||decide (s=[115,116,111,114,101])||decide (s=[98,114,97,110,99,104])||decide (s=[117,112,112,101,114])||decide (s=[106,117,109,112])||decide (s∈[[99,115,114],[99,115,114,105]])||decide (s=[102,108,117,115,104])
theorem nx_t:y8.all (fun p=>nxG p.1||Nat.beq (gK p.1) 12)=true:=by kernel_rfl
theorem gk12 {p:List Nat×List (List Nat)} (hp:p∈y8) (e0:decide (p.1=[102,101,110,99,101])=false) (e1:decide (p.1=[116,104,114,101,101])=false) (e2:decide (p.1∈[[110,117,109,98,101,114],[97,109,111,117,110,116]])=false) (e3:decide (p.1=[108,111,97,100])=false) (e4:decide (p.1=[115,116,111,114,101])=false) (e5:decide (p.1=[98,114,97,110,99,104])=false) (e6:decide (p.1=[117,112,112,101,114])=false) (e7:decide (p.1=[106,117,109,112])=false) (e8:decide (p.1∈[[99,115,114],[99,115,114,105]])=false) (e9:decide (p.1=[102,108,117,115,104])=false):gK p.1=12:=by
 have z:=List.all_eq_true.mp nx_t p hp
 unfold nxG at z
 rw [e0,e1,e2,e3,e4,e5,e6,e7,e8,e9] at z
 exact Nat.eq_of_beq_eq_true z
theorem rb0:fld true (0,31,1) 0:=rb (by decide)
theorem im0:fld true (0,4095,1) 0:=⟨by decide,by decide,rfl⟩
theorem alo_ {p:List Nat×List (List Nat)} {x:List Nat} {n:Nat} {H:Hp} {Q:QE} (hp:p∈y8) (hx:x∈p.2) (h12:gK p.1=12) (hH:zR n H) (q:∀i H,Ok i->Sc i->zR n H->Q (Xw i) H):Q (.nd .tup [ins 255 0 [.str x,.int 0,.int 0,.int 0,.int 0,.int 0],.str x]) H:=by
 have z:=eq_749 hp hx (h12▸by decide)
 rw [h12] at z
 unfold grC at z
 rw [show Nat.beq 12 12=true from rfl,cond_true,Bool.and_eq_true,Bool.and_eq_true] at z
 have z:=z.2
 cases e:decide (x=tx 6) with
 | true=>
  rw [e] at z
  have l:lnT (ln (gz x .fe 0 0 0 0 0))=x:=by
   show lnT (bif decide (x=tx 6) then (x,[]) else _)=x
   rw [e]
   exact List.append_nil x
  exact cq (congrArg (V.nd .tup [_,.str ·]) l.symm) (q (gz x .fe 0 0 0 0 0) H ⟨eq_713 z.1 z.2,rb0,rb0,rfl,im0,rfl⟩ (fun _=>⟨rfl,rfl,rfl⟩) hH)
 | false=>
  rw [e] at z
  exact cq (congrArg (V.nd .tup [_,.str ·]) (List.append_nil x).symm) (q (gz x .sy 0 0 0 0 0) H ⟨eq_713 z.1 z.2,rfl,rfl,rfl,rfl,rfl⟩ (fun h=>(fD e h).elim) hH)
theorem eq_383:y8.all (fun p=>!(Nat.beq (gK p.1) 0)||decide (p.1=[102,101,110,99,101]))=true:=by kernel_rfl
theorem gk0 {p:List Nat×List (List Nat)} (hp:p∈y8) (h:gK p.1=0):p.1=[102,101,110,99,101]:=by
 have z:=List.all_eq_true.mp eq_383 p hp
 rw [h] at z
 exact tD z
theorem eq_253 {n:Nat} {p:List Nat×List (List Nat)} {x:List Nat} {H:Hp} {Q:QE} (hn:n<=80000) (hp:p∈y8) (hx:x∈p.2) (hH:zR n H) (q:∀i H,Ok i->Sc i->zR (n+40) H->Q (Xw i) H):fI [] 61 (yn 61) [.ref 0,.str p.1,.str x,Zd YO] H Q:=by
 kd_p
 refine br (fun e=>?_) fun e0=>?_<;>kd_p
 ·exact ⟨n,Nat.le_trans hn (by decide),rfl,hH,fun i H o sc h=>q i H o sc (eq_935 h (Nat.add_le_add_left (by decide) n))⟩
 ·refine ⟨32,n,rfl,by decide,Nat.le_trans hn (by decide),hH,fun rd H brd hH=>?_⟩;kd_p
  refine ⟨32,n+1,rfl,by decide,Nat.le_trans (Nat.add_le_add_right hn 1) (by decide),hH,fun r1 H br1 hH=>?_⟩;kd_p
  refine ⟨32,n+2,rfl,by decide,Nat.le_trans (Nat.add_le_add_right hn 2) (by decide),hH,fun r2 H br2 hH=>?_⟩;kd_p
  refine ⟨1048576,n+3,rfl,by decide,Nat.le_trans (Nat.add_le_add_right hn 3) (by decide),hH,fun dr H bdr hH=>?_⟩;kd_p
  refine ⟨4,n+4,rfl,by decide,Nat.le_trans (Nat.add_le_add_right hn 4) (by decide),hH,fun e1 H b1 hH=>?_⟩;kd_p
  obtain ⟨sm,es,hs⟩:=eq_755 (H:=H) (P:=fun x=>-2048<=x/\x<=2047) b1 (a:=dr % 4096 - 2048) (b:=-2048) (c:=2047) (d:=0) (by omega) (by decide) (by decide) (by decide)
  refine os es ?_;kd_p
  refine ⟨4,n+5,rfl,by decide,Nat.le_trans (Nat.add_le_add_right hn 5) (by decide),hH,fun e2 H b2 hH=>?_⟩;kd_p
  obtain ⟨fa,ef,hf⟩:=eq_755 (H:=H) (P:=fun x=>(-1048576<=x/\x<=1048574)/\x % 2=0) b2 (a:=2 * dr - 1048576) (b:=-1048576) (c:=1048574) (d:=0) (by omega) (by decide) (by decide) (by decide)
  refine os ef ?_;kd_p
  refine os (eq_741 brd) ?_;kd_p
  refine os (eq_741 br1) ?_;kd_p
  refine os (eq_741 br2) ?_;kd_p
  have lx:Lb 1 x:=lx_ hp hx fun z=>fD e0 (gk0 hp z)
  have ns:yh sm:=eq_926 (n:=2048) ⟨hs.1,Int.le_trans hs.2 (by decide)⟩ (by decide)
  have ns:yh sm:=eq_926 (n:=2048) ⟨hs.1,Int.le_trans hs.2 (by decide)⟩ (by decide)
  have ns:yh sm:=eq_926 (n:=2048) ⟨hs.1,Int.le_trans hs.2 (by decide)⟩ (by decide)
  have ns:yh sm:=eq_926 (n:=2048) ⟨hs.1,Int.le_trans hs.2 (by decide)⟩ (by decide)
  have ns:yh sm:=eq_926 (n:=2048) ⟨hs.1,Int.le_trans hs.2 (by decide)⟩ (by decide)
  have ns:yh sm:=eq_926 (n:=2048) ⟨hs.1,Int.le_trans hs.2 (by decide)⟩ (by decide)
  have ns:yh sm:=eq_926 (n:=2048) ⟨hs.1,Int.le_trans hs.2 (by decide)⟩ (by decide)
  have ns:yh sm:=eq_926 (n:=2048) ⟨hs.1,Int.le_trans hs.2 (by decide)⟩ (by decide)
  have ns:yh sm:=eq_926 (n:=2048) ⟨hs.1,Int.le_trans hs.2 (by decide)⟩ (by decide)
  have ns:yh sm:=eq_926 (n:=2048) ⟨hs.1,Int.le_trans hs.2 (by decide)⟩ (by decide)
  refine br (fun e=>?_) fun e1=>?_<;>kd_p
  ·have G:=gx_ hp hx (congrArg gK (tD e)) (by decide) rfl
   refine os (zi lx ym (by decide)) ?_;kd_p
   refine os (zi (zd lx ym) (zq brd) (by decide)) ?_;kd_p
   refine os (zi (zd (zd lx ym) (zq brd)) yF (by decide)) ?_;kd_p
   refine os (zi (zd (zd (zd lx ym) (zq brd)) yF) (zq br1) (by decide)) ?_;kd_p
   refine os (zi (zd (zd (zd (zd lx ym) (zq brd)) yF) (zq br1)) yF (by decide)) ?_;kd_p
   refine os (zi (zd (zd (zd (zd (zd lx ym) (zq brd)) yF) (zq br1)) yF) (zq br2) (by decide)) ?_;kd_p
   exact cq (eq_855 (V.nd .tup [_,.str ·])) (q (gz x .R rd r1 r2 0 0) H ⟨G.row,rb brd,rb br1,rb br2,rfl,rfl⟩ (fun z=>(G.sc z).elim) (eq_935 hH (Nat.add_le_add_left (show 6<=40 by decide) n)))
  refine br (fun e=>?_) fun e2=>?_<;>kd_p
  ·refine br (fun e2=>?_) fun e2=>?_<;>kd_p
   ·have G:=gx_ hp hx (congrArg gK (tD e2)) (by decide) rfl
    refine os (zi lx ym (by decide)) ?_;kd_p
    refine os (zi (zd lx ym) (zq brd) (by decide)) ?_;kd_p
    refine os (zi (zd (zd lx ym) (zq brd)) yF (by decide)) ?_;kd_p
    refine os (zi (zd (zd (zd lx ym) (zq brd)) yF) (zq br1) (by decide)) ?_;kd_p
    refine os (zi (zd (zd (zd (zd lx ym) (zq brd)) yF) (zq br1)) yF (by decide)) ?_;kd_p
    refine os (eq_891 ns) ?_;kd_p
    refine os (zi (zd (zd (zd (zd (zd lx ym) (zq brd)) yF) (zq br1)) yF) (eq_924 ns) (by decide)) ?_;kd_p
    exact cq ((eq_855 (V.nd .tup [_,.str ·])).trans (congrArg (V.nd .tup [_,.str ·]) (lnI G.ld))) (q (gz x .I rd r1 0 sm 0) H ⟨G.row,rb brd,rb br1,rfl,⟨hs.1,hs.2,Int.emod_one _⟩,rfl⟩ (fun z=>(G.sc z).elim) (eq_935 hH (Nat.add_le_add_left (show 6<=40 by decide) n)))
   ·have G:=gx_ hp hx (eq_627 e e2) (by decide) rfl
    have bm:=em (x:=dr) (n:=32) (by decide)
    have nm:yh (dr % 32):=eq_939 (by decide)
    refine os (zi lx ym (by decide)) ?_;kd_p
    refine os (zi (zd lx ym) (zq brd) (by decide)) ?_;kd_p
    refine os (zi (zd (zd lx ym) (zq brd)) yF (by decide)) ?_;kd_p
    refine os (zi (zd (zd (zd lx ym) (zq brd)) yF) (zq br1) (by decide)) ?_;kd_p
    refine os (zi (zd (zd (zd (zd lx ym) (zq brd)) yF) (zq br1)) yF (by decide)) ?_;kd_p
    refine os (eq_891 nm) ?_;kd_p
    refine os (zi (zd (zd (zd (zd (zd lx ym) (zq brd)) yF) (zq br1)) yF) (eq_924 nm) (by decide)) ?_;kd_p
    exact cq (eq_855 (V.nd .tup [_,.str ·])) (q (gz x .sh rd r1 0 (dr % 32) 0) H ⟨G.row,rb brd,rb br1,rfl,⟨bm.1,Int.le_of_lt_add_one bm.2,Int.emod_one _⟩,rfl⟩ (fun z=>(G.sc z).elim) (eq_935 hH (Nat.add_le_add_left (show 6<=40 by decide) n)))
  refine br (fun e=>?_) fun e3=>?_<;>kd_p
  ·have G:=gx_ hp hx (congrArg gK (tD e)) (by decide) rfl
   refine os (zi lx ym (by decide)) ?_;kd_p
   refine os (zi (zd lx ym) (zq brd) (by decide)) ?_;kd_p
   refine os (zi (zd (zd lx ym) (zq brd)) yF (by decide)) ?_;kd_p
   refine os (eq_891 ns) ?_;kd_p
   refine os (zi (zd (zd (zd lx ym) (zq brd)) yF) (eq_924 ns) (by decide)) ?_;kd_p
   refine os (zi (zd (zd (zd (zd lx ym) (zq brd)) yF) (eq_924 ns)) lb3 (by decide)) ?_;kd_p
   refine os (zi (zd (zd (zd (zd (zd lx ym) (zq brd)) yF) (eq_924 ns)) lb3) (zq br1) (by decide)) ?_;kd_p
   refine os (zi (zd (zd (zd (zd (zd (zd lx ym) (zq brd)) yF) (eq_924 ns)) lb3) (zq br1)) lb4 (by decide)) ?_;kd_p
   exact cq ((eq_527 (V.nd .tup [_,.str ·])).trans (congrArg (V.nd .tup [_,.str ·]) (lnI G.ld))) (q (gz x .I rd r1 0 sm 0) H ⟨G.row,rb brd,rb br1,rfl,⟨hs.1,hs.2,Int.emod_one _⟩,rfl⟩ (fun z=>(G.sc z).elim) (eq_935 hH (Nat.add_le_add_left (show 6<=40 by decide) n)))
  refine br (fun e=>?_) fun e4=>?_<;>kd_p
  ·have G:=gx_ hp hx (congrArg gK (tD e)) (by decide) rfl
   refine os (zi lx ym (by decide)) ?_;kd_p
   refine os (zi (zd lx ym) (zq br2) (by decide)) ?_;kd_p
   refine os (zi (zd (zd lx ym) (zq br2)) yF (by decide)) ?_;kd_p
   refine os (eq_891 ns) ?_;kd_p
   refine os (zi (zd (zd (zd lx ym) (zq br2)) yF) (eq_924 ns) (by decide)) ?_;kd_p
   refine os (zi (zd (zd (zd (zd lx ym) (zq br2)) yF) (eq_924 ns)) lb3 (by decide)) ?_;kd_p
   refine os (zi (zd (zd (zd (zd (zd lx ym) (zq br2)) yF) (eq_924 ns)) lb3) (zq br1) (by decide)) ?_;kd_p
   refine os (zi (zd (zd (zd (zd (zd (zd lx ym) (zq br2)) yF) (eq_924 ns)) lb3) (zq br1)) lb4 (by decide)) ?_;kd_p
   exact cq (eq_527 (V.nd .tup [_,.str ·])) (q (gz x .S 0 r1 r2 sm 0) H ⟨G.row,rfl,rb br1,rb br2,⟨hs.1,hs.2,Int.emod_one _⟩,rfl⟩ (fun z=>(G.sc z).elim) (eq_935 hH (Nat.add_le_add_left (show 6<=40 by decide) n)))
  refine br (fun e=>?_) fun e5=>?_<;>kd_p
  ·have G:=gx_ hp hx (congrArg gK (tD e)) (by decide) rfl
   have bb:(-4096<=sm / 2 * 2/\sm / 2 * 2<=4094)/\sm / 2 * 2 % 2=0:=by omega
   have nb:yh (sm / 2 * 2):=eq_926 (n:=4096) ⟨bb.1.1,Int.le_trans bb.1.2 (by decide)⟩ (by decide)
   refine os (eq_923 (.inr (by decide))) ?_;kd_p
   refine os (zi lx ym (by decide)) ?_;kd_p
   refine os (zi (zd lx ym) (zq br1) (by decide)) ?_;kd_p
   refine os (zi (zd (zd lx ym) (zq br1)) yF (by decide)) ?_;kd_p
   refine os (zi (zd (zd (zd lx ym) (zq br1)) yF) (zq br2) (by decide)) ?_;kd_p
   refine os (zi (zd (zd (zd (zd lx ym) (zq br1)) yF) (zq br2)) yF (by decide)) ?_;kd_p
   refine os (eq_923 (.inr (by decide))) ?_;kd_p
   refine os (eq_891 nb) ?_;kd_p
   refine os (zi (zd (zd (zd (zd (zd lx ym) (zq br1)) yF) (zq br2)) yF) (eq_924 nb) (by decide)) ?_;kd_p
   exact cq (eq_855 (V.nd .tup [_,.str ·])) (q (gz x .B 0 r1 r2 (sm / 2 * 2) 0) H ⟨G.row,rfl,rb br1,rb br2,⟨bb.1.1,bb.1.2,bb.2⟩,rfl⟩ (fun z=>(G.sc z).elim) (eq_935 hH (Nat.add_le_add_left (show 6<=40 by decide) n)))
  refine br (fun e=>?_) fun e6=>?_<;>kd_p
  ·have G:=gx_ hp hx (congrArg gK (tD e)) (by decide) rfl
   have hd:0<=dr/\dr < 4294967296:=⟨bdr.1,Int.lt_trans bdr.2 (by decide)⟩
   refine os (zi lx ym (by decide)) ?_;kd_p
   refine os (zi (zd lx ym) (zq brd) (by decide)) ?_;kd_p
   refine os (zi (zd (zd lx ym) (zq brd)) yF (by decide)) ?_;kd_p
   refine ⟨_,hd,rfl,?_⟩;kd_p
   refine os (zi (zd (zd (zd lx ym) (zq brd)) yF) (hx_b hd) (by decide)) ?_;kd_p
   exact cq (eq_712 (V.nd .tup [_,.str ·])) (q (gz x .U rd 0 0 dr 0) H ⟨G.row,rb brd,rfl,rfl,⟨bdr.1,Int.le_of_lt_add_one bdr.2,Int.emod_one _⟩,rfl⟩ (fun z=>(G.sc z).elim) (eq_935 hH (Nat.add_le_add_left (show 6<=40 by decide) n)))
  refine br (fun e=>?_) fun e7=>?_<;>kd_p
  ·have G:=gx_ hp hx (congrArg gK (tD e)) (by decide) rfl
   have nf:yh fa:=eq_926 (n:=1048576) ⟨hf.1.1,Int.le_trans hf.1.2 (by decide)⟩ (by decide)
   refine os (zi lx ym (by decide)) ?_;kd_p
   refine os (zi (zd lx ym) (zq brd) (by decide)) ?_;kd_p
   refine os (zi (zd (zd lx ym) (zq brd)) yF (by decide)) ?_;kd_p
   refine os (eq_891 nf) ?_;kd_p
   refine os (zi (zd (zd (zd lx ym) (zq brd)) yF) (eq_924 nf) (by decide)) ?_;kd_p
   exact cq (eq_712 (V.nd .tup [_,.str ·])) (q (gz x .J rd 0 0 fa 0) H ⟨G.row,rb brd,rfl,rfl,⟨hf.1.1,hf.1.2,hf.2⟩,rfl⟩ (fun z=>(G.sc z).elim) (eq_935 hH (Nat.add_le_add_left (show 6<=40 by decide) n)))
  refine br (fun e=>?_) fun e8=>?_<;>kd_p
  ·refine ⟨rfl,fun l hl=>?_⟩;kd_p
   refine ⟨3,n+6,rfl,by decide,Nat.le_trans (Nat.add_le_add_right hn 6) (by decide),hH,fun t H bt hH=>?_⟩;kd_p
   refine eq_884 (C:=∀(c:Int) (H:Hp),(0<=c/\c < 4096)->zR (n+8) H->(?C:Int->Hp->Prop) c H) (fun _ k=>?_) (fun _ k=>?_) ?_;rotate_left
   ·kd_p
    refine os (eq_754 (eq_828 hl)) ?_;kd_p
    refine ⟨36,n+7,by rw [hl];rfl,by decide,Nat.le_trans (Nat.add_le_add_right hn 7) (by decide),hH,fun t H bt hH=>?_⟩;kd_p
    obtain ⟨c,s,ex,hc⟩:=x_rw (H:=H) bt
    rw [← hl] at ex
    refine os ex ?_;kd_p
    exact k c H hc hH
   ·kd_p
    refine ⟨4096,n+7,rfl,by decide,Nat.le_trans (Nat.add_le_add_right hn 7) (by decide),hH,fun t H bt hH=>?_⟩;kd_p
    exact k t H bt hH
   ·intro c H hc hH
    kd_p
    refine zu (dT (Nat.le_trans (eq_828 hl) (by decide))) ?_;kd_p
    refine eq_758 g0 (fun lo=>lo 1958680=some (.int c)) (zaA c) zbY l _ _ rfl (fun v mv lo i=>?_) ?_
    ·obtain ⟨y,s,rfl⟩:=eq_584 (hl▸mv)
     refine ⟨_,rfl,i,fun K k=>?_,fun _ K k=>?_⟩<;>kd_p
     ·refine os i ?_;kd_p
      exact k _
     ·exact k _
    kd_p
    refine ⟨c,⟨hc.1,Int.lt_trans hc.2 (by decide)⟩,rfl,?_⟩;kd_p
    refine os (eq_300 (eq_586 hl)) ?_;kd_p
    have known:=rw_1 hl H hc.1 (x:=c)
    refine br (fun e2=>?_) fun e2=>?_<;>kd_p
    ·have G:=gx_ hp hx (congrArg gK (tD e2)) (by decide) rfl
     refine os (zi lx ym (by decide)) ?_;kd_p
     refine os (zi (zd lx ym) (zq brd) (by decide)) ?_;kd_p
     refine os (zi (zd (zd lx ym) (zq brd)) yF (by decide)) ?_;kd_p
     refine os known ?_;kd_p
     refine os (zi (zd (zd (zd lx ym) (zq brd)) yF) (eq_874 hc) (by decide)) ?_;kd_p
     refine os (zi (zd (zd (zd (zd lx ym) (zq brd)) yF) (eq_874 hc)) yF (by decide)) ?_;kd_p
     refine os (zi (zd (zd (zd (zd (zd lx ym) (zq brd)) yF) (eq_874 hc)) yF) (zq br1) (by decide)) ?_;kd_p
     exact cq (eq_855 (V.nd .tup [_,.str ·])) (q (gz x .cw rd r1 0 0 c) H ⟨G.row,rb brd,rb br1,rfl,rfl,⟨hc.1,Int.le_of_lt_add_one hc.2,Int.emod_one _⟩⟩ (fun z=>(G.sc z).elim) (eq_935 hH (Nat.add_le_add_left (show 8<=40 by decide) n)))
    ·have G:=gx_ hp hx (eq_627 e e2) (by decide) rfl
     have n1:yh r1:=eq_926 (n:=32) ⟨Int.le_trans (by decide) br1.1,Int.le_of_lt br1.2⟩ (by decide)
     refine os (zi lx ym (by decide)) ?_;kd_p
     refine os (zi (zd lx ym) (zq brd) (by decide)) ?_;kd_p
     refine os (zi (zd (zd lx ym) (zq brd)) yF (by decide)) ?_;kd_p
     refine os known ?_;kd_p
     refine os (zi (zd (zd (zd lx ym) (zq brd)) yF) (eq_874 hc) (by decide)) ?_;kd_p
     refine os (zi (zd (zd (zd (zd lx ym) (zq brd)) yF) (eq_874 hc)) yF (by decide)) ?_;kd_p
     refine os (eq_891 n1) ?_;kd_p
     refine os (zi (zd (zd (zd (zd (zd lx ym) (zq brd)) yF) (eq_874 hc)) yF) (eq_924 n1) (by decide)) ?_;kd_p
     exact cq (eq_855 (V.nd .tup [_,.str ·])) (q (gz x .ci rd 0 0 r1 c) H ⟨G.row,rb brd,rfl,rfl,rb br1,⟨hc.1,Int.le_of_lt_add_one hc.2,Int.emod_one _⟩⟩ (fun z=>(G.sc z).elim) (eq_935 hH (Nat.add_le_add_left (show 8<=40 by decide) n)))
  refine br (fun e=>?_) fun e9=>?_<;>kd_p
  ·have G:=gx_ hp hx (congrArg gK (tD e)) (by decide) rfl
   refine os (zi lx ym (by decide)) ?_;kd_p
   refine os (zi (zd lx ym) (zq br1) (by decide)) ?_;kd_p
   refine os (zi (zd (zd lx ym) (zq br1)) yF (by decide)) ?_;kd_p
   refine os (zi (zd (zd (zd lx ym) (zq br1)) yF) (zq br2) (by decide)) ?_;kd_p
   exact cq (eq_712 (V.nd .tup [_,.str ·])) (q (gz x .fl 0 r1 r2 0 0) H ⟨G.row,rfl,rb br1,rb br2,rfl,rfl⟩ (fun z=>(G.sc z).elim) (eq_935 hH (Nat.add_le_add_left (show 6<=40 by decide) n)))
  exact alo_ hp hx (gk12 hp e0 e1 e2 e3 e4 e5 e6 e7 e8 e9) (eq_935 hH (Nat.add_le_add_left (show 6<=40 by decide) n)) q
noncomputable def zav:V:=by
 refine (?f:(z:V)->((zbN [.nd (.vw csK) (csI.map .int)] []).getD .none=z)->V) ?s ?h
 case h=>conv=>lhs;reduce
 case f=>exact fun z _=>z
theorem srt1 {H:Hp}:zbN [.nd (.vw csK) (csI.map .int)] H=some zav:=by kernel_rfl
def swV (v:V):V:=.nd .tup [(dV v).getD 1 .none,(dV v).getD 0 .none]
theorem srt2 {H:Hp} {l:List V} (h:l=xj csK csI):zbN [.nd .lst (l.map swV)] H=some zav:=by
 subst h
 kernel_rfl
theorem srt3 {H:Hp}:yK (.cmp .NotEq) [zav,zav] H=some (.bool false,H):=by kernel_rfl
set_option profiler true
def dueV:V:=.nd (.dcs (YO++(List.range 32).map (fun k:Nat=>120::zaN k)++[[102,112]])) ((List.range 32).map (fun k:Nat=>V.int k)++(List.range 32).map (fun k:Nat=>V.int k)++[.int 8])
theorem eq_629 {bind:V->Lo->Option Lo} {g:Hp->Prop->Prop} (G:∀H P,P->g H P) {body:Lo->Hp->Kt->Jt->Prop} {Q:Lo->Hp->Prop} {J:Jt} {N:Nat} (I:Nat->Lo->Hp->Prop) (q:∀n lo H,I n lo H->Q lo H)
  (h:∀v n lo H,n < N->I n lo H->∃lo1,bind v lo=some lo1/\∀(K:Kt) (J:Jt),(∀st lo2 H2,I (n+1) lo2 H2->K st lo2 H2)->body lo1 H K J):∀(l:List V) n,n+l.length<=N->∀lo H,I n lo H->jy bind body g Q J l lo H
 | [],n,_,lo,H,i=>G _ _ (q n lo H i)
 | v::r,n,hn,lo,H,i=>G _ _ (Exists.elim (h v n lo H (Nat.lt_of_lt_of_le (Nat.lt_add_of_pos_right (Nat.succ_pos _)) hn) i) fun _ z=>eq_898 z.1 (z.2 _ _ fun _ lo2 H2 i2=>eq_629 G I q h r (n+1) (by rw [Nat.add_assoc,Nat.add_comm 1];exact hn) lo2 H2 i2))
theorem gg0 {l:List V}:∀(H:Hp) (P:Prop),P->gd none l H P:=fun _ _ p=>p
theorem x_rg {M:Int} {H:Hp} (h:0<=M/\M<=22):∃l:List V,itX false false (.nd (.rng 0 M 1) []) H=some (l,none)/\l.length<=22:=by
 refine ⟨_,yY ⟨by decide,by decide,by decide,by decide,Int.le_trans (by decide) h.1,Int.le_trans h.2 (by decide)⟩,?_⟩
 rw [List.length_map,List.length_range]
 omega
def lwI (n:Nat) (lo:Lo) (H:Hp):Prop:=lo 2059559=some (.ref 0)/\lo 4339533883854=some Yn/\lo 4336372484197=some (Zd YO)/\zR (n * 50) H
theorem gp_t {H:Hp}:(List.range 13).map (fun n:Nat=>yK .sub [Yn,.int n] H)=(List.range 13).map fun n:Nat=>some (.nd .tup [.str (y8.getD n ([],[])).1,Zd (y8.getD n ([],[])).2],H):=by kernel_rfl
theorem gp_b:(List.range 13).map (fun n:Nat=>(decide (0 < (y8.getD n ([],[])).2.length/\(y8.getD n ([],[])).2.length<=20),Nat.blt n y8.length))=(List.range 13).map fun _=>(true,true):=by kernel_rfl
theorem x_gp {d:Int} {H:Hp} (h:0<=d/\d < 13):∃p,p∈y8/\yK .sub [Yn,.int d] H=some (.nd .tup [.str p.1,Zd p.2],H)/\0 < p.2.length/\p.2.length<=20:=by
 obtain ⟨n,rfl⟩:=Int.eq_ofNat_of_zero_le h.1
 have b:=yS 13 gp_b (Int.ofNat_lt.mp h.2)
 have b1:=tD (congrArg (·.1) b)
 have b2:n < y8.length:=Nat.le_of_ble_eq_true (congrArg (·.2) b)
 refine ⟨y8.getD n ([],[]),?_,yS 13 gp_t (Int.ofNat_lt.mp h.2),b1⟩
 rw [List.getD_eq_getElem?_getD,List.getElem?_eq_getElem b2]
 exact List.getElem_mem b2
theorem x_nm {l:List (List Nat)} {d:Int} {H:Hp} (hl:l.length<=20) (h:0<=d/\d < ((l.map V.str).length:Int)):∃x,x∈l/\yK .sub [Zd l,.int d] H=some (.str x,H):=by
 obtain ⟨n,rfl⟩:=Int.eq_ofNat_of_zero_le h.1
 have b:n < l.length:=List.length_map (as:=l) V.str▸Int.ofNat_lt.mp h.2
 refine ⟨l[n],List.getElem_mem b,eq_940 ((yY (eq_927 (Nat.le_trans hl (by decide)))).trans ?_)⟩
 show (l.map V.str)[n]?=_
 rw [List.getElem?_map,List.getElem?_eq_getElem b]
 rfl
theorem nm_s:yu.map (fun r=>PyData.strOk (Sx r.1))=yu.map fun _=>true:=by kernel_rfl
theorem eq_295 {a:V} {H:Hp} {x:PyData} (h0:dv a H=none) (h1:xB a=none) (h2:yM a=none) (e:toD a=some x) (s:SeqAt.shaped x=true):yK (.cmp .NotEq) [a,a] H=some (.bool false,H):=by
 have q:eqF a a=some true:=by
  unfold eqF
  rw [h1,h2,e]
  exact (yY s).trans ((yY s).trans (congrArg some (SeqAt.eqv_refl x (SeqAt.canLay_of_shaped s))))
 show hr H (bo (neF a a H) _)=_
 unfold neF
 rw [h0,q]
 rfl
theorem eq_296 {i:Ix} (o:Ok i) {H:Hp}:yK (.cmp .NotEq) [.nd .tup [.str i.n,.int i.rd,.int i.r1,.int i.r2,.int i.im,.int i.cs],.nd .tup [.str i.n,.int i.rd,.int i.r1,.int i.r2,.int i.im,.int i.cs]] H=some (.bool false,H):=
 eq_295 (x:=.tuple [.str (Sx i.n),.int i.rd,.int i.r1,.int i.r2,.int i.im,.int i.cs]) rfl rfl rfl rfl (by
  unfold SeqAt.shaped
  rw [Bool.and_eq_true]
  refine ⟨?_,rfl⟩
  show (PyData.canLay0 (.tuple [.str (Sx i.n),.int i.rd,.int i.r1,.int i.r2,.int i.im,.int i.cs]))=true
  have hs:PyData.strOk (Sx i.n)=true:=eq_917 nm_s o
  simp only [PyData.canLay0,PyData.canLayAll0,hs];rfl)
theorem u8 {x y:Int} (h:x=y) (h0:0<=x/\x < 256):((x.toNat.toUInt8.toNat:Nat):Int)=y:=by
 obtain ⟨n,rfl⟩:=Int.eq_ofNat_of_zero_le h0.1
 exact (congrArg (fun z:Nat=>(z:Int)) (Nat.mod_eq_of_lt (Int.ofNat_lt.mp h0.2):n % 256=n)).trans h
theorem eqv4 {a b c d a' b' c' d':Int} (h1:a=a') (h2:b=b') (h3:c=c') (h4:d=d'):PyData.eqv (.list [.int a,.int b,.int c,.int d]) (.list [.int a',.int b',.int c',.int d'])=true:=by
 subst h1 h2 h3 h4
 exact SeqAt.eqv_refl _ (SeqAt.canLay_of_shaped rfl)
theorem eq_234 {l:List Int} {Q:QE} (hl:l.length<=63) (q:∀H,Q (.bool true) H):fI [] 62 (yn 62) [.nd .lst (l.map .int)] [] Q:=by
 kd_p
 refine ⟨l,hl,rfl,rfl,fun H hH=>?_⟩;kd_p
 refine os (x:=(.bool false,H)) (by kernel_rfl) ?_;kd_p
 refine ⟨zav,srt1,?_⟩;kd_p
 refine ⟨rfl,fun rs hr=>?_⟩;kd_p
 refine zu (dT (Nat.le_trans (eq_828 hr) (by decide))) ?_;kd_p
 refine cm_a g0 (fun _=>True) swV rs _ _ trivial (fun v mv lo i=>?_) ?_
 ·obtain ⟨y,s,rfl⟩:=eq_584 (hr▸mv)
  exact ⟨_,rfl,trivial,fun K k=>by kd_p;exact k _,fun K k=>by kd_p;exact k _⟩
 kd_p
 refine ⟨zav,srt2 hr,?_⟩;kd_p
 refine os srt3 ?_;kd_p
 refine ⟨dueV,by kernel_rfl,?_⟩;kd_p
 refine os (eq_754 (eq_927 (Nat.le_trans hl (by decide)))) ?_;kd_p
 obtain ⟨tl,et,lt⟩:=x_rg (H:=H) (M:=2+if (20:Int) < 2 * ((l.map V.int).length:Int) then 20 else 2 * ((l.map V.int).length:Int)) (by split<;>omega)
 refine os et ?_;kd_p
 refine zu (dT (Nat.le_trans lt (by decide))) ?_;kd_p
 refine ⟨eq_629 gg0 (N:=22) lwI (fun n lo H i=>?_) (fun v n lo H hn i=>?_) tl 0 (by rw [Nat.zero_add];exact lt) _ _ ⟨rfl,rfl,rfl,hH⟩⟩
 ·kd_p
  exact q H
 obtain ⟨e1,e2,e3,hH⟩:=i
 refine ⟨_,rfl,fun K J k=>?_⟩
 kd_p
 have hn5:n * 50<=1100:=Nat.mul_le_mul_right 50 (Nat.le_of_lt hn)
 refine os e2 ?_;kd_p
 refine os e1 ?_;kd_p
 refine ⟨13,n * 50,rfl,by decide,Nat.le_trans hn5 (by decide),hH,fun d H bd hH=>?_⟩;kd_p
 obtain ⟨p,hp,ep,p0,pl⟩:=x_gp (H:=H) bd
 refine os ep ?_;kd_p
 refine os e1 ?_;kd_p
 refine os e1 ?_;kd_p
 refine os (eq_754 (eq_927 (Nat.le_trans pl (by decide)))) ?_;kd_p
 refine ⟨_,n * 50+1,rfl,⟨?_,?_⟩,Nat.le_trans (Nat.add_le_add_right hn5 1) (by decide),hH,fun d H bd hH=>?_⟩
 ·rw [List.length_map];exact Int.ofNat_lt.mpr p0
 ·rw [List.length_map];exact Int.ofNat_le.mpr (Nat.le_trans pl (by decide))
 kd_p
 obtain ⟨x,hx,ex⟩:=x_nm (H:=H) pl bd
 refine os ex ?_;kd_p
 refine os e3 ?_;kd_p
 refine ⟨n * 50+2,p,x,Nat.le_trans (Nat.add_le_add_right hn5 2) (by decide),hp,hx,rfl,hH,fun i H o sc hH=>?_⟩;kd_p
 refine ⟨i,o,sc,rfl,?_⟩;kd_p
 refine zg (nT (dT rfl)) ?_;kd_p
 obtain ⟨w,ew⟩:∃w,z8 i=w:=⟨_,rfl⟩
 refine ⟨i,o,trivial,rfl,?_⟩
 dsimp only
 rw [ew]
 kd_p
 refine ⟨i,o,trivial,congrArg (fun z=>[V.int z]) ew.symm,?_⟩;kd_p
 refine os (eq_296 o) ?_;kd_p
 refine os e1 ?_;kd_p
 refine ⟨1000,n * 50+42,rfl,by decide,Nat.le_trans (Nat.add_le_add_right hn5 42) (by decide),hH,fun b H bb hH=>?_⟩;kd_p
 refine ⟨_,_,rfl,⟨i,4 * b,o,sc,⟨?_,?_,?_⟩,rfl,rfl⟩,?_⟩
 ·omega
 ·omega
 ·omega
 dsimp only
 rw [ew]
 kd_p
 refine ⟨i,o,trivial,rfl,?_⟩
 dsimp only
 rw [ew]
 kd_p
 refine ⟨i,o,trivial,rfl,?_⟩
 dsimp only
 rw [ew]
 kd_p
 refine ⟨i,o,trivial,rfl,?_⟩
 dsimp only
 rw [ew]
 kd_p
 refine ⟨i,o,trivial,rfl,?_⟩
 dsimp only
 rw [ew]
 kd_p
 have m (x:Int):0<=x % 256/\x % 256 < 256:=em (by decide)
 refine zg (nT (eqv4 (u8 ?_ (m _)) (u8 ?_ (m _)) (u8 ?_ (m _)) (u8 ?_ (m _)))) ?_
 ·show _=w / 1 % 256
  rw [Int.ediv_one]
 ·rfl
 ·rfl
 ·rfl
 kd_p
 exact k _ _ _ ⟨e1,e2,e3,eq_935 hH (by rw [Nat.succ_mul];exact Nat.add_le_add_left (show 43<=50 by decide) _)⟩
theorem eq_338 {c:Nat} (h:okc c=true):c∉[34,39]:=fun m=>by
 rcases List.mem_cons.mp m with rfl | m
 ·exact nomatch h
 ·obtain rfl:=List.mem_singleton.mp m
  exact nomatch h
theorem eq_256 {l:List yG} {n:Int} (ho:∀o∈l,o.ok) (hl:l.length<=3):fI [] 19 (yn 19) [.str (yZ l),.int n] [] fun v H=>fzV 6 H v=some (opV l):=by
 have ot:∀o∈l,otB o.t=true:=fun o m=>ziA (ho o m)
 cases l with
 | nil=>kd_p;exact rfl
 | cons o r=>
  obtain ⟨c,y,e,_⟩:=eq_536 (r:=r) (ot o (.head _))
  have z:=eq_258 (x:=yZ (o::r)) (l:=.int n) (R:=(o::r).map yG.t) (by rw [e];exact nofun) (Nat.le_trans (YK ot) (Nat.le_trans (Nat.mul_le_mul_left 42 hl) (by decide))) (fun c m=>eq_338 (eq_790 ot c m)) (eq_630 (.inl rfl) ot) fun m=>by
   obtain ⟨o',mo,e⟩:=List.mem_map.mp m
   exact (otE (ot o' mo)).1 e
  rw [List.map_map] at z
  exact z
theorem eq_580:∀{r:List V} {is:List Int},zB xB r=some is->r=is.map .int
 | [],_=>fun h=>Option.some.inj h▸rfl
 | v::r,_=>fun h=>(zc h).elim fun i h=>(zc h.2).elim fun is h2=>by
  obtain rfl:=Option.some.inj h2.2
  rw [eq_580 h2.1]
  cases v
  case int j=>exact congrArg (fun z=>V.int z::_) (Option.some.inj h.1)
  all_goals exact zl h.1
theorem eq_581 {us:List V} {H:Hp} {v:V} (h:zaJ us H=some v):∃(s:List Nat) (is:List Int),us=.str s::is.map V.int/\(is.length=0∨is.length=3∨is.length=4∨is.length=5)/\v=ins 255 0 (.str s::(is.map V.int++List.replicate (5 - (is.map V.int).length) (.int 0))):=by
 cases us with
 | nil=>exact zl h
 | cons n r=>
  obtain ⟨s,hs,h⟩:=zc h
  obtain ⟨is,hi,h⟩:=zc h
  obtain ⟨w,h⟩:=zm h
  obtain rfl:=Option.some.inj h
  obtain rfl:=eq_580 hi
  rw [List.length_map] at w
  refine ⟨s,is,?_,w,?_⟩
  all_goals
   cases n
   case str t=>rw [Option.some.inj hs]
   all_goals exact zl hs
def inS (cs:Nat->zG) (k:Nat):zG:=mkS 255 (fnS cs k (pT.getD 10 (0,[])).2 ((List.replicate (7 - k) (0:Int)).map .int) (cd 9))
theorem eq_235 {cs:Nat->zG} {us:List V} {v:V} (h:zaJ us []=some v):inS cs (us.length+1) us [] fun v' H'=>fzV 6 H' v'=some v:=by
 obtain ⟨s,is,rfl,w,rfl⟩:=eq_581 h
 rcases is with _ | ⟨a,_ | ⟨b,_ | ⟨c,_ | ⟨d,_ | ⟨e,_ | ⟨f,r⟩⟩⟩⟩⟩⟩
 ·kd_p;exact rfl
 ·exact absurd w (show ¬ (1=0∨1=3∨1=4∨1=5) by decide)
 ·exact absurd w (show ¬ (2=0∨2=3∨2=4∨2=5) by decide)
 ·kd_p;exact rfl
 ·kd_p;exact rfl
 ·kd_p;exact rfl
 ·exfalso;rw [List.length_cons,List.length_cons,List.length_cons,List.length_cons,List.length_cons,List.length_cons] at w;omega
end Mine
end
section
open PySem PySem.W PySem.Calls PyProof.Rows
set_option genInjectivity false
set_option genSizeOf false
namespace Mine
theorem zA.weak {fv:Value} {sp sp':zG} (h:zA fv sp) (c:∀vs H Q,sp' vs H Q->sp vs H Q):zA fv sp':=fun A g vs xs Q e1 e2 e3 e4 d q=>h A g vs xs Q e1 e2 e3 e4 d (c _ _ _ q)
theorem fj (T:zY w0 zC) (Tb:yy) (i:Fin fwL.length):xf (.ref fwL[i].a) (fnS xX fwL[i].k fwL[i].ps (fwL[i].dv.map .int) (cd (fwL[i].j - 1))):=eq_358 T Tb (List.getElem_mem i.2)
theorem eq_757 {j:Nat} (h:m0=j+1):xX=yn j:=congrArg csB h
theorem sW {j:Nat} (h:m0=j+1) {fv:Value} {sp:zG} {F:(Nat->zG)->zG} (f:zA fv (F xX)) (c:∀vs H Q,sp vs H Q->F (yn j) vs H Q):zA fv sp:=(eq_757 h▸f:zA fv (F (yn j))).weak c
theorem sP {j:Nat} (h:m0=j+1) {fv:Value} {dv:List V} {P:List V->V->Prop} (f:xf fv (fI dv j xX)) (c:∀us v,P us v->fI dv j (yn j) us [] fun v' H'=>fzV 6 H' v'=some v):zA fv (Qy P):=eq_589 (eq_757 h▸f:xf fv (fI dv j (yn j))).call c
noncomputable def clT:List (Addr×Addr):=[(255,245),(1426,1416),(1501,1444),(1541,1531),(1703,1566)]
theorem cl_t:(clT.map fun p=>(makesIn K0 p.1,findIn K0 (.ref p.1) "__init__",typeIn K0 (.ref p.2)))=clT.map fun p=>(true,some (some (.ref p.2)),some (.type "function")):=by kernel_rfl
theorem sK (T:zY w0 zC) {C i:Addr} (m:(C,i)∈clT) {sp:zG} (f:xf (.ref i) sp):zA (.ref C) (mkS C sp):=
 have z:=Prod.mk.inj (List.map_inj_left.mp cl_t _ m)
 eq_121 T.X z.1 (Prod.mk.inj z.2).1 (Prod.mk.inj z.2).2 f
theorem fz_i:∀is:List Int,zB (fzV 6 []) (is.map V.int)=some (is.map V.int)
 | []=>rfl
 | i::is=>by
  show bo (zB (fzV 6 []) (is.map V.int)) (fun r=>some (V.int i::r))=_
  rw [fz_i is]
  rfl
theorem eq_80 (T:zY w0 zC) (Tb:yy):zA (.ref 255) (Bl zaJ):=fun A g vs xs Q e1 e2 e3 e4 d q=>(yg q).elim fun v q=>by
 have e:zaJ vs []=some v:=q.1
 obtain ⟨s,is,hv,w,_⟩:=eq_581 e
 have C:zA (.ref 255) (inS xX (vs.length+1)):=by
  rw [hv,List.length_cons,List.length_map]
  rcases w with w | w | w | w<;>rw [w]
  ·exact sK T (.head _) (fj T Tb ⟨62,by decide⟩)
  ·exact sK T (.head _) (fj T Tb ⟨63,by decide⟩)
  ·exact sK T (.head _) (fj T Tb ⟨64,by decide⟩)
  ·exact sK T (.head _) (fj T Tb ⟨9,by decide⟩)
 refine eq_589 (P:=fun us v=>us.length+1=vs.length+1/\zaJ us []=some v) C (fun us v h=>h.1▸eq_235 h.2) A g vs xs Q e1 e2 e3 e4 d ⟨vs,v,?_,⟨rfl,e⟩,q.2⟩
 rw [hv]
 show bo (zB (fzV 6 []) (is.map V.int)) (fun r=>some (V.str s::r))=_
 rw [fz_i]
noncomputable def stL (T:zY w0 zC) (Tb:yy):List { m:Nat // m0=m+1->zA (fnV (m+31)) (gT.getD m (E bad) xX) }:=[⟨0,fun _=>fun _ _ _ _ _ _ _ _ _ _ q=>q.elim⟩,
 ⟨1,fun _=>(fj T Tb ⟨0,by decide⟩).call⟩,
 ⟨2,fun h=>sW h (F:=fI [] 2) (fj T Tb ⟨1,by decide⟩).call (by rintro _ _ _ ⟨i,o,_,rfl,q⟩;exact eq_308 o q)⟩,
 ⟨3,fun _=>(fj T Tb ⟨2,by decide⟩).call⟩,
 ⟨4,fun _=>(fj T Tb ⟨3,by decide⟩).call⟩,
 ⟨5,fun _=>(fj T Tb ⟨4,by decide⟩).call⟩,
 ⟨6,fun _=>(fj T Tb ⟨5,by decide⟩).call⟩,
 ⟨7,fun _=>(fj T Tb ⟨6,by decide⟩).call⟩,
 ⟨8,fun h=>sW h (F:=fI [] 8) (fj T Tb ⟨7,by decide⟩).call (by rintro _ _ _ ⟨i,o,_,rfl,q⟩;exact eq_304 o q)⟩,
 ⟨9,fun h=>sW h (F:=fI [] 9) (fj T Tb ⟨8,by decide⟩).call (by rintro _ _ _ ⟨i,o,_,rfl,q⟩;exact eq_239 o q)⟩,
 ⟨10,fun _=>eq_80 T Tb⟩,
 ⟨11,fun h=>sW h (F:=fI [] 11) (fj T Tb ⟨10,by decide⟩).call (by rintro _ _ _ ⟨i,o,_,rfl,q⟩;exact eq_305 o q)⟩,
 ⟨12,fun h=>sW h (F:=fI [] 12) (fj T Tb ⟨11,by decide⟩).call (by rintro _ _ _ ⟨x,h,rfl,q⟩;exact eq_307 h q)⟩,
 ⟨13,fun h=>sW h (F:=fI [] 13) (fj T Tb ⟨12,by decide⟩).call (by rintro _ _ _ ⟨x,h,rfl,q⟩;exact eq_252 h q)⟩,
 ⟨14,fun _=>(fj T Tb ⟨13,by decide⟩).call⟩,
 ⟨15,fun h=>sW h (F:=fI [] 15) (fj T Tb ⟨14,by decide⟩).call (by rintro _ _ _ ⟨i,o,sc,rfl,q⟩;exact eq_247 o sc q)⟩,
 ⟨16,fun _=>(fj T Tb ⟨15,by decide⟩).call⟩,
 ⟨17,fun h=>sW h (F:=fI [] 17) (fj T Tb ⟨16,by decide⟩).call (by rintro _ _ _ ⟨x,l,v,⟨h1,h2,rfl,rfl⟩,q⟩;exact eq_251 h1 h2 q)⟩,
 ⟨18,fun h=>sW h (F:=fI [] 18) (fj T Tb ⟨17,by decide⟩).call (by rintro _ _ _ ⟨x,l,v,⟨h1,h2,h3,rfl,rfl⟩,q⟩;exact eq_311 h1 h2 h3 q)⟩,
 ⟨19,fun h=>sP h (fj T Tb ⟨18,by decide⟩) (by rintro _ _ ⟨l,n,h1,h2,rfl,rfl⟩;exact eq_256 h1 h2)⟩,
 ⟨20,fun h=>sW h (F:=fI [] 20) (fj T Tb ⟨19,by decide⟩).call (by rintro _ _ _ ⟨m,a,h,hm,⟨n,rfl⟩,q⟩;exact eq_243 h hm q)⟩,
 ⟨21,fun _=>(fj T Tb ⟨20,by decide⟩).call⟩,
 ⟨22,fun h=>sW h (F:=fI [] 22) (fj T Tb ⟨21,by decide⟩).call (by rintro _ _ _ ⟨a,l,v,⟨m,h,hm,rfl,rfl⟩,q⟩;exact eq_262 h hm q)⟩,
 ⟨23,fun h=>sW h (F:=fI [] 23) (fj T Tb ⟨22,by decide⟩).call (by rintro _ _ _ ⟨a,l,v,⟨m,h,hm,rfl,rfl⟩,q⟩;exact eq_232 h hm q)⟩,
 ⟨24,fun h=>sW h (F:=fI [] 24) (fj T Tb ⟨23,by decide⟩).call (by rintro _ _ _ ⟨x,l,v,⟨p,h1,h2,h3,rfl,rfl⟩,q⟩;have z:=@eq_314 x l p _ _ h1 h2 h3 q;exact z)⟩,
 ⟨25,fun h=>sP h (fj T Tb ⟨24,by decide⟩) (by rintro _ _ ⟨m,a,n,h,hm,⟨rfl,rfl⟩ | ⟨rfl,rfl⟩⟩;exact eq_312 h hm;exact eq_313 h hm)⟩,
 ⟨26,fun h=>sW h (F:=fI [] 26) (fj T Tb ⟨25,by decide⟩).call (by rintro _ _ _ ⟨x,l,v,⟨i,n,h,rfl,rfl⟩,q⟩;exact eq_261 h q)⟩,
 ⟨27,fun _=>(fj T Tb ⟨26,by decide⟩).call⟩,
 ⟨28,fun h=>sW h (F:=fI [.int 0] 28) (fj T Tb ⟨27,by decide⟩).call (by rintro _ _ _ ⟨p,b,v,rfl,⟨i,x,h,rfl,rfl⟩,q⟩;exact eq_246 h q)⟩,
 ⟨29,fun h=>sW h (F:=fI [] 29) (fj T Tb ⟨28,by decide⟩).call (by rintro _ _ _ ⟨x,h,rfl,q⟩;exact eq_255 h q)⟩,
 ⟨30,fun h=>sW h (F:=fI [] 30) (fj T Tb ⟨29,by decide⟩).call (by rintro _ _ _ ⟨p,b,v,rfl,⟨i,x,h,rfl,rfl⟩,q⟩;exact eq_248 h q)⟩,
 ⟨31,fun h=>sW h (F:=fI [] 31) (fj T Tb ⟨30,by decide⟩).call (by rintro _ _ _ ⟨p,b,v,rfl,⟨x,h,rfl,rfl⟩,q⟩;exact eq_263 h q)⟩,
 ⟨32,fun h=>sW h (F:=fI [] 32) (fj T Tb ⟨31,by decide⟩).call (by rintro _ _ _ ⟨x,h,rfl,q⟩;exact eq_238 h q)⟩,
 ⟨33,fun _=>(fj T Tb ⟨32,by decide⟩).call⟩,
 ⟨34,fun h=>sW h (F:=fI [] 34) (fj T Tb ⟨33,by decide⟩).call (by rintro _ _ _ ⟨p,b,v,rfl,⟨x,r,h1,h2,rfl,rfl⟩,q⟩;exact eq_310 h1 h2 q)⟩,
 ⟨35,fun _=>(fj T Tb ⟨34,by decide⟩).call⟩,
 ⟨36,fun _=>(fj T Tb ⟨35,by decide⟩).call⟩,
 ⟨37,fun _=>(fj T Tb ⟨36,by decide⟩).call⟩,
 ⟨38,fun h=>sW h (F:=fI [] 38) (fj T Tb ⟨37,by decide⟩).call (by rintro _ _ _ ⟨p,b,v,e,⟨i,o,sc,h,rfl,rfl⟩,q⟩;exact e▸eq_257 o sc h q)⟩,
 ⟨39,fun h=>sW h (F:=fI [] 39) (fj T Tb ⟨38,by decide⟩).call (by rintro _ _ _ ⟨x,h,rfl,q⟩;exact eq_231 q)⟩,
 ⟨40,fun _=>(fj T Tb ⟨39,by decide⟩).call⟩,
 ⟨41,fun _=>(fj T Tb ⟨40,by decide⟩).call⟩,
 ⟨42,fun h=>sW h (F:=fI [] 42) (fj T Tb ⟨41,by decide⟩).call (by rintro _ _ _ ⟨i,b,o,sc,rfl,rfl,q⟩;exact eq_260 o sc q)⟩,
 ⟨43,fun _=>sK T (.tail _ (.head _)) (fj T Tb ⟨42,by decide⟩)⟩,
 ⟨44,fun h=>sW h (F:=fI [] 44) (fj T Tb ⟨43,by decide⟩).call (by rintro _ _ _ ⟨p,h,rfl,rfl,q⟩;exact eq_436 h q)⟩,
 ⟨45,fun _=>(fj T Tb ⟨44,by decide⟩).call⟩,
 ⟨46,fun _=>(fj T Tb ⟨45,by decide⟩).call⟩,
 ⟨47,fun h=>sW h (F:=fun cs=>mkS 1501 (fI [] 47 cs)) (sK T (.tail _ (.tail _ (.head _))) (fj T Tb ⟨46,by decide⟩)) (by rintro _ _ _ ⟨p,h,rfl,rfl,q⟩;exact eq_250 h q)⟩,
 ⟨48,fun _=>(fj T Tb ⟨47,by decide⟩).call⟩,
 ⟨49,fun h=>sW h (F:=fun cs=>mkS 1703 (fI [] 49 cs)) (sK T (.tail _ (.tail _ (.tail _ (.tail _ (.head _))))) (fj T Tb ⟨48,by decide⟩)) (by rintro _ _ _ ⟨p,b,h,rfl,rfl,q⟩;exact eq_230 h q)⟩,
 ⟨50,fun _=>sK T (.tail _ (.tail _ (.tail _ (.head _)))) (fj T Tb ⟨49,by decide⟩)⟩,
 ⟨51,fun _=>(fj T Tb ⟨50,by decide⟩).call⟩,
 ⟨52,fun h=>sP h (fj T Tb ⟨51,by decide⟩) (by rintro _ _ ⟨i,b,o,sc,hb,rfl,rfl⟩;exact eq_315 o sc hb)⟩,
 ⟨53,fun h=>sW h (F:=fI [] 53) (fj T Tb ⟨52,by decide⟩).call (by rintro _ _ _ ⟨l,h,rfl,rfl,q⟩;exact eq_309 h q)⟩,
 ⟨54,fun h=>sW h (F:=fI [] 54) (fj T Tb ⟨53,by decide⟩).call (by rintro _ _ _ ⟨m,n,rfl,h1,h2,h3,q⟩;exact eq_249 h1 h2 h3 q)⟩,
 ⟨55,fun h=>sW h (F:=fI [] 55) (fj T Tb ⟨54,by decide⟩).call (by rintro _ _ _ ⟨x,h,rfl,q⟩;exact eq_236 h q)⟩,
 ⟨56,fun h=>sW h (F:=fI [] 56) (fj T Tb ⟨55,by decide⟩).call (by rintro _ _ _ ⟨x,h,rfl,q⟩;exact eq_233 h q)⟩,
 ⟨57,fun h=>sW h (F:=fI [] 57) (fj T Tb ⟨56,by decide⟩).call (by intro vs H Q h;cases vs<;>first | exact eq_254.symm▸h | exact h.elim)⟩,
 ⟨58,fun h=>sW h (F:=fI [] 58) (fj T Tb ⟨57,by decide⟩).call (by rintro _ _ _ ⟨rfl,q⟩;exact eq_306.symm▸q _ rfl)⟩,
 ⟨59,fun h=>(sP h (dv:=[]) (fj T Tb ⟨58,by decide⟩) (P:=fun us v=>us=[]/\v=Yn) (by rintro _ _ ⟨rfl,rfl⟩;exact eq_237 (Q:=fun _ _=>True))).weak (by intro vs H Q q;cases vs<;>first | exact ⟨[],Yn,rfl,⟨rfl,rfl⟩,q⟩ | exact q.elim)⟩,
 ⟨60,fun h=>sW h (F:=fI [] 60) (fj T Tb ⟨59,by decide⟩).call (by rintro _ _ _ ⟨n,h,rfl,hH,q⟩;exact eq_303 h hH q)⟩,
 ⟨61,fun h=>sW h (F:=fI [] 61) (fj T Tb ⟨60,by decide⟩).call (by rintro _ _ _ ⟨n,p,x,h,hp,hx,rfl,hH,q⟩;exact eq_253 h hp hx hH q)⟩]
theorem eq_284 (T:zY w0 zC) (Tb:yy) {m:Nat} (e:m0=m+1):zA (fnV (m+31)) (gT.getD m (E bad) xX):=by
 by_cases h:m < 62
 ·have q:m∈(stL T Tb).map (·.1):=(show (stL T Tb).map (·.1)=List.range 62 from rfl)▸List.mem_range.mpr h
  obtain ⟨p,_,rfl⟩:=List.mem_map.mp q
  exact p.2 e
 ·rw [List.getD_eq_getElem?_getD,List.getElem?_eq_none (Nat.not_lt.mp h)]
  exact fun _ _ _ _ _ _ _ _ _ _ q=>q.elim
noncomputable def bL (T:zY w0 zC):List { i:Nat // zA (fnV i) (spB.getD i bad) }:=[⟨0,zQ eq_377⟩,⟨1,zQ eq_376⟩,⟨2,zQ eq_375⟩,⟨3,zQ eq_370⟩,⟨4,zQ eq_368⟩,⟨5,zQ eq_367⟩,⟨6,zQ eq_366⟩,⟨7,zQ eq_365⟩,⟨8,zQ eq_364⟩,⟨9,eq_618 eq_406⟩,⟨10,zQ eq_404⟩,⟨11,fun _ _ _ _ _ _ _ _ _ _ q=>q.elim⟩,
 ⟨12,eq_82⟩,⟨13,zQ eq_373⟩,⟨14,eq_618 (eq_372 T.sys)⟩,⟨15,zQ eq_369⟩,⟨16,zQ eq_268⟩,⟨17,zQ eq_405⟩,⟨18,zQ eq_407⟩,⟨19,zQ eq_128⟩,⟨20,zQ eq_270⟩,⟨21,zQ eq_132⟩,⟨22,zQ eq_65⟩,⟨23,zQ eq_130⟩,⟨24,zQ eq_129⟩,⟨25,zQ eq_267⟩,⟨26,zQ eq_269⟩,⟨27,eq_443 eq_374⟩,⟨28,zQ eq_371⟩,⟨29,zQ eq_131⟩,⟨30,eq_81⟩]
theorem bas_ (T:zY w0 zC) (i:Nat):zA (fnV i) (spB.getD i bad):=by
 by_cases h:i < 31
 ·have q:i∈(bL T).map (·.1):=(show (bL T).map (·.1)=List.range 31 from rfl)▸List.mem_range.mpr h
  obtain ⟨p,_,rfl⟩:=List.mem_map.mp q
  exact p.2
 ·rw [List.getD_eq_getElem?_getD,List.getElem?_eq_none (Nat.not_lt.mp h)]
  exact fun _ _ _ _ _ _ _ _ _ _ q=>q.elim
theorem eq_439 {i:Nat} (h:Nat.blt i 31=true) (j:Nat):yn j i=spB.getD i bad:=by
 cases j with
 | zero=>rfl
 | succ j=>
  show (bif Nat.blt i 31 then spB.getD i bad else _)=_
  rw [h]
  rfl
section
variable (T:zY w0 zC) (hm:m0 < 140) (L:Lv m0)
include T L
theorem tb_:yy:=⟨T.X,T.sys,enu_ T,gv_ T,eq_431,ca_ T,fun i h X=>eq_329 (eq_276 fn_t rfl i) h X,mth_ T,L⟩
include hm
theorem eq_599 {i:Nat} {g:G} {vs:List V} {xs:List Value} {Q:QE} (d:g.DL vs xs) (q:csB m0 i vs g.H Q):J (AA (m0+1)) (PySem.call (fnV i) xs) (Ps [] g (qP Q)) g.s:=
 J.le (L i g vs xs Q d q) rfl (by show 980 - 2 * (m0+1)<=980 - 2 * m0;omega) rfl (by show 9000 - 60 * (m0+1)<=9000 - 60 * m0;omega)
theorem eq_531 {fv:Value} {sp:zG} (h:zA fv sp) {g:G} {vs:List V} {xs:List Value} {Q:QE} (d:g.DL vs xs) (q:sp vs g.H Q):J (AA (m0+1)) (PySem.call fv xs) (Ps [] g (qP Q)) g.s:=
 h (AA (m0+1)) g vs xs Q rfl rfl (by show 980 - 2 * (m0+1)+2<=980 - 2 * m0;omega) (by show 9000 - 60 * (m0+1)+9<=9000 - 60 * m0;omega) d q
theorem eq_348:Lv (m0+1):=fun i g vs xs Q d q=>by
 have q:yn m0 i vs g.H Q:=q
 cases e:m0 with
 | zero=>
  rw [e] at q
  exact e▸eq_531 T hm L (bas_ T i) d q
 | succ j=>
  have q0:csB m0 i=yn j i:=by rw [e];rfl
  rw [e] at q
  have q:(bif Nat.blt i 31 then spB.getD i bad else bif Nat.beq i (j+31) then gT.getD j (E bad) (yn j) else yn j i) vs g.H Q:=q
  cases b:Nat.blt i 31 with
  | true=>
   rw [b] at q
   exact e▸eq_599 T hm L d (by rw [q0,eq_439 b];exact q)
  | false=>
   rw [b] at q
   cases c:Nat.beq i (j+31) with
   | true=>
    rw [c] at q
    obtain rfl:=Nat.eq_of_beq_eq_true c
    exact e▸eq_531 T hm L (eq_284 T (tb_ T L) e) d (by rw [eq_757 e];exact q)
   | false=>
    rw [c] at q
    exact e▸eq_599 T hm L d (by rw [q0];exact q)
omit hm in
theorem eq_207 (e:m0=63):zkF:=fun g xs l hl h0 d=>(fj T (tb_ T L) ⟨61,by decide⟩).call callerA g [.nd .lst (l.map .int)] xs _ rfl rfl (by rw [e];decide) (by rw [e];decide) d (by rw [h0,eq_757 e];exact eq_234 hl fun _=>rfl)
end
theorem eq_328 (T:zY w0 zC):zkF:=by
 have N:∀m,m < 140->Lv m->Nx m:=fun m h1 h2=>Classical.byContradiction fun h3=>by
  have z:m0 < 140/\Lv m0/\¬ Nx m0:=Classical.epsilon_spec (p:=fun m=>m < 140/\Lv m/\¬ Nx m) ⟨m,h1,h2,h3⟩
  exact z.2.2 ⟨eq_348 T z.1 z.2.1,eq_207 T z.2.1⟩
 have I:∀m,m < 140->Lv m:=fun m=>Nat.rec (motive:=fun m=>m < 140->Lv m) (fun _ _ _ _ _ _ _ q=>q.elim) (fun m ih h=>(N m (Nat.lt_of_succ_lt h) (ih (Nat.lt_of_succ_lt h))).1) m
 exact (N 63 (by decide) (I 63 (by decide))).2 rfl
theorem eq_176 {P:Params} {h:Heap} {g:G} {vs:List Value} {l:List Int} (w:WellAll P h vs (l.map .int)):g.DL (l.map .int) vs:=by
 induction l generalizing vs with
 | nil=>cases w;exact rfl
 | cons i l ih=>
  cases w with
  | cons a b=>exact zh (by cases a;exact zp) (ih b)
theorem eq_327 (T:zY w0 zC):zen w0 zC:=fun s v l hl hk W p=>by
 have kf:∀{a o},s.heap.get? a=some o->nuH s.heap a=.fz:=fun {a o} e=>by unfold nuH;rw [e]
 have ok:Inv s.heap [] (nuH s.heap) []:=⟨fun a n=>zgP n,fun a o e=>⟨kf (hk a o e),hk a o e⟩,rfl,(fun _ _ _ h=>nomatch h),fun _ _ _ _ h=>nomatch h⟩
 cases W with
 | list hget hw=>
  refine Sem.wp_mono M0 Γl _ (fun x p s' h=>?_) (fun _ _ _ h=>h.elim) p s (eq_328 T ⟨s,[],nuH s.heap,[],ok⟩ [_] l hl rfl (zh ⟨_,_,_,rfl,kf hget,kf hget,⟨_,_,hget,hget,0,rfl⟩,eq_176 hw⟩ rfl) Γl p caller_in ⟨rfl,fun _ h=>nomatch h⟩)
  obtain ⟨g1,rfl,L,v,d,rfl⟩:=h
  exact ⟨d,fun a o e=>(L.f a (kf e)).trans e,L.m.gens,L.m.os⟩
theorem eq_155 (w:World) (top:Heap) (T:zY w top):zen w top:=Classical.byContradiction fun n=>
 have z:zY w0 zC/\¬ zen w0 zC:=Classical.epsilon_spec (p:=fun p:World×Heap=>zY p.1 p.2/\¬ zen p.1 p.2) ⟨(w,top),T,n⟩
 z.2 (eq_327 z.1)
end Mine
end
section
open PySem PySem.W PySem.Calls
namespace Mine
theorem eq_148:∀a b:Value,Flow.ret a=Flow.ret b->a=b:=fun _ _ h=>by injection h
theorem eq_69:∀a b:Addr,Flow.ret (.ref a)=Flow.ret (.ref b)->a=b:=fun _ _ h=>by injection h with h;injection h
theorem eq_60:∀a b:Unit,Flow.next=Flow.next->a=b:=fun _ _ _=>rfl
theorem eq_178 {w:World} {R:yk} {s:Shared} (G:yB R (T_0 w.params) 11 181 s) {P:Result->Shared->Prop} (hP:∀s',yB R (qe w.params) 1776 5676 s'->P (.ok (.ret .none)) s') :
  Sem.wp (model PW w) Γ0 (topStub PW).cur (Sem.finPost (model PW w) Γ0 P) (fun e _ s'=>P (.error e) s') ⟨0,0,0,0⟩ s:=by
 have h0:=eq_79 w
 unfold zhA at h0
 have h1:=eq_78 w
 unfold zhz at h1
 have h2:=eq_77 w
 unfold zhy at h2
 show Sem.wp _ _ ((moduleCode PW.main).bind fun code=>(newBodyFrame code mainNs mainNs).bind fun frame=>(run (.body (behindTheImports PW) { scope:=PW.main.scope,locals:=mainNs,globals:=mainNs,cells:=[],code,frame:=some frame })).bind fun _=>ret .none) _ _ _ s
 have e0:moduleCode PW.main=qmc PWt.main:=by rw [← eq_228,← eq_867]
 have e1:newBodyFrame (.ref 13) mainNs mainNs=zix (.ref 13) mainNs mainNs:=by rw [← eq_149]
 have e2:blockStart zD zk=qbs zD zk:=by rw [← eq_229]
 have e3:PW.main.scope=zcu:=by rw [eq_867]
 rw [Sem.wp_bind,e0]
 refine eq_848 (T:=T_0 w.params) (pre:=Zt w.params) (post:=jT w.params) (ι:=Flow.ret) (a₀:=.ref 13) eq_148 ze h0 (E_k0 w) (S_k0 w) G fun s G=>?_
 rw [Sem.wp_bind,e1]
 refine eq_848 (T:=T_1 w.params) (pre:=Zs w.params) (post:=jS w.params) (ι:=fun a=>Flow.ret (.ref a)) (a₀:=14) eq_69 ze h1 (E_k1 w) (S_k1 w) G fun s G=>?_
 rw [Sem.wp_bind,Sem.wp_run,wpCode_iff_wp,e3]
 have eb:behindTheImports PW=zD:=congrArg behindTheImports eq_867
 rw [eb]
 show Sem.wp _ Γ1 ((blockStart zD zk).bind fun _=>((execs zD zk).onRaise (leaving zk)).bind fun f=>Sem.pure (PySem.Fin.done f)) _ _ _ s
 rw [Sem.wp_bind,e2]
 refine eq_848 (T:=T_2 w.params) (pre:=Zr w.params) (post:=jQ w.params) (ι:=fun _:Unit=>Flow.next) (a₀:=()) eq_60 ze h2 (E_k2 w) (S_k2 w) G fun s G=>?_
 rw [Sem.wp_bind,Sem.wp_onRaise]
 refine (eq_17 w R G fun s G=>?_).out
 rw [Sem.wp_pure]
 unfold Sem.finPost
 dsimp only
 unfold ret
 rw [Sem.wp_pure']
 exact hP s G
theorem eq_500 {prog:Program} {w:World} {t:Sem PySem.Fin} {s:Shared} {Q:Shared->Prop} {f:Flow} (hreg:s.asleep) (hg:∀s',Q s'->s'.gens=#[]) {p:Pos}
  (h:Sem.wp (model prog w) Γ0 t (Sem.finPost (model prog w) Γ0 fun r s'=>r=.ok f/\Q s') (fun e _ s'=>(Except.error e:Result)=.ok f/\Q s') p s) :
  ∃n s₁ t₁,schedN (denote table) prog w n (.single s ⟨t,.builtin "claim.caller" {},p,[]⟩)=.running (.single s₁ t₁)/\through t₁=true/\Q s₁:=by
 obtain ⟨n,r,s',c',p',hn,rfl,hQ⟩:=wp_runN (M:=model prog w) (base:=[]) (c:=.builtin "claim.caller" {}) h
 obtain ⟨σ,τ,hr,e1,e2⟩:=runNI_running_real hn
 obtain rfl:σ=s':=Shared.eq_of_forget_eq e1 (hg _ hQ)
 have h':Sem.wp (model prog w) ⟨.builtin "claim.caller" {},none,none,[],none⟩ t (Sem.finPost (model prog w) ⟨.builtin "claim.caller" {},none,none,[],none⟩ fun r s'=>(r=.ok f/\Q s')/\leftWithCleanup s'.gens=false) (fun e _ s'=>((Except.error e:Result)=.ok f/\Q s')/\leftWithCleanup s'.gens=false) p s:=by
  have hl:∀s',Q s'->leftWithCleanup s'.gens=false:=fun s' q=>by rw [hg s' q];simp [leftWithCleanup]
  exact Sem.wp_mono _ _ _ (fun _ _ _ x=>finPost_mono (fun r s' hr=>⟨hr,hl _ hr.2⟩) x) (fun _ _ _ x=>⟨x,hl _ x.2⟩) _ _ h
 obtain ⟨n2,r2,s2,hn2,_⟩:=(wp_iff_halts (M:=model prog w) t (fun r s'=>r=.ok f/\Q s') p s).mp h'
 obtain ⟨s'',hrr,_,hc⟩:=runNI_real _ _ _ hn2 (outcomeOf_ends r2)
 have hne:∀k s₂,runN (model prog w).den prog w k s ⟨t,.builtin "claim.caller" {},p,[]⟩≠.halted (.unsupported "lifetime:generator-with-cleanup-left-suspended") s₂:=by
  intro k s₂ hk
  have a:=runN_mono _ _ _ n2 k s _ _ s'' hrr
  have b:=runN_mono _ _ _ k n2 s _ _ s₂ hk
  rw [Nat.add_comm] at a
  have a:=b.symm.trans a
  injection a with a1 _
  have:=outcomeOf_ends r2
  rw [← a1] at this
  exact absurd this (by simp [Outcome.ends])
 have e:=schedN_eq_runN _ _ _ s ⟨t,.builtin "claim.caller" {},p,[]⟩ hreg ⟨hc,hne⟩ n
 refine ⟨n,σ,τ,e.trans (congrArg Run.lift hr),?_,hQ⟩
 obtain ⟨cur,code,pos,stack⟩:=τ
 simp only [Thread.forget,Thread.mk.injEq] at e2
 obtain ⟨e3,_,_,e4⟩:=e2
 subst e3
 cases stack with
 | nil=>rfl
 | cons a l=>simp at e4
theorem eq_156 (P:Params):(kF P).map (fun q=>(qe P).get q.1)=(kF P).map fun q=>some q.2:=by kernel_rfl
theorem eq_391 {R:yk} {w:World} {sz tk:Nat} {s:Shared} (G:yB R (qe w.params) sz tk s):(kF w.params).In s.heap:=by
 have h:=JO (eq_156 w.params)
 intro a o e
 refine G.kn a o ?_
 generalize kF w.params=l at h e
 induction l with
 | nil=>cases e
 | cons q l ih=>
  obtain ⟨b,x⟩:=q
  by_cases hb:a=b
  ·subst hb
   rw [List.lookup_cons_self] at e
   cases e
   exact h (a,o) (List.mem_cons_self ..)
  ·rw [List.lookup_cons,show (a == b)=false from beq_false_of_ne hb] at e
   exact ih (fun q hq=>h q (List.mem_cons_of_mem _ hq)) e
def hz0 (P:Params):Heap:=⟨#[(hxo 3 P),(hxo 921 P),(hxo 4 P),(hxo 2 P),(hxo 5 P),(hxo 922 P),(hxo 923 P),(hxo 924 P),(hxo 925 P),(hxo 926 P),(hxo 927 P)],{}⟩
def hh1 (P:Params):Heap:=⟨#[(hxo 3 P),(hxo 921 P),(hxo 4 P),(hxo 851 P),(hxo 5 P),(hxo 922 P),(hxo 923 P),(hxo 924 P),(hxo 925 P),(hxo 926 P),(hxo 927 P)],{}⟩
theorem eq_343:importedModules PW.main.body=[]:=by kernel_rfl
theorem eq_390 (P:Params):(hh1 P).accountedOkI []=true:=by kernel_rfl
theorem eq_573 (P:Params):(hh1 P).isNs mainGlobals=true:=by kernel_rfl
theorem eq_818 (P:Params):(hh1 P).isNs builtinsNs=true:=by kernel_rfl
theorem eq_574 (P:Params):(hh1 P).bltView=bltViewBooted:=by kernel_rfl
theorem eq_208 (P:Params):laidKept (hz0 P) (hh1 P)=true:=by kernel_rfl
theorem k_bm (P:Params):globalOf (hh1 P) "__builtins__"=some (.ref 4)/\((hxo 5 P)).cls=.type "module"/\((hxo 5 P)).dict=some builtinsNs:=⟨by kernel_rfl,by kernel_rfl,by kernel_rfl⟩
theorem eq_387 (P:Params):globalOf (hh1 P) "law"=some (.ref 1775):=by kernel_rfl
theorem k_nb (P:Params):namesBound PW (hh1 P)=true:=by kernel_rfl
theorem eq_332 (P:Params):(yx P).map (fun q=>if q.1 == 3 then none else (qe P).get q.1)=(yx P).map (fun q=>if q.1 == 3 then none else some q.2):=by kernel_rfl
theorem eq_331 (P:Params):(List.range 11).map (fun a=>(qe P).get a)=(List.range 11).map fun a=>(hh1 P).get? a:=by kernel_rfl
theorem eq_389 (P:Params):(List.range 11).map (fun a=>(T_0 P).get a)=(List.range 11).map fun a=>(hz0 P).get? a:=by kernel_rfl
theorem eq_388:PW.theDef "law"=some (zc4 (st 95),yW (st 95),yj (st 95)):=by rw [eq_867];kernel_rfl
theorem fo1 (w:World):(fencedOpening treeTable PW w 3000).map (fun s=>(s.toks,s.heap.objs.toList,s.gens,s.heap.life.registered,s.heap.life.counting))=some (181,(yx w.params).map (·.2),#[],[],false):=by kernel_rfl
theorem Qq (P:Params) (l:Life):(yx P).map (fun q=>(⟨((yx P).map (·.2)).toArray,l⟩:Heap).get? q.1)=(yx P).map fun q=>some q.2:=by kernel_rfl
theorem eq_54 (P:Params) (l:Life) {b:Addr} {o:Obj} (h:(⟨((yx P).map (·.2)).toArray,l⟩:Heap).get? b=some o):b < 11:=by
 have:=Heap.lt_size h
 have e:(⟨((yx P).map (·.2)).toArray,l⟩:Heap).objs.size=11:=by kernel_rfl
 exact Nat.lt_of_lt_of_eq this e
structure Z7 (w:World) (s₀:Shared):Prop where
 toks:s₀.toks=181
 objs:s₀.heap.objs=((yx w.params).map (·.2)).toArray
 gens:s₀.gens=#[]
 asleep:s₀.asleep
theorem eq_31 (w:World):∃s s₀,AfterRun (opening PW) w s/\fenceModules? PW s=some s₀/\Z7 w s₀:=by
 have h:=fo1 w
 rw [← table_eq_tree] at h
 obtain ⟨s₀,h1,e⟩:=Option.map_eq_some_iff.mp h
 obtain ⟨s,h4,h5⟩:=Option.bind_eq_some_iff.mp h1
 simp only [Prod.mk.injEq] at e
 obtain ⟨e1,e2,e3,e4,e5⟩:=e
 exact ⟨s,s₀,AfterImport.of_importEnds h4,h5,e1,by rw [← e2],e3,e4,e5⟩
def rsh (s:Shared):yk:=⟨s.heap.life,#[],s.drawn,s.os⟩
theorem Z7.heap {w:World} {s₀:Shared} (S:Z7 w s₀):s₀.heap=⟨((yx w.params).map (·.2)).toArray,s₀.heap.life⟩:=by
 rw [← S.objs]
theorem Z7.glb {w:World} {s₀:Shared} (S:Z7 w s₀):yB (rsh s₀) (T_0 w.params) 11 181 s₀:=by
 refine ⟨?_,S.toks,fun a o h=>?_,rfl,S.gens,rfl,rfl⟩
 ·rw [S.objs];kernel_rfl
 ·obtain ⟨q,hq,rfl,rfl⟩:=PT.get_of h
  rw [S.heap]
  have:=Qq w.params s₀.heap.life
  generalize (⟨((yx w.params).map (·.2)).toArray,s₀.heap.life⟩:Heap)=hp at this
  generalize yx w.params=l at hq this
  induction l with
  | nil=>cases hq
  | cons r l ih=>
   simp only [List.map_cons,List.cons.injEq] at this
   cases hq with
   | head=>exact this.1
   | tail _ hq=>exact ih hq this.2
theorem eq_873 {h h':Heap} (e:h.get? mainNs=h'.get? mainNs) (x:Str):globalOf h x=globalOf h' x:=by unfold globalOf;rw [e]
theorem eq_854 {h h':Heap} (e:h.get? cStatics=h'.get? cStatics) (x:Str):staticOf h x=staticOf h' x:=by unfold staticOf;rw [e]
theorem eq_524 {h h':Heap} (e:h.get? builtinsNs=h'.get? builtinsNs) (x:Str):builtinOf h x=builtinOf h' x:=by unfold builtinOf;rw [e]
theorem eq_698 {α:Type} {f g:Nat->α}:∀{n:Nat},(List.range n).map f=(List.range n).map g->∀a,a < n->f a=g a:=fun {n} h a ha=>by
 have:=congrArg (fun l=>l[a]?) h
 simpa [List.getElem?_map,List.getElem?_range ha] using this
theorem eq_33 {P:Params}:∀a,a < 11->∃o,(hh1 P).get? a=some o/\(qe P).get a=some o:=by
 intro a ha
 have e:=eq_698 (eq_331 P) a ha
 have h:(List.range 11).all (fun a=>((hh1 P).get? a).isSome)=true:=by kernel_rfl
 have:=List.all_eq_true.mp h a (List.mem_range.mpr ha)
 obtain ⟨o,ho⟩:=Option.isSome_iff_exists.mp this
 exact ⟨o,ho,e.trans ho⟩
theorem eq_844 {w:World} {R:yk} {sz tk:Nat} {s:Shared} (G:yB R (qe w.params) sz tk s) {a:Nat} (ha:a < 11):s.heap.get? a=(hh1 w.params).get? a:=by
 obtain ⟨o,e1,e2⟩:=eq_33 (P:=w.params) a ha
 rw [e1];exact G.kn a o e2
theorem eq_696 {w:World} {s₀:Shared} (S:Z7 w s₀) {a:Nat} (ha:a < 11):s₀.heap.get? a=(hz0 w.params).get? a:=by
 have e:=eq_698 (eq_389 w.params) a ha
 have h:(List.range 11).all (fun a=>((hz0 w.params).get? a).isSome)=true:=by kernel_rfl
 obtain ⟨o,ho⟩:=Option.isSome_iff_exists.mp (List.all_eq_true.mp h a (List.mem_range.mpr ha))
 rw [ho];exact S.glb.kn a o (e.trans ho)
theorem eq_106 {w:World} {s₀ s₁:Shared} {t₁:Thread} {n:Nat} (S:Z7 w s₀) (G:yB (rsh s₀) (qe w.params) 1776 5676 s₁) (hr:schedN (denote table) PW w n (.single s₀ (topStub PW))=.running (.single s₁ t₁)) (ht:through t₁=true):TopRan PW w s₀ s₁:=by
 have g:=fun {a:Nat} (ha:a < 11)=>eq_844 G ha
 have mods:=eq_343
 refine ⟨⟨n,t₁,hr,ht⟩,G.life,Shared.rest_eq G.os,fun b o hb hn=>?_,?_,?_,?_,?_,?_,?_,?_,?_⟩
 ·have hb11:b < 11:=by rw [S.heap] at hb;exact eq_54 _ _ hb
  have hb3:b≠3:=fun e=>hn (.inl e)
  have e:=eq_332 w.params
  have hm:∀q∈yx w.params,q.1≠3->(qe w.params).get q.1=some q.2:=by
   intro q hq hne
   generalize yx w.params=l at hq e
   induction l with
   | nil=>cases hq
   | cons r l ih=>
    simp only [List.map_cons,List.cons.injEq] at e
    cases hq with
    | head=>
     have:=e.1
     rwa [if_neg (by simpa using hne),if_neg (by simpa using hne)] at this
    | tail _ hq=>exact ih hq e.2
  have hk:∃q∈yx w.params,q.1=b:=by
   have h:(List.range 11).all (fun a=>(yx w.params).any fun q=>q.1 == a)=true:=by kernel_rfl
   obtain ⟨q,hq,e⟩:=List.any_eq_true.mp (List.all_eq_true.mp h b (List.mem_range.mpr hb11))
   exact ⟨q,hq,beq_iff_eq.mp e⟩
  obtain ⟨q,hq,rfl⟩:=hk
  have e2:s₀.heap.get? q.1=some q.2:=by
   have e:=Qq w.params s₀.heap.life
   rw [S.heap]
   generalize (⟨((yx w.params).map (·.2)).toArray,s₀.heap.life⟩:Heap)=hp at e
   exact (by
    generalize yx w.params=l at hq e
    induction l with
    | nil=>cases hq
    | cons r l ih=>
     simp only [List.map_cons,List.cons.injEq] at e
     cases hq with
     | head=>exact e.1
     | tail _ hq=>exact ih hq e.2)
  rw [e2] at hb
  cases hb
  exact G.kn _ _ (hm q hq hb3)
 ·rw [mods]
  have z:=Heap.accountedI_of_ok (eq_390 w.params)
  unfold staticsAccountedI at z ⊢
  simp only [eq_854 (g (a:=cStatics) (by decide))]
  exact z
 ·intro key
  refine .inl ?_
  rw [eq_854 (g (a:=cStatics) (by decide)),eq_854 (eq_696 S (a:=cStatics) (by decide))]
  exact eq_854 (by kernel_rfl) key
 ·obtain ⟨o,es,n,h1,h2⟩:=Pin.keysAreStrs_of (eq_573 w.params)
  exact ⟨o,es,n,(g (a:=mainNs) (by decide)).trans h1,h2⟩
 ·intro x hx
  rw [eq_524 (g (a:=builtinsNs) (by decide))]
  exact (Pin.builtinOf_eq (eq_818 w.params) x).trans (Heap.of_bltView (eq_818 w.params) (eq_574 w.params) x hx)
 ·obtain ⟨a,b,c⟩:=k_bm w.params
  exact ⟨4,(hxo 5 w.params),(eq_873 (g (a:=mainNs) (by decide)) _).trans a,(g (a:=4) (by decide)).trans (by kernel_rfl),b,c⟩
 ·intro y hy
  rw [G.gens] at hy
  simp [rsh] at hy
 ·intro x v h
  rw [eq_873 (g (a:=mainNs) (by decide))] at h
  exact names_of_bound (k_nb w.params) x v h
 ·intro x hx
  rw [eq_873 (g (a:=mainNs) (by decide)),eq_873 (eq_696 S (a:=mainNs) (by decide))]
  exact laid_of_kept (eq_208 w.params) x hx
theorem eq_191 {w:World} {R:yk} {sz tk:Nat} {s:Shared} (G:yB R (qe w.params) sz tk s):isTheDefsW PW s.heap "law":=by
 refine ⟨1775,(hxo 920 w.params),_,zc4 (st 95),yW (st 95),yj (st 95),(eq_873 (eq_844 G (a:=mainNs) (by decide)) _).trans (eq_387 _),G.kn _ _ (by kernel_rfl),rfl,eq_388,rfl,?_,rfl,rfl,rfl,rfl,rfl,rfl,.inl ⟨?_,rfl⟩,[],?_,.inl ⟨rfl,rfl⟩⟩
 ·kernel_rfl
 ·kernel_rfl
 ·kernel_rfl
theorem eq_179 {w:World} {R:yk} {sz tk:Nat} {s:Shared} (G:yB R (qe w.params) sz tk s):zY w s.heap:=by
 have g:=fun {a:Nat} (ha:a < 11)=>eq_844 G ha
 refine ⟨eq_391 G,?_,?_,?_⟩
 ·rw [g (a:=sysModules) (by decide)]
  have h:((hh1 w.params).get? sysModules).isSome=true:=by kernel_rfl
  exact fun e=>by rw [e] at h;cases h
 ·have h:(hh1 w.params).isNs cStatics=true:=by kernel_rfl
  exact ⟨_,Heap.Ns.at (Heap.Ns.of_isNs h) (fun o e=>(g (a:=cStatics) (by decide)).trans e),by kernel_rfl⟩
 ·exact ⟨_,Heap.Ns.at (Heap.Ns.of_isNs (eq_818 w.params)) (fun o e=>(g (a:=builtinsNs) (by decide)).trans e),fun x hx=>Heap.of_bltView (eq_818 w.params) (eq_574 w.params) x hx⟩
end Mine
end
section
open PySem PySem.W PySem.Calls PyProof.Rows
open Sem (wp)
namespace Mine
abbrev Ya:RowW:=PySem.Challenge.rw_nu0100_01.row.toRowW
theorem ff_ {b:Bool} {P:Prop} (e:b=false) (h:b=true):P:=(Bool.false_ne_true (e.symm.trans h)).elim
theorem eq_123 (xs:List WData):WShape.hasItems [] xs .int=true->∃l:List Int,xs=l.map .int:=List.rec (motive:=fun xs=>WShape.hasItems [] xs .int=true->∃l:List Int,xs=l.map .int) (fun _=>⟨[],rfl⟩) (fun x xs ih h=>by
 have h:=Bool.and_eq_true_iff.mp (show (WShape.has [] x .int&&WShape.hasItems [] xs .int)=true from h)
 obtain ⟨l,rfl⟩:=ih h.2
 have h1:=h.1
 clear h
 cases x
 case int i=>exact ⟨i::l,rfl⟩
 all_goals exact ff_ rfl h1) xs
theorem eq_378 {d:WData} (h:WShape.has [] d (.list .int)=true):∃l:List Int,d=.list (l.map .int):=by
 cases d
 case list xs=>exact (eq_123 xs ((Bool.or_false _).symm.trans (show (WShape.hasItems [] xs .int||false)=true from h))).imp fun l e=>congrArg WData.list e
 all_goals exact ff_ rfl h
theorem eq_639 {R:WRecords} {t:WTm} {e:WCtx} {b:Bool} (h:t.value R e=some (.bool b)):t.holds R e=b:=by
 unfold WTm.holds
 rw [h]
 cases b<;>rfl
theorem eq_73 {args:List WData} (h:Ya.claim.pre args=true):∃l:List Int,args=[.list (l.map .int)]/\l.length<=63:=by
 have h:=pre_splitW h
 cases args with
 | nil=>exact ff_ rfl h.1
 | cons d r=>
  have h1:=Bool.and_eq_true_iff.mp (show (WShape.has [] d (.list .int)&&WShape.hasAll [] r [])=true from h.1)
  cases r with
  | cons=>exact ff_ rfl h1.2
  | nil=>
   obtain ⟨l,rfl⟩:=eq_378 h1.1
   refine ⟨l,rfl,?_⟩
   have h2:=h.2
   rw [show Ya.pre.holds Ya.records _=_ from eq_639 (w_and (w_not (w_lt w_lit (w_len_list (w_arg rfl)))) w_lit),Bool.and_true,List.length_map] at h2
   exact Int.ofNat_le.mp (Int.not_lt.mp (of_decide_eq_false ((Bool.not_not _).symm.trans (congrArg not h2))))
theorem eq_72 {w:World} {s:Shared} {free:Addr->Prop} {gens:Prop} {kept:Heap->Prop} (T:zY w s.heap) (hz:s.asleep) (hgens:s.gens=#[]) {mg:Str->Option Value} (hN:s.heap.Ns mainNs mg)
  (hf:mg Ya.name=some (.ref 1775)) (hk:∀h,kept h):Ya.claim.CallFrom (callStub Ya.name) w free gens kept s:=fun args hpre hlay ord hord=>by
 obtain ⟨l,rfl,hl⟩:=eq_73 hpre
 obtain ⟨⟨vs,s₁⟩,hlaid⟩:=Option.isSome_iff_exists.mp (layAllW_isSome (R:=Ya.records) (cl:=classAt s.heap) (P:=w.params) (ord:=ord) (fun c (hc:(none:Option (List (Str×WShape))).isSome=true)=>(nomatch hc)) _ Ya.args s (pre_splitW hpre).1)
 have keeps:=layAllW_keeps _ _ _ hlaid
 have hal:=layAllW_rest _ _ _ hlaid
 have W:=well_layAllW hord _ _ _ hlaid s₁.heap (fun _ _ e=>e)
 obtain ⟨n,r,s',s'',hs,hn,hfo,rfl,st,hos⟩:=wp_halts_full (M:=model PW w) (c:=.builtin "claim.caller" {}) (p:=default) (t:=do match ← nsGet mainNs Ya.name with
   | some f=>do ret (← PySem.call f vs)
   | none=>unsupported "claim.caller:no-such-global") (R:=fun r s'=>r=.ok (.ret (.bool true))/\(∀a o,s₁.heap.get? a=some o->s'.heap.get? a=some o)/\s'.os=s₁.os) (Shared.asleep_of_life hal.2.2.2 hz) (by
  cases W with
  | cons w1 w2=>
  cases w2
  show wp _ _ (nsGet mainNs Ya.name >>= _) _ _ _ _
  rw [Sem.wp_bind',Sem.wp_nsGet _ _ _ _ _ (hN.keeps keeps),hf]
  show wp _ _ (PySem.call (.ref 1775) [_] >>= _) _ _ _ _
  rw [Sem.wp_bind']
  refine Sem.wp_mono _ _ _ (fun v p' s' h=>?_) (fun _ _ _ h=>h.elim) _ _ (eq_155 w s.heap T s₁ _ l hl (fun a o h=>keeps a o h) w1 default)
  obtain ⟨rfl,st,eg,eo⟩:=h
  exact ⟨⟨rfl,st,eo⟩,by rw [eg,hal.1,hgens];exact leftWithCleanup_false_of_bare fun y hy=>absurd hy (Array.not_mem_empty y)⟩)
 obtain ⟨eh,_,_,eo,_⟩:=Shared.forget_eq hfo
 have st:∀a o,s₁.heap.get? a=some o->s''.heap.get? a=some o:=eh▸st
 have fp:=frees_parts (r:=Ya) rfl
 obtain ⟨bs,hb,_⟩:=reads_layAllW hord _ _ _ hlaid hlay s''.heap st
 refine ⟨vs,s₁,hlaid,n,_,s'',hs,.inl ⟨.bool true,rfl,fun _=>rfl,⟨.bool true,_,[],bs,.bool true,hb,eq_639 (show WTm.value [] (.eq .res (.lit (.bool true))) ⟨_,some (.bool true),_,_⟩=some (.bool (true == true)) from w_eq_bool (w_res rfl) w_lit),fun _=>⟨.nil,(fun _ h=>nomatch h),fun _ h=>nomatch h⟩,fun _ _=>ident_freeW fp.2.1 fp.2.2.1 fp.2.2.2.1 _ _⟩,(fun _ h=>nomatch h),fun b o h _ _ _=>.inl (st b o h),fun _ h=>nomatch h⟩,(fun _ i x hx=>?_),hk _,?_,Shared.rest_eq (eo.trans (hos.trans hal.2.2.1))⟩
 ·rw [hgens] at hx
  exact nomatch hx
 ·rw [runN_life _ _ _ hn,hal.2.2.2]
end Mine
end
section
open PySem PySem.W PySem.Calls PyProof.Rows
namespace Mine
theorem eq_34 (said:PySem.Challenge.rw_nu0100_01.row.wellSaid=true):PySem.Challenge.rw_nu0100_01.row.Holds:=by
 refine ⟨said,⟨[.list []],by kernel_rfl,by kernel_rfl⟩,⟨⟨rfl,rfl,rfl,rfl,rfl,by kernel_rfl⟩,by kernel_rfl,rfl⟩,⟨[.list []],by kernel_rfl,by kernel_rfl⟩,fun w=>?_⟩
 obtain ⟨s,s₀,hA,hf,S⟩:=eq_31 w
 refine ⟨⟨s,hA⟩,fun s' hs'=>?_⟩
 obtain rfl:s'=s:=AfterImport.unique hs' hA
 refine ⟨s₀,hf,S.gens,?_⟩
 have W:=eq_178 S.glb (P:=fun r s'=>r=.ok (.ret .none)/\yB (rsh s₀) (qe w.params) 1776 5676 s') fun s' G=>⟨rfl,G⟩
 obtain ⟨n,s₁,t₁,hr,ht,G⟩:=eq_500 (f:=.ret .none) S.asleep (fun s' G=>G.gens) W
 refine ⟨s₁,eq_106 S G hr ht,fun x hx=>?_,fun x hx=>(nomatch hx),fun x hx=>(nomatch hx),?_⟩
 ·have hd:(if PySem.Challenge.rw_nu0100_01.row.pinned then [PySem.Challenge.rw_nu0100_01.row.name] else [])=[Str.ofString "law"]:=by kernel_rfl
  rw [hd] at hx
  obtain rfl:=List.mem_singleton.mp hx
  exact eq_191 G
 ·exact eq_72 (eq_179 G) (Shared.asleep_of_life G.life S.asleep) G.gens
   (Heap.Ns.at (Heap.Ns.of_isNs (eq_573 w.params)) (fun o e=>(eq_844 G (a:=mainNs) (by decide)).trans e)) (by kernel_rfl) (fun h q=>by
    have hw:PySem.Challenge.rw_nu0100_01.row.writes=false:=by kernel_rfl
    rw [hw] at q;cases q)
theorem QG:rwt.row.wellSaid=true->rwt.row.Holds:=by
 rw [← zb6]
 exact eq_34
end Mine
end
section
open PySem PySem.W PyProof.Rows
set_option maxRecDepth 100000
theorem Mine.rwt_holds:Mine.rwt.Holds:=by
 o_law
 exact Mine.QG (by assumption)
end
theorem PySem.Challenge.cw_nu0100_01_holds : PySem.Challenge.rw_nu0100_01.Holds := by
 rw [Mine.zb6]
 exact Mine.rwt_holds
