import PyProof.Rows.All
import PyProof.ExcBaseAll.Exception
import KE.KWords
import Wide.FinOn
import OpenK.AllK
import Wide.All
import Lean
import PySem.Challenge.RW_ot0061_01
open PySem PySem.W PyProof.Rows PySem.Calls
set_option Elab.async false
set_option linter.all false
set_option maxRecDepth 100000
set_option maxHeartbeats 4000000
set_option genSizeOf false
set_option genInjectivity false
set_option genCtorIdx false
set_option tactic.hygienic false
noncomputable section
namespace Mine.Internal
def WV:PySem.Challenge.rw_ot0061_01.wellSaid=true:=by
 refine(congrFun Fast.te9446332074065402090 _).trans ?_
 delta Fast.tw9446332074065402090
 repeat' (first|with_reducible refine look_both ?_ ?_|delta Fast.tw17960256430627541270|delta Fast.tw2436336058641802641|delta Fast.tw12908688711261696721|as_aux_lemma=>kernel_rfl)
abbrev a8:=Value->Shared->Prop
noncomputable def k(a:List Nat):Str:=⟨⟨a⟩⟩
def u:True:=⟨⟩
def i:= @wpAny_bind
def L:= @Nat.le_trans
def a':= @Nat.le_of_ble_eq_true
def aD:= @Nat.le_add_left
def V:= @wpAny_pure
def T:= @congrArg
def b8:= @List.mem_of_getElem?
def bw:= @Option.some.inj
def cX:= @Heap.get?_push_of_some
def cY:= @Heap.get?_push_size
def cB:= @List.not_mem_nil
def dR:= @Nat.eq_of_beq_eq_true
def fa:= @List.getElem?_eq_getElem
def bU:= @Nat.zero_le
def cb:= @Nat.le_refl
def c5:= @Nat.le_add_right
def eV:= @List.length_append
def eW:= @Nat.lt_of_le_of_lt
def et:= @List.append_nil
def i5:= @List.getElem?_append_right
def dk:= @Heap.lt_size
def eu:= @Nat.not_lt_zero
def hq:= @Nat.lt_of_succ_lt_succ
def ed:= @Nat.le_of_eq
def hr:= @Nat.lt_of_lt_of_le
def ee:= @Nat.le_of_lt
def hT:= @Nat.sub_add_cancel
def iC:= @Nat.mul_le_mul_left
def k4:= @List.getElem?_append_left
def hU:= @Nat.le_of_succ_le
def i6:= @Heap.SameBut.update
def hV:= @Nat.lt_succ_self
def gk:= @Nat.lt_irrefl
def o6:= @List.size_toArray
def jV:= @List.getElem?_of_mem
def k5:= @Nat.le_of_succ_le_succ
def jW:= @Nat.add_le_add_left
def gl:= @Nat.ne_of_lt
def fU:= @Nat.le_succ
def gI:= @Nat.succ_pos
def o7:= @List.getElem?_toArray
def iD:= @decide_eq_true
def mV:= @Nat.add_le_add_right
def o8:= @Nat.lt_add_of_pos_right
def jX:= @List.append_assoc
def k6:= @Nat.le_succ_of_le
def mX:= @Nat.add_right_comm
def jY:= @Heap.size_push
def jZ:= @Nat.add_le_add
def k7:= @decide_eq_false
def k9:= @List.forIn_cons
def j0:= @wpAny_standAt
def j1:= @wpAny_holding
def qW:= @Heap.get?_update_self
def o9:= @wpAny_newObj_type
def tW:= @codeAny_call_builtin
def qX:= @List.mem_of_mem_tail
def qY:= @List.filterMap_cons
def gJ:= @Nat.mod_lt
def j2:= @Nat.lt_trans
def qZ:= @Array.size_append
def mY:= @Nat.beq_refl
def pa:= @Nat.sub_self
def mZ:= @Nat.ne_of_gt
def Xz:= @Bool.and_eq_true
def q0:= @Nat.succ_le_succ
def tX:= @List.getElem?_range
def q1:= @codeAny_of_tree
def xA:= @Int.natCast_nonneg
def m0:= @wpAny_field
def m1:= @Prod.mk.inj
def q2:= @List.nodup_nil
def tY:= @of_decide_eq_true
def tZ:= @Nat.lt_of_succ_lt
def xB:= @wpAny_storeName_local
def m2:= @wpAny_call
def t0:= @Nat.le_of_not_lt
def t1:= @List.any_cons
def q3:= @looks_mroIn
def xC:= @List.mem_append_left
def xD:= @Nat.sub_le_sub_left
def i7:= @Ne.symm
def j3:= @Looks.ld
def t2:= @wpAny_setField
def xE:= @wpAny_loadPart
def Bw:= @Array.getElem?_eq_getElem
def q4:= @wpAny_throw
def xF:= @List.reverse_cons
def Bx:= @wpAny_comprehension_free
def By:= @Option.bind_some
def xG:= @List.nodup_range
def xH:= @Except.error.inj
def Bz:= @Nat.add_sub_cancel_left
def t3:= @Nat.zero_add
def xI:= @looks_findIn
def BA:= @Nat.le_mul_of_pos_left
def xJ:= @SeqAt.EqAt.same
def xK:= @Nat.le_antisymm
def BB:= @List.getElem?_eq_none
def Bu:= @List.mem_append_right
def Bv:= @F.typeOf_object_class
def aS{a:Prop}(c:∀b:Prop,(a->b)->b):a:=c a id
@[elab_as_elim] def h{d:Sort _}{b c:d}{a:d->Prop}(f:b=c)(e:a c):a b:=f▸e
@[elab_as_elim] def ba{d:Sort _}{b c:d}{a:d->Prop}(f:b=c)(e:a b):a c:=f▸e
def aA{a b:Bool}{c:Prop}(e:a=b)(d:(a==b)=false:=by rfl):c:=by subst e;rcases a with _|_<;>cases d
def bV{b c d a:Nat}(f:b<=c)(e:d+c<=a+b):d<=a:=Nat.le_of_add_le_add_right (L e (jW f a))
def dC{a b c d e f:Nat}(h:a<=b)(k:c<=d)(g:e+(b+d)<=f+(a+c)):e<=f:=bV (jZ h k) g
def hD{a b c d e f g h:Nat}(j:a<=b)(k:c<=d)(l:e<=f)(i:g+(b+d+f)<=h+(a+c+e)):g<=h:=bV (jZ (jZ j k) l) i
def vk{a b c d e f g j h i:Nat}(n:a<=b)(k:c<=d)(o:e<=f)(m:g<=j)(l:h+(b+d+f+j)<=i+(a+c+e+g)):h<=i:=bV (jZ (jZ (jZ n k) o) m) l
set_option genCtorIdx true in
inductive Bi where
 |aE|sum|vU|mw|so|sp|rO|tr|tp|tt|tm|tl|tn|tq|nQ
noncomputable def Bi.id:Bi->String
 | .aE=>"len"| .sum=>"sum"| .vU=>"isinstance"| .mw=>"ord"| .so=>"list.append"| .sp=>"list.pop"| .rO=>"dict.pop"
 | .tr=>"str.startswith"| .tp=>"str.lower"| .tt=>"str.upper"| .tm=>"str.index"| .tl=>"str.find"| .tn=>"str.join"| .tq=>"str.split"| .nQ=>"Exception.__init__"
set_option genCtorIdx true in
inductive Ty where
 |str|int|vd|tuple|range|u'
 deriving DecidableEq
def Ty.name:Ty->String
 | .str=>"str"| .int=>"int"| .vd=>"Exception"| .tuple=>"tuple"| .range=>"range"| .u'=>"enumerate"
inductive Y where
 |none|bool (b:Bool)|int (e:Int)|str (s:Str)
 |d (a:Nat)|obj (e:Nat)|ty (g:Ty)|bi (id:Bi)
 |l (f:List Y)|c (f:List Y)
inductive ae where
 |c (f:List Y)|dict (b:List (Str×Y))|bj (C d:Nat)|ar (C:Nat) (d:Option Nat) (args:List Y) (tb a:Bool)|cell (v:Option Y)|ro (e:ae)
structure St where
 objs:List ae
 d:List (Str×Y)
abbrev af:=Y->St->Prop
noncomputable def U{b:Type}(a:Str):List (Str×b)->Option b
 |[]=>none
 |p::c=>cond (Fast.sEq p.1 a) (some p.2) (U a c)
noncomputable def bf(a:List Env):List Addr:=a.map (·.locals)
noncomputable abbrev TB:Value:= .type "traceback"
noncomputable abbrev dQ(b:List Value)(a:Nat):Obj:={cls:= .type "tuple",data:= .seq b.toArray a}
mutual
inductive G(Z:List Addr)(h:Heap)(ρ:List Addr):Y->Value->Prop
 |iw:G Z h ρ .none .none
 |kM (b:Bool):G Z h ρ (.bool b) (.bool b)
 |dO (i:Int) (t:Tok):G Z h ρ (.int i) (.int i t)
 |fN (s:Str) (t:Tok):G Z h ρ (.str s) (.str s t)
 |oD (a:Nat):G Z h ρ (.d a) (.ref a)
 |sZ (n:Ty):G Z h ρ (.ty n) (.type n.name)
 |kL (id:Bi):G Z h ρ (.bi id) (.builtin id.id)
 |gh {i:Nat} {a:Addr}:ρ[i]?=some a->G Z h ρ (.obj i) (.ref a)
 |mz {vs:List Y} {a:Addr} {xs:List Value} {n:Nat}:h.get? a=some (dQ xs n)->a∉ρ->w Z h ρ vs xs->G Z h ρ (.l vs) (.ref a)
 |my {vs:List Y} {a:Addr} {xs:List Value} {n:Nat}:h.get? a=some (listOf xs.toArray n)->a∉ρ->a∉Z->w Z h ρ vs xs->G Z h ρ (.c vs) (.ref a)
inductive w(Z:List Addr)(h:Heap)(ρ:List Addr):List Y->List Value->Prop
 |cQ:w Z h ρ [] []
 |cI {v:Y} {x:Value} {vs:List Y} {xs:List Value}:G Z h ρ v x->w Z h ρ vs xs->w Z h ρ (v::vs) (x::xs)
end
structure Kp(f:Heap)(e:List Addr)(i:Heap)(h:List Addr):Prop where
 seq:∀(b:Addr)(d:Obj),f.get? b=some d->b∉e->(∃k j,d.data= .seq k j)->d.cls≠TB->i.get? b=some d
 ext:∀(g:Nat)(a:Addr),e[g]?=some a->h[g]?=some a
 new:∀a∈h,a∉e->f.get? a=none
def cG{b:Type}{a:Option b}{c:b}(d:a=none)(k:a=some c):False:=by cases d.symm.trans k
section
variable{i:World}{f:List Addr}{b g:Heap}{a h:List Addr}
def Kp.dj(e:Kp b a g h){d:Addr}{j:Obj}(f:b.get? d=some j)(i:d∉a):d∉h:=λk=>cG (e.new d k i) f
def Kp.l(i:Kp b a g h){d:Addr}{f:List Value}{e:Nat}(j:b.get? d=some (dQ f e))(k:d∉a):g.get? d=some (dQ f e):=i.seq d _ j k ⟨_,_,rfl⟩ (by decide:Value.type "tuple"≠TB)
def Kp.c(i:Kp b a g h){d:Addr}{f:Array Value}{e:Nat}(j:b.get? d=some (listOf f e))(k:d∉a):g.get? d=some (listOf f e):=i.seq d _ j k ⟨_,_,rfl⟩ (by decide:Value.type "list"≠TB)
def G.mono(d:Kp b a g h){j:Y}{k:Value}(r:G f b a j k):G f g h j k:=
 G.rec (motive_1:=λj k i=>G f g h j k) (motive_2:=λo p i=>w f g h o p) .iw .kM .dO .fN .oD .sZ .kL (λc=> .gh (d.ext _ _ c))
  (λc e i l=> .mz (d.l c e) (d.dj c e) l) (λc e q i l=> .my (d.c c e) (d.dj c e) q l) .cQ (λi i m n=> .cI m n) r
def w.gF{P:List Y->List Value->Prop}(i:P [] [])(j:∀{g h d e},G f b a g h->w f b a d e->P d e->P (g::d) (h::e)) {d:List Y} {e:List Value} (r:w f b a d e):P d e:=
 w.rec (motive_1:=λc c c=>True) (motive_2:=λd e c=>P d e) u (λc=>trivial) (λc c=>trivial) (λc c=>trivial) (λc=>trivial) (λc=>trivial) (λc=>trivial) (λc=>trivial) (λc c c c=>trivial) (λc c c c c=>trivial) i (λr l c k=>j r l k) r
def w.mono(e:Kp b a g h){c:List Y}{d:List Value}(r:w f b a c d):w f g h c d:=w.gF .cQ (λr j i=> .cI (r.mono e) i) r
def w.length{c:List Y}{d:List Value}(r:w f b a c d):d.length=c.length:=w.gF (P:=λc d=>d.length=c.length) rfl (λg g e=>T Nat.succ e) r
def w.append{e:List Y}{g:List Value}(h:w f b a e g){c:List Y}{d:List Value}(r:w f b a c d):w f b a (c++e) (d++g):=w.gF (P:=λc d=>w f b a (c++e) (d++g)) h (λr j i=> .cI r i) r
structure rb(i:World)(f:List Addr)(b:Heap)(a:List Addr)(e:Str×Y)(d:DictEntry):Prop where
 key:∃c,d.key= .str e.1 c
 hash:d.hash=PyData.keyHash i.params e.1
 val:G f b a e.2 d.val
inductive c6(i:World)(f:List Addr)(b:Heap)(a:List Addr):List (Str×Y)->List DictEntry->Prop
 |fk:c6 i f b a [] []
 |f0 {e:Str×Y} {d:DictEntry} {g:List (Str×Y)} {c:List DictEntry}:rb i f b a e d->c6 i f b a g c->c6 i f b a (e::g) (d::c)
def c6.mono(e:Kp b a g h){d:List (Str×Y)}{c:List DictEntry}(r:c6 i f b a d c):c6 i f g h d c:=by
 induction r with
 |fk=>exact .fk
 |f0 ai _ j=>exact .f0 ⟨ai.key,ai.hash,ai.val.mono e⟩ j
def ri(a:List Addr):Option Nat->Option Addr->Prop
 |none,none=>True
 |some ap,some ai=>a[ap]?=some ai
 |_,_=>False
def ri.mono(e:Kp b a g h){d:Option Nat}{c:Option Addr}(r:ri a d c):ri h d c:=by
 rcases d with _|_<;>rcases c with _|_
 . exact r
 . exact r
 . exact r
 . exact e.ext _ _ r
end
inductive ll(Z:List Addr)(b:Heap)(e:List Addr)(a:Addr)(c:List Y):Prop
 |mk (d:List Value) (f:Nat):b.get? a=some (listOf d.toArray f)->w Z b e c d->ll Z b e a c
inductive ey(e:World)(Z:List Addr)(c:Heap)(f:List Addr)(a:Addr)(b:List (Str×Y)):Prop
 |mk (d:List DictEntry) (n:Nat):c.get? a=some (dictOf d n)->c6 e Z c f b d->(b.map (·.1)).Nodup->ey e Z c f a b
inductive x6(b:Heap)(c:List Addr)(a C d:Nat):Prop
 |mk (ad:Addr):c[d]?=some ad->b.get? a=some (instObj C ad)->x6 b c a C d
inductive i9(c:Heap)(e:List Addr)(a:Addr):Bool->Value->Prop
 |n:i9 c e a false .none
 |mk (b:Addr) (d:Obj) (f:Array Value):c.get? b=some d->d.cls=TB->d.data= .fields f->11<=f.size->b∉e->a<b->i9 c e a true (.ref b)
noncomputable abbrev pZ(a:Nat)(b:Option Addr)(d:Addr)(e c m:Value):Obj:={cls:= .ref a,dict:=b,data:= .fields #[.ref d,e,c,.none,.bool false,m]}
inductive nj(Z:List Addr)(b:Heap)(c:List Addr)(a C:Nat)(d:Option Nat)(args:List Y)(h f:Bool):Prop
 |mk (ad:Option Addr) (e:Addr) (i g m:Value) (j:List Value) (k:Nat):ri c d ad->b.get? a=some (pZ C ad e i g m)->b.get? e=some (dQ j k)->e∉c->w Z b c args j->i9 b c a h i->(f=false->g= .none)->nj Z b c a C d args h f
inductive ni(Z:List Addr)(c:Heap)(d:List Addr)(a:Addr):Option Y->Prop
 |n (b:Obj):c.get? a=some b->b.cls≠TB->b.data= .cell none->ni Z c d a none
 |mk (b:Obj) (v:Y) (e:Value):c.get? a=some b->b.cls≠TB->b.data= .cell (some e)->G Z c d v e->ni Z c d a (some v)
def cK(e:World)(d:List Addr)(b:Heap)(c:List Addr)(a:Addr):ae->Prop
 | .c j=>ll d b c a j
 | .dict g=>ey e d b c a g
 | .bj ag ap=>x6 b c a ag ap
 | .ar ag ap args i f=>nj d b c a ag ap args i f
 | .cell aj=>ni d b c a aj
 | .ro h=>cK e d b c a h
inductive rl(c:Heap)(b:Addr)(d:Array Value):Prop
 |mk (a:Obj) (e:Array Value):c.get? b=some a->a.cls=TB->a.data= .fields e->e.size=d.size->rl c b d
def rl.same{d:Heap}{c:Addr}{a:Obj}{b:Array Value}(g:d.get? c=some a)(e:a.cls=TB)(f:a.data= .fields b):rl d c b:=⟨a,b,g,e,f,rfl⟩
def lp(d e:Heap):Prop:=∀(b:Addr)(a:Obj) c,d.get? b=some a->a.cls=TB->a.data= .fields c->rl e b c
section
variable{g:World}{f:List Addr}{a c:Heap}{d e:List Addr}{b:Addr}
def i9.mono(i:Kp a d c e)(m:lp a c){g:Bool}{h:Value}(r:i9 a d b g h):i9 c e b g h:=by
 induction r with
 |n=>exact .n
 |mk ah q u f al ap w p o=>obtain⟨s,v,l,j,k,t⟩:=m ah q u f al ap;exact .mk ah s v l j k (t▸w) (i.dj f p) o
theorem cK.mono(j:Kp a d c e)(A:lp a c)(n:c.get? b=a.get? b){l:ae}(r:cK g f a d b l):cK g f c e b l:=by
 induction l with
 |c H=>obtain⟨s,o,h,i⟩:=r;exact⟨s,o,n.trans h,i.mono j⟩
 |dict F=>obtain⟨v,o,h,i,k⟩:=r;exact⟨v,o,n.trans h,i.mono j,k⟩
 |bj ag ap=>obtain⟨q,h,i⟩:=r;exact⟨q,j.ext _ _ h,n.trans i⟩
 |ar ag ap args G E=>obtain⟨q,B,C,u,m,s,o,h,i,k,p,w,x,y⟩:=r;exact⟨q,B,C,u,m,s,o,h.mono j,n.trans i,j.l k p,j.dj k p,w.mono j,x.mono j A,y⟩
 |cell t=>
  rcases r with⟨l,h,i,k⟩|⟨l,t,D,h,i,k,p⟩
  . exact .n l (n.trans h) i k
  . exact .mk l t D (n.trans h) i k (p.mono j)
 |ro l z=>exact z r
theorem cK.c7{c:ae}(r:cK g f a d b c):∃h,a.get? b=some h:=by
 induction c with
 |c i=>obtain⟨_,_,a,_⟩:=r;exact⟨_,a⟩
 |dict i=>obtain⟨_,_,a,_⟩:=r;exact⟨_,a⟩
 |bj ag ap=>obtain⟨_,_,a⟩:=r;exact⟨_,a⟩
 |ar ag ap args k j=>obtain⟨_,_,_,_,_,_,_,_,a,_⟩:=r;exact⟨_,a⟩
 |cell aj=>rcases r with⟨_,a,_⟩|⟨_,_,_,a,_⟩<;>exact⟨_,a⟩
 |ro c e=>exact e r
end
def jt:ae->Bool
 | .ro _=>true
 |_=>false
def bk(d:St)(e:List Addr)(c:Addr):Prop:=∃(a:Nat)(b:ae),d.objs[a]?=some b/\e[a]?=some c/\jt b=false
structure au where
 w:World
 hb:Heap
 fz:List Addr
noncomputable abbrev au.n0(a:au):Nat:=a.hb.objs.size
def au.B(c:au)(d:Heap):Prop:=∀(a:Addr)(b:Obj),c.hb.get? a=some b->d.get? a=some b
def ph(c:au)(d e:Heap):Prop:=∀(a:Addr)(b:Obj),a<c.n0->d.get? a=some b->e.get? a=some b
def au.mono(a:au){d e:Heap}(k:ph a d e)(g:a.B d):a.B e:=λb f c=>k b f (dk c) (g b f c)
def j5(b c:Heap):Prop:=∀(a:Addr)(d:Obj),b.get? a=some d->∃e,c.get? a=some e
structure nh(c:Nat)(b:Heap)(a:Addr):Prop where
 has:∃d,b.get? a=some d
 ge:c<=a
def nh.mono{d:Nat}{b c:Heap}{a:Addr}(k:j5 b c)(e:nh d b a):nh d c a:=⟨(λ⟨g,f⟩=>k a g f) e.has,e.ge⟩
structure HU(C:au)(b:Heap)(c:List Addr)(a:Addr):Prop where
 ge:C.n0<=a
 dj:a∉c
 ns:∃m,b.Ns a m
inductive rf(Z:List Addr)(a:Heap)(f:List Addr)(c:List (Str×Y))(b:Addr):Prop
 |mk (m:Str->Option Value):a.Ns b m->(∀d v,U d c=some v->∃e,m d=some e/\G Z a f v e)->rf Z a f c b
structure cD(C:au)(e:List Env)(st:St)(c:List Addr)(b:Heap):Prop where
 cw:C.B b
 eh:C.n0<=b.objs.size
 aE:c.length=st.objs.length
 d3:c.Nodup
 a4:∀(g:Nat)(h:ae)(a:Addr),st.objs[g]?=some h->c[g]?=some a->cK C.w C.fz b c a h
 dt:∀a∈c,nh C.n0 b a
 em:∀a∈C.fz,nh C.n0 b a
 b7:∀f∈bf e,HU C b c f
 hF:(bf e).Nodup
 envs:∀env∈e,env.scope.kind≠.module/\∃F,env.frame=some F/\F∈bf e
 d:∀f r,bf e=f::r->rf C.fz b c st.d f
structure Wd where
 ag:au
 aq:List Env
structure D(w:Wd) where
 st:St
 ρ:List Addr
 s:Shared
 O:cD w.ag w.aq st ρ s.heap
def HY(h:au)(e:List Env)(f:St)(g:List Addr)(c d:Heap):Prop:=∀(a:Addr)(b:Obj),c.get? a=some b->¬bk f g a->a∉bf e->b.cls≠TB->d.get? a=some b
def fW(d:List Addr)(b c:Heap):Prop:=∀a∈d,∀m,b.Ns a m->c.Ns a m
structure Step{d:Wd}(m:D d)(g:St)(f:List Addr)(b:Shared):Prop where
 ext:∀(c:Nat)(a:Addr),m.ρ[c]?=some a->f[c]?=some a
 new:∀a∈f,a∉m.ρ->m.s.heap.get? a=none
 c7:j5 m.s.heap b.heap
 b0:HY d.ag d.aq m.st m.ρ m.s.heap b.heap
 iA:lp m.s.heap b.heap
 fL:ph d.ag m.s.heap b.heap
 f8:∀(c:Nat)(e:ae),m.st.objs[c]?=some (.ro e)->g.objs[c]?=some (.ro e)
 hJ:fW (bf d.aq).tail m.s.heap b.heap
 gens:b.gens=m.s.gens
 os:b.os=m.s.os
def D.To{b:Wd}(m a:D b):Prop:=Step m a.st a.ρ a.s
structure s{a:Wd}(m:D a)(b:St)(c:List Addr)(s':Shared):Prop where
 O:cD a.ag a.aq b c s'.heap
 f:Step m b c s'
noncomputable abbrev s.pt{c:Wd}{m:D c}{b:St}{d:List Addr}{a:Shared}(e:s m b d a):D c:=⟨b,d,a,e.O⟩
def jI{d:List Addr}(g:d.Nodup){b j:Nat}{e:Addr}(i:d[b]?=some e)(k:d[j]?=some e):b=j:=by
 obtain⟨h,f⟩:=List.getElem?_eq_some_iff.mp i;have c:=List.getElem?_eq_some_iff.mp k;rcases Nat.lt_trichotomy b j with a|a|a
 . exact absurd (f.trans c.2.symm) ((List.pairwise_iff_getElem.mp g) b j h c.1 a)
 . exact a
 . exact absurd (c.2.trans f.symm) ((List.pairwise_iff_getElem.mp g) j b c.1 h a)
def ot{b:Heap}{a:Addr}{m:Str->Option Value}{c:Obj}{j:Array Value}{i:Nat}(d:b.Ns a m)(g:b.get? a=some c)(e:c.data= .seq j i):False:=by obtain⟨n,l,k,h,f,_⟩:=d;cases g.symm.trans h;cases e.symm.trans f
def wj{b:Heap}{a:Addr}{m:Str->Option Value}{c:Obj}{i:Array Value}(d:b.Ns a m)(g:b.get? a=some c)(e:c.data= .fields i):False:=by obtain⟨l,k,j,h,f,_⟩:=d;cases g.symm.trans h;cases e.symm.trans f
section
variable{b:Wd}{m aG a:D b}
def D.To.refl(m:D b):m.To m:=
 ⟨λa a c=>c,λa d e=>absurd d e,λa f c=>⟨f,c⟩,λa a c a a a=>c,λa a a=> .same,λa a a c=>c,λa a c=>c,λa a a c=>c,rfl,rfl⟩
def Step.kp{n:St}{e:List Addr}{d:Shared}(a:Step m n e d):Kp m.s.heap m.ρ d.heap e:=
 ⟨λb l c k ⟨_,_,h⟩ j=>a.b0 b l c (λ⟨_,_,_,g,_⟩=>k (b8 g)) (λi=>(λ⟨_,f⟩=>ot f c h) (m.O.b7 b i).ns) j,a.ext,a.new⟩
def Ek{a:ae}(b:jt a=true):∃c,a= .ro c:=by
 induction a using ae.casesOn with
 |ro a=>exact⟨a,rfl⟩
 |_=>cases b
def Step.trans{y:St}{z:List Addr}{x:Shared}(d:m.To aG)(f:Step aG y z x):Step m y z x:=by
 refine⟨λe g b=>f.ext e g (d.ext e g b),λg I M=> ?_,λa c b=>(λ⟨k,h⟩=>f.c7 a k h) (d.c7 a c b),λa c b v u w=> ?_,λa c Q b A D=> ?_,
  λa c t b=>f.fL a c t (d.fL a c t b),λe c b=>f.f8 e c (d.f8 e c b),λp r m b=>f.hJ p r m (d.hJ p r m b),f.gens.trans d.gens,f.os.trans d.os⟩
 . by_cases i:g∈aG.ρ
   . exact d.new g i M
   . have L:=f.new g I i;cases o:m.s.heap.get? g with
     |none=>rfl
     |some c=>obtain⟨k,h⟩:=d.c7 g c o;exact(cG L h).elim
 . refine f.b0 a c (d.b0 a c b v u w) (λ⟨e,k,J,q,K⟩=> ?_) u w;by_cases i:a∈m.ρ
   . refine Exists.elim (jV i) λj l=> ?_;obtain rfl:=jI aG.O.d3 q (d.ext j a l);have n:m.st.objs[e]?=some (m.st.objs[e]'(m.O.aE▸(List.getElem?_eq_some_iff.mp l).1)):=fa _;cases s:jt (m.st.objs[e]'(m.O.aE▸(List.getElem?_eq_some_iff.mp l).1)) with
     |false=>exact v ⟨e,_,n,l,s⟩
     |true=>
      obtain⟨O,H⟩:=Ek s;rw [H] at n;cases(d.f8 e O n).symm.trans J;cases K
   . exact(cG (d.new a (b8 q) i) b).elim
 . obtain⟨k,R,h,B,E,o⟩:=d.iA a c Q b A D;obtain⟨N,S,G,C,F,P⟩:=f.iA a k R h B E;exact⟨N,S,G,C,F,P.trans o⟩
def D.To.trans(b:m.To aG)(c:aG.To a):m.To a:=Step.trans b c
def cD.lt{e:au}{i:List Env}{j:St}{c:List Addr}{b:Heap}(f:cD e i j c b){a:Addr}(h:a∈c):a<b.objs.size:=let⟨_,g⟩:=(f.dt a h).has;dk g
def cD.ne{c:au}{f:List Env}{h:St}{b:List Addr}{a:Heap}(e:cD c f h b a):a.objs.size∉b:=λg=>absurd (e.lt g) (gk _)
def kC{a:Heap}:a.get? a.objs.size=none:=by
 induction b:a.get? a.objs.size using Option.casesOn with
 |none=>rfl
 |some c=>exact absurd (dk b) (gk _)
end
structure gm(f:Nat)(g J:List Addr)(c d:Heap):Prop where
 eh:f<=c.objs.size->f<=d.objs.size
 c7:j5 c d
 zP:∀a∈g,d.get? a=c.get? a
 frame:fW J c d
 bn:∀(b:Addr)(e:Obj),c.get? b=some e->b∉g->b∉J->e.cls≠TB->d.get? b=some e
 xb:lp c d
 fL:∀(b:Addr)(e:Obj),b<f->c.get? b=some e->d.get? b=some e
section
variable{e:au}{f:List Env}{i:St}{b:List Addr}{a c:Heap}
def gm.kp(k:cD e f i b a)(ab:gm e.n0 b (bf f) a c):Kp a b c b:=
 ⟨λd p g o ⟨_,_,m⟩ l=>ab.bn d p g o (λn=>(λ⟨_,j⟩=>ot j g m) (k.b7 d n).ns) l,λh h q=>q,λh r s=>absurd r s⟩
def rf.mono{f:List Addr}{g:List (Str×Y)}{d:Addr}{h:List Addr}(i:Kp a b c h)(n:∀m,a.Ns d m->c.Ns d m) (e:rf f a b g d):rf f c h g d:=by obtain⟨m,j,p⟩:=e;exact⟨m,n m j,λe q o=>let⟨r,k,l⟩:=p e q o;⟨r,k,l.mono i⟩⟩
def cD.qi(g:cD e f i b a)(ab:gm e.n0 b (bf f) a c):cD e f i b c:=by
 have n:=ab.kp g;exact⟨e.mono ab.fL g.cw,ab.eh g.eh,g.aE,g.d3,λs t h q o=>(g.a4 s t h q o).mono n ab.xb (ab.zP h (b8 o)),λh l=>(g.dt h l).mono ab.c7,λh l=>(g.em h l).mono ab.c7,
  λj k=>let⟨h,ah,m,p⟩:=g.b7 j k;⟨h,ah,m,ab.frame j k m p⟩,g.hF,g.envs,λj r k=>(g.d j r k).mono n (ab.frame j (k▸.head _))⟩
def s.qi{g:Wd}{m:D g}{c:Shared}(ab:gm g.ag.n0 m.ρ (bf g.aq) m.s.heap c.heap)(l:c.gens=m.s.gens)(n:c.os=m.s.os):s m m.st m.ρ c:=by
 refine⟨m.O.qi ab,λd d b=>b,λd a o=>absurd a o,ab.c7,λe r b t p q=> ?_,ab.xb,ab.fL,λd d b=>b,λi k m j=>ab.frame i (qX k) m j,l,n⟩;by_cases h:e∈m.ρ
 . exact(ab.zP e h).trans b
 . exact ab.bn e r b h p q
variable{g:Nat}{d:List Addr}
def gm.push(i:Obj)(s:∀j∈b,j<a.objs.size):gm g b d a (a.push i):=by have k:∀(e:Addr)(c:Obj),a.get? e=some c->(a.push i).get? e=some c:=λe c f=>cX i f;refine⟨λu=>by refine h (jY ..) ?_;exact k6 u,λe c f=>⟨c,k e c f⟩,λj r=> ?_,λv l m o=>o.push i,λe c f l l l=>k e c f,λe c x f p q=> .same (k e c f) p q,λe c l f=>k e c f⟩;have t:j≠a.objs.size:=gl (s j r);obtain⟨n,w⟩:=a;refine(?_:(match(n.push i)[j]?with|some ⟨_,_,.freed,_⟩=>none|i=>i)=(match n[j]?with|some ⟨_,_,.freed,_⟩=>none|i=>i));rw [Array.getElem?_push,if_neg t]
def gm.slots(D:Heap.SlotsOnly d a c)(A:∀i∈d,i∉b) (z:∀i∈d,g<=i):gm g b d a c:=by
 obtain⟨E,n,o⟩:=D;refine⟨λF=>E▸F,λf h e=>(λ⟨q,j⟩=>⟨_,j⟩) (o f h e),λp x=>n p λl=>A p l x,λi s m t=> ?_,λf h e s B s=>(n f B).trans e,λf h C e u k=> ?_,λf h y e=>(n f λl=>absurd y (Nat.not_lt.mpr (z f l))).trans e⟩
 . obtain⟨h,w,v,e,k,r⟩:=t;refine Exists.elim (o i h e) λq j=> ?_;exact⟨_,w,v,j,k,r⟩
 . refine Exists.elim (o f h e) λq j=> ?_;exact⟨_,C,j,u,k,rfl⟩
def gm.Tu{h:Addr}{o:Obj}{t:Array Value}(r:a.get? h=some o)(k:Heap.SameBut h a c)(C:h∉b)(y:h∉d)(B:g<=h)(n:o.cls=TB)(A:o.data= .fields t)(s:rl c h t):gm g b d a c:=by
 have l:∀{i j},a.get? i=some j->i≠h->c.get? i=some j:=λf e=>(k.2 _ e).trans f;refine⟨λp=>k.1▸p,λi j f=> ?_,λv z=>k.2 v λe=>C (e▸z),λG x m u=>u.sameBut k λe=>y (e▸x),λi j f F F D=>l f λe=>D ?_,λi j H f w q=> ?_,λi j n f=>l f λe=>absurd (e▸n) (Nat.not_lt.mpr B)⟩
 . by_cases e:i=h
   . obtain⟨E,_,p,_⟩:=s;exact⟨E,e▸p⟩
   . exact⟨j,l f e⟩
 . subst e;cases r.symm.trans f;exact n
 . by_cases e:i=h
   . subst e;cases r.symm.trans f;cases A.symm.trans q;exact s
   . exact .same (l f e) w q
end
section
variable{a:Wd}{m:D a}{s':Shared}
def cD.OM{f:au}{c:List Env}{k:St}{e:List Addr}{h:Heap}(g:cD f c k e h){b a:Addr}(j:b∈e)(i:a∈bf c):a≠b:=λl=>(g.b7 a i).dj (l▸j)
def j5.e1{e b:Heap}{a:Addr}(i:Heap.SameBut a e b)(h:∃c,b.get? a=some c):j5 e b:=λd c g=>by
 by_cases f:d=a
 . exact f▸h
 . exact⟨c,(i.2 d f).trans g⟩
def s.dd{t:Nat}{l:Addr}{o oy:ae}{G:Obj}(x:m.ρ[t]?=some l)(F:m.st.objs[t]?=some oy)(M:jt oy=false)(v:Heap.SameBut l m.s.heap s'.heap)
  (V:m.s.heap.get? l=some G)(T:G.cls=TB->∀H,G.data≠.fields H) (N:cK a.ag.w a.ag.fz s'.heap m.ρ l o) (U:s'.gens=m.s.gens) (W:s'.os=m.s.os):s m ⟨m.st.objs.set t o,m.st.d⟩ m.ρ s':=by
 have b:=m.O;have C:l∈m.ρ:=b8 x;have y:∀{e n},m.s.heap.get? e=some n->e≠l->s'.heap.get? e=some n:=λg c=>(v.2 _ c).trans g;have I:Kp m.s.heap m.ρ s'.heap m.ρ:=⟨λe o g Y k k=>y g λc=>Y (c▸C),λk k c=>c,λk n XC=>absurd n XC⟩;have P:lp m.s.heap s'.heap:=λe n H c K L=> .same (y c λq=>by subst q;cases V.symm.trans c;exact T K H L) K L;have Q:ph a.ag m.s.heap s'.heap:=λe n X c=>y c λq=>absurd X (Nat.not_lt.mpr (q▸(b.dt l C).ge));have z:j5 m.s.heap s'.heap:= .e1 v N.c7;have A:∀d∈bf a.aq,∀h,m.s.heap.Ns d h->s'.heap.Ns d h:=λd i h u=>u.sameBut v (b.OM C i);refine⟨⟨a.ag.mono Q b.cw,v.1▸b.eh,b.aE.trans (by rw [List.length_set]),b.d3,λj R J w B=> ?_,λe D=>(b.dt e D).mono z,λe D=>(b.em e D).mono z,λd i=>let⟨p,c,h,u⟩:=b.b7 d i;⟨p,c,h,A d i h u⟩,b.hF,b.envs,λd r i=>(b.d d r i).mono I (A d (i▸.head _))⟩,
  λk k g=>g,λk S h=>absurd S h,z,λe n g Z k k=>y g λq=>Z ⟨t,oy,F,q▸x,M⟩,P,Q,λj R g=> ?_,λd i h u=>A d (qX i) h u,U,W⟩
 . by_cases E:j=t
   . subst E;rw [List.getElem?_set_self (List.getElem?_eq_some_iff.mp F).1] at w;cases w;cases x.symm.trans B;exact N
   . rw [List.getElem?_set_ne (Ne.symm E)] at w;exact(b.a4 j R J w B).mono I P (v.2 J λc=>E (jI b.d3 B (c▸x)))
 . refine(?_:(m.st.objs.set t o)[j]?=_);rw [List.getElem?_set_ne λq=>by subst q;cases F.symm.trans g;cases M];exact g
def zJ{c:Heap}{e:List Addr}(d:Obj):Kp c e (c.push d) e:=⟨λa a b a a a=>cX d b,λa a b=>b,λa f g=>absurd f g⟩
def qg{c:Heap}{f:List Addr}(d:Obj):Kp c f (c.push d) (f++[c.objs.size]):=
 ⟨λb b h b b b=>cX d h,λj g e=>(k4 (List.getElem?_eq_some_iff.mp e).1).trans e,λg a i=>by
  rcases List.mem_append.mp a with a|a
  . exact absurd a i
  . exact List.mem_singleton.mp a▸kC⟩
def s.alloc{o:ae}{j:Obj}(A:cK a.ag.w a.ag.fz (m.s.heap.push j) (m.ρ++[m.s.heap.objs.size]) m.s.heap.objs.size o)(I:s'.heap=m.s.heap.push j)(G:s'.gens=m.s.gens)(H:s'.os=m.s.os):
  s m ⟨m.st.objs++[o],m.st.d⟩ (m.ρ++[m.s.heap.objs.size]) s':=by
 have b:=m.O;have ab:gm a.ag.n0 m.ρ (bf a.aq) m.s.heap (m.s.heap.push j):=gm.push j λc e=>b.lt e;have v:Kp m.s.heap m.ρ (m.s.heap.push j) (m.ρ++[m.s.heap.objs.size]):=qg j;have K:∀{y:Addr->Prop},(∀c∈m.ρ,y c)->y m.s.heap.objs.size->∀c∈m.ρ++[m.s.heap.objs.size],y c:=λE k c e=>by
  rcases List.mem_append.mp e with l|l
  . exact E c l
  . exact List.mem_singleton.mp l▸k
 have J:∀{d},(∃g,m.s.heap.Ns d g)->d∉m.ρ->d∉m.ρ++[m.s.heap.objs.size]:=λ⟨g,q⟩ l n=>by
  rcases List.mem_append.mp n with n|n
  . exact l n
  . exact absurd (List.mem_singleton.mp n▸q.lt) (gk _)
 obtain⟨L,_,_,_,_⟩:=s';subst I;refine⟨⟨a.ag.mono ab.fL b.cw,ab.eh b.eh,by refine h (eV ..) ?_;refine h (eV ..) ?_;refine h (b.aE ..) ?_;rfl,?_,λx B c t u=> ?_,K (λc e=>(b.dt c e).mono ab.c7) ⟨A.c7,b.eh⟩,λc e=>(b.em c e).mono ab.c7,λd i=>let⟨p,l,g,q⟩:=b.b7 d i;⟨p,J ⟨g,q⟩ l,g,ab.frame d i g q⟩,b.hF,b.envs,λd r i=>(b.d d r i).mono v (ab.frame d (i▸.head _))⟩,
  v.ext,v.new,ab.c7,λD M w C C C=>cX j w,ab.xb,ab.fL,λx B w=>(k4 (List.getElem?_eq_some_iff.mp w).1).trans w,λd i g q=>ab.frame d (qX i) g q,G,H⟩
 . exact List.nodup_append.mpr ⟨b.d3,List.nodup_cons.mpr ⟨cB,.nil⟩,λc e D F n=>b.ne (List.mem_singleton.mp F▸n▸e)⟩
 . by_cases z:x<m.st.objs.length
   . have t:=(k4 z).symm.trans t;have u:=(k4 (b.aE▸z)).symm.trans u;exact(b.a4 x B c t u).mono v ab.xb (ab.zP c (b8 u))
   . obtain rfl:x=m.st.objs.length:=xK (Nat.le_of_lt_succ (by have:=(List.getElem?_eq_some_iff.mp t).1;rwa [List.length_append] at this)) (t0 z);rw [show(⟨m.st.objs++[o],m.st.d⟩:St).objs=m.st.objs++[o] from rfl,List.getElem?_append_right (Nat.le_refl _),Nat.sub_self] at t;rw [<-b.aE,List.getElem?_append_right (Nat.le_refl _),Nat.sub_self] at u;cases t;cases u;exact A
end
noncomputable def aO{c:Type}(a:Str)(b:c):List (Str×c)->List (Str×c)
 |[]=>[(a,b)]
 |p::d=>cond (Fast.sEq p.1 a) ((a,b)::d) (p::aO a b d)
def ta(a:Str):Fast.sEq a a=true:=Fast.sEq_iff.mpr rfl
def s9{a b:Str}(c:a≠b):Fast.sEq a b=false:=Bool.eq_false_iff.mpr λd=>c (Fast.sEq_iff.mp d)
def e5{c:Type}{b a:Str}{v:c}{l:List (Str×c)}(d:b=a):U a ((b,v)::l)=some v:=by refine(?_:cond (Fast.sEq b a) (some v) (U a l)=_);rw [d,ta];rfl
def en{c:Type}{x a:Str}{v:c}{b:List (Str×c)}(d:x≠a):U a ((x,v)::b)=U a b:=by refine(?_:cond (Fast.sEq x a) (some v) (U a b)=_);rw [s9 d];rfl
def sX{e:Type}{d a:Str}{u c:e}{b:List (Str×e)}(f:d=a):aO a c ((d,u)::b)=(a,c)::b:=by refine(?_:cond (Fast.sEq d a) ((a,c)::b) _=_);rw [f,ta];rfl
def sY{e:Type}{b a:Str}{u d:e}{c:List (Str×e)}(f:b≠a):aO a d ((b,u)::c)=(b,u)::aO a d c:=by refine(?_:cond (Fast.sEq b a) ((a,d)::c) _=_);rw [s9 f];rfl
def Ro{g:Type}(d:Str)(f:g)(c:Str)(e:List (Str×g)):U c (aO d f e)=if d=c then some f else U c e:=by
 induction e with
 |nil=>by_cases b:d=c
       . rw [if_pos b];exact e5 b
       . rw [if_neg b];exact en b
 |cons p e i=>
  obtain⟨k,j⟩:=p;by_cases b:k=d
  . refine h (sX b ..) ?_;by_cases a:d=c
    . rw [if_pos a];exact e5 a
    . rw [if_neg a,en a,en (b▸a)]
  . refine h (sY b ..) ?_;by_cases a:k=c
    . rw [e5 a,e5 a,if_neg (a▸Ne.symm b)]
    . rw [en a,en a];exact i
section
variable{b:Wd}{m:D b}{a:Shared}
def s.Gv{i:Addr}{r:List Addr}{x y:Str->Option Value}{M:List (Str×Y)}(D:bf b.aq=i::r)(K:m.s.heap.Ns i x)(F:a.heap.Ns i y)(n:Heap.SameBut i m.s.heap a.heap)
  (V:∀c A,U c M=some A->∃q,y c=some q/\G b.ag.fz m.s.heap m.ρ A q) (T:a.gens=m.s.gens) (W:a.os=m.s.os):s m ⟨m.st.objs,M⟩ m.ρ a:=by
 have d:=m.O;have J:i∈bf b.aq:=D▸.head _;have H:=d.b7 i J;have z:∀{j t},m.s.heap.get? j=some t->j≠i->a.heap.get? j=some t:=λe g=>(n.2 _ g).trans e;have B:j5 m.s.heap a.heap:= .e1 n (let⟨o,_,_,e,_⟩:=F;⟨o,e⟩);have I:Kp m.s.heap m.ρ a.heap m.ρ:=⟨λj o e h ⟨XH,x,v⟩ h=>z e λc=>by subst c;exact ot K e v,λh h g=>g,λh t q=>absurd t q⟩;have L:lp m.s.heap a.heap:=λj o XG g R v=> .same (z g λc=>by subst c;exact wj K g v) R v;have N:ph b.ag m.s.heap a.heap:=λj o XC g=>z g λc=>absurd XC (Nat.not_lt.mpr (c▸H.ge));refine⟨⟨b.ag.mono N d.cw,n.1▸d.eh,d.aE,d.d3,λZ o k C w=>(d.a4 Z o k C w).mono I L (n.2 k λc=>H.dj (c▸b8 w)),
  λk E=>(d.dt k E).mono B,λk E=>(d.em k E).mono B,λu l=> ?_,d.hF,d.envs,λu XF l=> ?_⟩,
  λh h e=>e,λh S x=>absurd S x,B,λj t e h XD h=>z e λc=>XD (c▸J),L,N,λh h e=>e,λu l XE Q=>Q.sameBut n λc=> ?_,T,W⟩
 . obtain⟨p,g,y,P⟩:=d.b7 u l;by_cases c:u=i
   . exact⟨p,g,_,c▸F⟩
   . exact⟨p,g,y,P.sameBut n c⟩
 . cases D.symm.trans l;exact⟨_,F,λc A X=>let⟨q,C,w⟩:=V c A X;⟨q,C,w.mono I⟩⟩
 . subst c;have:=d.hF;rw [D] at this l;exact(List.nodup_cons.mp this).1 l
def s.mL{i:Addr}{r:List Addr}{k:Str->Option Value}{d:Str}{g:Y}{e:Value}(o:bf b.aq=i::r)(q:m.s.heap.Ns i k)(x:∀d g,U d m.st.d=some g->∃e,k d=some e/\G b.ag.fz m.s.heap m.ρ g e)
  (t:a.heap.Ns i (λh=>if h=d then some e else k h)) (v:Heap.SameBut i m.s.heap a.heap) (w:G b.ag.fz m.s.heap m.ρ g e) (p:a.gens=m.s.gens) (u:a.os=m.s.os):s m ⟨m.st.objs,aO d g m.st.d⟩ m.ρ a:=
 s.Gv o q t v (λh y c=>by
  have c:=(Ro ..).symm.trans c;by_cases j:d=h
  . rw [if_pos j] at c;exact⟨e,if_pos j.symm,bw c▸w⟩
  . rw [if_neg j] at c;obtain⟨z,l,n⟩:=x h y c;exact⟨z,(if_neg (i7 j)).trans l,n⟩) p u
end
section
variable{b:au}{a:List Env}
def vu(b:Env):bf (b::a)=b.locals::bf a:=rfl
def cD.DG{M:St}{s:List Addr}{j o:Heap}{env:Env}{lc:List (Str×Y)}{u:Str->Option Value}(e:cD b a M s j)(D:env.locals=j.objs.size)(Q:env.scope.kind≠.module)(P:∃t,env.frame=some t/\t∈bf (env::a))
  (E:o.Ns j.objs.size u) (l:∀(f:Addr)(c:Obj),j.get? f=some c->o.get? f=some c) (R:∀m v,U m lc=some v->∃n,u m=some n/\G b.fz j s v n):cD b (env::a) ⟨M.objs,lc⟩ s o:=by
 have F:Kp j s o s:=⟨λf c y q q q=>l f c y,λq q g=>g,λq m n=>absurd m n⟩;have I:j5 j o:=λf c y=>⟨c,l f c y⟩;refine⟨λf c g=>l f c (e.cw f c g),L e.eh (ee E.lt),e.aE,e.d3,λT c i z A=> ?_,λi B=>(e.dt i B).mono I,λi B=>(e.em i B).mono I,λH k=> ?_,?_,λO C=> ?_,λH r k=> ?_⟩
 . have:=e.a4 T c i z A;refine Exists.elim (this.c7) λV J=> ?_;exact this.mono F (λf c W g x N=> .same (l f c g) x N) ((l i V J).trans J.symm)
 . rw [vu,D] at k;rcases List.mem_cons.mp k with rfl|k
   . exact⟨e.eh,e.ne,u,E⟩
   . obtain⟨p,g,K,w⟩:=e.b7 H k;exact⟨p,g,K,w.keeps l⟩
 . refine h (vu ..) ?_;refine h (D ..) ?_;exact List.nodup_cons.mpr ⟨λg=>by obtain⟨_,_,K,w⟩:=e.b7 _ g;exact absurd w.lt (gk _),e.hF⟩
 . rcases List.mem_cons.mp C with rfl|C
   . exact⟨Q,P⟩
   . obtain⟨i,t,f,x⟩:=e.envs O C;exact⟨i,t,f,.tail _ x⟩
 . rw [vu,D] at k;cases k;exact⟨u,E,λm v S=>let⟨n,z,A⟩:=R m v S;⟨n,z,A.mono F⟩⟩
def s.me{m:D ⟨b,a⟩}{x:Env}{n:D ⟨b,x::a⟩}{q:St}{t:List Addr}{p:Shared}(I:x.locals=m.s.heap.objs.size)(B:n.st.objs=m.st.objs)(E:n.ρ=m.ρ)
  (l:∀(d:Addr)(c:Obj),m.s.heap.get? d=some c->n.s.heap.get? d=some c) (g:Step n q t p) (A:n.s.gens=m.s.gens) (C:n.s.os=m.s.os) (h:cD b (x::a) q t p.heap):s m ⟨q.objs,m.st.d⟩ t p:=by
 obtain⟨⟨R,Q⟩,T,S,P⟩:=n;dsimp only at B E l A C;subst B E;have v:=m.O;have z:∀e,e∈bf a->∀k,m.s.heap.Ns e k->p.heap.Ns e k:=λe j k u=>g.hJ e j k (u.keeps l);have y:Step m ⟨q.objs,m.st.d⟩ t p:=by
  refine⟨g.ext,λw H k=> ?_,λd c i=>g.c7 d c (l d c i),λd c i L K M=>g.b0 d c (l d c i) L (λo=> ?_) M,λd c N i F G=>g.iA d c N (l d c i) F G,
   λd c J i=>g.fL d c J (l d c i),g.f8,λe j k u=>z e (qX j) k u,g.gens.trans A,g.os.trans C⟩
  . cases o:m.s.heap.get? w with
    |none=>rfl
    |some c=>exact(cG (g.new w H k) (l w c o)).elim
  . rw [vu,I] at o;rcases List.mem_cons.mp o with rfl|o
    . exact absurd (dk i) (gk _)
    . exact K o
 exact⟨⟨h.cw,h.eh,h.aE,h.d3,h.a4,h.dt,h.em,λe j=>h.b7 e (.tail _ j),v.hF,v.envs,λe r j=>(v.d e r j).mono y.kp (z e (j▸.head _))⟩,y⟩
end
structure ab(a:Type) where
 A:(a->St->Prop)->(af)->Prop
section
variable{c a d e:Type}
noncomputable def ab.ret(b:a)(d:St):ab a:=⟨λc e=>c b d⟩
noncomputable def ab.raise(d:Y)(c:St):ab a:=⟨λe b=>b d c⟩
noncomputable def ab.n:ab a:=⟨λb b=>False⟩
noncomputable def ab.bind(o:ab a)(f:a->St->ab d):ab d:=⟨λc b=>o.A (λe g=>(f e g).A c b) b⟩
noncomputable def ab.map(f:a->d)(g:ab a):ab d:=⟨λb c=>g.A (λe h=>b (f e) h) c⟩
noncomputable def ab.ite(d:Bool)(o o':ab a):ab a:=⟨λb c=>cond d (o.A b c) (o'.A b c)⟩
noncomputable def ab.ok(d:Bool)(e:ab a):ab a:=⟨λb c=>cond d (e.A b c) False⟩
noncomputable def ab.bR(d:Bool)(e:ab a):ab a:=⟨λb c=>cond d False (e.A b c)⟩
noncomputable def ab.hl(c:Prop)(e:ab a):ab a:=⟨λb d=>c/\e.A b d⟩
noncomputable def ab.v(b:Option c)(f:c->ab a):ab a:=⟨λd e=>match b with
 |some b=>(f b).A d e
 |none=>False⟩
noncomputable def ab.or(b:Option c)(f:c->ab a)(g:ab a):ab a:=⟨λd e=>match b with
 |some b=>(f b).A d e
 |none=>g.A d e⟩
noncomputable def ab.int(e:Y)(f:Int->ab a):ab a:=⟨λb c=>match e with
 | .int d=>(f d).A b c
 |_=>False⟩
noncomputable def ab.str(e:Y)(d:Str->ab a):ab a:=⟨λb c=>match e with
 | .str f=>(d f).A b c
 |_=>False⟩
noncomputable def ab.bool(e:Y)(d:Bool->ab a):ab a:=⟨λb c=>match e with
 | .bool f=>(d f).A b c
 |_=>False⟩
noncomputable def ab.obj(f:Y)(d:Nat->ab a):ab a:=⟨λb c=>match f with
 | .obj e=>(d e).A b c
 |_=>False⟩
noncomputable def Y.isNone:Y->Bool
 | .none=>true
 |_=>false
def Y.vK:Y->Bool
 | .bi _=>true
 |_=>false
noncomputable def Y.isStr:Y->Bool
 | .str _=>true
 |_=>false
noncomputable def Y.Eu:Y->Bool
 | .int _=>true
 |_=>false
end
def b{a:Wd}(m:D a)(c:Y)(d:Value):Prop:=G a.ag.fz m.s.heap m.ρ c d
def bp{a:Wd}(m:D a)(b:List Y)(c:List Value):Prop:=w a.ag.fz m.s.heap m.ρ b c
def Is{c:Wd}{d:Type}(_:D c)(b a:d):Prop:=b=a
def iF{b:Wd}(_:D b)(a:Bool)(c:Value):Prop:=c= .bool a
def Tt{a:Wd}{b c:Type}(_:D a)(_:b)(_:c):Prop:=True
structure G0 where
 w:Wd
 p:Program
 ak:Around
@[reducible] noncomputable def G0.ab(a:G0):Model:=model a.p a.w.ag.w
def d{e o:Type}(c:G0)(r:Sem e)(q:D c.w->o->e->Prop)(m:D c.w)(p:ab o):Prop:=
 ∀g i,p.A g i->∀(h:e->Shared->Prop)(f:a8),(∀k a j,m.To a->q a k j->g k a.st->h j a.s)->(∀l a n,m.To a->b a l n->i l a.st->f n a.s)->wpAny c.ab c.ak r h f m.s
def gM{a:Type}(c:G0)(h:Sem a)(f:Shared)(e:a)(g:Shared):Prop:=∀(b:a->Shared->Prop)(d:a8),b e g->wpAny c.ab c.ak h b d f
section
variable{a:Wd}{m aG:D a}
def b.f{a:Y}{c:Value}(r:b m a c)(d:m.To aG):b aG a c:=G.mono d.kp r
def bp.f{a:List Y}{b:List Value}(r:bp m a b)(c:m.To aG):bp aG a b:=w.mono c.kp r
end
section
variable{z:G0}{c e g h:Type}{m aG:D z.w}{t:Sem c}{a0:D z.w->e->c->Prop}{o o':ab e}
def d.ret{b:e}{a:c}(g:a0 m b a):d z (pure a) a0 m (.ret b m.st):=λf f k f f h f=>V (h _ _ _ (.refl m) g k)
def d.n:d z t a0 m .n:=λb b a=>False.elim a
def d.bind{f:c->Sem g}{w:D z.w->h->g->Prop}{o':e->St->ab h}(C:d z t a0 m o)(k:∀j a b,m.To a->a0 a j b->d z (f b) w a (o' j a.st)):d z (t>>=f) w m (o.bind o'):=
 λI I G y x E u=>i (C _ _ G _ _ (λj a b p r J=>k j a b p r _ _ J y x (λB s A q=>E B s A (p.trans q)) λF s H q=>u F s H (p.trans q)) u)
def d.map{i:D z.w->g->c->Prop}{h:e->g}(s:d z t a0 m o)(k:∀b f a,a0 b f a->i b (h f) a):d z t i m (o.map h):=
 λy y x p j w u=>s _ _ x p j (λf b a q r=>w _ b a q (k _ _ _ r)) u
def d.eq{t':Sem c}(a:t=t')(b:d z t' a0 m o):d z t a0 m o:=a▸b
def d.ite{a:Bool}(e:a=true->d z t a0 m o)(f:a=false->d z t a0 m o'):d z t a0 m (.ite a o o'):=Bool.rec (motive:=λb=>a=b->d z t a0 m (.ite b o o')) f e a rfl
def d.ok{a:Bool}(b:a=true->d z t a0 m o):d z t a0 m (.ok a o):=d.ite (o':= .n) b λe=>d.n
def d.bR{a:Bool}(b:a=false->d z t a0 m o):d z t a0 m (.bR a o):=d.ite (o:= .n) (λe=>d.n) b
def d.v{a:Option g}{b:g->ab e}(i:∀h,a=some h->d z t a0 m (b h)):d z t a0 m (.v a b):=Option.rec (motive:=λf=>a=f->d z t a0 m (.v f b)) (λj=>d.n) i a rfl
def d.or{a:Option g}{b:g->ab e}(i:∀h,a=some h->d z t a0 m (b h)) (j:a=none->d z t a0 m o):d z t a0 m (.or a b o):=Option.rec (motive:=λf=>a=f->d z t a0 m (.or f b o)) j i a rfl
def d.hl{a:Prop}(g:a->d z t a0 m o):d z t a0 m (.hl a o):=λe f b=>g b.1 e f b.2
def d.pre{t:Sem Unit}{b:Unit->Sem c}(p:gM z t m.s () m.s)(h:d z (b ()) a0 m o):d z (t>>=b) a0 m o:=λe g q f a k j=>i (p _ a (h e g q f a k j))
def d.bD{e:Pos}{b:Unit->Sem c}(a:d z (b ()) a0 m o):d z (standAt e>>=b) a0 m o:=d.pre (λf f a=>j0 a) a
def d.release{f e:List Value}{b:Unit->Sem c}(a:d z (b ()) a0 m o):d z (release f e>>=b) a0 m o:=d.pre (λg g a=>wpAny_release a) a
def d.rule{e:String}{b:Unit->Sem c}(a:d z (b ()) a0 m o):d z (rule e>>=b) a0 m o:=d.pre (λf f a=>wpAny_rule a) a
def d.qu{a:g}{b:g->Sem c}(k:d z (b a) a0 m o):d z (pure a>>=b) a0 m o:=λf j r h e q p=>i (V (k f j r h e q p))
def d.bY{j:List Value}(g:d z t a0 m o):d z (holding j t) a0 m o:=λb f k e a i h=>j1 (g b f k e a i h)
def d.ov{k:List Value}{t:Sem Value}{a0:D z.w->e->Value->Prop}(h:d z t a0 m o):d z (PySem.operate k t) a0 m o:=λb g p f a j i=>wpAny_operate' (h b g p f a j i)
def d.from(s:m.To aG)(u:d z t a0 aG o){k:e->St->Prop}{r:af}(f:o.A k r){p:c->Shared->Prop}{j:a8}(x:∀h a g,m.To a->a0 a h g->k h a.st->p g a.s) (w:∀i a f,m.To a->b a i f->r i a.st->j f a.s):wpAny z.ab z.ak t p j aG.s:=
 u k r f p j (λh a g q=>x h a g (s.trans q)) λi a f q=>w i a f (s.trans q)
def d.vY{f:e}{b:c}{h:St}{u:List Addr}{g:Shared}(o:gM z t m.s b g)(a:s m h u g)(r:a0 a.pt f b):d z t a0 m (.ret f h):=λi i q k j p i=>o k j (p f a.pt b a.f r q)
noncomputable def D.tk{a:Wd}(m:D a)(k:Nat):D a:=⟨m.st,m.ρ,{m.s with toks:=k},m.O⟩
def D.To.tk{e:Wd}(m:D e)(k:Nat):m.To (m.tk k):=⟨λa a b=>b,λa c d=>absurd c d,λa o b=>⟨o,b⟩,λa a b a a a=>b,λa a a=> .same,λa a a b=>b,λa a b=>b,λa a a b=>b,rfl,rfl⟩
def d.leaf{b:e}{a:c}{k:Nat}(i:gM z t m.s a {m.s with toks:=k})(r:a0 (m.tk k) b a):d z t a0 m (.ret b m.st):=λf f o h g j f=>i h g (j b (m.tk k) a (.tk m k) r o)
def d.cV{b:e}{a:c}(i:gM z t m.s a m.s)(r:a0 m b a):d z t a0 m (.ret b m.st):=λf f k h g j f=>i h g (j b m a (.refl m) r k)
def d.zO{g:e}(h:Tok->c)(j:∀(b:c->Shared->Prop)(f:a8),(∀a k,b (h a) {m.s with toks:=k})->wpAny z.ab z.ak t b f m.s) (r:∀a k,a0 (m.tk k) g (h a)):d z t a0 m (.ret g m.st):=
 λi i p b f o i=>j b f λa k=>o g (m.tk k) _ (.tk m k) (r a k) p
def d.fg{t:Sem Value}{a:Bool}(b:gM z t m.s (.bool a) m.s):d z t iF m (.ret a m.st):=d.cV b rfl
def d.uA{t:Sem Value}{o:ab Bool}(f:d z t iF m o):d z t b m (.map Y.bool o):=d.map f λh a e g=>(show e= .bool a from g)▸G.kM a
def d.R7{t:Sem e}{a:e->g}{o:ab e}(h:d z t Is m o):d z (t>>=λb=>pure (a b)) Is m (.map a o):=d.bind (o':=λf i=> .ret (a f) i) h λf k b j r=>r▸d.ret rfl
def d.h2{f:c->Sem g}{i:D z.w->e->g->Prop}(q:d z t a0 m o)(k:∀a b h,m.To b->a0 b a h->d z (f h) i b (.ret a b.st)):d z (t>>=f) i m o:=
 λj p s=>d.bind (o:=o) (o':=λa r=> .ret a r) q k j p s
def d.xc{a:Bool}{b:Bool->Sem c}{q:List Value}(j:d z (b a) a0 m o):d z (holding q (truthy (.bool a))>>=b) a0 m o:=λf h r g e p k=>i (j1 (wpAny_truthy_bool (j f h r g e p k)))
def d.G'{a:Bool}:d z (truthy (.bool a)) Is m (.ret a m.st):=d.cV (λf e b=>wpAny_truthy_bool b) rfl
end
section
variable{e:G0}{i l q s:Type}{m:D e.w}{g:D e.w->l->i->Prop}{h o c:Y}{a n:Value}
def d.int{t:Value->Sem i}{f:Int->ab l}(r:b m c a)(k:∀j o,d e (t (.int j o)) g m (f j)):d e (t a) g m (.int c f):=
 G.casesOn (motive_1:=λc a h=>d e (t a) g m (.int c f)) r d.n (λh=>d.n) k (λh h=>d.n) (λh=>d.n) (λh=>d.n) (λh=>d.n) (λh=>d.n) (λh h h=>d.n) (λh h h h=>d.n)
def d.str{t:Value->Sem i}{h:Str->ab l}(r:b m c a)(k:∀j o,d e (t (.str j o)) g m (h j)):d e (t a) g m (.str c h):=
 G.casesOn (motive_1:=λc a f=>d e (t a) g m (.str c h)) r d.n (λf=>d.n) (λf f=>d.n) k (λf=>d.n) (λf=>d.n) (λf=>d.n) (λf=>d.n) (λf f f=>d.n) (λf f f f=>d.n)
def d.bool{t:Value->Sem i}{h:Bool->ab l}(r:b m c a)(k:∀j,d e (t (.bool j)) g m (h j)):d e (t a) g m (.bool c h):=
 G.casesOn (motive_1:=λc a f=>d e (t a) g m (.bool c h)) r d.n k (λf f=>d.n) (λf f=>d.n) (λf=>d.n) (λf=>d.n) (λf=>d.n) (λf=>d.n) (λf f f=>d.n) (λf f f f=>d.n)
def d.obj{t:Value->Sem i}{j:Nat->ab l}(r:b m c a)(k:∀o h,m.ρ[o]?=some h->d e (t (.ref h)) g m (j o)):d e (t a) g m (.obj c j):=
 G.casesOn (motive_1:=λc a f=>d e (t a) g m (.obj c j)) r d.n (λf=>d.n) (λf f=>d.n) (λf f=>d.n) (λf=>d.n) (λf=>d.n) (λf=>d.n) (k _ _) (λf f f=>d.n) (λf f f f=>d.n)
def d.il{t:Value->Value->Sem i}{r:Int->Int->ab l}(s:b m h a)(u:b m o n)(k:∀f p j q,d e (t (.int f p) (.int j q)) g m (r f j)):d e (t a n) g m (.int h λf=> .int o λj=>r f j):=
 d.int (t:=λa=>t a n) s λf p=>d.int u λj q=>k f p j q
def d.tj{t:Value->Value->Sem i}{r:Str->Str->ab l}(s:b m h a)(u:b m o n)(k:∀f p j q,d e (t (.str f p) (.str j q)) g m (r f j)):d e (t a n) g m (.str h λf=> .str o λj=>r f j):=
 d.str (t:=λa=>t a n) s λf p=>d.str u λj q=>k f p j q
def wy(r:b m c a):c.vK=false->plainIs a .none=true/\(a==Value.none)=c.isNone:=
 G.casesOn (motive_1:=λc a d=>c.vK=false->plainIs a .none=true/\(a==Value.none)=c.isNone) r (λd=>⟨rfl,rfl⟩) (λd d=>⟨rfl,rfl⟩) (λd d d=>⟨rfl,rfl⟩) (λd d d=>⟨rfl,rfl⟩) (λd d=>⟨rfl,rfl⟩) (λd d=>⟨rfl,rfl⟩) (λd e=>aA (e)) (λd d=>⟨rfl,rfl⟩) (λd d d d=>⟨rfl,rfl⟩) (λd d d d d=>⟨rfl,rfl⟩)
end
section
variable{a:Type}
noncomputable def t:List a->Nat->Option a
 |[],_=>none
 |ai::c,b=>match b with
  |0=>some ai
  |b+1=>t c b
def cW(b:List a):∀c:Nat,t b c=b[c]?:=by
 induction b with
 |nil=>exactλe=>rfl
 |cons ai b d=>exactλc=>Nat.casesOn c rfl d
noncomputable def ae.un:ae->ae
 | .ro a=>a
 |a=>a
def gH(a:List ae)(b:Nat):Option ae:=(t a b).map ae.un
noncomputable def aQ:List a->Nat->a->List a
 |[],_,_=>[]
 |ai::c,b,ah=>match b with
  |0=>ah::c
  |b+1=>ai::aQ c b ah
def d4(d:List a):∀(b:Nat)(c:a),aQ d b c=d.set b c:=by
 induction d with
 |nil=>exactλf f=>rfl
 |cons ai d e=>exactλb c=>Nat.casesOn b rfl λb=>T (ai::·) (e b c)
noncomputable def aJ:List a->a->List a
 |[],ah=>[ah]
 |ai::b,ah=>ai::aJ b ah
def c0(b:List a)(c:a):aJ b c=b++[c]:=by
 induction b with
 |nil=>rfl
 |cons ai b d=>exact T (ai::·) d
noncomputable def C:List a->Nat
 |[]=>0
 |_::b=>Nat.succ (C b)
def aZ(b:List a):C b=b.length:=by
 induction b with
 |nil=>rfl
 |cons ai b c=>exact T Nat.succ c
noncomputable def x':List a->List a->List a
 |[],b=>b
 |ai::as,b=>ai::x' as b
def Ic(b k:List a):x' b k=b++k:=by
 induction b with
 |nil=>rfl
 |cons ai b c=>exact T (ai::·) c
end
def rv(a b:Str):(a==b)=Fast.sEq a b:=Bool.eq_iff_iff.mpr (beq_iff_eq.trans Fast.sEq_iff.symm)
def vF(a j:Int):Int.beq' a j=(a==j):=Bool.eq_iff_iff.mpr ((show Int.beq' a j=true↔a=j from by rw [Int.beq'_eq]).trans beq_iff_eq.symm)
def sr{f:Type}(c:Str)(b:List (Str×f)):U c b=b.lookup c:=by
 induction b with
 |nil=>rfl
 |cons p b d=>
  obtain⟨e,k⟩:=p;by_cases a:e=c
  . rw [e5 a,List.lookup_cons,a,beq_self_eq_true]
  . rw [en a,List.lookup_cons,beq_false_of_ne (Ne.symm a)];exact d
def z7{j:Int}(b:Int.beq' j 0=false):j≠0:=λa=>by cases(a▸b:Int.beq' 0 0=false)
def H1{x a:Str}(b:a.length=0):x++a=x:=by obtain⟨x⟩:=x;obtain⟨a⟩:=a;obtain rfl:a= #[]:=Array.eq_empty_of_size_eq_zero b;exact T Str.mk (Array.append_empty)
def H2{a y:Str}(b:a.length=0):a++y=y:=by obtain⟨a⟩:=a;obtain⟨y⟩:=y;obtain rfl:a= #[]:=Array.eq_empty_of_size_eq_zero b;exact T Str.mk (Array.empty_append)
def H3(a b:Str):(a++b).length=a.length+b.length:=qZ
def EO(a b:Str):(a.cps.toList==b.cps.toList)=Fast.sEq a b:=Bool.eq_iff_iff.mpr (beq_iff_eq.trans ⟨λc=>Fast.sEq_iff.mpr (by rcases a with⟨_⟩;rcases b with⟨_⟩;exact T Str.mk (Array.toList_inj.mp c)),λd=>Fast.sEq_iff.mp d▸rfl⟩)
def H4{h:G0}{a:Shared}{x y:Str}{b g:Tok}(j:Nat.ble (x.length+y.length) sizeLine=true){c:a8}{i:a8}(f:∀b k,c (.str (x++y) b) {a with toks:=k}):wpAny h.ab h.ak (binaryOp .Add (.str x b) (.str y g)) c i a:=by
 refine PySem.P.add_str ?_;by_cases d:(x.length==0)=true
 . rw [if_pos d];exact(H2 (y:=y) (beq_iff_eq.mp d)▸f g a.toks:c (.str y g) a)
 . rw [if_neg d];by_cases e:(y.length==0)=true
   . rw [if_pos e];exact(H1 (x:=x) (beq_iff_eq.mp e)▸f b a.toks:c (.str x b) a)
   . rw [if_neg e];exact⟨H3 x y▸a' j,f _ _⟩
noncomputable def Ak(a b:Int):Bool:=decide (b>=0)&& !(b==0)&& !(a==0||a==1)&& !(a== -1)&& !(Builtin.Int.intTooBig (((Builtin.Int.intBits a:Nat):Int)*b))
def sW{a j:Int}(b:Ak a j=true):j>=0/\(j==0)=false/\(a==0||a==1)=false/\(a== -1)=false/\Builtin.Int.intTooBig (((Builtin.Int.intBits a:Nat):Int)*j)=false:=by unfold Ak at b;simpa only [Bool.and_eq_true,Bool.not_eq_true',decide_eq_true_eq,and_assoc] using b
def sK{a:Bool}(c:a=false):¬a=true:=λb=>Bool.noConfusion (c.symm.trans b)
noncomputable def z3(a j:Int):Bool:=Nat.ble (Builtin.Int.intBits a) 64||Nat.ble (Builtin.Int.intBits j) 64
def Sz{b j:Int}(a:z3 b j=true):IntMulOk b j:=(Bool.or_eq_true_iff.mp a).elim (λa=> .of_left (a' a)) λa=> .of_right (a' a)
def pq(g:Operator)(b c:Y)(d:St):ab Y:=match g with
 | .Add=> .ite b.isStr (.str b λe=> .str c λf=> .ok (Nat.ble (e.length+f.length) sizeLine) (.ret (.str (e++f)) d)) (.int b λa=> .int c λj=> .ret (.int (a+j)) d)
 | .Sub=> .int b λa=> .int c λj=> .ret (.int (a-j)) d
 | .FloorDiv=> .int b λa=> .int c λj=> .bR (Int.beq' j 0) (.ok (Nat.blt j.natAbs 1073741824) (.ret (.int (a.fdiv j)) d))
 | .Mod=> .int b λa=> .int c λj=> .bR (Int.beq' j 0) (.ret (.int (a.fmod j)) d)
 | .Mult=> .int b λa=> .int c λj=> .ok (z3 a j) (.ret (.int (a*j)) d)
 | .Pow=> .int b λa=> .int c λj=> .ok (Ak a j) (.ret (.int (a^j.toNat)) d)
 |_=> .n
section
variable{g:G0}{m:D g.w}{e f:Y}{a c:Value}
def d.pq{w:Operator}(k:b m e a)(o:b m f c):d g (binaryOp w a c) b m (pq w e f m.st):=by
 induction w with
 |Add=>exact d.ite (λx=>d.tj (t:=λa c=>binaryOp .Add a c) k o λr s j t=>d.ok λi=>d.zO _ (λq p h=>H4 i h) λx x=>G.fN _ _) λx=>d.il (t:=λa c=>binaryOp .Add a c) k o λr s j t=>d.leaf (λq p h=>PySem.P.add_int h) (G.dO _ _)
 |Sub=>exact d.il (t:=λa c=>binaryOp .Sub a c) k o λr s j t=>d.leaf (λq p h=>PySem.P.sub_int h) (G.dO _ _)
 |FloorDiv=>exact d.il (t:=λa c=>binaryOp .FloorDiv a c) k o λr s j t=>d.bR λu=>d.ok λy=>d.leaf (λq p h=>floordiv_int (z7 u) h (.inl (PyProof.noPylong_small (a' y)))) (G.dO _ _)
 |Mod=>exact d.il (t:=λa c=>binaryOp .Mod a c) k o λr s j t=>d.bR λu=>d.leaf (λq p h=>mod_int' (z7 u) h) (G.dO _ _)
 |Mult=>exact d.il (t:=λa c=>binaryOp .Mult a c) k o λr s j t=>d.ok λi=>d.leaf (λq p h=>PySem.P.mul_int h (Sz i)) (G.dO _ _)
 |Pow=>exact d.il (t:=λa c=>binaryOp .Pow a c) k o λr s j t=>d.ok λi=>d.leaf (λq p h=>PySem.AutoIntOps.pow_4 (sW i).1 (sK (sW i).2.1) (sK (sW i).2.2.1) (sK (sW i).2.2.2.1) (sK (sW i).2.2.2.2) h) (G.dO _ _)
 |_=>exact d.n
end
noncomputable def jH(b a:Bool):Bool:=cond b (!a) a
def kr(c:Bool)(b a:Y)(d:St):ab Bool:= .ite b.isStr (.str b λe=> .ite a.Eu (.int a λh=> .ret c d) (.str a λf=> .ret (jH c (Fast.sEq e f)) d))<|
   .ite b.Eu (.int b λg=> .ite a.isStr (.str a λh=> .ret c d) (.int a λj=> .ret (jH c (Int.beq' g j)) d)) (.bool b λe=> .bool a λf=> .ret (jH c (e==f)) d)
def uN(e:CmpOp)(a b:Y)(c:St):ab Bool:=match e with
 | .Lt=> .int a λd=> .int b λj=> .ret (decide (d<j)) c
 | .LtE=> .int a λd=> .int b λj=> .ret (decide (d<=j)) c
 | .Gt=> .int a λd=> .int b λj=> .ret (decide (j<d)) c
 | .GtE=> .int a λd=> .int b λj=> .ret (decide (j<=d)) c
 | .Eq=>kr false a b c
 | .NotEq=>kr true a b c
 | .Is=> .ok b.isNone (.bR a.vK (.ret a.isNone c))
 | .IsNot=> .ok b.isNone (.bR a.vK (.ret (!a.isNone) c))
 |_=> .n
section
variable{z:G0}{m:D z.w}{f e:Y}{a c:Value}
def vP(r:b m e c):e.isNone=true->c= .none:=
 G.casesOn (motive_1:=λg a f=>g.isNone=true->a= .none) r (λf=>rfl) (λf d=>aA (d)) (λf f d=>aA (d)) (λf f d=>aA (d)) (λf d=>aA (d)) (λf d=>aA (d)) (λf d=>aA (d)) (λf d=>aA (d)) (λf f f d=>aA (d)) (λf f f f d=>aA (d))
def d.kr(q:b m f a)(o:b m e c):d z (compareOp .Eq a c) iF m (kr false f e m.st):=
 d.ite (λh=>d.str (t:=λa=>compareOp .Eq a c) q λk s=>d.ite (λh=>d.int o λj r=>d.fg λi p g=>PySem.EqMixed.eq_str_int g) λh=>d.str o λj r=>d.fg λi p g=>PySem.P.eq_str (EO k j▸(g:i (.bool (Fast.sEq k j)) m.s))) λh=>
 d.ite (λh=>d.int (t:=λa=>compareOp .Eq a c) q λk s=>d.ite (λh=>d.str o λj r=>d.fg λi p g=>PySem.EqMixed.eq_int_str g) λh=>d.int o λj r=>d.fg λi p g=>PySem.P.eq_int (vF k j▸(g:i (.bool (Int.beq' k j)) m.s))) λh=>
 d.bool (t:=λa=>compareOp .Eq a c) q λk=>d.bool o λj=>d.fg λi p g=>eq_bool g
def d.Fp(q:b m f a)(p:b m e c):d z (compareOp .NotEq a c) iF m (Mine.Internal.kr true f e m.st):=
 d.ite (λk=>d.str (t:=λa=>compareOp .NotEq a c) q λi s=>d.ite (λk=>d.int p λj r=>d.fg λg o h=>SeqAt.RcNeAt.str_int _ _ _ _ z.p z.w.ag.w o g h) λk=>d.str p λj r=>d.fg λg o h=>PySem.P.ne_str (show g (.bool (!(i.cps.toList==j.cps.toList))) m.s from EO i j▸(h:g (.bool (!Fast.sEq i j)) m.s))) λk=>
 d.ite (λk=>d.int (t:=λa=>compareOp .NotEq a c) q λi s=>d.ite (λk=>d.str p λj r=>d.fg λg o h=>SeqAt.RcNeAt.int_str _ _ _ _ z.p z.w.ag.w o g h) λk=>d.int p λj r=>d.fg λg o h=>PySem.P.ne_int (show g (.bool (!(i==j))) m.s from vF i j▸(h:g (.bool (!Int.beq' i j)) m.s))) λk=>
 d.bool (t:=λa=>compareOp .NotEq a c) q λi=>d.bool p λj=>d.fg λg o h=>ne_bool h
def d.uN{s:CmpOp}(h:b m f a)(i:b m e c):d z (compareOp s a c) iF m (uN s f e m.st):=by
 induction s with
 |Lt=>exact d.il (t:=λa c=>compareOp .Lt a c) h i λr t j u=>d.fg λo k g=>PySem.P.lt_int g
 |LtE=>exact d.il (t:=λa c=>compareOp .LtE a c) h i λr t j u=>d.fg λo k g=>PySem.P.le_int g
 |Gt=>exact d.il (t:=λa c=>compareOp .Gt a c) h i λr t j u=>d.fg λo k g=>PySem.P.gt_int g
 |GtE=>exact d.il (t:=λa c=>compareOp .GtE a c) h i λr t j u=>d.fg λo k g=>PySem.P.ge_int g
 |Eq=>exact d.kr h i
 |NotEq=>exact d.Fp h i
 |Is=>exact d.ok λq=>d.bR λp=>d.fg λo k g=>vP i q▸wpAny_is_plain (wy h p).1 ((wy h p).2▸g)
 |IsNot=>exact d.ok λq=>d.bR λp=>d.fg λo k g=>vP i q▸wpAny_isNot_plain (wy h p).1 ((wy h p).2▸g)
 |_=>exact d.n
end
section
variable{d:List Addr}{b:Heap}{c:List Addr}
inductive BY(d:List Addr)(b:Heap)(c:List Addr)(e:List Y):Value->Prop
 |mk (a:Addr) (f:List Value) (g:Nat):b.get? a=some (dQ f g)->a∉c->w d b c e f->BY d b c e (.ref a)
inductive BQ(d:List Addr)(b:Heap)(c:List Addr)(e:List Y):Value->Prop
 |mk (a:Addr) (f:List Value) (g:Nat):b.get? a=some (listOf f.toArray g)->a∉c->a∉d->w d b c e f->BQ d b c e (.ref a)
def BZ(d:List Addr)(b:Heap)(c:List Addr)(a:Value):Y->Prop
 | .none=>a= .none
 | .bool ah=>a= .bool ah
 | .int f=>∃g,a= .int f g
 | .str s=>∃g,a= .str s g
 | .d e=>a= .ref e
 | .obj f=>∃e,c[f]?=some e/\a= .ref e
 | .ty i=>a= .type i.name
 | .bi ah=>a= .builtin ah.id
 | .l h=>BY d b c h a
 | .c h=>BQ d b c h a
def G.bI{e:Y}{f:Value}(r:G d b c e f):BZ d b c f e:=
 G.casesOn (motive_1:=λe f a=>BZ d b c f e) r rfl (λa=>rfl) (λa j=>⟨j,rfl⟩) (λa j=>⟨j,rfl⟩) (λa=>rfl) (λa=>rfl) (λa=>rfl) (λb=>⟨_,b,rfl⟩) (λg h i=> .mk _ _ _ g h i) (λg h i k=> .mk _ _ _ g h i k)
def w.wk{f:List Y}{g:List Value}(r:w d b c f g):∀{k:Nat}{a:Y},t f k=some a->∃e,g[k]?=some e/\G d b c a e:=
 w.gF (P:=λf g=>∀{k:Nat}{a:Y},t f k=some a->∃e,g[k]?=some e/\G d b c a e) (λh=>nomatch h) (λ{m i f g} j n l{k a}=>Nat.casesOn (motive:=λk=>t (m::f) k=some a->∃e,(i::g)[k]?=some e/\G d b c a e) k (λh=>⟨i,rfl,bw h▸j⟩) λn h=>l h) r
def w.set{f:Y}{g:Value}(j:G d b c f g){a:List Y}{e:List Value}(r:w d b c a e):∀k:Nat,w d b c (aQ a k f) (e.set k g):=
 w.gF (P:=λa e=>∀k:Nat,w d b c (aQ a k f) (e.set k g)) (λo=> .cQ) (λ{m n a e} h i l k=>Nat.casesOn (motive:=λk=>w d b c (aQ (m::a) k f) ((n::e).set k g)) k (.cI j i) λk=> .cI h (l k)) r
end
def kR:Y->Option (List Y)
 | .l a=>some a
 |_=>none
noncomputable def ae.du:ae->Option (List Y)
 | .c a=>some a
 |_=>none
noncomputable def ae.eC:ae->Option (List (Str×Y))
 | .dict a=>some a
 |_=>none
def du(c:Y)(b:St):Option (List Y):=match c with
 | .c d=>some d
 | .obj a=>(gH b.objs a).bind ae.du
 |_=>none
def eC(c:Y)(b:St):Option (List (Str×Y)):=match c with
 | .obj a=>(gH b.objs a).bind ae.eC
 |_=>none
section
variable{a:Wd}{m:D a}
def D.at(m:D a){c:Nat}{d:ae}{b:Addr}(f:t m.st.objs c=some d)(e:m.ρ[c]?=some b):cK a.ag.w a.ag.fz m.s.heap m.ρ b d:=m.O.a4 c d b (cW ..▸f) e
def bind_some{e f:Type}{d:Option e}{c:e->Option f}{b:f}(g:d.bind c=some b):∃a,d=some a/\c a=some b:=Option.bind_eq_some_iff.mp g
theorem cK.un{b:World}{c:List Addr}{e:Heap}{f:List Addr}{d:Addr}{a:ae}(g:cK b c e f d a):cK b c e f d a.un:=by rcases a with _|_|⟨_,_⟩|⟨_,_,_,_,_⟩|_|_<;>exact g
def D.ru(m:D a){c:Nat}{d:ae}{b:Addr}(g:gH m.st.objs c=some d)(f:m.ρ[c]?=some b):cK a.ag.w a.ag.fz m.s.heap m.ρ b d:=by obtain⟨h,e,rfl⟩:=Option.map_eq_some_iff.mp g;exact(m.at e f).un
def ae.v3{a:ae}{d:List Y}(b:a.du=some d):a= .c d:=by
 induction a using ae.casesOn with
 |c us=>exact T ae.c (bw b)
 |_=>cases b
def ae.nJ{a:ae}{d:List (Str×Y)}(b:a.eC=some d):a= .dict d:=by
 induction a using ae.casesOn with
 |dict us=>exact T ae.dict (bw b)
 |_=>cases b
def D.RD(m:D a){c:Nat}{d:List Y}{b:Addr}(h:(gH m.st.objs c).bind ae.du=some d)(g:m.ρ[c]?=some b):ll a.ag.fz m.s.heap m.ρ b d:=by obtain⟨i,e,f⟩:=bind_some h;cases ae.v3 f;exact m.ru e g
def D.yH(m:D a){c:Nat}{d:List (Str×Y)}{b:Addr}(h:(gH m.st.objs c).bind ae.eC=some d)(g:m.ρ[c]?=some b):ey a.ag.w a.ag.fz m.s.heap m.ρ b d:=by obtain⟨i,e,f⟩:=bind_some h;cases ae.nJ f;exact m.ru e g
end
section
variable{a:G0}{n i o u:Type}{m:D a.w}{e:D a.w->i->n->Prop}{h q f:Y}{g s:Value}
def d.c{t:Value->Sem n}{q:List Y->ab i}(r:b m f g)(k:∀o h p w,m.s.heap.get? h=some (listOf p.toArray w)->bp m o p->d a (t (.ref h)) e m (q o)):d a (t g) e m (.v (du f m.st) q):=by refine G.casesOn (motive_1:=λf g j=>d a (t g) e m (.v (du f m.st) q)) r d.n (λj=>d.n) (λj j=>d.n) (λj j=>d.n) (λj=>d.n) (λj=>d.n) (λj=>d.n) (λx=>d.v λo y=> ?_) (λj j j=>d.n) (λs j j u=>k _ _ _ _ s u);obtain⟨p,w,s,u⟩:=m.RD y x;exact k o _ p w s u
def d.l{t:Value->Sem n}{o:List Y->ab i}(r:b m f g)(k:∀p h q w,m.s.heap.get? h=some (dQ q w)->bp m p q->d a (t (.ref h)) e m (o p)):d a (t g) e m (.v (kR f) o):=
 G.casesOn (motive_1:=λf g j=>d a (t g) e m (.v (kR f) o)) r d.n (λj=>d.n) (λj j=>d.n) (λj j=>d.n) (λj=>d.n) (λj=>d.n) (λj=>d.n) (λj=>d.n) (λs j u=>k _ _ _ _ s u) (λj j j j=>d.n)
def d.uS{t:Value->Sem n}{p:List (Str×Y)->ab i}(r:b m f g)(k:∀o(s:Nat)(h:Addr),m.ρ[s]?=some h->ey a.w.ag.w a.w.ag.fz m.s.heap m.ρ h o->d a (t (.ref h)) e m (p o)):d a (t g) e m (.v (eC f m.st) p):=
 G.casesOn (motive_1:=λf g j=>d a (t g) e m (.v (eC f m.st) p)) r d.n (λj=>d.n) (λj j=>d.n) (λj j=>d.n) (λj=>d.n) (λj=>d.n) (λj=>d.n) (λq=>d.v λo u=>k o _ _ q (m.yH u q)) (λj j j=>d.n) (λj j j j=>d.n)
def d.mu{f:Sem n}{b:Option o}{g:o->ab i}{j:ab i}(p:d a f e m (.v b g))(q:b=none->d a f e m j):d a f e m (.or b g j):=d.or (λh k=>by subst k;exact p) q
end
def iz:List Y->Option (List Str)
 |[]=>some []
 |aj::r=>match aj with
  | .str a=>(iz r).map (a::·)
  |_=>none
def n3:List Y->Option (List Int)
 |[]=>some []
 |aj::r=>match aj with
  | .int a=>(n3 r).map (a::·)
  |_=>none
noncomputable def dI(a:Str):List Str->Bool
 |[]=>false
 |b::r=>cond (Fast.sEq b a) true (dI a r)
noncomputable def nu(a:Int):List Int->Bool
 |[]=>false
 |b::r=>cond (Int.beq' b a) true (nu a r)
noncomputable def lS{c:Type}(a:Str):List (Str×c)->Bool
 |[]=>false
 |b::r=>cond (Fast.sEq b.1 a) true (lS a r)
def B5(b:Str)(a:List Str):dI b a=a.any (·==b):=by
 induction a with
 |nil=>rfl
 |cons d r c=>refine h (t1 ..) ?_;refine h (rv ..) ?_;refine ba (c ..) ?_;exact Bool.cond_true_left ..
def B4(b:Int)(a:List Int):nu b a=a.any (·==b):=by
 induction a with
 |nil=>rfl
 |cons d r c=>refine h (t1 ..) ?_;refine ba (vF ..) ?_;refine ba (c ..) ?_;exact Bool.cond_true_left ..
def Pn{e:Type}(a:Str)(c:List (Str×e)):lS a c=(U a c).isSome:=by
 induction c with
 |nil=>rfl
 |cons b r d=>
  refine(?_:cond (Fast.sEq b.1 a) true (lS a r)=(cond (Fast.sEq b.1 a) (some b.2) (U a r)).isSome);rw [d];cases Fast.sEq b.1 a<;>rfl
section
variable{c:List Addr}{b:Heap}{d:List Addr}
def w.strs{e:List Y}{f:List Value}(r:w c b d e f):∀{a:List Str},iz e=some a->StrsAre f a:=by
 refine w.gF (P:=λe f=>∀{a:List Str},iz e=some a->StrsAre f a) (λg=>bw g▸.nil) (λ{k n e f} h o i{a} g=> ?_) r;cases k with
 |str s=>
  obtain⟨l,rfl⟩:=h.bI;obtain⟨m,j,rfl⟩:=Option.map_eq_some_iff.mp g;exact .cons _ _ (i j)
 |_=>cases g
def w.ints{e:List Y}{f:List Value}(r:w c b d e f):∀{a:List Int},n3 e=some a->IntsAre f a:=by
 refine w.gF (P:=λe f=>∀{a:List Int},n3 e=some a->IntsAre f a) (λg=>bw g▸.nil) (λ{k n e f} h o i{a} g=> ?_) r;cases k with
 |int s=>
  obtain⟨l,rfl⟩:=h.bI;obtain⟨m,j,rfl⟩:=Option.map_eq_some_iff.mp g;exact .cons _ _ (i j)
 |_=>cases g
inductive bx(c:List Addr)(b:Heap)(d:List Addr):List (Str×Y)->List (Str×Value)->Prop
 |nil:bx c b d [] []
 |cons {x:Str} {v:Y} {f:Value} {a:List (Str×Y)} {e:List (Str×Value)}:G c b d v f->bx c b d a e->bx c b d ((x,v)::a) ((x,f)::e)
def bx.qe{a:List (Str×Y)}{e:List (Str×Value)}(r:bx c b d a e):e.map (·.1)=a.map (·.1):=by
 induction r with
 |nil=>rfl
 |cons _ _ f=>exact T (_::·) f
def bx.length{a:List (Str×Y)}{e:List (Str×Value)}(r:bx c b d a e):e.length=a.length:=by
 induction r with
 |nil=>rfl
 |cons _ _ f=>exact T Nat.succ f
def si{k:Str}{b:Value}:Value.isStrOf k b=true↔∃a,b= .str k a:=
 ⟨Value.isStrOf_shape,(by rintro⟨a,c⟩;exact c▸beq_self_eq_true k)⟩
variable{e:World}{p:Program}
def BP(e:World)(p:Program)(b:List DictEntry):Prop:=∀a∈b,∃k,(strKind p e).is k a.key=true/\a.hash=(strKind p e).hash k
inductive BK(e:World)(p:Program)(c:List Addr)(b:Heap)(d:List Addr)(f:List (Str×Y))(a:List DictEntry):Prop
 |mk (g:List (Str×Value)):bx c b d f g->Pairs (strKind p e) a g->BP e p a->BK e p c b d f a
def M8{h:List (Str×Y)}{f:List DictEntry}(r:c6 e c b d h f):BK e p c b d h f:=by
 induction r with
 |fk=>exact⟨[],.nil,.nil,λg a=>nomatch a⟩
 | @f0 g ap h f r _ o=>
  obtain⟨q,l,m,n⟩:=o;obtain⟨j,i⟩:=r.key;refine⟨(g.1,ap.val)::q,.cons r.val l,.cons (si.mpr ⟨j,i⟩) rfl m,λk a=> ?_⟩;rcases List.mem_cons.mp a with rfl|a
  . exact⟨g.1,si.mpr ⟨j,i⟩,r.hash⟩
  . exact n k a
inductive BJ(p:Program)(e:World)(c:List Addr)(b:Heap)(d:List Addr)(a:Addr)(f:List (Str×Y)):Prop
 |mk (g:List (Str×Value)):bx c b d f g->b.DictOf (strKind p e) a g->BJ p e c b d a f
def ey.of{a:Addr}{f:List (Str×Y)}(s:ey e c b d a f):BJ p e c b d a f:=by obtain⟨h,n,j,k,l⟩:=s;obtain⟨r,g,o,q⟩:=M8 (p:=p) k;exact⟨r,g,_,h.toArray,n,j,⟨rfl,rfl,rfl⟩,rfl,λi m=>q i (List.mem_toArray.mp m),o,g.qe▸l⟩
def QO{g:List (Str×Y)}{j:List (Str×Value)}(r:bx c b d g j):∀{a:List DictEntry},Pairs (strKind p e) a j->BP e p a->c6 e c b d g a:=by
 induction r with
 |nil=>intro a f _;cases f;exact .fk
 |cons n _ q=>
  intro a f h;cases f with
  |cons i o f=>
   refine aS λv u=> ?_;obtain⟨k,s,t⟩:=h _ (.head _);obtain rfl:=(strKind p e).inj _ _ _ i s;refine u ?_;exact .f0 ⟨si.mp i,t,o▸n⟩ (q f λl m=>h l (.tail _ m))
def ey.Ae{a:Addr}{f:List (Str×Y)}{g:List (Str×Value)}(r:bx c b d f g)(k:b.DictOf (strKind p e) a g):ey e c b d a f:=by refine aS λy w=> ?_;obtain⟨x,l,n,o,⟨h,i,j⟩,q,s,t,u⟩:=k;obtain⟨z,B,A,C⟩:=x;refine w ?_;cases h;cases i;cases j;cases q;exact⟨l.toList,n,o,QO r t λm v=>s m (Array.mem_toList_iff.mp v),r.qe▸u⟩
def WN{c a:Str}{b:Value}{d:List (Str×Value)}(e:c=a):valueAt ((c,b)::d) a=some b:=by simp [valueAt,e]
def WO{c a:Str}{e:Value}{b:List (Str×Value)}(d:c≠a):valueAt ((c,e)::b) a=valueAt b a:=by simp [valueAt,List.find?_cons,d]
inductive j7(c:List Addr)(b:Heap)(d:List Addr):Option Y->Option Value->Prop
 |n:j7 c b d none none
 |k' (v:Y) (a:Value):G c b d v a->j7 c b d (some v) (some a)
def bx.at(g:Str){e:List (Str×Y)}{f:List (Str×Value)}(r:bx c b d e f):j7 c b d (U g e) (valueAt f g):=by
 induction r with
 |nil=>exact .n
 | @cons k aj j e f h _ i=>
  by_cases a:k=g
  . rw [e5 a,WN a];exact .k' aj j h
  . rw [en a,WO a];exact i
def bx.lk(x:Str){e:List (Str×Y)}{f:List (Str×Value)}(r:bx c b d e f):j7 c b d (U x e) (U x f):=by
 induction r with
 |nil=>exact .n
 | @cons j aj i e f g _ h=>
  by_cases a:j=x
  . rw [e5 a,e5 a];exact .k' aj i g
  . rw [en a,en a];exact h
def j7.isSome{a:Option Y}{e:Option Value}(r:j7 c b d a e):e.isSome=a.isSome:=by cases r<;>rfl
def j7.get{f:Option Y}{g:Option Value}(r:j7 c b d f g){e:Y}(h:f=some e):∃a,g=some a/\G c b d e a:=by
 cases r with
 |n=>cases h
 |k' e a b=>cases h;exact⟨a,rfl,b⟩
def Es{c:List Value}{i:List Int}(r:IntsAre c i):∀{d:Value},d∈c->∃f a,d= .int f a:=by
 induction r with
 |nil=>exactλb=>nomatch b
 |cons h a _ g=>exactλb=>(List.mem_cons.mp b).elim (λe=>⟨h,a,e⟩) g
end
section
variable{e:G0}{m:D e.w}{f g:Shared}{b c:Value}{a:Bool}
def lT(n:gM e (compareOp .In b c) f (.bool a) g):gM e (contains c b) f a g:=λk j o i p q=>by
 have:=n (λr f=>∀a,r= .bool a->k a f) j (λh m=>Value.bool.inj m▸o) i p q;rw [show compareOp .In b c=(contains c b>>=λa=>pure (.bool a)) from rfl,Sem.wp_bind'] at this;exact Sem.wp_mono e.ab i _ (λl s g d=>by rw [Sem.wp_pure'] at d;exact d l rfl) (λh h h d=>d) p f this
def d.PP{f:ab Bool}(g:d e (contains c b) Is m f):d e (compareOp .In b c) iF m f:=d.h2 (f:=λa=>pure (Value.bool a)) g λa j i h r=>r▸d.ret rfl
def d.Ta{f:ab Bool}(g:d e (contains c b) Is m f):d e (compareOp .NotIn b c) iF m (.map not f):=d.bind (f:=λa=>pure (Value.bool (!a))) (o':=λa h=> .ret (!a) h) g λa k j i r=>r▸d.ret rfl
end
def vH(a:Y)(c:List Y)(b:St):ab Bool:= .or (iz c) (λf=> .str a λg=> .ret (dI g f) b) (.v (n3 c) λe=> .ite a.isStr (.str a λh=> .ret false b) (.int a λd=> .ret (nu d e) b))
def p9(c b:Y)(a:St):ab Bool:= .ite b.isStr (.str b λf=> .str c λe=> .ret (!(Builtin.Str.occurrences f e 0 f.length 1).isEmpty) a)<|
 .or (kR b) (λd=>vH c d a)<| .or (du b a) (λd=>vH c d a)<| .v (eC b a) λg=> .str c λe=> .ret (lS e g) a
section
variable{f:G0}{m:D f.w}{e g:Y}{a c:Value}
def d.PS{w:List Y}{x:List Value}{t:Addr}{z:Nat}(k:b m e a)(o:m.s.heap.get? t=some (dQ x z))(p:bp m w x):d f (contains (.ref t) a) Is m (vH e w m.st):=
 d.or (λB i=>d.str (t:=λa=>contains (.ref t) a) k λh q=>d.cV (lT λu s g=>in_tuple_strs ⟨_,o,rfl,_,rfl⟩ (p.strs i) g) (B5 h B)) λr=>d.v λA i=>
 d.ite (λr=>d.str (t:=λa=>contains (.ref t) a) k λh q=>d.cV (lT λu s g=>SeqAt.in_tupleAt (λr=>false) ⟨_,o,rfl,_,rfl⟩ (λc y=>by obtain⟨j,C,rfl⟩:=Es (p.ints i) (List.mem_toArray.mp y);exact SeqAt.EqAt.int_str j C h q) g) (by simp [Is])) λr=>
 d.int (t:=λa=>contains (.ref t) a) k λh q=>d.cV (lT λu s g=>in_tuple_ints ⟨_,o,rfl,_,rfl⟩ (p.ints i) g) (B4 h A)
def d.PQ{w:List Y}{x:List Value}{t:Addr}{z:Nat}(k:b m e a)(o:m.s.heap.get? t=some (listOf x.toArray z))(p:bp m w x):d f (contains (.ref t) a) Is m (vH e w m.st):=
 d.or (λB i=>d.str (t:=λa=>contains (.ref t) a) k λh q=>d.cV (lT λu s g=>in_list_strs ⟨_,o,rfl,_,rfl⟩ (p.strs i) g) (B5 h B)) λr=>d.v λA i=>
 d.ite (λr=>d.str (t:=λa=>contains (.ref t) a) k λh q=>d.cV (lT λu s g=>SeqAt.in_listAt (λr=>false) ⟨_,o,rfl,_,rfl⟩ (λc y=>by obtain⟨j,C,rfl⟩:=Es (p.ints i) (List.mem_toArray.mp y);exact SeqAt.EqAt.int_str j C h q) g) (by simp [Is])) λr=>
 d.int (t:=λa=>contains (.ref t) a) k λh q=>d.cV (lT λu s g=>in_list_ints ⟨_,o,rfl,_,rfl⟩ (p.ints i) g) (B4 h A)
def oq(m:D f.w)(c:mainGlobals<f.w.ag.n0){d:Nat}{e:Addr}(b:m.ρ[d]?=some e):(e==sysModules)=false:=
 beq_false_of_ne λa=>absurd (hr (j2 (show sysModules<mainGlobals by decide) c) (a▸(m.O.dt e (b8 b)).ge)) (gk _)
def d.p9(A:mainGlobals<f.w.ag.n0)(h:b m e a)(i:b m g c):d f (contains c a) Is m (p9 e g m.st):=
 d.ite (λr=>d.tj (t:=λc a=>contains c a) i h λk s j I=>d.cV (lT λw u p=>PyProof.Rows.in_str p) rfl) λr=>
 d.mu (d.l (t:=λc=>contains c a) i λF t G E o q=>d.PS h o q) λr=>d.mu (d.c (t:=λc=>contains c a) i λF t G E o q=>d.PQ h o q) λr=>
 d.uS (t:=λc=>contains c a) i λy j x z B=>d.str (t:=λa=>contains (.ref x) a) h λk s=>by
  obtain⟨H,C,D⟩:=B.of (p:=f.p);exact d.leaf (lT λw u p=>wpAny_in_of (strKind_is f.p f.w.ag.w k s) (oq m A z) D.mapOf p) ((Pn k y).trans (C.at k).isSome.symm)
end
noncomputable def h3(a:Y->Bool):List Y->Bool
 |[]=>true
 |aj::b=>cond (a aj) (h3 a b) false
def gg:Nat->Y->Bool
 |0,_=>false
 |b+1,aj=>match aj with
  | .none=>true
  | .bool _=>true
  | .int _=>true
  | .str _=>true
  | .l a=>h3 (gg b) a
  | .c a=>h3 (gg b) a
  |_=>false
def wx:List (Str×Y)->Bool
 |[]=>true
 |a::b=>cond (gg 20 a.2) (wx b) false
def CZ{a b:Bool}(c:cond a b false=true):a=true/\b=true:=by rcases a with _|_;exact aA (c);exact⟨rfl,c⟩
section
variable{a:List Addr}{b:List Addr}{A:Around}{s:Shared}
def Ap(b:Nat):((List.range b).all λa=>true)=true:=List.all_eq_true.mpr λa a=>rfl
def w.xj{l:Y->Bool}{P:Value->Value->Prop}(k:∀g h n,l g=true->G a s.heap b g h->G a s.heap b g n->P h n) {d:List Y} {e:List Value} (v:w a s.heap b d e):
  ∀{c:List Value},h3 l d=true->w a s.heap b d c->∀j(f:j<e.length)(m:j<c.length),P e[j] c[j]:=by
 refine w.gF (P:=λd e=>∀{c:List Value},h3 l d=true->w a s.heap b d c->∀j(f:j<e.length)(m:j<c.length),P e[j] c[j]) (λi i j f=>absurd f (eu j)) (λ{g h d e} o i q{c} p x=> ?_) v;refine And.elim (λt u=> ?_) (CZ p);cases x with
 |cI ah r=>exactλj=>Nat.casesOn j (λi i=>k g h _ t o ah) λj f m=>q u r j (hq f) (hq m)
def GB{a b:List Value}(c:a.length=b.length):((List.range (min a.toArray.size b.toArray.size)).all (λd=>true)&&a.toArray.size==b.toArray.size)=true:=by rw [Ap];exact beq_iff_eq.mpr c
def yZ(e:Nat):∀(c:Y)(f g:Value)(A:Around),gg e c=true->G a s.heap b c f->G a s.heap b c g->A.units+e<cLine->SeqAt.EqAt A s f g true:=by
 induction e with
 |zero=>exactλu u u u m=>aA (m)
 |succ e H=>
  intro c f g A m i j D;have E:A.in1.units+e<cLine:=(mX A.units 1 e▸D:A.units+1+e<cLine);have F:A.units<cLine:=eW (c5 _ _) D;cases c with
  |none=>cases i.bI;cases j.bI;exact xJ _
  |bool h=>cases i.bI;cases j.bI;exact xJ _
  |int d=>obtain⟨y,rfl⟩:=i.bI;obtain⟨z,rfl⟩:=j.bI;exact beq_self_eq_true d▸SeqAt.EqAt.int_int d y d z
  |str d=>obtain⟨y,rfl⟩:=i.bI;obtain⟨z,rfl⟩:=j.bI;exact beq_self_eq_true d▸SeqAt.EqAt.str_str d y d z
  |l J=>
   obtain⟨l,B,k,v,_,o⟩:=i.bI;obtain⟨h,C,I,w,_,q⟩:=j.bI;by_cases n:l=h
   . subst n;exact xJ _
   . have t:=SeqAt.RcAt.tuples (A:=A) (s:=s) (e:=λu=>true) (show s.heap.IsTuple l B.toArray from⟨_,v,rfl,_,rfl⟩) (show s.heap.IsTuple h C.toArray from⟨_,w,rfl,_,rfl⟩) F (o.xj (λc f g p r x=>H c f g A.in1 p r x E) m q);rw [GB (o.length.trans q.length.symm)] at t;exact SeqAt.EqAt.of_refs n t
  |c J=>
   obtain⟨l,B,k,v,_,_,o⟩:=i.bI;obtain⟨h,C,I,w,_,_,q⟩:=j.bI;by_cases n:l=h
   . subst n;exact xJ _
   . have t:=SeqAt.RcAt.lists (A:=A) (s:=s) (e:=λu=>true) (show s.heap.IsList l B.toArray from⟨_,v,rfl,_,rfl⟩) (show s.heap.IsList h C.toArray from⟨_,w,rfl,_,rfl⟩) (o.length.trans q.length.symm) F (o.xj (λc f g p r x=>H c f g A.in1 p r x E) m q);rw [Ap] at t;exact SeqAt.EqAt.of_refs n t
  |_=>cases m
def bx.Pw(n:A.units+1+20<cLine){h:List (Str×Value)}{e:List (Str×Y)}{i:List (Str×Value)}(r:bx a s.heap b e i):wx e=true->(∀d c,(d,c)∈e->∃f,valueAt h d=some f/\G a s.heap b c f)->KeqHits A.in1 s h i true:=by
 induction r with
 |nil=>exactλu u=> .nil
 |cons o _ p=>
  intro m g;refine And.elim (λq t=> ?_) (CZ m);obtain⟨f,j,k⟩:=g _ _ (.head _);exact .hit (e:=true) (b:=true) j (yZ 20 _ _ _ A.in1 q o k n) (p t λd c l=>g d c (.tail _ l))
def Rn{d:Type}{x:Str}{v:d}{a:List (Str×d)}(c:(a.map (·.1)).Nodup)(b:(x,v)∈a):U x a=some v:=by
 induction a with
 |nil=>cases b
 |cons p a f=>
  obtain⟨e,c⟩:=List.nodup_cons.mp c;rcases List.mem_cons.mp b with rfl|b
  . exact e5 rfl
  . exact(en (x:=p.1) (v:=p.2) λ(h:p.1=x)=>e ((h▸List.mem_map_of_mem (f:=λg:Str×d=>g.1) b:p.1∈a.map (·.1)))).trans (f c b)
def bx.mem{c:List (Str×Y)}{f:List (Str×Value)}{e:Heap}(r:bx a e b c f)(j:(c.map (·.1)).Nodup)(d:Str)(g:Y)(i:(d,g)∈c):∃h,valueAt f d=some h/\G a e b g h:=(r.at d).get (Rn j i)
end
noncomputable def kt(a:Bool):CmpOp:=cond a .NotEq .Eq
structure fC(c:G0)(s:Shared)(x a:Value)(b:Bool):Prop where
 eq:gM c (compareOp .Eq x a) s (.bool b) s
 ne:gM c (compareOp .NotEq x a) s (.bool (!b)) s
def pV(n:Bool)(c d:Y)(a:St):ab Bool:= .or (kR c) (λb=> .v (kR d) λe=> .hl (gg 20 (.l b)=true) (.hl (b=e) (.ret (jH n true) a)))<|
 .ite c.isNone (.v (du d a) λh=> .ret (jH n false) a)<|
 .or (du c a) (λb=> .v (du d a) λe=> .ite (Nat.beq (C b) (C e)) (.hl (gg 20 (.c b)=true) (.hl (b=e) (.ret (jH n true) a))) (.ret (jH n false) a))<|
 .v (eC c a) λf=> .v (eC d a) λg=> .hl (wx f=true) (.hl (f=g) (.ret (jH n true) a))
noncomputable def Cb:Y->Bool
 | .bool _=>true
 | .int _=>true
 | .str _=>true
 |_=>false
def jh(d:CmpOp)(a b:Y)(c:St):ab Bool:=match d with
 | .In=>p9 a b c
 | .NotIn=> .map not (p9 a b c)
 | .Eq=> .ite (Cb a) (kr false a b c) (pV false a b c)
 | .NotEq=> .ite (Cb a) (kr true a b c) (pV true a b c)
 |d=>uN d a b c
section
variable{a:G0}{m:D a.w}{f g:Y}{i c:Value}
def fC.go{b e:Bool}(f:fC a m.s i c e):d a (compareOp (kt b) i c) iF m (.ret (jH b e) m.st):=by
 rcases b with _|_
 . exact d.fg f.eq
 . exact d.fg f.ne
def fC.lists{f g:Addr}{v w:List Y}{j l:List Value}{k H:Nat}{n:Bool}(y:a.ak.units+64<cLine)(E:m.s.heap.get? f=some (listOf j.toArray k))(F:m.s.heap.get? g=some (listOf l.toArray H))(o:bp m v j)(q:bp m w l)
  (C:n=true->gg 20 (.c v)=true/\v=w)(D:n=false->v.length≠w.length):fC a m.s (.ref f) (.ref g) n:=by
 have s:a.ak.units<cLine:=eW (c5 _ _) y;have t:m.s.heap.IsList f j.toArray:=⟨_,E,rfl,_,rfl⟩;have u:m.s.heap.IsList g l.toArray:=⟨_,F,rfl,_,rfl⟩;induction n using Bool.casesOn with
 |true=>
  obtain⟨G,rfl⟩:=C rfl;have z:=o.xj (λJ i c p r I=>yZ 19 J i c a.ak.in1 p r I (eW (L (ed (Nat.add_assoc _ 1 19)) (jW (by decide) _)) y)) G q;have A:=SeqAt.RcAt.lists (A:=a.ak) (e:=λK=>true) t u (o.length.trans q.length.symm) s z;have B:=SeqAt.RcNeAt.lists (A:=a.ak) (e:=λK=>true) t u (o.length.trans q.length.symm) s z;rw [Ap] at A B;exact⟨λd b h=>A a.p a.w.ag.w b d h,λd b h=>B a.p a.w.ag.w b d h⟩
 |false=>
  have x:(j.toArray.size !=l.toArray.size)=true:=bne_iff_ne.mpr λe=>D rfl (o.length.symm.trans ((show j.length=l.length from e).trans q.length));exact⟨λd b h=>SeqAt.RcAt.lists_lengths (A:=a.ak) t u x s a.p a.w.ag.w b d h,λd b h=>SeqAt.RcNeAt.lists_lengths (A:=a.ak) t u x s a.p a.w.ag.w b d h⟩
def fC.WE{f g:Addr}{h:List Y}{j l:List Value}{k B:Nat}(q:a.ak.units+64<cLine)(y:m.s.heap.get? f=some (dQ j k))(z:m.s.heap.get? g=some (dQ l B))(n:bp m h j)(o:bp m h l)(A:gg 20 (.l h)=true):fC a m.s (.ref f) (.ref g) true:=by have s:a.ak.units<cLine:=eW (c5 _ _) q;have t:m.s.heap.IsTuple f j.toArray:=⟨_,y,rfl,_,rfl⟩;have u:m.s.heap.IsTuple g l.toArray:=⟨_,z,rfl,_,rfl⟩;have v:=n.xj (λD i c p r C=>yZ 19 D i c a.ak.in1 p r C (eW (L (ed (Nat.add_assoc _ 1 19)) (jW (by decide) _)) q)) A o;have w:=SeqAt.RcAt.tuples (A:=a.ak) (e:=λE=>true) t u s v;have x:=SeqAt.RcNeAt.tuples (A:=a.ak) (e:=λE=>true) t u s v;rw [GB (n.length.trans o.length.symm)] at w x;exact⟨λd b e=>w a.p a.w.ag.w b d e,λd b e=>x a.p a.w.ag.w b d e⟩
def fC.Ln{z j:Nat}{f g:Addr}{b:List (Str×Y)}(c:mainGlobals<a.w.ag.n0)(o:a.ak.units+64<cLine)(k:m.ρ[z]?=some f)(n:m.ρ[j]?=some g)(w:ey a.w.ag.w a.w.ag.fz m.s.heap m.ρ f b)(i:ey a.w.ag.w a.w.ag.fz m.s.heap m.ρ g b)(y:wx b=true):fC a m.s (.ref f) (.ref g) true:=by
 have p:a.ak.units<cLine:=eW (c5 _ _) o;obtain⟨A,q,s⟩:=w.of (p:=a.p);obtain⟨B,r,t⟩:=i.of (p:=a.p);have x:(b.map (·.1)).Nodup:=by obtain⟨_,_,_,_,C⟩:=i;exact C
 have l:=q.Pw (A:=a.ak) (eW (L (ed (Nat.add_assoc _ 1 20)) (jW (by decide) _)) o) y (r.mem x);have e:(A.length==B.length&&true)=true:=(Bool.and_true _).trans (beq_iff_eq.mpr (q.length.trans r.length.symm));exact⟨λv u d=>keq_eq (oq m c k) (oq m c n) s t p (λD=>l) (by refine h (e ..) ?_;exact d),λv u d=>keq_ne (oq m c k) (oq m c n) s t p (λD=>l) (by refine h (e ..) ?_;exact d)⟩
def d.pV{n:Bool}(K:mainGlobals<a.w.ag.n0)(r:a.ak.units+64<cLine)(u:b m f i)(w:b m g c):d a (compareOp (kt n) i c) iF m (pV n f g m.st):=by
 have E:a.ak.units<cLine:=eW (c5 _ _) r;refine d.mu (d.l (t:=λi=>compareOp (kt n) i c) u λF t G k o q=>d.l (t:=λc=>compareOp (kt n) (.ref t) c) w λQ P R O x y=>d.hl λp=>d.hl λe=>fC.go (fC.WE r o x q (e▸y) p)) λs=>d.ite (λL=> ?_) λs=>
  d.mu (d.c (t:=λi=>compareOp (kt n) i c) u λF t G k o q=>d.c (t:=λc=>compareOp (kt n) (.ref t) c) w λQ P R O x y=>d.ite (λs=>d.hl λp=>d.hl λe=>fC.go (fC.lists r o x q y (λs=>⟨p,e⟩) λB=>aA (B))) λD=>fC.go (fC.lists r o x q y (λB=>aA (B)) λs e=> ?_)) λs=>
  d.uS (t:=λi=>compareOp (kt n) i c) u λT V H I M=>d.uS (t:=λc=>compareOp (kt n) (.ref H) c) w λU j S J N=>d.hl λp=>d.hl λe=>fC.go (fC.Ln K r I J M (e▸N) p)
 . refine h (vP u L ..) ?_;exact d.c (t:=λc=>compareOp (kt n) .none c) w λF t G k o q=>fC.go ⟨λA z C=>SeqAt.RcAt.none_list (A:=a.ak) ⟨_,o,rfl,_,rfl⟩ E a.p a.w.ag.w z A C,λA z C=>SeqAt.RcNeAt.none_list (A:=a.ak) ⟨_,o,rfl,_,rfl⟩ E a.p a.w.ag.w z A C⟩
 . rw [aZ,aZ,e,Nat.beq_refl] at D;cases D
def d.jh{k:CmpOp}(j:mainGlobals<a.w.ag.n0)(p:a.ak.units+64<cLine)(e:b m f i)(h:b m g c):d a (compareOp k i c) iF m (jh k f g m.st):=by
 induction k using PySem.CmpOp.casesOn with
 |In=>exact d.PP (d.p9 j e h)
 |NotIn=>exact d.Ta (d.p9 j e h)
 |Eq=>exact d.ite (λo=>d.kr e h) λo=>d.pV (n:=false) j p e h
 |NotEq=>exact d.ite (λo=>d.Fp e h) λo=>d.pV (n:=true) j p e h
 |_=>exact d.uN e h
end
structure aL where
 names:List Str
 body:List Stmt
 scope:Scope
 jj:List Y
inductive AK where
 |bk|ea (f:Nat)
structure eX where
 attrs:List (Str×AK)
 AL:List (Str×Nat)
 ar:Bool
 init:Nat
 mro:List Nat
noncomputable def Cc(a:Frag)(b:Nat)(c:Str):AK->Bool
 | .bk=>findIn a (.ref b) c==some none
 | .ea cf=>findIn a (.ref b) c==some (some (.ref cf))&&isFn a (.ref cf)
noncomputable def AJ(a:Frag)(b:Nat)(c:Str×Nat):Bool:=readsIn a b (.type "type")&&(specialIn a (.ref b) "__getattribute__"==some (some (.builtin "type.__getattribute__")))&&isFn a (.ref c.2)&&
 (match findCls a (.ref b) (.type "type") c.1 with|some (.val (.ref d))=>d==c.2|_=>false)
noncomputable def AW(a:List Value):List Value->Bool
 | .ref _::r=>AW a r
 |r=>r==a
noncomputable def z2(a:Bool):List Value:=cond a [.type "Exception",.type "BaseException",.type "object"] [.type "object"]
noncomputable def DO(a:Frag)(b:Nat)(d:List Nat):Bool:=findIn a (.ref b) "__getattribute__"==some (some (.builtin "BaseException.__getattribute__"))&&(mroIn a b (.type "BaseException")==some true)&&(instIn a (.ref b) (.type "type")==some true)&&(typeIn a (.ref b)==some (.type "type"))&&(instIn a (.ref b) (.type "tuple")==some false)&&(instIn a (.ref b) (.type "BaseException")==some false)&&(clsIn a b).any (λc=>c.mro==d.map Value.ref++[.type "Exception",.type "BaseException",.type "object"])
def pC(a:Frag)(b:Nat)(r:eX):Bool:=
 hasDictIn a b&&(clsIn a b).any (λd=>AW (z2 r.ar) d.mro)&&(mroIn a b (.type "object")==some true)&&(findIn a (.ref b) "__getattr__"==some none)&&(findIn a (.ref b) "__setattr__"==some (some (.builtin "object.__setattr__")))&&(findIn a (.ref b) "__init__"==some (some (.ref r.init)))&&isFn a (.ref r.init)&&
 keepIn a (.ref b)&&cond r.ar (DO a b r.mro) (findIn a (.ref b) "__getattribute__"==some (some (.builtin "object.__getattribute__"))&&makesIn a b&&plainOver a b)&&r.AL.all (AJ a b)&&r.attrs.all λc=>Cc a b c.1 c.2
inductive KT where
 |ty (b:Ty)|fn|cls (a:Nat)
def KT.val:KT->Value
 | .ty a=> .type a.name
 | .fn=> .type "function"
 | .cls ai=> .ref ai
def n9:KT->KT->Bool
 | .ty a,.ty m=>decide (a=m)
 | .fn,.fn=>true
 | .cls ai,.cls ah=>Nat.beq ai ah
 |_,_=>false
noncomputable def cA(a:Nat):List Nat->Bool
 |[]=>false
 |c::b=>cond (Nat.beq c a) true (cA a b)
def sq(c b:KT):List (KT×KT×Bool)->Option Bool
 |[]=>none
 |a::d=>cond (n9 a.1 c&&n9 a.2.1 b) (some a.2.2) (sq c b d)
structure ay where
 K:Frag
 cls:List (Nat×eX)
 f6:List (Nat×aL)
 r6:List (Str×Y)
 pu:List (Str×Y)
 lP:List Nat
 lX:List Nat
 qf:List (KT×KT×Bool)
 OP:List Nat
 xt:List Nat
structure I where
 sc:Scope
 hd:Option Y
 cells:List (Str×Nat)
set_option genCtorIdx true in
inductive bg where
 |next|brk|cont|ret (v:Y)
abbrev Q:=bg->St->Prop
structure O where
 E:I->Expr->St->ab Y
 B:I->Expr->St->ab Bool
 S:I->Stmt->St->ab bg
 ag:Option Y->Y->List Y->St->ab Y
noncomputable def da{c:Type}(a:Nat):List (Nat×c)->Option c
 |[]=>none
 |b::d=>cond (Nat.beq b.1 a) (some b.2) (da a d)
inductive m6(a:Heap)(b:List Y):Value->Prop
 |n:b=[]->m6 a b .none
 |mk (c:Addr) (d:List Value) (e:Nat):w [] a [] b d->a.get? c=some (dQ d e)->m6 a b (.ref c)
inductive BM(b:Heap)(a:Nat)(r:aL):Prop
 |mk (c:Obj) (fd:FuncData) (as:List Arg) (e:List (Option Expr)) (d:List Expr):b.get? a=some c->c.data= .func fd->fd.params=⟨[],as,none,[],e,none,d⟩->as.map (·.arg)=r.names->fd.body= .stmts r.body->fd.scope=r.scope->fd.closure=[]->fd.globals=mainGlobals->fd.builtins=builtinsNs->
  b.CodeRec fd.code fd.qualname->m6 b r.jj fd.defaults->BM b a r
structure fc(b:Heap)(a:Nat)(r:aL):Prop where
 a4:BM b a r
 nd:r.names.Nodup
 kind:r.scope.kind= .function
 O6:r.scope.isGenerator=false
 co:r.scope.isCoroutine=false
inductive BN(e:Heap)(c:ay):Prop
 |mk (d:Str->Option Value):e.Ns mainGlobals d->(∀b v,U b c.r6=some v->∃a,v= .d a/\d b=some (.ref a))->(∀b v,U b c.pu=some v->d b=none)->BN e c
inductive BE(d:Heap)(c:ay):Prop
 |mk (a:Str->Option Value):d.Ns builtinsNs a->(∀b v,U b c.pu=some v->(∃id,v= .bi id/\a b=some (.builtin id.id))\/∃e,v= .ty e/\a b=some (.type e.name))->BE d c
structure aC(d:Heap)(b:ay):Prop where
 K:b.K.In d
 cls:∀c r,da c b.cls=some r->pC b.K c r=true
 fn:∀a r,da a b.f6=some r->fc d a r
 g:BN d b
 ah:BE d b
 ET:d.NoLimit
 vX:∃k f,d.objs.size=k+1/\d.get? k=some f
 lP:∀a,cA a b.lP=true->typeIn b.K (.ref a)=some (.type "function")
 lX:∀c,cA c b.lX=true->plainGet b.K c "__class__"=true/\findIn b.K (.ref c) "__class__"=some (some (.builtin "object.__class__"))
 qf:∀e c ah,sq e c b.qf=some ah->kitOne b.K e.val c.val=some ah
noncomputable def P8(a:Env):Bool:=a.frame==some a.locals
def eJ(a:List Env):List Env:=a.filter P8
structure Rk where
 ag:au
 p:Program
 T:ay
 am:Nat
 r:O
structure Fr extends Rk where
 F:aC ag.hb T
 ak:Around
 aq:List Env
 b:Env
 I:I
 iV:b.scope=I.sc
 r5:b.globals=mainGlobals
 blt:b.builtins=builtinsNs
 kind:I.sc.kind= .function
 frames:ak.frames=some (eJ (b::aq))
 i3:∃a r,eJ (b::aq)=a::r/\a.frame=b.frame
 depth:ak.depth+2*am<recursionLimit
 units:ak.units+16*am+64<cLine
@[reducible] noncomputable def Fr.w(a:Fr):Wd:=⟨a.toRk.ag,a.b::a.aq⟩
@[reducible] def Fr.z(a:Fr):G0:=⟨a.w,a.toRk.p,a.ak⟩
def hY{d:Wd}(m:D d)(a:Around):Option Y->Prop
 |none=>a.handled=none
 |some aj=>∃c,a.handled=some c/\b m aj c
structure In0(b:Fr)(m:D b.w):Prop where
 cells:∀d c,U d b.I.cells=some c->∃a,m.ρ[c]?=some a/\b.b.cells.lookup d=some a
 hd:hY m b.ak b.I.hd
def hY.f{g:Wd}{m aG:D g}{A:Around}{a:Option Y}(b:hY m A a)(c:m.To aG):hY aG A a:=by
 induction a using Option.casesOn with
 |none=>exact b
 |some aj=>obtain⟨h,d,e⟩:=b;exact⟨h,d,G.mono c.kp e⟩
def In0.f{a:Fr}{m aG:D a.w}(b:In0 a m)(c:m.To aG):In0 a aG:=⟨λi d e=>let⟨ai,g,h⟩:=b.cells i d e;⟨ai,c.ext d ai g,h⟩,b.hd.f c⟩
def b9{a:Wd}(m:D a):bg->Flow->Prop
 | .next,.next=>True
 | .brk,.brk=>True
 | .cont,.cont=>True
 | .ret aj,.ret c=>b m aj c
 |_,_=>False
def b9.case{j:Wd}{m:D j}{P:bg->Flow->Prop}{d:bg}{c:Flow}(a:b9 m d c)(i:P .next .next)(g:P .brk .brk)(h:P .cont .cont)(r:∀e c,b m e c->P (.ret e) (.ret c)):P d c:=by
 rcases d with _|_|_|_<;>rcases c with _|_|_|_
 . exact i
 . exact a.elim
 . exact a.elim
 . exact a.elim
 . exact a.elim
 . exact g
 . exact a.elim
 . exact a.elim
 . exact a.elim
 . exact a.elim
 . exact h
 . exact a.elim
 . exact a.elim
 . exact a.elim
 . exact a.elim
 . exact r _ _ a
structure h1(k:Rk):Prop where
 E:∀(a:Fr) e(m:D a.w),a.toRk=k->In0 a m->d a.z (eval e a.b) b m (k.r.E a.I e m.st)
 B:∀(a:Fr) e(m:D a.w),a.toRk=k->In0 a m->d a.z (isTrue e a.b (eval e a.b)) Is m (k.r.B a.I e m.st)
 S:∀(a:Fr) c(m:D a.w),a.toRk=k->In0 a m->d a.z (exec c a.b) b9 m (k.r.S a.I c m.st)
 ag:∀(a:Fr)(m:D a.w)(f:Y)(args:List Y)(g:Value)(h:List Value),a.toRk=k->In0 a m->b m f g->bp m args h->d a.z (call g h) b m (k.r.ag a.I.hd f args m.st)
def O.none:O:=⟨λa a a=> .n,λa a a=> .n,λa a a=> .n,λa a a a=> .n⟩
def h1.none{b:au}{p:Program}{c:ay}{e:Nat}:h1 ⟨b,p,c,e,.none⟩:=⟨λa a a a a=>d.n,λa a a a a=>d.n,λa a a a a=>d.n,λa a a a a a a a a a=>d.n⟩
structure aF(a:Fr)(m:D a.w):Prop extends In0 a m where
 hS:h1 a.toRk
section
variable{c:Fr}{m aG:D c.w}
def aF.f(a:aF c m)(b:m.To aG):aF c aG:=⟨a.toIn0.f b,a.hS⟩
def aF.E(e:aF c m){a:Expr}:d c.z (eval a c.b) b m (c.r.E c.I a m.st):=e.hS.E c a m rfl e.toIn0
def aF.B(b:aF c m){a:Expr}:d c.z (isTrue a c.b (eval a c.b)) Is m (c.r.B c.I a m.st):=b.hS.B c a m rfl b.toIn0
def aF.S(b:aF c m){a:Stmt}:d c.z (exec a c.b) b9 m (c.r.S c.I a m.st):=b.hS.S c a m rfl b.toIn0
def aF.ag(i:aF c m){e:Y}{a:List Y}{g:Value}{h:List Value}(k:b m e g)(j:bp m a h):d c.z (call g h) b m (c.r.ag c.I.hd e a m.st):=i.hS.ag c m e a g h rfl i.toIn0 k j
def Fr.un(c:Fr):c.z.ak.units+64<cLine:=eW (mV (c5 _ _) 64) c.units
def Fr.main(c:Fr):mainGlobals<c.z.w.ag.n0:=by obtain⟨d,a,_,_⟩:=c.F.g;exact a.lt
def Fr.In(c:Fr)(m:D c.w):c.T.K.In m.s.heap:=λa d e=>m.O.cw a d (c.F.K a d e)
noncomputable def ae.yk:ae->Option Y
 | .cell aj=>aj
 |_=>none
def py(b:I)(e:Str)(a:St):ab Y:= .v (U e b.cells) λc=> .v ((t a.objs c).bind ae.yk) λd=> .ret d a
def mo(e:ay)(d:I)(a:Str)(b:St):ab Y:= .bR (Fast.sEq a "__debug__")<| .v (U a d.sc.names) λk=>match k with
 | .local=> .v (U a b.d) λc=> .ret c b
 | .cell=>py d a b
 | .free=> .bR (Fast.sEq a "__classdict__") (py d a b)
 | .globalImplicit=> .or (U a e.r6) (λc=> .ret c b) (.v (U a e.pu) λc=> .ret c b)
 |_=> .n
def C2(b:Const)(a:St):ab Y:=match b with
 | .none=> .ret .none a
 | .bool ah=> .ret (.bool ah) a
 | .int c=> .ret (.int c) a
 | .str s=> .ret (.str s) a
 |_=> .n
def oQ(b:Y)(a:St):ab Bool:=match b with
 | .none=> .ret false a
 | .bool ah=> .ret ah a
 | .int d=> .ret (!(Int.beq' d 0)) a
 |b=> .v (du b a) λc=> .ok (Nat.blt (C c) 9223372036854775808) (.ret (!(Nat.beq (C c) 0)) a)
def Fr.oj(c:Fr){a:Str}{k:NameKind}(d:U a c.I.sc.names=some k):c.b.kindOf a=some k:=by unfold Env.kindOf;refine h (c.iV ..) ?_;refine ba (sr ..) ?_;exact d
def Fr.p0(c:Fr):c.b.scope.kind= .function:=c.iV▸c.kind
def ae.JA{a:ae}{b:Y}(d:a.yk=some b):a= .cell (some b):=by
 induction a using ae.casesOn with
 |cell b=>exact T ae.cell d
 |_=>cases d
inductive BF(c:Fr)(m:D c.w)(d:Str)(v:Y):Prop
 |mk (a:Addr) (e:Value):c.b.cells.lookup d=some a->m.s.heap.IsCell a (some e)->b m v e->BF c m d v
def In0.Jz(h:In0 c m){d:Str}{b:Nat}{a:Y}(l:U d c.I.cells=some b)(n:(t m.st.objs b).bind ae.yk=some a):BF c m d a:=by
 obtain⟨e,j,k⟩:=h.cells d b l;obtain⟨g,p,q⟩:=bind_some n;cases ae.JA q;have o:ni c.ag.fz m.s.heap m.ρ e (some a):=m.at p j;cases o with
 |mk g a s i al ap r=>exact⟨e,s,k,⟨g,i,ap⟩,r⟩
def d.py{f:Sem Value}{g:Str}(h:In0 c m)(i:∀{a e},c.b.cells.lookup g=some a->m.s.heap.IsCell a (some e)->gM c.z f m.s e m.s):d c.z f b m (py c.I g m.st):=
 d.v λr p=>d.v λs q=>by obtain⟨a,e,j,k,o⟩:=h.Jz p q;exact d.cV (i j k) o
def d.name{e:Str}{L:Pos}(x:In0 c m):d c.z (eval (.Name e L) c.b) b m (mo c.T c.I e m.st):=by
 refine d.bR λE=>d.v λk M=> ?_;have f:(e==("__debug__":Str))=false:=(rv ..).trans E;have g:=c.p0;have h:=c.oj M;cases k with
 |«local»=>
  refine d.v λs u=> ?_;obtain⟨N,z,H⟩:=m.O.d c.b.locals (bf c.aq) rfl;obtain⟨P,p,q⟩:=H e s u;exact d.cV (λo i a=>wpAny_Name (wpAny_loadName_local g h z p a) f) q
 |cell=>exact d.py x λp q o i a=>wpAny_Name (wpAny_loadName_cell g h p q a) f
 |free=>exact d.bR λD=>d.py x λp q o i a=>wpAny_Name (wpAny_loadName_free g h p q a ((rv ..).trans D)) f
 |globalImplicit=>
  obtain⟨J,j,C,y⟩:=c.F.g;have j:m.s.heap.Ns c.b.globals J:=c.r5▸j.keeps m.O.cw;refine d.or (λs u=> ?_) λO=>d.v λs w=> ?_
  . obtain⟨A,rfl,r⟩:=C e s u;exact d.cV (λo i a=>Name_function_global g h (loadGlobal_global (env:=c.b) j r a) f) (G.oD A)
  . obtain⟨I,t,B⟩:=c.F.ah;have t:m.s.heap.Ns c.b.builtins I:=c.blt▸t.keeps m.O.cw;rcases B e s w with⟨F,rfl,r⟩|⟨K,rfl,r⟩
    . exact d.cV (λo i a=>Name_function_global g h (loadGlobal_builtin (env:=c.b) j (y e _ w) t r a) f) (G.kL F)
    . exact d.cV (λo i a=>Name_function_global g h (loadGlobal_builtin (env:=c.b) j (y e _ w) t r a) f) (G.sZ K)
 |_=>exact d.n
end
section
variable{e:G0}{m:D e.w}{c:Y}{a:Value}
def d.Kd{j:Env}(i:Const):d e (constValue j i) b m (C2 i m.st):=by
 induction i using PySem.Const.casesOn with
 |none=>exact d.cV (λh g f=>V f) G.iw
 |bool ah=>exact d.cV (λh g f=>V f) (G.kM ah)
 |int k=>exact d.leaf (λh g f=>wpAny_mkInt f) (G.dO _ _)
 |str a=>exact d.leaf (λh g f=>wpAny_mkText f) (G.fN _ _)
 |_=>exact d.n
def d.Wt(r:b m c a):d e (truthy a) Is m (.v (du c m.st) λg=> .ok (Nat.blt (C g) 9223372036854775808) (.ret (!(Nat.beq (C g) 0)) m.st)):=
 d.c (t:=λa=>truthy a) r λg q k s i h=>d.ok λf=>by
  rw [aZ] at f⊢;have f:=a' f;exact d.leaf (λp o j=>wpAny_truthy_list ⟨_,i,rfl,_,rfl⟩ (by simp only [List.size_toArray,h.length];exact(Int.ofNat_lt.mpr (by assumption))) j) (by refine(?_:(!_)= !_);refine ba (h.length ..) ?_;rcases k with _|⟨_,_⟩<;>rfl)
def d.G9(r:b m c a):d e (truthy a) Is m (oQ c m.st):=by
 induction c using Y.casesOn with
 |none=>cases r.bI;exact d.cV (λh i g=>wpAny_of_eq (rfl:truthy .none=Pure.pure false) g) rfl
 |bool ah=>cases r.bI;exact d.G'
 |int f=>exact d.int (f:=λf=> .ret (!(Int.beq' f 0)) m.st) r λf j=>d.cV (λh i g=>PySem.P.truthy_int (show h (!(f==0)) m.s from vF f 0▸g)) rfl
 |_=>exact d.Wt r
end
noncomputable def v'(a:Expr):Option Str:=by
 induction a using Expr.casesOn with
 |Name b _=>exact some b
 |_=>exact none
noncomputable def rD(a:Expr):Option (Expr×List Expr×List Keyword×Pos):=by
 induction a using Expr.casesOn with
 |Call cf b c p=>exact some (cf,b,c,p)
 |_=>exact none
noncomputable def qb(a:Expr):Bool:=Nat.beq a.ctorIdx 22
def e3(r:O)(a:I):List Expr->St->ab (List Y)
 |[],st=> .ret [] st
 |b::c,st=> .bR (qb b) (.bind (r.E a b st) λf d=> .bind (e3 r a c d) λg e=> .ret (f::g) e)
def wq{d:Type}(e:BoolOp)(c:Bool)(a b:ab d):ab d:=match e with
 | .And=> .ite c a b
 | .Or=> .ite c b a
def rE(r:O)(c:I):List CmpOp->Y->List Expr->St->ab Bool
 |[],_,_,_=> .n
 |op::d,ai,a,st=>match a with
  |[]=> .n
  |h::a=> .bind (r.E c h st) λb e=>match d with
   |[]=>(match a with|[]=>jh op ai b e|_=> .n)
   |_::_=> .bind (jh op ai b e) λg f=> .ite g (rE r c d b a f) (.ret false f)
def yf(r:O)(a:I)(d:BoolOp):List Expr->St->ab Y
 |[],_=> .n
 |b::c,st=>match c with
  |[]=>r.E a b st
  |_::_=> .bind (r.E a b st) λf g=> .bind (oQ f g) λh e=>wq d h (yf r a d c e) (.ret f e)
def x9(r:O)(b:I)(a:BoolOp):List Expr->St->ab Bool
 |[],st=> .ret (match a with| .And=>true| .Or=>false) st
 |e::f,st=> .bind (r.B b e st) λd c=>wq a d (x9 r b a f c) (.ret d c)
def Fq(c:Y)(b:St):ab Y:= .int c λa=> .ret (.int (-a)) b
def Fu(a:List Y)(b:St):ab Y:= .ok (Nat.ble (C a) sizeLine) (.ret (.l a) b)
def lu(b:ae)(a:St):ab Y:= .ret (.obj (C a.objs)) ⟨aJ a.objs b,a.d⟩
def Ft(a:List Y)(b:St):ab Y:= .ok (Nat.ble (C a) sizeLine) (lu (.c a) b)
def ny(d:Operator)(b c:Y)(a:St):ab Y:=match d with
 | .Add=> .or (du b a) (λf=> .v (du c a) λe=> .ok (Nat.ble (C f+C e) sizeLine) (lu (.c (x' f e)) a)) (pq .Add b c a)
 |d=>pq d b c a
def Vj(b:Sem Value)(a:List (Bool×Sem Value)):spliced ((false,b)::a)=(b>>=λc=>holding [c] (spliced a)>>=λd=>pure ([c]++d)):=by rw [spliced];simp
def GL{a:Expr}{c:List Expr}{b:Env}(d:qb a=false):starEach (a::c) b=(false,eval a b)::starEach c b:=by induction a using Expr.casesOn<;>first|rfl|cases d
section
variable{a:G0}{m:D a.w}{c f i:Y}{e g:Value}
def s.push{i:Wd}{m:D i}{a:Shared}{b:Obj}(d:a.heap=m.s.heap.push b)(g:a.gens=m.s.gens)(h:a.os=m.s.os):s m m.st m.ρ a:=s.qi (d▸gm.push b λc e=>m.O.lt e) g h
def d.neg(r:b m i e):d a (unaryOp .USub e) b m (Fq i m.st):=d.int r λj k=>d.leaf (λh g f=>PySem.P.neg_int f) (G.dO _ _)
def c8{c f:Nat}(a:Nat.ble c f=true):c<=f:=a' a
def d.S2{e:List Y}{f:List Value}(r:bp m e f):d a (newTuple f) b m (Fu e m.st):=
 d.ok λg=>d.vY (λk j i=>wpAny_newTuple i (by refine h (r.length ..) ?_;refine ba (aZ ..) ?_;exact c8 g)) (s.push rfl rfl rfl) (G.mz (n:=0) (cY _ rfl) m.O.ne (w.mono (zJ _) r))
def d.newObj{g:Sem Value}{f:ae}{e:Obj}{k:Nat}(j:gM a g m.s (.ref m.s.heap.objs.size) {m.s with heap:=m.s.heap.push e,toks:=k})(i:cK a.w.ag.w a.w.ag.fz (m.s.heap.push e) (m.ρ++[m.s.heap.objs.size]) m.s.heap.objs.size f):d a g b m (lu f m.st):=by unfold lu;refine h (c0 ..) ?_;exact d.vY j (s.alloc (s':={m.s with heap:=m.s.heap.push e,toks:=k}) i rfl rfl rfl) (G.gh (by refine h (aZ ..) ?_;refine ba (m.O.aE ..) ?_;refine h (i5 (cb _) ..) ?_;refine h (pa ..) ?_;rfl))
def d.S1{f:List Y}{e:List Value}(r:bp m f e):d a (newList e) b m (Ft f m.st):=
 d.ok λg=>d.newObj (k:=m.s.toks) (λj i h=>wpAny_newList h (by rw [r.length,<-aZ];exact c8 g)) ⟨e,0,cY _ rfl,w.mono (qg _) r⟩
def d.ny{o:Operator}(i:b m c e)(j:b m f g):d a (binaryOp o e g) b m (ny o c f m.st):=by
 induction o using PySem.Operator.casesOn with
 |Add=>exact d.mu (d.c (t:=λe=>binaryOp .Add e g) i λF t s k x q=>d.c (t:=λg=>binaryOp .Add (.ref t) g) j λE D u C y r=>d.ok λp=>d.newObj (k:=m.s.toks) (λB A z=>PySem.P.add_list (items:=s.toArray) (items2:=u.toArray) x y z (hsz:=by rw [aZ,aZ,<-q.length,<-r.length] at p;exact c8 p)) ⟨s++u,0,by refine h (cY _ rfl ..) ?_;simp,by refine h (Ic ..) ?_;exact w.append (w.mono (qg _) r) (w.mono (qg _) q)⟩) λG=>d.pq i j
 |_=>exact d.pq i j
end
section
variable{a:Fr}
def d.e3{k:Pos}(b:List Expr):∀{m:D a.w},aF a m->d a.z (spliced (backTo k (starEach b a.b))) bp m (e3 a.r a.I b m.st):=by
 induction b with
 |nil=>exactλe=>d.ret w.cQ
 |cons q b j=>
  intro m e;refine d.bR λi=> ?_;refine h (GL i ..) ?_;exact d.eq (Vj _ _) (d.bind e.E λt r x f o=>d.bind (d.bY (j (e.f f))) λu s y g p=>d.ret (.cI (o.f g) p))
def d.JB{z:Pos}(i:List CmpOp):∀{f:List Expr}{m:D a.w}{o:Y}{q:Value},aF a m->b m o q->d a.z (compareChain z q i (evalEach f a.b)) iF m (rE a.r a.I i o f m.st):=by
 induction i with
 |nil=>exactλe e=>d.n
 |cons op i y=>
  intro f m o q k p;rcases f with _|⟨B,f⟩
  . exact d.n
  rcases i with _|⟨E,i⟩
  . rcases f with _|⟨x,f⟩
    . exact d.bind (d.bY k.E) λt u w h j=>d.bD (d.ov (d.jh a.main a.un (p.f h) j))
    . exact d.bind (d.bY k.E) λe e e e e=>d.n
  rcases f with _|⟨x,f⟩
  . exact d.bind (d.bY k.E) λt u w h j=>d.bD (d.bind (d.bY (d.jh a.main a.un (p.f h) j)) λe e e e r=>r▸d.release (d.xc (d.ite (λg=>by subst g;exact d.n) λg=>by subst g;exact d.ret rfl)))
  . exact d.bind (d.bY k.E) λt u w h j=>d.bD (d.bind (d.bY (d.jh a.main a.un (p.f h) j)) λA C e s r=>r▸d.release (d.xc (d.ite (λg=>by subst g;exact y ((k.f h).f s) (j.f s)) λg=>by subst g;exact d.ret rfl)))
def d.a6{C:Pos}(i:List CmpOp):∀{f:List Expr}{m:D a.w}{q:Y}{o:Value},aF a m->b m q o->d a.z (testChain C o i (evalEach f a.b)) Is m (rE a.r a.I i q f m.st):=by
 induction i with
 |nil=>exactλe e=>d.n
 |cons op i A=>
  intro f m q o k s;rcases f with _|⟨u,f⟩
  . exact d.n
  rcases i with _|⟨E,i⟩
  . rcases f with _|⟨z,f⟩
    . exact d.bind (d.bY k.E) λt w x h j=>d.bD (d.h2 (d.ov (d.jh a.main a.un (s.f h) j)) λy B o p u=>d.bY (u▸d.G'))
    . exact d.bind (d.bY k.E) λe e e e e=>d.n
  rcases f with _|⟨z,f⟩
  . exact d.bind (d.bY k.E) λt w x h j=>d.bD (d.bind (d.bY (d.jh a.main a.un (s.f h) j)) λe e e e r=>r▸d.release (d.xc (d.ite (λg=>by subst g;exact d.n) λg=>by subst g;exact d.ret rfl)))
  . exact d.bind (d.bY k.E) λt w x h j=>d.bD (d.bind (d.bY (d.jh a.main a.un (s.f h) j)) λy B e p r=>r▸d.release (d.xc (d.ite (λg=>by subst g;exact A ((k.f h).f p) (j.f p)) λg=>by subst g;exact d.ret rfl)))
def d.Jd{p:Pos}{h:BoolOp}(e:List Expr):∀{m:D a.w},aF a m->d a.z (PySem.boolOp p h (evalEach e a.b)) b m (yf a.r a.I h e m.st):=by
 induction e with
 |nil=>exactλx=>d.n
 |cons q e k=>
  intro m f;rcases e with _|⟨r,e⟩
  . exact f.E
  refine d.bind f.E λu s w j i=>d.bD (d.bind (d.bY (d.G9 i)) ?_);rintro o t _ g rfl;rcases h with _|_<;>cases o
  . exact d.ret (i.f g)
  . exact k ((f.f j).f g)
  . exact k ((f.f j).f g)
  . exact d.ret (i.f g)
def d.H'{f:BoolOp}(e:List Expr):∀{m:D a.w},aF a m->d a.z (PySem.allTrue f e a.b) Is m (x9 a.r a.I f e m.st):=by
 induction e with
 |nil=>exactλb=>by rcases f with _|_<;>exact d.ret rfl
 |cons k e i=>
  intro m b;refine h (arm_allTrue_cons ..) ?_;refine d.bind b.B ?_;rintro j o _ g rfl;rcases f with _|_<;>cases j
  . exact d.ret rfl
  . exact i (b.f g)
  . exact i (b.f g)
  . exact d.ret rfl
end
def uG(r:O)(a:I)(b c:Expr)(d:Operator)(e:St):ab Y:= .bind (r.E a b e) λi f=> .bind (r.E a c f) λh g=>ny d i h g
def xl(r:O)(b:I)(a:Expr)(c:St):ab Y:= .bind (r.E b a c) λe d=>Fq e d
def lZ{b:Type}(r:O)(d:I)(h:Expr)(g:St)(e f:St->ab b):ab b:= .bind (r.B d h g) λc a=> .ite c (e a) (f a)
def pD(r:O)(a:I)(d:Expr)(c:List CmpOp)(b:List Expr)(e:St):ab Bool:= .bR (lastMarks c b) (.bind (r.E a d e) λg f=>rE r a c g b f)
def xg(r:O)(a:I)(b:List Expr)(c:St):ab Y:= .bind (e3 r a b c) Fu
def v2(r:O)(a:I)(b:List Expr)(c:St):ab Y:= .bind (e3 r a b c) Ft
def sV(r:O)(a:I)(b:Expr)(c:St):ab Bool:= .bind (r.E a b c) oQ
def w1(d:ay)(r:O)(a:I)(e:Expr)(b:St):ab Y:=by
 induction e using PySem.Expr.casesOn with
 |Constant al _ _=>exact C2 al b
 |Name h _=>exact mo d a h b
 |BinOp ai op ah _=>exact uG r a ai ah op b
 |UnaryOp op ai _=>exact(match op with| .USub=>xl r a ai b|_=> .n)
 |IfExp g ai ah _=>exact lZ r a g b (r.E a ai) (r.E a ah)
 |Compare ai f c _=>exact .map Y.bool (pD r a ai f c b)
 |BoolOp op c _=>exact yf r a op c b
 |Tuple c _ _=>exact xg r a c b
 |List c _=>exact v2 r a c b
 |_=>exact .n
def Vy(r:O)(a:I)(b:St)(e:Expr)(d:ab Bool):ab Bool:=by
 induction e using PySem.Expr.casesOn with
 |UnaryOp op ai _=>exact(match op with| .Not=> .map not (r.B a ai b)|_=>d)
 |BoolOp op c _=>exact x9 r a op c b
 |IfExp g ai ah _=>exact lZ r a g b (r.B a ai) (r.B a ah)
 |Compare ai f c _=>exact pD r a ai f c b
 |_=>exact d
def wZ(r:O)(a:I)(b:Expr)(c:St):ab Bool:=Vy r a c b (sV r a b c)
section
variable{a:Fr}{m:D a.w}{c e:Type}
def d.lZ{i:Expr}{h:D a.w->e->c->Prop}{k o:Sem c}{q s:St->ab e}(f:aF a m)(t:∀{b},aF a b->d a.z k h b (q b.st)) (u:∀{b},aF a b->d a.z o h b (s b.st)):
  d a.z (isTrue i a.b (eval i a.b)>>=λp=>if p=true then k else o) h m (lZ a.r a.I i m.st q s):=
 d.bind f.B λp w x j r=>r▸d.ite (λg=>by subst g;exact t (f.f j)) λg=>by subst g;exact u (f.f j)
def d.uG{f g:Expr}{h:Operator}{k:Pos}(e:aF a m):d a.z (eval (.BinOp f h g k) a.b) b m (uG a.r a.I f g h m.st):=
 d.eq (arm_eval_BinOp ..) (d.bind e.E λt q u i o=>d.bind (d.bY (e.f i).E) λs r w j p=>d.bD (d.ov (d.ny (o.f j) p)))
def d.xl{e:Expr}{g:Pos}(f:aF a m):d a.z (eval (.UnaryOp .USub e g) a.b) b m (xl a.r a.I e m.st):=
 d.eq (arm_eval_UnaryOp ..) (d.bind f.E λk j o i h=>d.bD (d.bY (d.neg h)))
def d.xg{e:List Expr}{g:Nat}{h:Pos}(f:aF a m):d a.z (eval (.Tuple e g h) a.b) b m (xg a.r a.I e m.st):=
 d.eq (arm_eval_Tuple ..) (d.bD (d.bind (d.e3 e f) λo k p j i=>d.S2 i))
def d.v2{e:List Expr}{g:Pos}(f:aF a m):d a.z (eval (.List e g) a.b) b m (v2 a.r a.I e m.st):=
 d.eq (arm_eval_List ..) (d.bD (d.bind (d.e3 e f) λk j o i h=>d.S1 h))
def d.pD{f:Expr}{e:List CmpOp}{b:List Expr}{h:Sem c}{g:D a.w->Bool->c->Prop}(i:lastMarks e b=false->d a.z h g m (.bind (a.r.E a.I f m.st) λk j=>rE a.r a.I e k b j)):d a.z h g m (pD a.r a.I f e b m.st):=d.bR i
def d.w1(e:aF a m)(h:Expr):d a.z (eval h a.b) b m (w1 a.T a.r a.I h m.st):=by
 induction h using PySem.Expr.casesOn with
 |Constant al k f=>exact d.Kd al
 |Name q f=>exact d.name e.toIn0
 |BinOp ai op ah f=>exact d.uG e
 |UnaryOp op ai f=>cases op with
  |USub=>exact d.xl e
  |_=>exact d.n
 |IfExp s ai ah f=>exact d.eq (arm_eval_IfExp ..) (d.lZ e (λe=>e.E) λe=>e.E)
 |Compare ai o g f=>exact d.uA (d.pD λj=>d.eq ((arm_eval_Compare ..).trans (by rw [markedEach_of_false _ _ _ j])) (d.bind e.E λt r q i p=>d.JB o (e.f i) p))
 |BoolOp op g f=>exact d.eq (arm_eval_BoolOp ..) (d.Jd g e)
 |Tuple g al f=>exact d.xg e
 |List g f=>exact d.v2 e
 |_=>exact d.n
def d.sV{b:Expr}(g:isTrue b a.b (eval b a.b)=(do let e<-eval b a.b;standAt b.pos;holding [e] (truthy e)))(f:aF a m):d a.z (isTrue b a.b (eval b a.b)) Is m (sV a.r a.I b m.st):=
 d.eq g (d.bind f.E λe j k i h=>d.bD (d.bY (d.G9 h)))
def d.wZ(b:aF a m)(e:Expr):d a.z (isTrue e a.b (eval e a.b)) Is m (wZ a.r a.I e m.st):=by
 induction e using PySem.Expr.casesOn with
 |UnaryOp op ai f=>cases op with
  |Not=>exact d.eq (arm_isTrue_UnaryOp ..) (d.R7 b.B)
  |_=>exact d.sV rfl b
 |BoolOp op g f=>exact d.eq (arm_isTrue_BoolOp ..) (d.H' g b)
 |IfExp p ai ah f=>exact d.eq (arm_isTrue_IfExp ..) (d.lZ b (λb=>b.B) λb=>b.B)
 |Compare ai j g f=>exact d.pD λi=>d.eq ((arm_isTrue_Compare ..).trans (by rw [markedEach_of_false _ _ _ i])) (d.bind b.E λq o r h k=>d.a6 j (b.f h) k)
 |_=>exact d.sV rfl b
end
section
variable{d:World}{b:List Addr}{a:Heap}{c:List Addr}{x:Str}
def rb.hit{e:Str×Y}{f:DictEntry}(r:rb d b a c e f):f.key.isStr x=Fast.sEq e.1 x:=by obtain⟨h,g⟩:=r.key;rw [g,<-rv];rfl
def O7{b:DictEntry}{c:List DictEntry}(a:b.key.isStr x=true):getL x (b::c)=some (some b.val):=by unfold getL;rw [List.find?_cons,a]
def O8{b:DictEntry}{c:List DictEntry}(a:b.key.isStr x=false)(d:b.refKey=false):getL x (b::c)=getL x c:=by unfold getL;rw [List.find?_cons,a,List.any_cons,d,Bool.false_or]
def rb.S'{f:Str×Y}{e:DictEntry}(r:rb d b a c f e):e.refKey=false:=by obtain⟨h,g⟩:=r.key;unfold DictEntry.refKey;rw [g]
def c6.lk{e:List (Str×Y)}{h:List DictEntry}(r:c6 d b a c e h):∃i,getL x h=some i/\j7 b a c (U x e) i:=by
 induction r with
 |fk=>exact⟨none,rfl,.n⟩
 | @f0 f ap e h r _ j=>
  by_cases g:f.1=x
  . exact⟨some ap.val,O7 (r.hit.trans (g▸ta _)),(e5 (v:=f.2) (l:=e) g).symm▸.k' _ _ r.val⟩
  . rw [O8 (r.hit.trans (s9 g)) r.S',show U x (f::e)=U x e from en (v:=f.2) g];exact j
def c6.Ru{g:List (Str×Y)}{e:List DictEntry}(r:c6 d b a c g e):(getL x e).isSome=true:=by obtain⟨h,f,_⟩:=r.lk (x:=x);rw [f];rfl
def c6.iv{k:Tok}{u:Y}{l:Value}(j:G b a c u l){e:List (Str×Y)}{i:List DictEntry}(r:c6 d b a c e i):c6 d b a c (aO x u e) (putL x (PyData.keyHash d.params x) (.str x k) l i):=by
 induction r with
 |fk=>exact .f0 ⟨⟨k,rfl⟩,rfl,j⟩ .fk
 | @f0 f ap e i r n m=>
  unfold putL;by_cases g:f.1=x
  . refine h (show aO x u (f::e)=(x,u)::e from sX (u:=f.2) g) ?_;refine h (r.hit ..) ?_;refine h (g ..) ?_;refine h (ta ..) ?_;refine h (if_pos rfl ..) ?_;exact .f0 ⟨g▸r.key,g▸r.hash,j⟩ n
  . refine h (show aO x u (f::e)=f::aO x u e from sY (u:=f.2) g) ?_;refine h (r.hit ..) ?_;refine h (s9 g ..) ?_;exact .f0 r m
def TU{e:Type}{x k:Str}{u:e}{b:List (Str×e)}(a:k∈(aO x u b).map (·.1)):k=x\/k∈b.map (·.1):=by
 induction b with
 |nil=>exact .inl (List.mem_singleton.mp a)
 |cons c b f=>
  by_cases d:c.1=x
  . rw [show aO x u (c::b)=(x,u)::b from sX (u:=c.2) d] at a;exact(List.mem_cons.mp a).imp id λa=> .tail _ a
  . rw [show aO x u (c::b)=c::aO x u b from sY (u:=c.2) d] at a;exact(List.mem_cons.mp a).elim (λa=> .inr (a▸.head _)) λa=>(f a).imp id λa=> .tail _ a
def Al{g:Type}(x:Str)(u:g){b:List (Str×g)}(a:(b.map (·.1)).Nodup):((aO x u b).map (·.1)).Nodup:=by
 induction b with
 |nil=>exact List.nodup_cons.mpr ⟨cB,.nil⟩
 |cons c b i=>
  refine And.elim (λe f=> ?_) (List.nodup_cons.mp a);by_cases d:c.1=x
  . rw [show aO x u (c::b)=(x,u)::b from sX (u:=c.2) d];exact List.nodup_cons.mpr ⟨d▸e,f⟩
  . refine h (show aO x u (c::b)=c::aO x u b from sY (u:=c.2) d) ?_;exact List.nodup_cons.mpr ⟨λj=>(TU j).elim d e,i f⟩
def c6.length{f:List (Str×Y)}{e:List DictEntry}(r:c6 d b a c f e):e.length=f.length:=by
 induction r with
 |fk=>rfl
 |f0 _ _ g=>exact T Nat.succ g
def TS(x:Str)(c:Int)(k e:Value)(b:List DictEntry):(putL x c k e b).length<=b.length+1:=by
 induction b with
 |nil=>exact cb _
 |cons ap b d=>
  unfold putL;by_cases a:ap.key.isStr x=true
  . rw [if_pos a];exact fU _
  . rw [if_neg a];exact q0 d
def Eg{f:Y}{e:Value}(r:G b a c f e):handedIn e=true:=
 G.casesOn (motive_1:=λf e d=>handedIn e=true) r rfl (λd=>rfl) (λd d=>rfl) (λd d=>rfl) (λd=>rfl) (λd=>rfl) (λg=>by rcases g with _|_|_|_|_|_|_|_|_|_|_|_|_|_|_<;>decide+kernel) (λd=>rfl) (λd d d=>rfl) (λd d d d=>rfl)
end
def P1(b:ay):ae->Option (eX×Nat×Nat)
 | .bj al a=>(da al b.cls).bind λr=>cond r.ar none (some (r,al,a))
 | .ar al a _ _ _=>a.bind λa=>(da al b.cls).bind λr=>cond r.ar (some (r,al,a)) none
 |_=>none
def vJ(a:ay)(c:St)(d:Y):Option (eX×Nat×Nat):=match d with
 | .obj b=>(t c.objs b).bind (P1 a)
 |_=>none
def vQ:Option AK->Bool
 |some .bk=>true
 |_=>false
def p3(d:ay)(g:Y)(c:Str)(a:St):ab Y:= .v (vJ d a g) λb=> .ok (vQ (U c b.1.attrs))<| .v ((gH a.objs b.2.2).bind ae.eC) λe=> .v (U c e) λf=> .ret f a
section
variable{b:Program}{c:World}{q:Around}{s:a8}{d:Shared}{e:Frag}{f a:Addr}{t:Obj}{o:Option Obj}{n:Str}{g:Bool}{l:a8}
open Builtin Builtin.ObjectAttr
def IL:builtinKind "BaseException.__getattribute__"=some .slot:=by decide+kernel
def IM:splitId "BaseException.__getattribute__"=some ("BaseException","__getattribute__"):=by decide+kernel
def Ch:Slot "BaseException" "__getattribute__" "BaseException.__getattribute__":=
 .of (owner:="BaseException") (n:="__getattribute__") (by refine h (typeLookup_type ..) ?_;refine h (builtinLookup_eq_fast ..) ?_;kernel_rfl) (by decide+kernel) (by decide+kernel) (by decide+kernel)
  (by first|exact .inl (by decide+kernel)|exact .inr (by decide+kernel)) (by refine h (isSubtype_type ..) ?_;kernel_rfl)
def Nw{k:Value}(j:e.In d.heap)(p:InstAt d.heap f t a o)(A:findIn e (.ref a) "__getattribute__"=some (some (.builtin "BaseException.__getattribute__")))
  (D:findIn e (.ref a) "__getattr__"=some none)(C:mroIn e a (.type "BaseException")=some true)
  (z:findObj e a o n=some (.value k))(B:handedIn k=true)(y:l k {d with toks:=d.toks+1}):wpAny (model b c) q (getAttr (.ref f) n g) l s d:=by
 obtain⟨E,G,F,I,H⟩:=d;have m:=p.type (M:=model b c);have r:=xI (M:=model b c) j A;have u:=xI (M:=model b c) j D;have v:=looks_find (M:=model b c) j p z;have w:Looks (model b c) E (isInstance (.ref f) (.type "BaseException")) true:=m.andThen (q3 j C);unfold getAttr getAttrBy;refine i (wpAny_mkText (j1 (i (m.at (i (r.at ?_))))));have x:(onTheHeap (Value.ref a)&&Value.builtin "BaseException.__getattribute__"==Value.builtin "object.__getattribute__")=false:=by rw [show(Value.builtin "BaseException.__getattribute__"==Value.builtin "object.__getattribute__")=false by decide+kernel];rfl
 dsimp only;refine h (x ..) ?_;simp only [Bool.false_eq_true,if_false];unfold getAttrByItsOwn hookBefore;refine h (show onTheHeap (Value.ref a)=true from rfl) ?_;refine h (if_pos rfl ..) ?_;refine i (u.at (i (wpAny_attempt (j1 ?_))));unfold callGetattribute;refine h (show(g&&onTheHeap (Value.builtin "BaseException.__getattribute__"))=false by rcases g with _|_<;>rfl) ?_;refine h (if_neg (by decide)) ?_;unfold boundAndCalled;refine h (Ch.bind ..) ?_;refine i (V (m2 ?_));refine tW Ch.plain PySem.F.entry_bexc_ga (@check_slot (model b c) _ _ _ "BaseException.__getattribute__" "BaseException" "__getattribute__" (.ref f) _ [] _ IL IM w (PySem.F.args_bexc_ga _ _) ?_);refine i (V (i (V (i (m.at (i (v.at ?_)))))));refine V ?_;refine(?_:wpAny _ _ (handedOut k) _ _ _);rw [handedOut_of B];exact V y
end
def Uh(d:Value)(c:Bool):∀{b:List Value},AW (z2 c) b=true->refuseLoop d "__setattr__" b=Pure.pure ():=by
 intro b;induction b with
 |nil=>rcases c with _|_<;>exactλa=>nomatch a
 |cons aj b e=>
  cases aj with
  |ref al=>exactλa=>(refuseLoop_ref ..).trans (e a)
  |type f=>
   intro a;refine h (beq_iff_eq.mp (show((Value.type f::b)==z2 c)=true from a)) ?_;rcases c with _|_
   . exact PySem.F.store_object.passes d
   . exact PySem.F.store_Exception.passes d
  |_=>rcases c with _|_<;>exactλa=>nomatch (beq_iff_eq.mp a)
structure q'(K:Frag)(c:Nat)(r:eX):Prop where
 dict:hasDictIn K c=true
 mro:∃b,clsIn K c=some b/\b.hasDict=true/\∀self,refuseLoop self "__setattr__" b.mro=Pure.pure ()
 obj:mroIn K c (.type "object")=some true
 Fy:findIn K (.ref c) "__getattr__"=some none
 set:findIn K (.ref c) "__setattr__"=some (some (.builtin "object.__setattr__"))
 init:findIn K (.ref c) "__init__"=some (some (.ref r.init))
 P0:isFn K (.ref r.init)=true
 b0:keepIn K (.ref c)=true
 a4:∀a k,U a r.attrs=some k->Cc K c a k=true
 Vw:∀a k,U a r.AL=some k->AJ K c (a,k)=true
structure HN(K:Frag)(c:Nat)(mro:List Nat):Prop where
 get:findIn K (.ref c) "__getattribute__"=some (some (.builtin "BaseException.__getattribute__"))
 cw:mroIn K c (.type "BaseException")=some true
 WJ:instIn K (.ref c) (.type "type")=some true
 ty:typeIn K (.ref c)=some (.type "type")
 l:instIn K (.ref c) (.type "tuple")=some false
 XB:instIn K (.ref c) (.type "BaseException")=some false
 mro:∀d:Nat,mroIn K c (.ref d)=some (mro.contains d)
structure HP(K:Frag)(c:Nat):Prop where
 get:findIn K (.ref c) "__getattribute__"=some (some (.builtin "object.__getattribute__"))
 R6:makesIn K c=true
def ss{e:Type}{c:Str}{k:e}{b:List (Str×e)}(a:U c b=some k):(c,k)∈b:=by
 induction b with
 |nil=>cases a
 |cons p b f=>
  obtain⟨g,h⟩:=p;by_cases d:g=c
  . rw [e5 d] at a;cases a;subst d;exact .head _
  . rw [en d] at a;exact .tail _ (f a)
def cE{a b:Bool}(c:(a&&b)=true):a=true:=(Bool.and_eq_true_iff.mp c).1
def eg{b a:Bool}(c:(b&&a)=true):a=true:=(Bool.and_eq_true_iff.mp c).2
section
variable{a:Frag}{b:Nat}{r:eX}
def h6(c:pC a b r=true):q' a b r:=by have l:=cE (cE (cE c));have j:=cE l;have i:=cE j;have h:=cE i;have g:=cE h;have f:=cE g;have d:=cE f;refine⟨cE d,?_,beq_iff_eq.mp (eg f),beq_iff_eq.mp (eg g),beq_iff_eq.mp (eg h),beq_iff_eq.mp (eg i),eg j,eg l,λt k e=>List.all_eq_true.mp (eg c) _ (ss e),λt k e=>List.all_eq_true.mp (eg (cE c)) _ (ss e)⟩;obtain⟨n,m,q⟩:=any_some (eg d);obtain⟨u,o,p⟩:=any_some (cE d);cases m.symm.trans o;exact⟨n,m,p,λs=>Uh s r.ar q⟩
def pB(c:pC a b r=true)(i:r.ar=true):HN a b r.mro:=by
 have c:=eg (cE (cE c));rw [i] at c;have c:DO a b r.mro=true:=c;have h:=cE c;have g:=cE h;have f:=cE g;have e:=cE f;have d:=cE e;refine⟨beq_iff_eq.mp (cE d),beq_iff_eq.mp (eg d),beq_iff_eq.mp (eg e),beq_iff_eq.mp (eg f),beq_iff_eq.mp (eg g),beq_iff_eq.mp (eg h),λm=> ?_⟩;obtain⟨l,j,k⟩:=any_some (eg c);unfold mroIn;rw [j,Option.bind_some,beq_iff_eq.mp k,if_neg (by simp)]
 congr 1
 rw [Bool.eq_iff_iff];simp
def yq(c:pC a b r=true)(d:r.ar=false):HP a b:=by have c:=eg (cE (cE c));rw [d] at c;have c:(findIn a (.ref b) "__getattribute__"==some (some (.builtin "object.__getattribute__"))&&makesIn a b&&plainOver a b)=true:=c;exact⟨beq_iff_eq.mp (cE (cE c)),eg (cE c)⟩
end
def zz{a:Option AK}(b:vQ a=true):a=some .bk:=by
 induction a using Option.casesOn with
 |none=>cases b
 |some k=>cases k with
  |bk=>rfl
  |ea cf=>cases b
def N5{a:Frag}{b:Nat}{d:Obj}{c:Str}{e:Value}(i:hasDictIn a b=true)(f:findIn a (.ref b) c=some none)(k:lookIn c d=some (some e)):findObj a b (some d) c=some (.value e):=by refine aS λm l=> ?_;obtain⟨n,g,j⟩:=any_some i;refine l ?_;unfold findObj;refine h (g ..) ?_;refine h (By ..) ?_;refine h (f ..) ?_;refine h (By ..) ?_;simp only [Option.bind_some,PySem.W.ownOf,j,if_true,k]
inductive BO(b:Fr)(m:D b.w)(g:eX)(c d:Nat):Value->Prop
 |mk (a ad:Addr) (f:Obj):pC b.T.K c g=true->m.ρ[d]?=some ad->(∀e,m.s.heap.get? ad=some e->InstAt m.s.heap a f c (some e))->f.dict=some ad->BO b m g c d (.ref a)
section
variable{a:Fr}{m:D a.w}{c h:Y}{f g:Value}{e:Str}
def zv{s:eX}{o p:Nat}(r:b m c f)(d:vJ a.T m.st c=some (s,o,p)):BO a m s o p f:=by
 induction c using Y.casesOn with
 |obj A=>
  obtain⟨n,u,rfl⟩:=r.bI;obtain⟨v,y,d⟩:=bind_some d;have o1:=m.at y u;cases v with
  |bj t q=>
   obtain⟨l,k,d⟩:=bind_some d;cases e:l.ar with
   |true=>rw [e] at d;cases d
   |false=>
    rw [e] at d;cases d;obtain⟨h,g,i⟩:=o1;exact .mk n h _ (a.F.cls _ _ k) g (λx j=>⟨i,rfl,rfl,j⟩) rfl
  |ar t q _ _ _=>
   obtain⟨q,rfl,d⟩:=bind_some d;obtain⟨l,k,d⟩:=bind_some d;cases e:l.ar with
   |false=>rw [e] at d;cases d
   |true=>
    rw [e] at d;cases d;obtain⟨w,D,E,z,B,F,C,g,i,_⟩:=o1;cases w with
    |none=>exact g.elim
    |some h=>exact .mk n h _ (a.F.cls _ _ k) g (λx j=>⟨i,rfl,rfl,j⟩) rfl
  |_=>cases d
 |_=>cases d
def d.p3{w:Bool}(r:b m c f):d a.z (getAttr f e w) b m (p3 a.T c e m.st):=by
 refine d.v λ⟨H,M,N⟩ D=>d.ok λE=>d.v λO F=>d.v λh G=> ?_;refine aS λI A=> ?_;obtain⟨J,K,P,i,y,o,_⟩:=zv r D;obtain⟨u,C,q,z,_⟩:=m.yH F y;obtain⟨L,x,B⟩:=z.lk (x:=e);obtain⟨g,rfl,j⟩:=B.get G;refine A ?_;have p:=N5 (h6 i).dict (beq_iff_eq.mp ((h6 i).a4 _ _ (zz E))) (show lookIn e (W.dictOf u C)=some (some g) from x);cases hex:H.ar with
 |false=>exact d.leaf (λt s k=>get_value (a.In m) (o _ q) (yq i hex).get p (Eg j) k) j
 |true=>exact d.leaf (λt s k=>Nw (a.In m) (o _ q) (pB i hex).get (h6 i).Fy (pB i hex).cw p (Eg j) k) j
end
section
variable{b:Shared}{c:Around}
def Gw{n:Frag}{d:World}{a:Program}{t:a8}{g f:Addr}{G:eX}{F:Obj}{E:Option Obj}{l:Str}{r:Value}{o:Unit->Shared->Prop}(k:n.In b.heap)(m:q' n g G)
  (j:InstAt b.heap f F g E)(C:findIn n (.ref g) l=some none)
  (y:∀(s:Around)(p:Fin->Shared->Prop)(u:a8)(I:Tok)(w:Bool),(∀q,o () q->p (.done (.ret .none)) q)->wpAny (model a d) s (Builtin.ObjectAttr.storeInOwnDict (.ref f) (.ref g) (.str l I) l r w) p u {b with toks:=b.toks+1}):wpAny (model a d) c (setAttr (.ref f) l r) o t b:=by refine set_plain k j m.set ?_;have e:=PySem.F.store_object;refine aS λK D=> ?_;obtain⟨x,z,L,B⟩:=m.mro;refine D ?_;have H:Looks (model a d) b.heap (isInstance (.ref f) (.type "object")) true:=j.type.andThen (q3 k m.obj);refine tW e.slot.plain e.entry (@check_slot (model a d) _ _ _ "object.__setattr__" "object" "__setattr__" (.ref f) _ [] _ e.kind e.split H (e.args _ _ _) ?_);have A:Looks (model a d) b.heap (mroOf (.ref g)) x.mro:=(looks_clsIn k z).andThen .now;have v:Looks (model a d) b.heap (Builtin.ObjectAttr.storeTaker? Option.none) Option.none:= .now;refine h (osa_eq ..) ?_;refine h (refuse_eq ..) ?_;refine i (i (j.type.at (i (A.at ?_))));refine h (B ..) ?_;exact V (i (j.type.at (i ((xI k C).at (i (v.at (y _ _ _ _ _ λM J=>J)))))))
def Gz{e:World}{x:Program}{t:a8}{g:Addr}{a:Str}{f:Value}{l:Tok}{d:List DictEntry}{m:Nat}{n:Fin->Shared->Prop}{j:Heap}{q:Array GenState}{o:Drawn}{b:Nat}{r:OsState}(k:j.get? g=some (W.dictOf d m))
  (u:(!d.toArray.any (·.key.isStr a)&&d.toArray.any (·.refKey))=false)(w:d.length<=1000)
  (v:∀b l,n (.done (.ret .none)) ⟨j.update g (Obj.putName a (PyData.keyHash e.params a) (.str a b) f),q,o,l,r⟩):wpAny (model x e) c (Builtin.ObjectAttr.storeInDict g (.str a l) a f) n t ⟨j,q,o,b,r⟩:=by
 unfold Builtin.ObjectAttr.storeInDict nsSet;refine i (V (i (i (i (wpAny_askSetting (V (i (wpAny_mkText (i (xE k ?_))))))))));dsimp only;refine h (aRefKeyMayBeTheName_at ..) ?_;refine h (u ..) ?_;refine wpAny_updatePart k ?_;have s:∀b,(j.update g (Obj.putName a (PyData.keyHash e.params a) (.str a b) f)).get? g=some (W.dictOf (putL a (PyData.keyHash e.params a) (.str a b) f d) (putN a d m)):=λb=>by
  have p:=putName_dict a (PyData.keyHash e.params a) (.str a b) f d m;rw [Heap.get?_update_self _ k (by refine h (p ..) ?_;rfl),p]
 refine i (wpAny_lookBehind (s _) (pastItsLine_dict (by refine h (o6 ..) ?_;refine h (sizeLine_eq ..) ?_;have:=TS a (PyData.keyHash e.params a) (.str a b) f d;exact(dC w this (by simp+arith only)))) ?_);exact V (v _ _)
def U9{n:Frag}{A:World}{M:Program}{D:a8}{p a j:Addr}{N:eX}{t:Obj}{e:Str}{B:Value}{d:List DictEntry}{m:Nat}{x:Unit->Shared->Prop}(o:n.In b.heap)(v:q' n p N)
  (g:InstAt b.heap a t p (some (W.dictOf d m)))(q:t.dict=some j)(J:findIn n (.ref p) e=some none)(s:(getL e d).isSome=true)(L:d.length<=1000)
  (y:∀k l,x () {b with heap:=b.heap.update j (Obj.putName e (PyData.keyHash A.params e) (.str e k) B),toks:=l}):wpAny (model M A) c (setAttr (.ref a) e B) x D b:=by
 refine aS λw f=> ?_;obtain⟨I,X,U,k,XE⟩:=b;refine f ?_;dsimp only at o g y⊢;refine Gw o v g J λO Q P l R u=> ?_;refine aS λw f=> ?_;obtain⟨S,G,H,-⟩:=v.mro;refine f ?_;have C:I.get? j=some (W.dictOf d m):=by have:=g.dict;rw [q] at this;exact this
 refine aS λw f=> ?_;obtain⟨K,z,Y,-⟩:=g;obtain⟨Z,XD,XC,XF⟩:=t;refine f ?_;dsimp only at z q;subst z q;refine i (V (i (i (xE K (i ((looks_clsIn o G).at ?_))))));refine h (H ..) ?_;refine V (a:=some j) ?_;have E:(!d.toArray.any (·.key.isStr e)&&d.toArray.any (·.refKey))=false:=by
  refine ba (Array.any_toList ..) ?_;refine ba (Array.any_toList ..) ?_;unfold getL at s;rcases r:d.find? (·.key.isStr e) with _|F
  . rw [r] at s;rcases u:d.any (·.refKey) with _|_
    . exact Bool.and_false _
    . exact aA ((T Option.isSome (if_pos u)).symm.trans s)
  . rw [List.any_eq_true.mpr ⟨F,List.mem_of_find?_eq_some r,List.find?_some r⟩];rfl
 exact Gz C E L λk l=>u _ (y k l)
def U8{n:Frag}{z:World}{J:Program}{C:a8}{p a:Addr}{K:eX}{r:Obj}{f:Str}{A:Value}{u:Unit->Shared->Prop}(o:n.In b.heap)(s:q' n p K)
  (m:InstAt b.heap a r p Option.none)(j:∃y,r.data= .fields y) (H:findIn n (.ref p) f=some Option.none)
  (v:∀k l,u () {b with heap:=((b.heap.push emptyDict).update a (λg=>{g with dict:=some b.heap.objs.size})).update b.heap.objs.size (Obj.putName f (PyData.keyHash z.params f) (.str f k) A),toks:=l}):wpAny (model J z) c (setAttr (.ref a) f A) u C b:=by
 refine aS λt e=> ?_;obtain⟨d,S,R,k,Y⟩:=b;refine e ?_;dsimp only at o m v⊢;refine Gw o s m H λM O N l P L=> ?_;refine aS λt e=> ?_;obtain⟨Q,D,G,-⟩:=s.mro;refine e ?_;refine aS λt e=> ?_;obtain⟨q,w,T,E⟩:=m;obtain⟨y,j⟩:=j;obtain⟨U,x,X,Z⟩:=r;refine e ?_;dsimp only at w j;subst w j;have F:x=Option.none:=by
  cases x with
  |none=>rfl
  |some XC=>exact E.elim
 subst F;refine i (V (i (i (xE q (i ((looks_clsIn o D).at ?_))))));refine h (G ..) ?_;dsimp only;refine h (if_neg (by decide)) ?_;refine h (if_neg (by refine(?_:¬(false|| !true)=true);decide)) ?_;have I:a<d.objs.size:=dk q;refine i (wpAny_alloc (i (wpAny_update (cX _ q) ?_)));have B:((d.push {cls:=Value.type "dict",data:=Data.dict #[]}).update a (λg=>{cls:=g.cls,dict:=some d.objs.size,data:=g.data,slots:=g.slots})).get? d.objs.size=some (W.dictOf [] 0):=by exact((i6 _ a _).2 _ (mZ I)).trans (cY _ rfl)
 unfold dictMade;dsimp only;refine V (a:=some d.objs.size) ?_;exact Gz B (by simp) (bU _) λk l=>L _ (v k l)
end
noncomputable def ae.DN:ae->Option (Nat×List Y×Bool×Bool)
 | .ar al ap args tb a=>(match ap with|none=>some (al,args,tb,a)|some _=>none)
 |_=>none
def wN(e:ay)(g:Y)(d:Str)(f:Y)(a:St):ab Unit:= .v (vJ e a g) λb=> .ok (vQ (U d b.1.attrs))<| .v ((t a.objs b.2.2).bind ae.eC) λc=> .ok (Nat.blt (C c) 1000) (.ret () ⟨aQ a.objs b.2.2 (.dict (aO d f c)),a.d⟩)
def qE(e:ay)(g:Y)(d:Str)(f:Y)(b:St):ab Unit:= .obj g λc=> .or ((t b.objs c).bind ae.DN) (λa=> .v (da a.1 e.cls) λr=> .ok r.ar<| .ok (vQ (U d r.attrs)) (.ret () ⟨aJ (aQ b.objs c (.ar a.1 (some (C b.objs)) a.2.1 a.2.2.1 a.2.2.2)) (.dict [(d,f)]),b.d⟩)) (wN e (.obj c) d f b)
def U7{b:Nat}{d e c:ae}{a:List ae}(f:b<a.length):((a++[e]).set b d).set a.length c=a.set b d++[c]:=by refine h (List.set_append_left _ _ f ..) ?_;refine h (List.set_append_right _ _ (by simp)) ?_;simp
def ae.Nu{b:ae}{e:Nat}{d:List Y}{g f:Bool}(a:b.DN=some (e,d,g,f)):b= .ar e none d g f:=by
 induction b using ae.casesOn with
 |ar i ap h k j=>cases ap with
  |none=>cases a;rfl
  |some ap=>cases a
 |_=>cases a
def F1(i:Heap){c:Addr}{a:List DictEntry}{e:Nat}(j:i.get? c=some (W.dictOf a e))(b:Str)(d:Int)(k f:Value):(i.update c (Obj.putName b d k f)).get? c=some (W.dictOf (putL b d k f a) (putN b a e)):=by have g:=putName_dict b d k f a e;rw [Heap.get?_update_self _ j (by refine h (g ..) ?_;rfl),g]
section
variable{c:Fr}{m:D c.w}{i f:Y}{g e:Value}{a:Str}
def iR{f h:Heap}{c:List Addr}{d:Addr}(l:Heap.SameBut d f h)(k:d∈c):Kp f c h c:=⟨λi a j m a a=>(l.2 i λb=>m (b▸k)).trans j,λa a b=>b,λa g e=>absurd g e⟩
def rN{a:List DictEntry}{b:Nat}:(W.dictOf a b).cls=TB->∀c,(W.dictOf a b).data≠.fields c:=λd=>absurd d (by decide:Value.type "dict"≠TB)
def d.wN(r:b m i g)(M:b m f e):d c.z (setAttr g a e) Tt m (wN c.T i a f m.st):=by
 refine d.v λ⟨X,S,E⟩ K=>d.ok λL=>d.v λz j=>d.ok λJ o Q k P O I Y=> ?_;obtain⟨R,y,W,B,p,D,G⟩:=zv r K;obtain⟨V,j,F⟩:=bind_some j;cases ae.nJ F;obtain⟨T,U,q,t,H⟩:=(m.at j p:ey ..);refine U9 (c.In m) (h6 B) (D _ q) G (beq_iff_eq.mp ((h6 B).a4 _ _ (zz L))) t.Ru (by refine h (t.length ..) ?_;refine ba (aZ ..) ?_;exact ee (c8 J)) λw N=> ?_;have C:=F1 m.s.heap q a (PyData.keyHash c.ag.w.params a) (.str a w) e;have A:=i6 m.s.heap y (Obj.putName a (PyData.keyHash c.ag.w.params a) (.str a w) e);have o:=iR A (b8 p);have x:s m ⟨m.st.objs.set E (.dict (aO a f z)),m.st.d⟩ m.ρ {m.s with heap:=m.s.heap.update y (Obj.putName a (PyData.keyHash c.ag.w.params a) (.str a w) e),toks:=N}:=
  s.dd (oy:= .dict z) p ((cW ..).symm.trans j) rfl A q rN ⟨_,_,C,c6.iv (M.mono o) (t.mono o),Al a f H⟩ rfl rfl
 rw [d4] at k;exact I () x.pt () x.f u k
def d.wR{XN:eX}{j:Nat}{i:Addr}{g:Nat}{p:List Y}{r q:Bool}(H:m.ρ[j]?=some i)(F:t m.st.objs j=some (.ar g none p r q))(T:q' c.T.K g XN)(XM:findIn c.T.K (.ref g) a=some none)(XO:b m f e):
  d c.z (setAttr (.ref i) a e) Tt m (.ret () ⟨aJ (aQ m.st.objs j (.ar g (some (C m.st.objs)) p r q)) (.dict [(a,f)]),m.st.d⟩):=by
 obtain⟨XK,XR,XS,X,XI,XU,XJ,XC,D,O,P,XD,XE,XF⟩:=(m.at F H:nj ..);cases XK with
 |some w=>exact XC.elim
 |none=>
 intro W XX k XW XV XG _;refine U8 (c.In m) T ⟨D,rfl,rfl,u⟩ ⟨_,rfl⟩ XM λK XT=> ?_;have XH:i<m.s.heap.objs.size:=dk D;rw [cW] at F;have I:j<m.st.objs.length:=(List.getElem?_eq_some_iff.mp F).1;have y:s m ⟨m.st.objs++[ae.dict []],m.st.d⟩ (m.ρ++[m.s.heap.objs.size]) {m.s with heap:=m.s.heap.push emptyDict}:=s.alloc ⟨[],0,cY _ rfl,.fk,.nil⟩ rfl rfl rfl;have z:Kp m.s.heap m.ρ (m.s.heap.push emptyDict) (m.ρ++[m.s.heap.objs.size]):=y.f.kp;have J:(m.ρ++[m.s.heap.objs.size])[m.st.objs.length]?=some m.s.heap.objs.size:=by refine ba (m.O.aE ..) ?_;simp
 have N:=cX emptyDict D;have E:=i6 (m.s.heap.push emptyDict) i (λo=>{cls:=o.cls,dict:=some m.s.heap.objs.size,data:=o.data,slots:=o.slots});have U:=qW (λo=>{cls:=o.cls,dict:=some m.s.heap.objs.size,data:=o.data,slots:=o.slots}) N rfl;have x:Kp m.s.heap m.ρ ((m.s.heap.push emptyDict).update i (λo=>{cls:=o.cls,dict:=some m.s.heap.objs.size,data:=o.data,slots:=o.slots})) (m.ρ++[m.s.heap.objs.size]):=
  ⟨λA o B S XQ g=>(E.2 A λw=>S (w▸b8 H)).trans (z.seq A o B S XQ g),z.ext,z.new⟩
 have G:s y.pt ⟨(m.st.objs++[ae.dict []]).set j (.ar g (some m.st.objs.length) p r q),m.st.d⟩ (m.ρ++[m.s.heap.objs.size]) {m.s with heap:=(m.s.heap.push emptyDict).update i (λo=>{cls:=o.cls,dict:=some m.s.heap.objs.size,data:=o.data,slots:=o.slots})}:=
  s.dd (o:= .ar g (some m.st.objs.length) p r q) (oy:= .ar g none p r q) (z.ext _ _ H) ((k4 I).trans F) rfl E N (λw=>nomatch (show Value.ref g=TB from w)) ⟨some m.s.heap.objs.size,XR,XS,X,XI,XU,XJ,J,U,x.l O P,x.dj O P,XD.mono x,XE.mono x (λA o XY B M Z=> .same ((E.2 A λw=>by subst w;cases D.symm.trans B;cases M).trans (cX _ B)) M Z),XF⟩ rfl rfl
 have Q:=(E.2 _ (mZ XH)).trans (cY m.s.heap (o:=emptyDict) rfl);have V:=F1 _ Q a (PyData.keyHash c.ag.w.params a) (.str a K) e;have R:=i6 ((m.s.heap.push emptyDict).update i (λo=>{cls:=o.cls,dict:=some m.s.heap.objs.size,data:=o.data,slots:=o.slots})) m.s.heap.objs.size (Obj.putName a (PyData.keyHash c.ag.w.params a) (.str a K) e);have L:s G.pt ⟨((m.st.objs++[ae.dict []]).set j (.ar g (some m.st.objs.length) p r q)).set m.st.objs.length (.dict (aO a f [])),m.st.d⟩ (m.ρ++[m.s.heap.objs.size]) {m.s with heap:=((m.s.heap.push emptyDict).update i (λo=>{cls:=o.cls,dict:=some m.s.heap.objs.size,data:=o.data,slots:=o.slots})).update m.s.heap.objs.size (Obj.putName a (PyData.keyHash c.ag.w.params a) (.str a K) e),toks:=XT}:=
  s.dd (o:= .dict (aO a f [])) (oy:= .dict []) J ((List.getElem?_set_ne (gl I)).trans (by simp)) rfl R Q rN ⟨_,_,V,c6.iv ((XO.mono x).mono (iR R (b8 J))) .fk,Al a f .nil⟩ rfl rfl
 refine XG () L.pt () ((show m.To y.pt from y.f).trans ((show y.pt.To G.pt from G.f).trans L.f)) u ?_;refine(?_:W () ⟨((m.st.objs++[ae.dict []]).set j _).set m.st.objs.length _,m.st.d⟩);refine h (U7 I ..) ?_;refine ba (c0 ..) ?_;refine ba (d4 ..) ?_;refine ba (aZ ..) ?_;exact k
def d.qE(r:b m i g)(o:b m f e):d c.z (setAttr g a e) Tt m (qE c.T i a f m.st):=
 d.obj (t:=λg=>setAttr g a e) r λz t k=>d.or (λ⟨w,u,C,x⟩ h=>d.v λB s=>d.ok λy=>d.ok λq=>by
  obtain⟨A,h,p⟩:=bind_some h;cases ae.Nu p;have j:=h6 (c.F.cls _ _ s);exact d.wR k h j (beq_iff_eq.mp (j.a4 _ _ (zz q))) o) λD=>d.wN (G.gh k) o
end
section
variable{a:Type}
def j4:List Str->List a->List (Str×a)
 |[],_=>[]
 |b::c,as=>match as with
  |[]=>[]
  |ai::as=>(b,ai)::j4 c as
def qw(b:List (Str×a))(c:Str)(d:a):List (Str×a):=match U c b with|some _=>b|none=>aJ b (c,d)
def kA:List Str->List a->List (Str×a)->List (Str×a)
 |[],_,s=>s
 |c::d,b,s=>match b with
  |[]=>s
  |ap::b=>kA d b (qw s c ap)
def hI(b:List (Str×a)):List Str->List (Str×a)
 |[]=>[]
 |c::d=>(U c b).elim (hI b d) λe=>(c,e)::hI b d
def j'(b:List (Str×a)):List Str->Bool
 |[]=>true
 |c::d=>(U c b).elim false λe=>j' b d
noncomputable def es:Nat->List a->List a
 |0,_=>[]
 |c+1,b=>match b with
  |[]=>[]
  |ai::b=>ai::es c b
noncomputable def aT:Nat->List a->List a
 |0,b=>b
 |c+1,b=>match b with
  |[]=>[]
  |_::b=>aT c b
def kP(c:Nat):∀b:List a,es c b=b.take c:=by
 induction c with
 |zero=>exactλb=>List.take_zero.symm
 |succ c e=>exactλb=>List.casesOn b rfl λd b=>T (d::·) (e b)
def Dt(c:Nat):∀b:List a,aT c b=b.drop c:=by
 induction c with
 |zero=>exactλb=>rfl
 |succ c d=>exactλb=>List.casesOn b rfl λe b=>d b
def HK(c:List Str):∀b:List a,j4 c b=c.zip b:=by
 induction c with
 |nil=>exactλg=>rfl
 |cons f c e=>exactλb=>List.casesOn b rfl λd b=>T ((f,d)::·) (e b)
def gQ(b:List Str)(d c:List a):Option (List (Str×a)):=
 cond (Nat.ble (C d) (C b)) (cond (Nat.ble (C c) (C b))
  (cond (j' (j4 b d) (es (C b-C c) b)) (some (hI (kA (aT (C b-C c) b) c (j4 b d)) b)) none) none) none
def pE{b:Bool}{d:Option a}{e:a}(c:cond b d none=some e):b=true/\d=some e:=by
 rcases b with _|_
 . cases c
 . exact⟨rfl,c⟩
structure HM(names:List Str)(b dl:List a)(c:List (Str×a)):Prop where
 x:Nat.ble (C b) (C names)=true
 ap:Nat.ble (C dl) (C names)=true
 all:j' (j4 names b) (es (C names-C dl) names)=true
 eq:hI (kA (aT (C names-C dl) names) dl (j4 names b)) names=c
def Cj{g:List Str}{h c:List a}{b:List (Str×a)}(i:gQ g h c=some b):HM g h c b:=
 let d:=pE i;let e:=pE d.2;let f:=pE e.2
 ⟨d.1,e.1,f.1,bw f.2⟩
def Tw(d:List (Str×a))(c:List Str):hI d c=c.filterMap λb=>(d.lookup b).map (b,·):=by
 induction c with
 |nil=>rfl
 |cons b c e=>
  refine(?_:(U b d).elim (hI d c) (λf=>(b,f)::hI d c)=_);refine h (sr ..) ?_;refine h (e ..) ?_;refine h (qY ..) ?_;cases d.lookup b<;>rfl
def H8(c:List (Str×a))(b:List Str):j' c b=true->(b.filter λd=>(c.lookup d).isNone)=[]:=by
 induction b with
 |nil=>exactλg=>rfl
 |cons d b f=>
  refine(?_:(U d c).elim false (λg=>j' c b)=true->_);refine h (sr ..) ?_;refine h (List.filter_cons ..) ?_;cases c.lookup d with
  |none=>exactλe=>aA (e)
  |some aj=>exact f
end
def Bc{g:Type}{ab:Model}{b:Around}{c:a8}{f:Shared}{d:g->Shared->Prop}{a:Prop}[Decidable a]{j e:Sem g}(i:¬a)(k:wpAny ab b e d c f):wpAny ab b (if a then j else e) d c f:=by refine h (if_neg i ..) ?_;exact k
def Xk{ab:Model}{m:Around}{n:a8}{f:Shared}{e:List (Str×Value)->Shared->Prop}(d:List Str):∀(b:List Value)(c:List (Str×Value)),e (kA d b c) f->
  wpAny ab m (forIn (d.zip b) c λg r=>if(r.lookup g.fst).isNone=true then Pure.pure (ForInStep.yield (r++[(g.fst,g.snd)])) else Pure.pure (ForInStep.yield r)) e n f:=by
 induction d with
 |nil=>exactλp c a=>V a
 |cons k d j=>
  intro b c a;rcases b with _|⟨o,b⟩
  . exact V a
  have a:e (kA d b (qw c k o)) f:=a;refine h (List.zip_cons_cons ..) ?_;refine h (k9 ..) ?_;unfold qw at a;rw [sr,c0] at a;dsimp only;cases l:c.lookup k with
  |none=>rw [l] at a;exact i (V (j b _ a))
  |some aj=>rw [l] at a;exact i (V (j b _ a))
def IP{g:Shared}{f:FuncData}{e:List Arg}{y:List (Option Expr)}{t:List Expr}{r m:List Value}{l:List (Str×Value)}{c:Option (Array Value)}(q:f.params=⟨[],e,none,[],y,none,t⟩)
  (w:∀(ab:Model)(j:Around)(k:a8)(d:Option (Array Value)->Shared->Prop),d c g->wpAny ab j (seqItems? f.defaults) d k g) (x:(c.getD #[]).toList=m) (v:gQ (e.map (·.arg)) r m=some l):BindsTo g f ⟨r,[]⟩ l:=by
 intro ab j k d h;obtain⟨A,E,F,G,H,I,J,K,L,B,C,D⟩:=f;dsimp only at q;subst q x;obtain⟨n,o,b,rfl⟩:=Cj v;have b:=H8 _ _ b;rw [aZ,aZ] at n o;rw [HK,kP,aZ,aZ] at b;rw [Tw,HK,Dt,aZ,aZ] at h;generalize p:(c.getD #[]).toList.drop ((c.getD #[]).toList.length-(e.map (·.arg)).length)=s;have u:s=(c.getD #[]).toList:=by rw [<-p,Nat.sub_eq_zero_of_le (c8 o),List.drop_zero]
 rw [<-u] at b h;subst p;unfold bindArgs;refine i (V (i (w _ _ _ _ (Bc ?_ (Bc ?_ (i (Xk _ _ _ (i (V (Bc (λa=>aA ((show(!List.isEmpty ([]:List Str))=true from a))) (V ?_)))))))))))
 . exactλa=>absurd (tY (cE a)) (Nat.not_lt.mpr (c8 n))
 . exactλa=>aA ((show(!List.isEmpty [])=true from b▸a))
 . refine(?_:d (((e.map λz:Arg=>z.arg)++[]).filterMap _) g);rw [List.append_nil];exact h
section
variable{b:List Addr}{a:Heap}{c:List Addr}
def bx.aJ{g:Str}{f:Y}{h:Value}{d:List (Str×Y)}{e:List (Str×Value)}(r:bx b a c d e)(i:G b a c f h):bx b a c (Mine.Internal.aJ d (g,f)) (Mine.Internal.aJ e (g,h)):=by
 induction r with
 |nil=>exact .cons i .nil
 |cons a _ j=>exact .cons a j
def HL(d:List Str):∀{e:List Y}{f:List Value},w b a c e f->bx b a c (j4 d e) (j4 d f):=by
 induction d with
 |nil=>exactλk=> .nil
 |cons g d j=>exactλr=>w.gF (P:=λe f=>bx b a c (j4 (g::d) e) (j4 (g::d) f)) .nil (λh i k=> .cons h (j i)) r
def TV{d:Str}{h:Y}{i:Value}{e:List (Str×Y)}{f:List (Str×Value)}(r:bx b a c e f)(j:G b a c h i):bx b a c (qw e d h) (qw f d i):=by
 have g:=r.lk d;unfold qw;revert g;generalize U d e=ai;generalize U d f=ah;intro g;cases g
 . exact r.aJ j
 . exact r
def NX(d:List Str):∀{e:List Y}{f:List Value}{h:List (Str×Y)}{i:List (Str×Value)},w b a c e f->bx b a c h i->bx b a c (kA d e h) (kA d f i):=by
 induction d with
 |nil=>exactλm r=>r
 |cons j d l=>exactλg r=>w.gF (P:=λe f=>bx b a c (kA (j::d) e _) (kA (j::d) f _)) r (λg k m=>l k (TV r g)) g
def TA{f:List (Str×Y)}{g:List (Str×Value)}(r:bx b a c f g)(d:List Str):bx b a c (hI f d) (hI g d):=by
 induction d with
 |nil=>exact .nil
 |cons e d j=>
  have i:=r.lk e;refine(?_:bx b a c ((U e f).elim (hI f d) λh=>(e,h)::hI f d) ((U e g).elim (hI g d) λh=>(e,h)::hI g d));revert i;generalize U e f=ai;generalize U e g=ah;intro i;cases i with
  |n=>exact j
  |k' h l k=>exact .cons k j
def H9{e:List (Str×Y)}{f:List (Str×Value)}(r:bx b a c e f)(d:List Str):j' e d=j' f d:=by
 induction d with
 |nil=>rfl
 |cons g d i=>
  have h:=r.lk g;refine(?_:(U g e).elim false (λj=>j' e d)=(U g f).elim false λj=>j' f d);revert h;generalize U g e=ai;generalize U g f=ah;intro h;cases h with
  |n=>rfl
  |k' aj l k=>exact i
def Ck{d:List Str}{f e:List Y}{g dl:List Value}{h:List (Str×Y)}(r:w b a c f g)(k:w b a c e dl)(l:gQ d f e=some h):∃j,gQ d g dl=some j/\bx b a c h j:=by
 have o:C g=C f:=by rw [aZ,aZ,r.length]
 have p:C dl=C e:=by rw [aZ,aZ,k.length]
 obtain⟨m,n,i,rfl⟩:=Cj l;rw [H9 (HL d r)] at i;refine⟨_,?_,TA (NX _ k (HL d r)) d⟩;unfold gQ;rw [o,p,m,n,i];rfl
end
noncomputable def ae.oI:ae->Option ae
 | .ar al ap args _ a=>some (.ar al ap args true a)
 |_=>none
noncomputable def ae.tb:ae->Bool
 | .ar _ _ _ tb _=>tb
 |_=>false
def AZ(d:Y)(a:St):ab Unit:= .obj d λb=> .v ((t a.objs b).bind ae.oI) λc=> .ret () ⟨aQ a.objs b c,a.d⟩
def d0(d:Y)(c:St):Bool:=match d with
 | .obj a=>(match t c.objs a with|some b=>b.tb|none=>false)
 |_=>false
def y8{b:List Env}{a:Env}(c:a∈eJ b):a∈b/\a.frame=some a.locals:=(List.mem_filter.mp c).imp id beq_iff_eq.mp
section
variable{a:Wd}{m:D a}
def D.OR(m:D a):∀{k:List Env},(∀b∈k,b∈a.aq/\b.frame=some b.locals)->m.s.heap.FunFrames a.ag.hb k:=by
 intro k;induction k with
 |nil=>exactλx=>trivial
 |cons b k n=>
  intro e;refine aS λq o=> ?_;refine And.elim (λd h=> ?_) (e b (.head _));obtain⟨g,u,v,p,t,r,l,i,_⟩:=m.O.b7 b.locals (List.mem_map_of_mem d);refine o ?_;refine⟨(m.O.envs b d).1,⟨b.locals,p,h,?_,l,λw c=>by cases i.symm.trans c⟩,n λf j=>e f (.tail _ j)⟩;cases c:a.ag.hb.get? b.locals with
  |none=>rfl
  |some y=>exact absurd (dk c) (Nat.not_lt.mpr g)
def D5{b:List Env}{a:Addr}(c:a∈(eJ b).filterMap (·.frame)):a∈bf b:=by obtain⟨h,f,g⟩:=List.mem_filterMap.mp c;refine And.elim (λd e=> ?_) (y8 f);cases e.symm.trans g;exact List.mem_map_of_mem d
def s.slots{s':Shared}(h:Heap.SlotsOnly ((eJ a.aq).filterMap (·.frame)) m.s.heap s'.heap)(e:s'.gens=m.s.gens)(g:s'.os=m.s.os):s m m.st m.ρ s':=
 s.qi (gm.slots (h.mono λi d=>D5 d) (λb c=>(m.O.b7 b c).dj) λb c=>(m.O.b7 b c).ge) e g
end
inductive BX(a:Fr):Prop
 |mk (i3:Env) (c:List Env) (b:Addr):a.ak.frames=some (i3::c)->eJ (a.b::a.aq)=i3::c->i3.frame=some b->a.b.frame=some b->PySem.frameOf a.b=PySem.frameOf i3->BX a
def Fr.G5(a:Fr):BX a:=by refine aS λh g=> ?_;obtain⟨c,r,d,e⟩:=a.i3;refine And.elim (λi f=> ?_) (y8 (d▸.head _:c∈eJ (a.b::a.aq)));refine g ?_;exact⟨c,r,c.locals,d▸a.frames,d,f,e▸f,by unfold PySem.frameOf;rw [e]⟩
section
variable{a:Fr}{m:D a.w}
def ON{l:Value->Sem Unit}{k:Unit->Shared->Prop}{g:a8}(p:∀c s'(j:s m m.st m.ρ s'),a.b.frame=some c->(∀b d o,m.s.heap.get? b=some d->d.data= .fields o->s'.heap.get? b=some d)->wpAny a.z.ab a.z.ak (l (.ref c)) k g s'):wpAny a.z.ab a.z.ak (PySem.frameOf a.b>>=l) k g m.s:=by obtain⟨B,A,c,r,n,t,u,v⟩:=a.G5;refine h (v ..) ?_;refine i (wpAny_frameOf_fun r (n▸m.OR λe y=>y8 y) t λq f=> ?_);rw [<-n] at f;refine p c _ (s.slots (s':={m.s with heap:=q}) f rfl rfl) u λb d o e x=>(f.2.1 b λw=> ?_).trans e;refine Exists.elim ((m.O.b7 b (D5 w)).ns) λz j=> ?_;exact wj j e x
end
section
variable{a:Wd}{m:D a}
def s.ar{n c:Nat}{j:Option Nat}{i:List Y}{R H E u:Bool}{b d:Addr}{e:Option Addr}{F v B o cv' C:Value}{p:List Value}{D:Nat}{f:Obj->Obj}(A:m.ρ[n]?=some b)(Q:t m.st.objs n=some (.ar c j i R H))(M:ri m.ρ j e)(k:m.s.heap.get? b=some (pZ c e d F v B))
  (J:m.s.heap.get? d=some (dQ p D))(y:d∉m.ρ)(K:w a.ag.fz m.s.heap m.ρ i p)(z:f (pZ c e d F v B)=pZ c e d o cv' C)(N:i9 m.s.heap m.ρ b E o)(L:u=false->cv'= .none):
  s m ⟨aQ m.st.objs n (.ar c j i E u),m.st.d⟩ m.ρ {m.s with heap:=m.s.heap.update b f}:=by have l:=i6 m.s.heap b f;have g:=iR l (b8 A);have P:lp m.s.heap (m.s.heap.update b f):=λG S U x r I=> .same ((l.2 G λq=>by subst q;cases k.symm.trans x;cases r).trans x) r I;refine h (d4 ..) ?_;exact s.dd A ((cW ..).symm.trans Q) rfl l k (λq=>nomatch (show Value.ref c=TB from q)) ⟨e,d,o,cv',C,p,D,M,(qW _ k (by refine h (z ..) ?_;rfl)).trans (T some z),g.l J y,y,K.mono g,N.mono g P,L⟩ rfl rfl
def s.tb{b:Addr}{e:Obj}{o:Array Value}{k:Nat}{x:Value}(c:m.s.heap.get? b=some e)(g:e.cls=TB)(d:e.data= .fields o)(l:b∉m.ρ)(j:a.ag.n0<=b):s m m.st m.ρ {m.s with heap:=m.s.heap.update b (Obj.mapFields (·.setIfInBounds k x))}:=by have h:=Obj.data_mapFields d (·.setIfInBounds k x);refine s.qi (gm.Tu c (i6 ..) l (λn=> ?_) j g d ⟨_,_,qW (Obj.mapFields (·.setIfInBounds k x)) c (Obj.isFreed_of_fields h),(Obj.cls_mapFields _ _).trans g,h,Array.size_setIfInBounds⟩) rfl rfl;obtain⟨p,i⟩:=(m.O.b7 b n).ns;exact wj i c d
end
def ae.V0{f i:ae}(h:f.oI=some i):∃b e a g d,f= .ar b e a g d/\i= .ar b e a true d:=by
 induction f using ae.casesOn with
 |ar b e a g d=>cases h;exact⟨b,e,a,g,d,rfl,rfl⟩
 |_=>cases h
def jM{e:Type}{a:List e}:∀{b:Nat}{c:e},t a b=some c->aQ a b c=a:=by
 induction a with
 |nil=>exactλg=>rfl
 |cons ah a f=>exactλ{b c}=>Nat.casesOn (motive:=λb=>t (ah::a) b=some c->aQ (ah::a) b c=ah::a) b (λd=>T (·::a) (bw d).symm) λg d=>T (ah::·) (f d)
section
variable{a:Fr}{m:D a.w}{c:Y}{e:Value}
def Po{a:Nat}{c:St}{b d:ae}(f:t c.objs a=some b)(e:b.oI=some d):d0 (.obj a) ⟨aQ c.objs a d,c.d⟩=true:=by
 rw [cW] at f;refine(?_:(match t (aQ c.objs a d) a with|some b=>b.tb|none=>false)=true);refine h (cW ..) ?_;refine h (d4 ..) ?_;refine h (List.getElem?_set_self (List.getElem?_eq_some_iff.mp f).1) ?_;induction b using ae.casesOn with
 |ar=>cases e;rfl
 |_=>cases e
def d.Tc{f:Nat}{e:Addr}{T:ae}(w:m.ρ[f]?=some e)(XX:(t m.st.objs f).bind ae.oI=some T):d a.z (PySem.noteFrame (.ref e) a.b) (λXS Z Z=>d0 (.obj f) XS.st=true) m (.ret () ⟨aQ m.st.objs f T,m.st.d⟩):=by
 refine aS λXZ XR=> ?_;obtain⟨X4,y,p⟩:=bind_some XX;have Q:=Po y p;obtain⟨C,N,J,X6,M,rfl,rfl⟩:=ae.V0 p;obtain⟨XU,XY,X7,XE,XT,Ya,X3,XI,u,XJ,P,XK,XM,XN⟩:=(m.at y w:nj ..);obtain⟨X8,X5,r,X2,_,_,XH,_⟩:=a.G5;refine XR ?_;intro X0 X1 k XD XC S _;have O:∀{z:Shared}(b:s m m.st m.ρ z)(x:Value)(U:Bool){Y},z.heap.get? e=some (pZ C XU XY Y XE XT)->
   wpAny a.z.ab a.z.ak (do let XF<-PySem.frameOf a.b;let j<-entryPlaceOf r U;let ah<-EntryCells.newEntry x XF .none (rawInt r) .none j;setField (.ref e) 1 ah) XD XC z:=by
  intro z b x U Y XG;refine ON (m:=b.pt) λH o g Z XQ=>i (wpAny_entryPlaceOf λj R=> ?_);unfold EntryCells.newEntry newFields;refine i (o9 ?_ (R.sizeOk5 _ _ _ _ _));generalize E:({cls:= .type "traceback",dict:=none,data:= .fields ([x,.ref H,.none,rawInt r,.none]++(if j.isEmpty then List.replicate 6 Value.none else j)).toArray}:Obj)=q;have A:s g.pt m.st m.ρ {o with heap:=o.heap.push q}:=s.push rfl rfl rfl;have K:=cX q (XQ _ _ _ XG rfl);have B:=(show m.To b.pt from b.f).trans ((show b.pt.To g.pt from g.f).trans (show g.pt.To A.pt from A.f));have XO:11<=([x,.ref H,.none,rawInt r,.none]++(if j.isEmpty then List.replicate 6 Value.none else j)).toArray.size:=by rcases R with rfl|⟨_,_,_,_,_,_,_,rfl⟩<;>simp
  have I:s A.pt ⟨aQ m.st.objs f (.ar C N J true M),m.st.d⟩ m.ρ {o with heap:=(o.heap.push q).update e (Obj.mapFields (·.setIfInBounds 1 (Value.ref o.heap.objs.size)))}:=
   s.ar (f:=Obj.mapFields (·.setIfInBounds 1 (Value.ref o.heap.objs.size))) w y XI K (B.kp.l XJ P) P (XK.mono B.kp) rfl (.mk _ q _ (cY _ (by refine ba (E ..) ?_;rfl)) (by rw [<-E]) (by rw [<-E]) XO g.pt.O.ne (g.pt.O.lt (b8 w))) XN
  exact t2 K rfl (show 1<6 by decide) (S () I.pt () (B.trans I.f) Q k)
 unfold PySem.noteFrame;refine h (XH ..) ?_;cases XM with
 |n=>exact i (m0 (x:= .none) u rfl rfl (O ⟨m.O,D.To.refl m⟩ .none _ u))
 |mk ah q X9 F XV G W XW X=>
  refine i (m0 (x:= .ref ah) u rfl rfl ?_);refine h (if_pos (show(Value.ref ah !=Value.none)=true from rfl)) ?_;refine i (m0 F G (Bw (hr (by decide) W)) ?_);split
  . have p:(⟨aQ m.st.objs f (.ar C N J true M),m.st.d⟩:St)=m.st:=by rw [jM y]
    exact V (S () m () (.refl m) (show d0 (.obj f) m.st=true from p▸Q) (p▸k))
  . have b:=s.tb (k:=3) (x:=Value.none) F XV G XW (L (m.O.dt e (b8 w)).ge (ee X));exact i (t2 F G (hr (by decide) W) (O b (.ref ah) _ (((i6 ..).2 e (gl X)).trans u)))
def d.qq(r:b m c e):d a.z (PySem.noteFrame e a.b) (λg i i=>d0 c g.st=true) m (AZ c m.st):=by
 induction c using Y.casesOn with
 |obj k=>
  obtain⟨j,f,rfl⟩:=r.bI;exact d.v λo h=>d.Tc f h
 |_=>exact d.n
end
section
variable{g:Wd}{m:D g}{e:Y}{f:Value}
inductive BW(m:D g):Value->Prop
 |mk (a b:Addr) (c:Nat) (i:Option Addr) (j:Addr) (f h:Value) (d:Obj) (e:Array Value):m.s.heap.get? a=some (pZ c i j (.ref b) f h)->m.s.heap.get? b=some d->d.cls=TB->d.data= .fields e->11<=e.size->b∉m.ρ->g.ag.n0<=b->BW m (.ref a)
def GX(r:b m e f)(a:d0 e m.st=true):BW m f:=by
 induction e using Y.casesOn with
 |obj i=>
  obtain⟨g,h,rfl⟩:=r.bI;have a:(match t m.st.objs i with|some c=>c.tb|none=>false)=true:=a;cases d:t m.st.objs i with
  |none=>rw [d] at a;cases a
  |some c=>
   rw [d] at a;cases c with
   |ar al ap args H A=>
    obtain⟨p,y,I,j,n,J,G,B,k,C,D,E,l,F⟩:=(m.at d h:nj ..);cases l with
    |n=>cases a
    |mk ah o z q s u v w x=>exact .mk g ah al p y j n o z k q s u v w (L (m.O.dt g (b8 h)).ge (ee x))
   |_=>cases a
 |_=>cases a
def vl(r:b m e f)(h:d0 e m.st=true){ab:Model}{d:Around}{c:a8}{g:a8}(j:∀a,c (.ref a) m.s):wpAny ab d (field f 1) c g m.s:=by obtain⟨k,a,l,q,s,n,o,p,t,i,_⟩:=GX r h;exact m0 (x:= .ref a) i rfl rfl (j a)
def d.vm{z:G0}{m:D z.w}{e:Y}{f:Value}{j:Option Addr}(r:b m e f)(t:d0 e m.st=true):d z (PySem.setFlight f j) Tt m (.ret () m.st):=by obtain⟨I,g,J,N,O,K,L,M,P,w,o,x,p,y,A,B⟩:=GX r t;intro F H k G E C _;refine i (m0 (x:= .ref g) w rfl rfl ?_);refine h (if_pos (show(Value.ref g !=Value.none)=true from rfl)) ?_;have a:=s.tb (m:=m) (k:=3) (x:=j.elim Value.none λq=>rawInt q) o x p A B;exact t2 o p (hr (by decide) y) (C () a.pt () a.f u k)
end
def cU(r:O)(b:I):List Stmt->St->ab bg
 |[],st=> .ret .next st
 |s::d,st=> .bind (r.S b s st) λa c=>match a with
  | .next=>cU r b d c
  |a=> .ret a c
noncomputable def mD:bg->Y
 | .ret aj=>aj
 |_=> .none
def iX(d:Y)(a:St)(c:St->Prop):Prop:=(AZ d a).A (λb a=>c a) λb b=>False
section
variable{g:Fr}{m:D g.w}{a:Y}{c:Value}
def qJ{o:ab Unit}{f:Sem Unit}{a0:D g.w->Unit->Unit->Prop}(i:d g.z f a0 m o){K:St->Prop}{c:Unit->Shared->Prop}{e:a8}(k:o.A (λa l=>K l) λa a=>False) (j:∀b,m.To b->a0 b () ()->K b.st->c () b.s):wpAny g.z.ab g.z.ak f c e m.s:=
 i _ _ k c e (λa b a h r k=>j b h r k) λa a a a a k=>False.elim k
def Rc{K:St->Prop}{h:Unit->Shared->Prop}{j:a8}(r:b m a c)(k:iX a m.st K)(n:∀e,m.To e->K e.st->h () e.s):wpAny g.z.ab g.z.ak (PySem.leaving g.b c) h j m.s:=
 qJ (K:=K) (o:=AZ a m.st) (a0:=Tt) (d.h2 (d.qq r) λi e i f l=>d.vm (r.f f) l) k λe f i k=>n e f k
def d.execs(e:List Stmt):∀{m:D g.w},aF g m->d g.z (PySem.execs e g.b) b9 m (cU g.r g.I e m.st):=by
 induction e with
 |nil=>exactλq=>d.ret (b:=bg.next) u
 |cons al e o=>
  intro m i;refine h (arm_execs_cons ..) ?_;exact d.bind i.S λb f j k p=>p.case (P:=λb j=>d g.z (match j with| .next=>PySem.execs e g.b|b=>Pure.pure b) b9 f (match b with| .next=>cU g.r g.I e f.st|b=> .ret b f.st)) (o (i.f k)) (d.ret (b:=bg.brk) u) (d.ret (b:=bg.cont) u) λa c r=>d.ret (b:=bg.ret a) r
end
noncomputable def ae.P6:ae->Bool
 | .cell _=>true
 |_=>false
def om(c:I)(b:Str)(e:Y)(a:St):ab Unit:= .v (U b c.sc.names) λk=>match k with
 | .local=> .ret () ⟨a.objs,aO b e a.d⟩
 | .cell=> .v (U b c.cells) λd=> .v (t a.objs d) λf=> .ok f.P6 (.ret () ⟨aQ a.objs d (.cell (some e)),a.d⟩)
 |_=> .n
noncomputable def sh:NameKind->Bool
 | .cell=>true
 |_=>false
def lB:Nat->List (Str×NameKind)->List (Str×Nat)->List (Str×Nat)
 |_,[],a=>a
 |b,p::r,a=>cond (sh p.2) (lB (Nat.succ b) r ((p.1,b)::a)) (lB b r a)
def iJ:List (Str×NameKind)->List ae->List ae
 |[],os=>os
 |p::r,os=>cond (sh p.2) (iJ r (aJ os (.cell none))) (iJ r os)
def kb(a:I):List (Str×Y)->St->ab Unit
 |[],st=> .ret () st
 |ah::b,st=> .bind (om a ah.1 ah.2 st) λd c=>kb a b c
def uI(r:O)(g:I)(f:List Stmt)(b:List (Str×Y))(i:St):ab Y:=⟨λd e=>(cU r g f i).A (λh a=>d (mD h) ⟨a.objs,b⟩) (λc a=>iX c a λj=>e c ⟨j.objs,b⟩)⟩
def kf(b:Option Y)(a:aL)(c:St):I:=⟨a.scope,b,lB (C c.objs) a.scope.names []⟩
def lz(r:O)(c:Option Y)(a:aL)(g:List Y)(b:St):ab Y:= .v (gQ a.names g a.jj) λh=>
 ⟨λe f=>(kb (kf c a b) h ⟨iJ a.scope.names b.objs,[]⟩).A (λd i=>(uI r (kf c a b) a.body b.d i).A e f) λd d=>False⟩
def VC{ab:Model}{l:Around}{m:a8}{c:Shared}{b:Env}{f:Str}{a:Addr}{g:Obj}{s:Option Value}{k:Value}{j:Unit->Shared->Prop}(q:b.scope.kind= .function)(r:b.kindOf f=some .cell)
  (o:b.cells.lookup f=some a)(e:c.heap.get? a=some g)(p:g.data= .cell s)
  (n:∀d,d.get? a=some {g with data:= .cell (some k)}->Heap.SameBut a c.heap d->j () {c with heap:=d}):wpAny ab l (storeName b f k) j m c:=by unfold storeName;simp only [r,q];refine i (wpAny_cellOf o ?_);unfold cellSet;refine i (wpAny_load e ?_);refine h (p ..) ?_;exact wpAny_update e (n _ (qW _ e rfl) (i6 ..))
@[reducible] def Fr.za(a:Fr)(c:Around):G0:=⟨a.w,a.toRk.p,c⟩
section
variable{g:Fr}{m:D g.w}{a:Y}{c:Value}{A:Around}
def ni.any{i:List Addr}{h:Heap}{k:List Addr}{g:Addr}{a:Option Y}(r:ni i h k g a):∃b j,h.get? g=some b/\b.cls≠TB/\b.data= .cell j:=by
 rcases r with⟨b,d,e,f⟩|⟨b,a,c,d,e,f,l⟩
 . exact⟨b,_,d,e,f⟩
 . exact⟨b,_,d,e,f⟩
def d.GO{i:Str}(D:In0 g m)(r:b m a c):d (g.za A) (storeName g.b i c) Tt m (om g.I i a m.st):=by
 refine d.v λk x=> ?_;cases k with
 |«local»=>
  obtain⟨T,q,M⟩:=m.O.d g.b.locals (bf g.aq) rfl;intro E H k F C p _;refine xB (g.oj x) q (λj L f=> ?_) (by refine h (g.p0 ..) ?_;rfl);have e:s m ⟨m.st.objs,aO i a m.st.d⟩ m.ρ {m.s with heap:=j,toks:=m.s.toks+1}:=s.mL rfl q M L f r rfl rfl;exact p () e.pt () e.f u k
 |cell=>
  refine d.v λt N=>d.v λw y=>d.ok λO E H k F C p U=> ?_;obtain⟨I,o,K⟩:=D.cells i t N;cases w with
  |cell P=>
   obtain⟨w,S,z,B,Q⟩:=(m.at y o:ni _ _ _ I P).any;refine VC g.p0 (g.oj x) K z Q λj J f=> ?_;have e:s m ⟨m.st.objs.set t (.cell (some a)),m.st.d⟩ m.ρ {m.s with heap:=j}:=s.dd o ((cW ..).symm.trans y) rfl f z (λR=>absurd R B) (.mk _ a c J B rfl (G.mono (iR f (b8 o)) r)) rfl rfl;rw [d4] at k;exact p () e.pt () e.f u k
  |_=>cases O
 |_=>exact d.n
def d.mL{e:Str}(h:In0 g m)(r:b m a c):d g.z (bindName g.b e c) Tt m (om g.I e a m.st):=λi o k j f q p=>wpAny_bindName (d.GO (A:=g.ak) h r i o k j f q p)
def bx.mono{a:List Addr}{c d:Heap}{f g:List Addr}(h:Kp c f d g){b:List (Str×Y)}{e:List (Str×Value)}(r:bx a c f b e):bx a d g b e:=by
 induction r with
 |nil=>exact .nil
 |cons ai _ i=>exact .cons (ai.mono h) i
def d.kb{o:Str×Value->PUnit->Sem (ForInStep PUnit)}(s:∀p a z,o (p,a) z=(do storeName g.b p a;Pure.pure (.yield ⟨⟩))) (e:List (Str×Y)):∀{j:List (Str×Value)}{m:D g.w},In0 g m->bx g.ag.fz m.s.heap m.ρ e j->
  d (g.za A) (forIn j ⟨⟩ o) Tt m (kb g.I e m.st):=by
 induction e with
 |nil=>exactλb r=>by cases r;exact d.ret u
 |cons i e x=>
  intro j m k r;cases r with
  |cons w t=>
   refine h (k9 ..) ?_;refine h (s ..) ?_;exact d.bind (t:=storeName g.b _ _>>=λb=>Pure.pure (ForInStep.yield (⟨⟩:PUnit))) (a0:=λb(b:Unit)(i:ForInStep PUnit)=>i= .yield ⟨⟩) (d.h2 (d.GO k w) λb y b f b=>d.ret rfl) λb y i f q=>by subst q;exact x (k.f f) (t.mono f.kp)
end
section
variable{b:Wd}{m:D b}
def w.cw{e:List Y}{f:List Value}(r:w [] b.ag.hb [] e f):bp m e f:=by
 have h:∀{d:Addr}{k:Obj},b.ag.hb.get? d=some k->d∉m.ρ/\d∉b.ag.fz:=λi=>
  ⟨λa=>absurd (dk i) (Nat.not_lt.mpr (m.O.dt _ a).ge),λa=>absurd (dk i) (Nat.not_lt.mpr (m.O.em _ a).ge)⟩
 exact w.rec (motive_1:=λl n c=>G b.ag.fz m.s.heap m.ρ l n) (motive_2:=λe f c=>w b.ag.fz m.s.heap m.ρ e f) .iw .kM .dO .fN .oD .sZ .kL (λa=>by cases a)
  (λa c c g=> .mz (m.O.cw _ _ a) (h a).1 g) (λa c c c g=> .my (m.O.cw _ _ a) (h a).1 (h a).2 g) .cQ (λc c d j=> .cI d j) r
inductive x2(m:D b)(a:Nat)(c:aL)(g:List Value)(d:List (Str×Y)):Prop
 |mk (f:Obj) (fd:FuncData) (e:List (Str×Value)):m.s.heap.get? a=some f->f.data= .func fd->fd.body= .stmts c.body->fd.scope=c.scope->fd.closure=[]->fd.globals=mainGlobals->fd.builtins=builtinsNs->m.s.heap.CodeRec fd.code fd.qualname->BindsTo m.s fd ⟨g,[]⟩ e->bx b.ag.fz m.s.heap m.ρ d e->x2 m a c g d
def Oj{a:aL}{o:Nat}{q:List Y}{f:List (Str×Y)}{k:List Value}(E:fc b.ag.hb o a)(t:bp m q k)(g:gQ a.names q a.jj=some f):x2 m o a k f:=by
 obtain⟨G,fd,I,L,J,u,w,x,y,z,A,B,C,D,v,h⟩:=E.a4;have r:∀{dl j od},gQ a.names k dl=some j->bx b.ag.fz m.s.heap m.ρ f j->(∀(ab:Model)(l:Around)(n:a8)(e:Option (Array Value)->Shared->Prop),e od m.s->wpAny ab l (seqItems? fd.defaults) e n m.s)->(od.getD #[]).toList=dl->x2 m o a k f:=
  λc d h g=>⟨G,fd,_,m.O.cw _ _ u,w,z,A,B,C,D,v.keeps m.O.cw,IP x h g (y▸c),d⟩
 generalize s:fd.defaults=K at h;rcases h with F|⟨N,dl,M,H,e2⟩
 . obtain⟨j,c,d⟩:=Ck (dl:=[]) t (F▸.cQ) g;exact r (od:=none) c d (λab l n e p=>s▸wpAny_of_eq (rfl:seqItems? .none=Pure.pure none) p) rfl
 . obtain⟨j,c,d⟩:=Ck t (H.cw (m:=m)) g;exact r (od:=some dl.toArray) c d (λab l n e p=>s▸i (wpAny_load (m.O.cw _ _ e2) (V p))) rfl
noncomputable abbrev yj:Obj:={cls:= .type "cell",data:= .cell none}
inductive BG(m:D b)(names:List (Str×NameKind))(c:List (Str×Nat))(d:List (Str×Addr)):Prop
 |mk (g:List Addr):s m ⟨iJ names m.st.objs,m.st.d⟩ g {m.s with heap:=pushCells m.s.heap names}->(∀f e,U f (lB m.st.objs.length names c)=some e->∃a,g[e]?=some a/\(cellsFrom m.s.heap.objs.size names d).lookup f=some a)->BG m names c d
def Ui(c:List (Str×NameKind)):∀{m:D b}{acc:List (Str×Nat)}{cs:List (Str×Addr)},(∀a d,U a acc=some d->∃o,m.ρ[d]?=some o/\cs.lookup a=some o)->BG m c acc cs:=by
 induction c with
 |nil=>exactλ{m acc cs} g=>⟨m.ρ,⟨m.O,D.To.refl m⟩,g⟩
 |cons p c r=>
  obtain⟨a,k⟩:=p;intro m acc cs g;cases k with
  |cell=>
   have e:s m ⟨m.st.objs++[.cell none],m.st.d⟩ (m.ρ++[m.s.heap.objs.size]) {m.s with heap:=m.s.heap.push yj}:=s.alloc (.n yj (cY _ rfl) (by decide) rfl) rfl rfl rfl;obtain⟨n,f,l⟩:=r (m:=e.pt) (acc:=(a,m.st.objs.length)::acc) (cs:=(a,m.s.heap.objs.size)::cs) λt d i=>by
    by_cases j:a=t
    . rw [e5 j] at i;cases i;exact⟨m.s.heap.objs.size,by refine ba (m.O.aE ..) ?_;simp,by rw [j,List.lookup_cons,beq_self_eq_true]⟩
    . rw [en j] at i;obtain⟨q,u,v⟩:=g t d i;exact⟨q,e.f.ext d q u,by refine h (List.lookup_cons ..) ?_;refine h (beq_false_of_ne (i7 j)) ?_;exact v⟩
   have w:iJ ((a,.cell)::c) m.st.objs=iJ c (m.st.objs++[.cell none]):=T (iJ c) (c0 ..);have e2:lB m.st.objs.length ((a,.cell)::c) acc=lB (m.st.objs++[ae.cell none]).length c ((a,m.st.objs.length)::acc):=by refine h (eV ..) ?_;rfl
   have x:cellsFrom m.s.heap.objs.size ((a,.cell)::c) cs=cellsFrom (m.s.heap.push yj).objs.size c ((a,m.s.heap.objs.size)::cs):=by refine h (jY ..) ?_;rfl
   exact⟨n,w▸⟨f.O,Step.trans (aG:=e.pt) e.f f.f⟩,e2▸x▸l⟩
  |_=>obtain⟨n,f,l⟩:=r g;exact⟨n,f,l⟩
end
structure pd(c:Fr)(m:D ⟨c.ag,c.aq⟩)(a:D c.w):Prop where
 d:c.b.locals=m.s.heap.objs.size
 objs:a.st.objs=m.st.objs
 ρ:a.ρ=m.ρ
 b0:∀(b:Addr)(e:Obj),m.s.heap.get? b=some e->a.s.heap.get? b=some e
 gens:a.s.gens=m.s.gens
 os:a.s.os=m.s.os
section
variable{g:Fr}
def pd.nx{m:D ⟨g.ag,g.aq⟩}{c b:D g.w}(a:pd g m c)(e:c.To b):s m ⟨b.st.objs,m.st.d⟩ b.ρ b.s:=s.me a.d a.objs a.ρ a.b0 e a.gens a.os b.O
def pd.fM{m:D ⟨g.ag,g.aq⟩}{a b:D g.w}(f:pd g m a)(e:a.To b):fW (bf g.aq) m.s.heap b.s.heap:=λab h i c=>e.hJ ab h i (c.keeps f.b0)
def I9{m:D ⟨g.ag,g.aq⟩}{z p:D g.w}{u:List Stmt}{i:Result->Shared->Prop}{q x:af}(B:aF g p)(a:pd g m z)(f:z.To p)(k:(uI g.r g.I u m.st.d p.st).A q x)
  (o:∀c j l h b(C:s m j l b),fW (bf g.aq) m.s.heap b.heap->G g.ag.fz b.heap l c h->q c j->i (.ok (.ret h)) b) (F:∀c j l h b(C:s m j l b),fW (bf g.aq) m.s.heap b.heap->G g.ag.fz b.heap l c h->x c j->i (.error h) b):
  wpAny g.z.ab g.z.ak (PySem.execs u g.b) (λn b=>i (.ok (.ret (match n with| .ret c=>c|_=> .none))) b) (λa b=>wpAny g.z.ab g.z.ak (leaving g.b a) (λK w=>i (.error a) w) (λE w=>i (.error E) w) b) p.s:=by refine d.execs u B _ _ k _ _ (λn v y e I k=> ?_) λc v h e A H=>Rc A H λJ t k=>F c _ _ h _ (a.nx ((f.trans e).trans t)) (a.fM ((f.trans e).trans t)) (A.f t) k;exact I.case (P:=λn y=>q (mD n) ⟨v.st.objs,m.st.d⟩->i (.ok (.ret (match y with| .ret c=>c|_=> .none))) v.s) (o _ _ _ _ _ (a.nx (f.trans e)) (a.fM (f.trans e)) .iw) (o _ _ _ _ _ (a.nx (f.trans e)) (a.fM (f.trans e)) .iw) (o _ _ _ _ _ (a.nx (f.trans e)) (a.fM (f.trans e)) .iw) (λc h r=>o _ _ _ _ _ (a.nx (f.trans e)) (a.fM (f.trans e)) r) k
def uO{k:Rk}(H:aC k.ag.hb k.T)(XO:h1 k){x:Nat}{c:aL}(r:fc k.ag.hb x c){A:Around}{j:List Env}{m:D ⟨k.ag,j⟩}{hd:Option Y}{args:List Y}{X:List Value}{J M:af}{z:Result->Shared->Prop}(XS:A.frames=some (eJ j))(S:hY m A hd)(Q:A.depth+1+2*k.am<recursionLimit)(XV:A.units+3+16*k.am+64<cLine)
  (X0:bp m args X)(q:(lz k.r hd c args m.st).A J M)
  (XU:∀f u v b e(Z:s m u v e),fW (bf j) m.s.heap e.heap->G k.ag.fz e.heap v f b->J f u->z (.ok (.ret b)) e) (XR:∀f u v b e(Z:s m u v e),fW (bf j) m.s.heap e.heap->G k.ag.fz e.heap v f b->M f u->z (.error b) e):
  codeAny (model k.p k.ag.w) A (.call (.ref x) ⟨X,[]⟩) z m.s:=by
 unfold lz at q;induction F:gQ c.names args c.jj using Option.casesOn with
 |none=>rw [F] at q;exact False.elim q
 |some XC=>
 rw [F] at q;obtain⟨y,fd,X5,XE,XG,XH,o,XI,XJ,XK,XM,XN,XF⟩:=Oj r X0 F;refine codeAny_call_function (eW (by simp+arith only) Q) XE XG (o▸r.co) (o▸r.O6) XH XM (XN _ _ _ _ ?_);refine h (XI ..) ?_;simp only [newFunctionEnv,Option.isSome_none,Bool.false_eq_true,if_false];refine i (wpAny_alloc ?_);refine i (wpAny_layCells _ (λX6 XW X4=>by rcases XT:XW==NameKind.cell with _|_<;>simp [XT]) _ _ _ _ ?_);generalize l:newEnv fd.scope m.s.heap.objs.size fd.globals (cellsFrom (m.s.heap.push {cls:= .type "frame",data:= .dict #[]}).objs.size fd.scope.names []) (fd.qualname++".<locals>.") (some x) fd.code none fd.builtins=a;have N:a.locals=m.s.heap.objs.size:=by refine ba (l ..) ?_;rfl
 have e2:a.scope=c.scope:=by refine ba (l ..) ?_;exact o
 have O:a.frame=some a.locals:=by refine ba (l ..) ?_;rfl
 have XD:a.cells=cellsFrom (m.s.heap.push {cls:= .type "frame",data:= .dict #[]}).objs.size c.scope.names []:=by refine ba (l ..) ?_;refine ba (o ..) ?_;rfl
 have P:eJ (a::j)=a::eJ j:=List.filter_cons_of_pos (beq_iff_eq.mpr O);have U:∀(C:Addr)(y:Obj),m.s.heap.get? C=some y->(m.s.heap.push {cls:= .type "frame",data:= .dict #[]}).get? C=some y:=λC y E=>cX _ E;let p:D ⟨k.ag,a::j⟩:=⟨⟨m.st.objs,[]⟩,m.ρ,{m.s with heap:=m.s.heap.push {cls:= .type "frame",data:= .dict #[]}},m.O.DG N (by refine h (e2 ..) ?_;refine h (r.kind ..) ?_;decide) ⟨a.locals,O,.head _⟩ (Heap.Ns.new m.s.heap (.type "frame")) U λb f t=>nomatch t⟩;have K:Kp m.s.heap m.ρ p.s.heap p.ρ:=zJ _;let g:Fr:={toRk:=k,F:=H,ak:=A.deeper a,aq:=j,b:=a,I:=kf hd c m.st,iV:=e2,r5:=by refine ba (l ..) ?_;exact XJ,blt:=by refine ba (l ..) ?_;exact XK,kind:=r.kind,frames:=P▸Around.frames_deeper XS,i3:=⟨a,_,P,rfl⟩,depth:=Q,units:=XV};obtain⟨X8,w,XQ⟩:=Ui c.scope.names (m:=p) (acc:=[]) (cs:=[]) λb W t=>nomatch t;have B:p.To w.pt:=w.f;have I:In0 g w.pt:=⟨λb W t=>XD▸XQ b W (aZ m.st.objs▸t),hY.f (m:=p) (by induction hd using Option.casesOn with|none=>exact S|some f=>obtain⟨b,X1,X2⟩:=S;exact⟨b,X1,X2.mono K⟩) B⟩;have dM:pd g m p:=⟨N,rfl,rfl,U,rfl,rfl⟩;refine h (o ..) ?_;have R:({scope:=c.scope,locals:=m.s.heap.objs.size,globals:=fd.globals,cells:=cellsFrom (m.s.heap.push {cls:= .type "frame",data:= .dict #[]}).objs.size c.scope.names [],qual:=fd.qualname++".<locals>.",func:=some x,code:=fd.code,frame:=some m.s.heap.objs.size,builtins:=fd.builtins}:Env)=a:=by refine ba (l ..) ?_;refine h (o ..) ?_;rfl
 refine i (d.kb (g:=g) (A:=A.in1) (m:=w.pt) (λXZ f X7=>T (λE=>(do storeName E XZ f;Pure.pure (ForInStep.yield PUnit.unit):Sem (ForInStep PUnit))) R) XC I ((XF.mono K).mono B.kp) _ _ q _ _ (λn XY n L n XX=>V ?_) λn n n n n X3=>False.elim X3);refine h (R ..) ?_;exact⟨H.ET.keeps XY.O.cw,codeAny_func (I9 (g:=g) ⟨I.f L,XO⟩ dM (B.trans L) XX XU XR)⟩
end
def eU(b:St->Prop)(a:Q):Q
 | .next,st=>b st
 | .cont,st=>b st
 | .brk,st=>a .next st
 | .ret aj,st=>a (.ret aj) st
def bT(b:af)(a:Y)(c:St):Prop:=iX a c (b a)
section
variable{g:Fr}{m:D g.w}{a:Y}{c:Value}
def BH(g:Fr)(k:Code)(m:D g.w)(i:Q)(j:af):Prop:=
 ∀e:Result->Shared->Prop,(∀f d h,m.To d->b9 d f h->i f d.st->e (.ok h) d.s)->(∀a d c,m.To d->b d a c->d0 a d.st=true->j a d.st->e (.error c) d.s)->codeAny g.z.ab g.z.ak k e m.s
def mq{f:D g.w}{X:af}{h:a8}(j:m.To f)(r:b f a c)(l:bT X a f.st)(o:∀e,m.To e->b e a c->d0 a e.st=true->X a e.st->h c e.s):notedBy g.z.ab g.z.ak g.b h c f.s:=
 qJ (d.qq r) l λe i n k=>o e (j.trans i) (r.f i) n k
def d.bk{r:Code}{t:ab bg}(y:∀f e,t.A f e->BH g r m f e):d g.z (runOwn r g.b) b9 m t:=by intro f e k H G B A;refine wpAny_runOwn ?_;refine h (show g.ak.mark none=g.ak from by unfold Around.mark;rw [Option.none_or]) ?_;refine y f e k _ (λw o x j E k=>B w o x j E k) λa o c j p s C=>i (vl p s λu=> ?_);refine h (show(Value.ref u==Value.none)=false from rfl) ?_;refine h (if_neg (by decide)) ?_;exact d.vm (z:=g.z) (m:=o) p s (λb F=>e a F) (λb b=>False) C _ _ (λb D b q b k=>A a D c (j.trans q) (p.f q) k) λb b b b b z=>False.elim z
end
inductive rd(a:Nat):Int->Nat->Prop
 |pos (k:Nat):k<a->rd a (.ofNat k) k
 |neg (j:Nat):j<a->rd a (.negSucc j) (a-(j+1))
noncomputable def ck(b:Int)(a:Nat):Option Nat:=cond (Nat.blt a 9223372036854775808) (match b with
 | .ofNat k=>cond (Nat.blt k a) (some k) none
 | .negSucc k=>cond (Nat.blt k a) (some (Nat.sub a (Nat.succ k))) none) none
def zt{d:Int}{b k:Nat}(a:ck d b=some k):b<9223372036854775808/\rd b d k:=by
 refine And.elim (λe a=> ?_) (pE a);refine⟨c8 e,?_⟩;induction d using Int.casesOn with
 |ofNat j=>obtain⟨c,a⟩:=pE (show cond (Nat.blt j b) (some j) none=some k from a);cases a;exact .pos _ (c8 c)
 |negSucc j=>obtain⟨c,a⟩:=pE (show cond (Nat.blt j b) (some (b-(j+1))) none=some k from a);cases a;exact .neg _ (c8 c)
structure HX(b:Nat)(a:Int)(k:Nat):Prop where
 lo: -(2^63)<=a
 hi:a<2^63
 seq:seqIndex? a b=some k
def rd.le{b k:Nat}{c:Int}(e:b<9223372036854775808)(a:rd b c k):HX b c k:=by
 cases a with
 |pos _ a=>
  refine⟨Int.le_trans (by decide) (xA k),by refine(?_:(k:Int)<_);omega,?_⟩;unfold seqIndex?;rw [if_neg (show¬(Int.ofNat k<0) from Int.not_lt.mpr (Int.natCast_nonneg k)),if_pos (by simp only [Bool.and_eq_true,decide_eq_true_eq];exact⟨Int.natCast_nonneg k,Int.ofNat_lt.mpr a⟩)];rfl
 |neg j a=>
  have d:(Int.negSucc j)= -((j:Int)+1):=rfl;refine⟨by omega,by omega,?_⟩;unfold seqIndex?;refine h (if_pos (Int.negSucc_lt_zero j) ..) ?_;refine h (if_pos (by simp only [Bool.and_eq_true,decide_eq_true_eq];omega)) ?_
  congr 1
  omega
def vV(a:List Y)(b:Y)(c:St):ab Y:= .int b λj=> .v (ck j (C a)) λk=> .v (t a k) λd=> .ret d c
def zE(b c:Y)(a:St):ab Y:= .ite b.isStr (.str b λd=> .int c λj=> .v (ck j d.length) λk=> .v (t d.cps.toList k) λf=> .ret (.str ⟨#[f]⟩) a)<|
 .or (kR b) (λe=>vV e c a)<| .or (du b a) (λe=>vV e c a)<| .v (eC b a) λg=> .str c λd=> .v (U d g) λh=> .ret h a
section
variable{e:G0}{m:D e.w}{i f g:Y}{c a:Value}
def d.Qr{z:List Y}{i:List Value}{t:Addr}{F:Nat}(G:b m f a)(q:m.s.heap.get? t=some (listOf i.toArray F))(u:bp m z i):d e (getItem (.ref t) a) b m (vV z f m.st):=
 d.int (t:=λa=>getItem (.ref t) a) G λj H=>d.v λk s=>d.v λg E=>by
  obtain⟨e,x,y⟩:=w.wk u E;rw [aZ,<-u.length] at s;refine And.elim (λD r=> ?_) (zt s);have p:=r.le D;cases r with
  |pos _ C=>exact d.cV (λB A o=>wpAny_getItem_list ⟨_,q,rfl,_,rfl⟩ (xA k) p.hi ((o7).trans x) o) y
  |neg j C=>exact d.cV (λB A o=>wpAny_getItem_list_neg ⟨_,q,rfl,_,rfl⟩ (Int.negSucc_lt_zero j) (by simp only [List.size_toArray];omega) p.lo (by refine h (show(Int.negSucc j+((i.toArray.size:Nat):Int)).toNat=i.length-(j+1) from by simp only [List.size_toArray];omega) ?_;exact(o7).trans x) o) y
def d.Qs{p:List Y}{q:List Value}{t:Addr}{A:Nat}(B:b m f a)(r:m.s.heap.get? t=some (dQ q A))(o:bp m p q):d e (getItem (.ref t) a) b m (vV p f m.st):=
 d.int (t:=λa=>getItem (.ref t) a) B λj F=>d.v λk i=>d.v λg y=>by
  obtain⟨e,z,C⟩:=w.wk o y;rw [aZ,<-o.length] at i;obtain⟨u,s⟩:=zt i;have h:=s.le u;exact d.cV (λE D x=>PySem.P.getItem_tuple (k:=k) r h.lo h.hi h.seq ((o7).trans z) x) C
def d.item(p:b m i c)(o:b m f a):d e (getItem c a) b m (zE i f m.st):=
 d.ite (λx=>d.str (t:=λc=>getItem c a) p λq t=>d.int (t:=λa=>getItem (.str q t) a) o λj N=>d.v λk D=>d.v λP y=>by
  refine And.elim (λE z=> ?_) (zt D);have r:=z.le E;exact d.leaf (λB A u=>PySem.P.getItem_str (by simp only [Bool.or_eq_false_iff,decide_eq_false_iff_not];exact⟨Int.not_lt.mpr r.lo,Int.not_le.mpr r.hi⟩) (by refine h (r.seq ..) ?_;refine h (By ..) ?_;rw [cW] at y;exact Array.getElem?_toList.symm.trans y) u) (G.fN _ _)) λx=>
 d.mu (d.l (t:=λc=>getItem c a) p λM t O K s w=>d.Qs o s w) λx=>d.mu (d.c (t:=λc=>getItem c a) p λM t O K s w=>d.Qr o s w) λx=>
 d.uS (t:=λc=>getItem c a) p λQ S C z F=>d.str (t:=λa=>getItem (.ref C) a) o λq t=>d.v λg H=>by
  obtain⟨R,I,J⟩:=F.of (p:=e.p);obtain⟨N,e2,L⟩:=(I.at q).get H;exact d.leaf (λB A u=>wpAny_getItem_of (strKind_is e.p e.w.ag.w q t) J.mapOf e2 u) L
end
def ab.qm{a:Type}(c:Y)(b:Nat->ab a):ab a:= .int c λj=>match j with
 | .ofNat k=>b k
 |_=> .n
def qF(h d f:Y)(a:St):ab Unit:= .obj h λb=> .v (t a.objs b) λe=> .or e.du (λg=> .qm d λk=> .ok (Nat.blt k (C g)) (.ok (Nat.blt k 9223372036854775808) (.ret () ⟨aQ a.objs b (.c (aQ g k f)),a.d⟩)))<|
 .v e.eC λc=> .str d λi=> .ok (Nat.ble (C c) sizeLine) (.ret () ⟨aQ a.objs b (.dict (aO i f c)),a.d⟩)
section
variable{b:List Addr}{a:Heap}{c:List Addr}
def VE{c b:Str}{d f:Value}{e:List (Str×Value)}(a:c≠b):stored ((c,d)::e) b f=(c,d)::stored e b f:=by unfold stored;refine h (t1 ..) ?_;refine h (show decide (((c,d):Str×Value).1=b)=false from k7 a) ?_;refine h (Bool.false_or ..) ?_;refine h (List.map_cons ..) ?_;refine h (if_neg (show¬((c,d):Str×Value).1=b from a)) ?_;split<;>rfl
def VD{b f:Str}{e g:Value}{c:List (Str×Value)}(a:b=f)(k:b∉c.map (·.1)):stored ((b,e)::c) f g=(b,g)::c:=by
 subst a;unfold stored;refine h (t1 ..) ?_;refine h (show decide (((b,e):Str×Value).1=b)=true from iD rfl) ?_;refine h (Bool.true_or ..) ?_;refine h (if_pos rfl ..) ?_;refine h (List.map_cons ..) ?_;refine h (if_pos rfl ..) ?_
 congr 1
 exact(List.map_congr_left λd j=>if_neg λ(i:d.1=b)=>k (i▸List.mem_map.mpr ⟨d,j,rfl⟩)).trans (List.map_id c)
def AP{g:Str}{i:Y}{j:Value}(h:G b a c i j){e:List (Str×Y)}{f:List (Str×Value)}(r:bx b a c e f):(e.map (·.1)).Nodup->bx b a c (aO g i e) (stored f g j):=by
 induction r with
 |nil=>exactλs=> .cons h .nil
 | @cons p aj q e f n r o=>
  intro m;refine And.elim (λk l=> ?_) (List.nodup_cons.mp m);by_cases d:p=g
  . rw [sX d,VD d (r.qe▸k),d];exact .cons h r
  . rw [sY d,VE d];exact .cons n (o l)
end
def U5{w:Program}{x:World}{q:Around}{a:Shared}{s:a8}{b:Addr}{f:Array Value}{m k:Nat}{e:Int}{p:Tok}{c:Value}{j:Unit->Shared->Prop}(d:a.heap.get? b=some (W.listOf f m))(o:e= .ofNat k)(n:e<2^63)(u:k<f.size)
  (t:∀v,(a.heap.update b (Obj.mapSeq (·.setIfInBounds k c))).get? b=some (W.listOf (f.setIfInBounds k c) v)->j () {a with heap:=a.heap.update b (Obj.mapSeq (·.setIfInBounds k c))}):
  wpAny (model w x) q (PySem.setItem (.ref b) (.int e p) c) j s a:=by
 have g:a.heap.IsList b f:=⟨_,d,rfl,_,rfl⟩;unfold PySem.setItem;try with_reducible refine j1 ?_
 first|refine i (V ?_)|skip
 refine i (wpAny_sequenceKey g.typeIs (by decide) ?_);refine i (wpAny_callSpecial?_slot (name:=Str.ofString "__setitem__") g.typeIs slot_list_setitem
  (wpAny_call_entry slot_list_setitem g.typeIs entry_list_setitem ?_ (args_list_setitem _ _ _)))
 refine(?_:wpAny _ _ (Builtin.List.listSubscript? (.int e p)>>=_) _ _ a);refine i (wpAny_listSubscript_int (fitsIndex_of (o▸xA k) n) ?_);clear n;subst o;refine(?_:wpAny _ _ ((seqItemAt b k>>=λr=>Pure.pure (r.map (k,·)))>>=_) _ _ a);refine i (i (wpAny_seqItemAt d rfl (V ?_)));refine h (Bw u ..) ?_;refine(?_:wpAny _ _ (setSeqItemAt b k c>>=_) _ _ a);refine i (wpAny_setSeqItemAt d rfl ?_);have l:=t _ (qW (Obj.mapSeq (·.setIfInBounds k c)) d rfl);first
  |exact i (V (V ⟨.none,rfl,V l⟩))
  |exact V ⟨.none,rfl,V l⟩
section
variable{a:G0}{m:D a.w}{i l f:Y}{g e c:Value}
def d.qm{p q:Type}{o:D a.w->q->p->Prop}{t:Value->Sem p}{e:Nat->ab q}(r:b m i g)(k:∀k f,d a (t (.int (.ofNat k) f)) o m (e k)):d a (t g) o m (.qm i e):=
 d.int r λj s=>by induction j using Int.casesOn with
  |ofNat h=>exact k h s
  |negSucc h=>exact d.n
def zW{c:Array Value}{b:Nat}:(W.listOf c b).cls=TB->∀d,(W.listOf c b).data≠.fields d:=λa=>absurd a (by decide:Value.type "list"≠TB)
def d.setItem(Z:b m i g)(J:b m l e)(K:b m f c):d a (PySem.setItem g e c) Tt m (qF i l f m.st):=by
 refine d.obj (t:=λg=>PySem.setItem g e c) Z λI x j=>d.v λXG z=>d.or (λXC A=> ?_) λL=>d.v λQ A=> ?_
 . cases ae.v3 A;obtain⟨XD,X,y,D⟩:=(m.at z j:ll ..);refine d.qm (t:=λe=>PySem.setItem (.ref x) e c) J λk E=>d.ok λB=>d.ok λS N P r O M C L=> ?_;refine U5 y rfl (Int.ofNat_lt.mpr (c8 S)) (by refine h (o6 ..) ?_;refine h (D.length ..) ?_;refine ba (aZ ..) ?_;exact c8 B) λY U=> ?_;have q:=i6 m.s.heap x (Obj.mapSeq (·.setIfInBounds k c));have o:=iR q (b8 j);have p:s m ⟨m.st.objs.set I (.c (aQ XC k f)),m.st.d⟩ m.ρ {m.s with heap:=m.s.heap.update x (Obj.mapSeq (·.setIfInBounds k c))}:=
    s.dd j ((cW ..).symm.trans z) rfl q y zW ⟨XD.set k c,Y,U.trans (by simp),w.set (G.mono o K) (w.mono o D) k⟩ rfl rfl
   rw [d4] at r;exact C () p.pt () p.f u r
 . cases ae.nJ A;have F:ey .. :=m.at z j;obtain⟨XF,H,W⟩:=F.of (p:=a.p);obtain⟨XE,X,y,D,V⟩:=F;refine d.str (t:=λe=>PySem.setItem (.ref x) e c) J λE t=>d.ok λB N P r O M C L=> ?_;refine wpAny_setItem_pairs (strKind_is a.p a.w.ag.w E t) W (λR T q=> ?_) (by refine h (H.length ..) ?_;refine ba (aZ ..) ?_;exact c8 B);have o:=iR q (b8 j);have p:s m ⟨m.st.objs.set I (.dict (aO E f Q)),m.st.d⟩ m.ρ {m.s with heap:=R,toks:=m.s.toks+1}:=
    s.dd j ((cW ..).symm.trans z) rfl q y rN (ey.Ae (p:=a.p) (AP (G.mono o K) (H.mono o) V) T) rfl rfl
   rw [d4] at r;exact C () p.pt () p.f u r
end
def wo(r:O)(c:I)(a:Option Expr)(b:St):ab (Option Int):=match a with
 |none=> .ret none b
 |some a=> .bind (r.E c a b) λf e=> .int f λd=> .ret (some d) e
def ds(a:Str)(b c:Option Int):Str:=
 if((1:Int)==1&&(Builtin.Str.strSliceIndices b c 1 a.length).length==a.length)=true then a else⟨((Builtin.Str.strSliceIndices b c 1 a.length).filterMap (a.cps[·]?)).toArray⟩
def ww(a:List Y)(c b d:Option Int):List Y:=
 ((sliceRange (sliceBounds c b d a.length).1 (sliceBounds c b d a.length).2.1 (sliceBounds c b d a.length).2.2).filterMap (a[·]?))
def GF(e:Y)(b a h:Option Int)(c:St):ab Y:= .or h (λd=> .v (du e c) λf=> .bR (Int.beq' d 0) (.ok (Nat.ble f.length sizeLine) (lu (.c (ww f b a (some d))) c)))
 (.str e λg=> .ok (Nat.ble (ds g b a).length sizeLine) (.ret (.str (ds g b a)) c))
noncomputable def ae.Ex:ae->Bool
 | .c _=>true
 | .dict _=>true
 |_=>false
def w8(c:St):Y->Bool
 | .str _=>true
 | .l _=>true
 | .c _=>true
 | .obj a=>(match gH c.objs a with|some b=>b.Ex|none=>false)
 |_=>false
def zB(b:Expr):Bool:=(rD b).any λa=>cond a.2.1.isEmpty (cond a.2.2.1.isEmpty ((v' a.1).any λc=>Fast.sEq c "super") false) false
inductive BU(s:Shared)(b:Value):Prop
 |mk (a:String) (id:String):s.TypeIs b a->typeLookup (.type a) "__getitem__"=Pure.pure (some (.builtin id))->BU s b
section
variable{e:G0}{m:D e.w}{c:Y}{a:Value}
def VL(r:b m c a)(d:w8 m.st c=true):BU m.s a:=by
 induction c using Y.casesOn with
 |str s=>obtain⟨p,rfl⟩:=r.bI;exact⟨"str",_,typeIs_str m.s s p,PySem.F.slot_str_getitem.lookup⟩
 |l l=>obtain⟨i,n,f,e,_⟩:=r.bI;exact⟨"tuple",_,⟨_,e,rfl⟩,PySem.F.slot_tuple_getitem.lookup⟩
 |c l=>obtain⟨i,n,f,e,_⟩:=r.bI;exact⟨"list",_,⟨_,e,rfl⟩,slot_list_getitem.lookup⟩
 |obj j=>
  obtain⟨i,o,rfl⟩:=r.bI;have d:(match gH m.st.objs j with|some g=>g.Ex|none=>false)=true:=d;cases h:gH m.st.objs j with
  |none=>rw [h] at d;cases d
  |some g=>
   rw [h] at d;have k:=m.ru h o;cases g with
   |c l=>obtain⟨n,f,e,_⟩:=k;exact⟨"list",_,⟨_,e,rfl⟩,slot_list_getitem.lookup⟩
   |dict t=>obtain⟨q,f,e,_⟩:=k;exact⟨"dict",_,⟨_,e,rfl⟩,slot_dict_getitem.lookup⟩
   |_=>cases d
 |_=>cases d
def d.En{j o:Type}{f:Bool->Sem j}{h:D e.w->o->j->Prop}{g:ab o}(r:b m c a)(u:w8 m.st c=true)(k:d e (f false) h m g):d e (getitemInPython a>>=f) h m g:=by obtain⟨B,C,w,y⟩:=VL r u;refineλq t A s p z x=>i ?_;unfold getitemInPython;exact i (wpAny_specialOf w y (V (k q t A s p z x)))
def VN(a:Expr)(c b:Value):∃d,subscripted a false c b=PySem.operate d (getItem c b):=by
 induction a using PySem.Expr.casesOn with
 |Slice ai ah al e=>cases al<;>exact⟨_,rfl⟩
 |_=>exact⟨_,rfl⟩
def d.letGo{f:Expr}{h:Value}(r:b m c a):d e (letTemporaryGo f h a>>=λk=>Pure.pure a) b m (.ret c m.st):=d.pre (λj i g=>wpAny_letTemporaryGo g) (d.ret r)
def d.tu{j k:Expr}{f g:Value}{ab:ab Y}(o:d e (getItem f g) b m ab):d e (subscripted j false f g>>=λi=>letTemporaryGo k f i>>=λu=>Pure.pure i) b m ab:=by refine Exists.elim (VN j f g) λt p=> ?_;refine h (p ..) ?_;exact d.h2 (d.ov o) λi s a q r=>d.letGo r
end
def w6(r:O)(a:I)(d e:Expr)(f:St):ab Y:= .bind (r.E a d f) λc g=> .bind (r.E a e g) λh b=> .ok (w8 b c) (zE c h b)
def FP(r:O)(a:I)(e c f:Option Expr)(g:St):ab (Option Int×Option Int×Option Int):= .bind (wo r a e g) λd h=> .bind (wo r a c h) λk i=> .bind (wo r a f i) λb j=> .ret (d,k,b) j
def wU(r:O)(b:I)(e:Expr)(g f h:Option Expr)(i:St):ab Y:= .bind (r.E b e i) λd j=> .bind (FP r b g f h j) λa c=> .ok (w8 c d) (GF d a.1 a.2.1 a.2.2 c)
def uB(b:ay)(r:O)(c:I)(a:Expr)(g:Str)(d:St):ab Y:= .bR (zB a) (.bind (r.E c a d) λf e=>p3 b f g e)
def GV{a:Expr}{c:Str}{b:Env}(d:zB a=false):attributeBase a c b (eval a b)=eval a b:=by
 induction a using Expr.casesOn with
 |Call cf as e f=>
  induction cf using Expr.casesOn with
  |Name id p=>
   rcases as with _|_
   . rcases e with _|_
     . exact if_pos (by rw [bne,show(id==("super":Str))=false from(rv ..).trans d];rfl)
     . rfl
   . rfl
  |_=>rfl
 |_=>rfl
def H0{d:Wd}(_:D d)(a:Option Int)(e:Value):Prop:=∃c,e=partValue (a.map λb=>(b,c))
def zA(a:Option Int)(c:Tok):IsPart (partValue (a.map λb=>(b,c))) a:=by
 rcases a with _|_
 . exact .none
 . exact .int _ _
def w.NY{b:List Addr}{c:Heap}{i:List Addr}{a:List Y}{g:List Value}(d:w b c i a g)(is:List Nat):w b c i (is.filterMap (a[·]?)) (is.filterMap (g[·]?)):=by
 induction is with
 |nil=>exact .cQ
 |cons k is e=>
  refine h (qY ..) ?_;refine h (qY ..) ?_;cases f:a[k]?with
  |none=>refine h (List.getElem?_eq_none_iff.mpr (d.length▸List.getElem?_eq_none_iff.mp f)) ?_;exact e
  |some m=>obtain⟨n,j,l⟩:=d.wk ((cW ..).trans f);refine h (j ..) ?_;exact .cI l e
section
variable{c:G0}{m:D c.w}{e:Y}{a:Value}
def Vf{j:Shared}{a:Str}{b:Tok}{m:Addr}{i k:Option Int}{r s:Tok}(p:j.heap.IsSlice m (i.map λe=>(e,r)) (k.map λe=>(e,s)) none) (g:Nat.ble (ds a i k).length sizeLine=true)
  {l:a8} {n:a8} (d:∀b q,l (.str (ds a i k) b) {j with toks:=q}):wpAny c.ab c.ak (getItem (.str a b) (.ref m)) l n j:=by
 refine wpAny_getItem_str_slice (st:=none) p rfl ?_;have o:∀(f:Option Int)(b:Tok),(f.map λe=>(e,b)).map (·.1)=f:=λf b=>by rcases f with _|_<;>rfl
 unfold sliceMade slicePicked;simp only [o,Option.map_none,Option.getD_none];unfold ds at g d;split
 . rename_i h;rw [if_pos h] at d;exact d _ _
 . rename_i h;rw [if_neg h] at d g;exact⟨c8 g,d _ _⟩
def d.Vg{i:Addr}{j k f:Option Int}{u x y:Tok}(r:b m e a)(s:m.s.heap.IsSlice i (j.map λg=>(g,u)) (k.map λg=>(g,x)) (f.map λg=>(g,y))):d c (getItem a (.ref i)) b m (GF e j k f m.st):=by
 induction f using Option.casesOn with
 |some f=>
  refine d.c (t:=λa=>getItem a (.ref i)) r λE I H J D q=>d.bR λC=>d.ok λo=> ?_;refine d.newObj (k:=m.s.toks) (λA z p=>wpAny_getItem_list_slice ⟨_,D,rfl,_,rfl⟩ s (zA j u) (zA k x) (zA (some f) y) (λB=>z7 C (bw B)) p (by refine h (o6 ..) ?_;refine h (q.length ..) ?_;exact c8 o)) ⟨_,0,cY _ rfl,?_⟩;exact w.mono (qg _) (show w _ _ _ (ww E j k (some f)) (List.filterMap (λa=>H.toArray[a]?) _) by simp only [List.size_toArray,q.length,List.getElem?_toArray];exact q.NY _)
 |none=>exact d.str (t:=λa=>getItem a (.ref i)) r λK t=>d.ok λo=>d.zO _ (λA z p=>Vf s o p) λF F=>G.fN _ _
end
def d.then{a:G0}{f g r:Type}{m:D a.w}{e:Sem f}{p:D a.w->g->f->Prop}{q:D a.w->r->f->Prop}{j:ab g}{o:g->St->ab r}(s:d a e p m j)(k:∀i b h,m.To b->p b i h->d a (pure h) q b (o i b.st)):d a e q m (j.bind o):=
 d.eq (bind_pure e).symm (d.bind s k)
inductive BS{g:Wd}(m:D g)(b:Option Int×Option Int×Option Int):Value->Prop
 |mk (a:Addr) (d e f:Tok):m.s.heap.IsSlice a (b.1.map λc=>(c,d)) (b.2.1.map λc=>(c,e)) (b.2.2.map λc=>(c,f))->BS m b (.ref a)
section
variable{a:Fr}{m:D a.w}{e:Y}{c:Value}
def d.sS{b:Option Expr}(f:aF a m):d a.z (valueOrNone (evalOpt b a.b)) H0 m (wo a.r a.I b m.st):=by
 induction b using Option.casesOn with
 |none=>exact d.ret (a:=Value.none) ⟨default,rfl⟩
 |some b=>exact d.then f.E λe i c g r=>d.int (t:=λc=>Pure.pure c) r λh t=>d.ret ⟨t,rfl⟩
def d.w6{h i:Expr}{p:Pos}(f:aF a m):d a.z (eval (.Subscript h i p) a.b) b m (w6 a.r a.I h i m.st):=
 d.eq (arm_eval_Subscript ..) (d.bind f.E λe r c k j=>d.bind (d.bY (f.f k).E) λt s u g q=>d.ok λo=>d.bD (d.En (j.f g) o (d.tu (d.item (j.f g) q))))
def d.TG{p j q:Option Expr}{C:Pos}(f:aF a m):d a.z (eval (.Slice p j q C) a.b) BS m (FP a.r a.I p j q m.st):=
 d.eq (arm_eval_Slice ..) (d.bind (d.sS f) λo I c h ⟨r,y⟩=>d.bind (d.bY (d.sS (f.f h))) λw J K x ⟨t,z⟩=>d.bind (d.bY (d.sS ((f.f h).f x))) λi e L G ⟨u,A⟩=>by
  subst y z A;intro E H k F D B _;have g:s e e.st e.ρ {e.s with heap:=e.s.heap.push {cls:= .type "slice",data:= .fields #[partValue (o.map λb=>(b,r)),partValue (w.map λb=>(b,t)),partValue (i.map λb=>(b,u))]}}:=s.push rfl rfl rfl;exact o9 (B (o,w,i) g.pt _ g.f (.mk _ r t u ⟨_,cY _ rfl,rfl,rfl⟩) k))
def d.wU{f:Expr}{j i o:Option Expr}{t u:Pos}(g:aF a m):d a.z (eval (.Subscript f (.Slice j i o u) t) a.b) b m (wU a.r a.I f j i o m.st):=
 d.eq (arm_eval_Subscript ..) (d.bind g.E λe x c p k=>d.bind (d.bY (d.TG (g.f p))) λw y C h r=>d.ok λs=>d.bD (d.En (k.f h) s (d.tu (by obtain⟨f,z,A,B,q⟩:=r;exact d.Vg (k.f h) q))))
def d.uB{f:Expr}{c:Str}{i:Pos}(g:aF a m):d a.z (eval (.Attribute f c i) a.b) b m (uB a.T a.r a.I f c m.st):=
 d.bR λh=>d.eq ((arm_eval_Attribute ..).trans (by rw [GV h])) (d.bind g.E λe q t o j=>d.bD (d.h2 (d.bY (d.p3 j)) λs r u p k=>d.letGo k))
end
def uK(a:ay):Y->Bool
 | .d ai=>(da ai a.f6).isSome||(da ai a.cls).isSome
 | .bi _=>true
 | .ty _=>true
 |_=>false
def ga:List Expr->Bool
 |[]=>true
 |a::b=>cond (qb a) false (ga b)
noncomputable def GQ:List (Str×Bi):=[("startswith",.tr),("lower",.tp),("upper",.tt),("index",.tm),("find",.tl),("join",.tn),("split",.tq)]
noncomputable def E0:List (Str×Bi):=[("append",.so),("pop",.sp)]
noncomputable def C':List (Str×Bi):=[("pop",.rO)]
noncomputable def E5:Option AK->Option Nat
 |some (.ea cf)=>some cf
 |_=>none
def vI(e:ay)(c:Y)(d:Str)(b:St):ab (Y×List Y):= .v (vJ e b c) λa=> .bR a.1.ar<| .v (E5 (U d a.1.attrs)) λg=> .v ((gH b.objs a.2.2).bind ae.eC) λf=> .bR (U d f).isSome (.ret (.d g,[c]) b)
def Tj(e:ay)(c:Y)(d:Str)(b:St)(f:ae):ab (Y×List Y):=match f with
 | .c _=> .v (U d E0) λa=> .ret (.bi a,[c]) b
 | .dict _=> .v (U d C') λa=> .ret (.bi a,[c]) b
 |_=>vI e c d b
noncomputable def Ty.P7:Ty->Bool
 | .vd=>true
 |_=>false
def E4(c:ay)(h:Y)(b:Str)(a:St):ab (Y×List Y):=match h with
 | .str s=> .v (U b GQ) λe=> .ret (.bi e,[.str s]) a
 | .d al=> .v (da al c.cls) λr=> .v (U b r.AL) λf=> .ret (.d f,[]) a
 | .ty g=> .ok g.P7 (.ok (Fast.sEq b "__init__") (.ret (.bi .nQ,[]) a))
 | .obj d=> .v (gH a.objs d) (Tj c (.obj d) b a)
 |_=> .n
def Mr{d:Wd}(m:D d)(c:Y×List Y)(a:Value×List Value):Prop:=b m c.1 a.1/\bp m c.2 a.2
section
variable{c:Fr}{m:D c.w}{f e:Y}{x g:Value}
def QD(a:aC c.ag.hb c.T)(f:b m e g)(l:uK c.T e=true){ab:Model}(d:Heap)(i:c.ag.B d):∃k,(k=Keeper.frame\/k=Keeper.machine\/k=Keeper.boundFrame)/\Looks ab d (keeperOf g) k:=by
 induction e using Y.casesOn with
 |d ai=>
  cases f.bI;cases o:da ai c.T.f6 with
  |some q=>
   obtain⟨n,fd,_,_,_,r,s,_⟩:=(a.fn ai q o).a4;exact⟨.frame,.inl rfl,(j3 (part:=none) (i _ _ r)).andThen (s▸.now)⟩
  |none=>
   obtain⟨u,t⟩:=Option.isSome_iff_exists.mp ((Bool.or_eq_true_iff.mp l).resolve_left (by refine h (o ..) ?_;decide));exact keeps_K (h6 (a.cls ai u t)).b0 d λj n p=>i _ _ (a.K j n p)
 |bi j=>cases f.bI;exact⟨.machine,.inr (.inl rfl),.now⟩
 |ty v=>cases f.bI;exact⟨.machine,.inr (.inl rfl),.now⟩
 |_=>cases l
def Fz{b:Expr}{c:List Expr}(a:ga (b::c)=true):qb b=false/\ga c=true:=by
 have a:cond (qb b) false (ga c)=true:=a;induction d:qb b using Bool.casesOn with
 |true=>rw [d] at a;cases a
 |false=>rw [d] at a;exact⟨rfl,a⟩
def oo{pos:Pos}{env:Env}(a:List Expr):ga a=true->(backTo pos (starEach a env)).any (·.1)=false:=by
 induction a with
 |nil=>exactλe=>rfl
 |cons d a c=>exactλb=>by refine h (GL (Fz b).1 ..) ?_;exact c (Fz b).2
def y0{ab:Model}{b:Around}{f:Shared}{e:Value}{c:a8}{d:Args->Shared->Prop}{a:List (Bool×Sem Value)}(l:a.any (·.1)=false)(g:wpAny ab b (spliced a) (λj h=>d ⟨j,[]⟩ h) c f):wpAny ab b (evalArgs e true a []) d c f:=by
 rcases a with _|⟨⟨k,x⟩,bn⟩
 . unfold evalArgs;refine(?_:wpAny ab b (spliced []>>=_) d c f);exact i (wpAny_mono g (λj h m=>i (V (j1 (i (V (i (V (V m)))))))) λn n x=>x)
 . cases k with
   |false=>exact evalArgs_plain g
   |true=>cases l
def d.callWith{first:List Y}{j:List Value}{q:Pos}{a:List Expr}(i:aF c m)(r:b m e g)(B:bp m first j)(x:uK c.T e=true)(p:ga a=true):
  d c.z (callWith q g j (backTo q (starEach a c.b)) []) b m (.bind (Mine.Internal.e3 c.r c.I a m.st) λs D=>c.r.ag c.I.hd e (first++s) D):=by refineλF H k G E y o=>callWith_of (P:=c.ag.B) (by refine h (oo a p ..) ?_;rfl) (λu t=>QD c.F r x u t) (y0 (oo a p) (d.e3 a i _ _ k _ _ (λs A I f C z=>⟨A.O.cw,?_⟩) o));exact d.from (z:=c.z) f ((i.f f).ag (r.f f) (w.append C (B.f f))) z y o
def CE(c:ay)(r:O)(a:I)(e:Expr)(b:List Expr)(d:St):ab Y:= .ok (ga b) (.bind (r.E a e d) λf g=> .ok (uK c f) (.bind (e3 r a b g) λi h=>r.ag a.hd f i h))
def d.Jl{e:Expr}{g:List Expr}{a:Pos}(h:aF c m)(k:∀q x r,e≠.Attribute q x r):d c.z (eval (.Call e g [] a) c.b) b m (CE c.T c.r c.I e g m.st):=by
 refine d.ok λp=> ?_;have j:eval (.Call e g [] a) c.b=(do PySem.callWith a (<-eval e c.b) [] (backTo a (starEach g c.b)) (backToKw a (keywordEach [] c.b))):=by rcases e with⟨_,_,_⟩|⟨_,_,_⟩|⟨_,_,_,_⟩|⟨_,_,_⟩|⟨_,_,_,_⟩|⟨_,_,_,_⟩|⟨_,_,_⟩|⟨_,_,_⟩|⟨_,_,_,_⟩|⟨_,_,_,_⟩|⟨_,_,_,_,_⟩|⟨_,_,_,_⟩|⟨_,_⟩|⟨_,_⟩|⟨_,_⟩|⟨_,_,_,_⟩|⟨_,_,_,_⟩|⟨_,_,_,_⟩|⟨_,_⟩|⟨_,_,_⟩|⟨_,_,_⟩|⟨_,_,_⟩|⟨_,_⟩|⟨_,_⟩|⟨_,_⟩|⟨_,_,_⟩|⟨_,_,_,_⟩<;>first|rfl|exact absurd rfl (k _ _ _)
 exact d.eq j (d.bind h.E λf t x i s=>d.ok λo=>d.callWith (h.f i) s .cQ o p)
def jc{a:Shared}{i:Around}{f:Value}{Ty g:String}{x:Str}{b:Bi}{q:Sem Bool}{c:Value×List Value->Shared->Prop}{j:a8}{ab:Model}(m:a.TypeIs f Ty)(p:PlainAttrs Ty)(r:Slot Ty (Str.ofString g) b.id)(o:typeOf (.builtin b.id)=Pure.pure (.type "method_descriptor"))
  (n:∀d,f= .ref d->∃h,a.heap.get? d=some h/\h.dict=none) (k:x=Str.ofString g) {e:Bi} (s:e=b) (l:c (.builtin e.id,[f]) a):wpAny ab i (getMethod f x q) c j a:=by subst k s;exact getMethod_builtin m p r o n l
def jN{x:Str}{b:Bi}{p:Str×Bi}{d:List (Str×Bi)}{a:Prop}(f:x=p.1->b=p.2->a)(g:(x,b)∈d->a)(e:(x,b)∈p::d):a:=(List.mem_cons.mp e).elim (λc=>f (T (·.1) c) (T (·.2) c)) g
section
variable{b:Shared}{n:Around}{d:Value}{l:Str}{i:Bi}{t:Sem Bool}{h:Value×List Value->Shared->Prop}{q:a8}{s:Model}(a:∀ai,d= .ref ai->∃o,b.heap.get? ai=some o/\o.dict=none)
include a
def VG(f:b.TypeIs d "str")(k:U l GQ=some i)(g:h (.builtin i.id,[d]) b):wpAny s n (getMethod d l t) h q b:=
 jN (λc e=>jc (b:= .tr) f PySem.F.plainAttrs_str PySem.F.slot_str_startswith PySem.F.type_str_startswith a c e g) (
 jN (λc e=>jc (b:= .tp) f PySem.F.plainAttrs_str PySem.F.slot_str_lower PySem.F.type_str_lower a c e g) (
 jN (λc e=>jc (b:= .tt) f PySem.F.plainAttrs_str PySem.F.slot_str_upper PySem.F.type_str_upper a c e g) (
 jN (λc e=>jc (b:= .tm) f PySem.F.plainAttrs_str PySem.F.slot_str_index PySem.F.type_str_index a c e g) (
 jN (λc e=>jc (b:= .tl) f PySem.F.plainAttrs_str PySem.F.slot_str_find PySem.F.type_str_find a c e g) (
 jN (λc e=>jc (b:= .tn) f PySem.F.plainAttrs_str PySem.F.slot_str_join PySem.F.type_str_join a c e g) (
 jN (λc e=>jc (b:= .tq) f PySem.F.plainAttrs_str PySem.F.slot_str_split PySem.F.type_str_split a c e g) (λj=>absurd j cB))))))) (ss k)
def RC(f:b.TypeIs d "list")(k:U l E0=some i)(g:h (.builtin i.id,[d]) b):wpAny s n (getMethod d l t) h q b:=
 jN (λc e=>jc (b:= .so) f PySem.F.plainAttrs_list PySem.F.slot_list_append PySem.F.type_list_append a c e g) (
 jN (λc e=>jc (b:= .sp) f PySem.F.plainAttrs_list PySem.F.slot_list_pop PySem.F.type_list_pop a c e g) (λj=>absurd j cB)) (ss k)
def KQ(f:b.TypeIs d "dict")(j:U l C'=some i)(g:h (.builtin i.id,[d]) b):wpAny s n (getMethod d l t) h q b:=
 jN (λc k=>jc (b:= .rO) f PySem.F.plainAttrs_dict PySem.F.slot_dict_pop PySem.F.type_dict_pop a c k g) (λe=>absurd e cB) (ss j)
end
def NB:specialOf (.type "Exception") "__getattribute__"=Pure.pure (some (.builtin "type.__getattribute__")):=by kernel_rfl
def NC:typeOf (.type "Exception")=Pure.pure (.type "type"):=by kernel_rfl
def NA:opaqueClassAbove (.type "Exception")=Pure.pure none:=by kernel_rfl
def Nt{a:Shared}{c:Around}{k:Program}{l:World}{j:Sem Bool}{b:Value×List Value->Shared->Prop}{d:a8}(g:b (.builtin "Exception.__init__",[]) {a with toks:=a.toks+1}):wpAny (model k l) c (getMethod (.type "Exception") "__init__" j) b d a:=by
 have e:Frag.In [] a.heap:=λm n f=>by cases f
 unfold getMethod;refine i (wpAny_of_eq NB ?_);dsimp only;refine h (canon_tga ..) ?_;refine h (if_pos rfl ..) ?_;refine i (cls_open (K:=[]) (mc:= .type "type") (hook:=none) e (Looks.of_pure NA) (Looks.of_pure NC) (by decide+kernel) (.now) (by decide+kernel) (r:= .val (.builtin "Exception.__init__")) (by kernel_rfl) (V ?_));refine(?_:wpAny _ _ (handedOut _) _ _ _);refine h (handedOut_of (by decide+kernel)) ?_;exact V (V g)
def Sa{b:Option AK}{e:Nat}(a:E5 b=some e):b=some (.ea e):=by
 rcases b with _|_|c
 . cases a
 . cases a
 . exact T (λe=>some (AK.ea e)) (bw a)
def d.vI{a:Str}{D:Sem Bool}(r:b m f x):d c.z (getMethod x a D) Mr m (Mine.Internal.vI c.T f a m.st):=by refine d.v λ⟨P,q,M⟩ E=>d.bR λw=>d.v λe F=>d.v λN G=>d.bR λH=> ?_;obtain⟨K,L,O,j,u,k,_⟩:=zv r E;obtain⟨s,C,y,A,_⟩:=m.yH G u;obtain⟨o,t,B⟩:=A.lk (x:=a);have g:=h6 j;have i:(findIn c.T.K (.ref q) a==some (some (.ref e))&&isFn c.T.K (.ref e))=true:=g.a4 _ _ (Sa F);have p:o=none:=Option.not_isSome_iff_eq_none.mp (by refine h (B.isSome ..) ?_;refine h (H ..) ?_;decide);exact d.cV (λJ I z=>method_fn (c.In m) (k _ y) (yq j w).get g.Fy (beq_iff_eq.mp (cE i)) (beq_iff_eq.mp (eg i)) (by refine(?_:(lookIn a (W.dictOf s C)).map _=_);refine h (lookIn_dict ..) ?_;refine h (t ..) ?_;refine h (p ..) ?_;rfl) z) ⟨.oD e,.cI r .cQ⟩
def Vx{b:Frag}{d:Nat}{x:Str×Nat}(a:AJ b d x=true):findCls b (.ref d) (.type "type") x.1=some (.val (.ref x.2)):=by
 have a:=eg a;split at a
 . rename_i c e;exact beq_iff_eq.mp a▸e
 . cases a
set_option tactic.hygienic true in
def d.ea{q:Str}{D:Sem Bool}(r:b m f x):d c.z (getMethod x q D) Mr m (E4 c.T f q m.st):=by
 induction f using Y.casesOn with
 |str s=>
  obtain⟨u,rfl⟩:=r.bI;exact d.v λj i=>d.cV (λQ p g=>VG (λa k=>nomatch k) (typeIs_str m.s s u) i g) ⟨.kL j,.cI r .cQ⟩
 |d al=>
  cases r.bI;refine d.v λM i=>d.v λe E=> ?_;have t:=(h6 (c.F.cls _ _ i)).Vw _ _ E;have H:=eg (cE (cE t));have F:readsIn c.T.K al (.type "type")=true:=cE (cE (cE t));have I:findCls c.T.K (.ref al) (.type "type") q=some (.val (.ref e)):=Vx (x:=(q,e)) t;exact d.leaf (a:=(.ref e,[])) (k:=m.s.toks+1) (λQ p g=>method_cls (c.In m) (beq_iff_eq.mp H) (cls_value (Q:=λf=>Q (f,[])) (c.In m) F I rfl g)) ⟨G.oD e,.cQ⟩
 |ty u=>
  cases r.bI;refine d.ok λz=>d.ok λA=> ?_;cases u with
  |vd=>refine h (Fast.sEq_iff.mp A) ?_;exact d.leaf (λQ p g=>Nt g) ⟨.kL .nQ,.cQ⟩
  |_=>cases z
 |obj L=>
  obtain⟨a,y,rfl⟩:=r.bI;refine d.v λC i=> ?_;have w:=m.ru i y;cases C with
  |c N=>
   obtain⟨O,B,o,_⟩:=w;exact d.v λj i=>d.cV (λQ p g=>RC (λa k=>by cases k;exact⟨_,o,rfl⟩) ⟨_,o,rfl⟩ i g) ⟨.kL j,.cI r .cQ⟩
  |dict K=>
   obtain⟨J,B,o,_⟩:=w;exact d.v λj i=>d.cV (λQ p g=>KQ (λa k=>by cases k;exact⟨_,o,rfl⟩) ⟨_,o,rfl⟩ i g) ⟨.kL j,.cI r .cQ⟩
  |_=>exact d.vI r
 |_=>exact d.n
def E3(d:ay)(r:O)(b:I)(e:Expr)(x:Str)(g h:Pos)(c:List Expr)(i:St):ab Y:=
 .ok (ga c)<| .bR (zB e)<| .ok (Nat.blt (C c) 30)<| .ok (Nat.beq g.endLine h.line)<| .bind (r.E b e i) λf j=> .bind (E4 d f x j) λa k=> .ok (uK d a.1) (.bind (e3 r b c k) λm l=>r.ag b.hd a.1 (a.2++m) l)
def OD{env:Env}{a:List Expr}{pos:Pos}(b:ga a=true)(d:Nat.blt (C a) 30=true):methodCallForm (a.length+([]:List Keyword).length) (backTo pos (starEach a env)) (backToKw pos (keywordEach [] env))=true:=by
 have c:(backTo pos (starEach a env)).all (!·.1)=true:=List.all_eq_true.mpr λx e=>by
  induction f:x.1 using Bool.casesOn with
  |false=>rfl
  |true=>exact aA ((List.any_eq_true.mpr ⟨x,e,f⟩).symm.trans (oo (env:=env) (pos:=pos) a b))
 exact Bool.and_eq_true_iff.mpr ⟨Bool.and_eq_true_iff.mpr ⟨c,rfl⟩,iD (show a.length+0+0<30 from aZ a▸c8 d)⟩
def d.R9{a:Expr}{x:Str}{i:List Expr}{e pos:Pos}(g:aF c m):d c.z (eval (.Call (.Attribute a x e) i [] pos) c.b) b m (E3 c.T c.r c.I a x e pos i m.st):=by
 refine d.ok λj=>d.bR λs=>d.ok λu=>d.ok λw=> ?_;refine h (arm_eval_Call ..) ?_;refine h (GV s ..) ?_;refine d.bind g.E λf B E p y=>d.bD ?_;unfold methodCall;refine h (OD (env:=c.b) (pos:=pos) j u ..) ?_;have r:∀k,calleeOf true a c.b k x=getMethod k x (do return(<-importBound a c.b).getD true):=λD=>rfl;have e2:methodCallPos true a c.b e pos=Pure.pure pos:=by unfold methodCallPos;rw [show(e.endLine==pos.line)=true from beq_iff_eq.mpr (Nat.eq_of_beq_eq_true w)];rfl
 refine h (r ..) ?_;refine h (e2 ..) ?_;exact d.bind (d.bY (d.ea y)) λA C z q o=>d.ok λt=>d.qu (d.callWith ((g.f p).f q) o.1 o.2 t j)
end
def wa(b:I):List Str->List Y->St->ab Unit
 |[],a,st=>(match a with|[]=> .ret () st|_=> .n)
 |d::e,a,st=>(match a with|[]=> .n|aj::a=> .bind (om b d aj st) λf c=>wa b e a c)
noncomputable def Fx(a:Expr):Option (Str×Pos):=by
 induction a using Expr.casesOn with
 |Name c b=>exact some (c,b)
 |_=>exact none
def z5:List Expr->Option (List (Str×Pos))
 |[]=>some []
 |a::b=>(Fx a).bind λc=>(z5 b).map (c::·)
noncomputable def zh{a c:Type}:List (a×c)->List a
 |[]=>[]
 |p::b=>p.1::zh b
def OQ{c d:Type}(a:List (c×d)):zh a=a.map (·.1):=by
 induction a with
 |nil=>rfl
 |cons p a b=>exact T (p.1::·) b
noncomputable def wD{b:Type}:List b->List b->List b
 |[],a=>a
 |ai::c,a=>wD c (ai::a)
def F'{c:Type}(a:List c):∀b:List c,wD a b=a.reverse++b:=by
 induction a with
 |nil=>exactλe=>rfl
 |cons ai a d=>exactλb=>(d _).trans (by refine h (xF ..) ?_;refine h (jX ..) ?_;rfl)
noncomputable def kK(a:I):Bool:=match a.hd with
 |none=>true
 |some _=>false
def uC(a:ay)(r:O)(b:I)(c:Expr)(h:Str)(g:Y)(d:St):ab Unit:= .bind (r.E b c d) λf e=>qE a f h g e
def w7(r:O)(a:I)(c b:Expr)(h:Y)(d:St):ab Unit:= .bind (r.E a c d) λg e=> .bind (r.E a b e) λi f=>qF g i h f
def xh(a:I)(b:List Expr)(f:Y)(e:St):ab Unit:= .v (z5 b) λd=> .v (kR f) λc=> .ok (kK a) (.ok (Nat.beq (C c) (C b)) (wa a (zh d) c e))
def po(f:ay)(r:O)(a:I)(i:Expr)(c:Y)(b:St):ab Unit:=by
 induction i using Expr.casesOn with
 |Name e _=>exact om a e c b
 |Attribute d e _=>exact uC f r a d e c b
 |Subscript d h _=>exact w7 r a d h c b
 |Tuple g _ _=>exact xh a g c b
 |_=>exact .n
noncomputable def jn(a:Scope):Env:={scope:=a,locals:=0,globals:=0,cells:=[]}
noncomputable def Et(a:Expr):Bool:=cond (Nat.ble 8 a.ctorIdx) (Nat.ble a.ctorIdx 10) false
def nw{a:au}{e:ay}(d:aC a.hb e){b:Heap}(c:a.B b):a.n0<=b.objs.size:=by refine(?_:a.hb.objs.size<=_);obtain⟨k,h,f,g⟩:=d.vX;rw [f];exact dk (c _ _ g)
section
variable{g:Fr}{m:D g.w}{a:Y}{c:Value}
def s.keeps{m:D g.w}{e:Shared}(k:∀(b:Addr)(a:Obj),m.s.heap.get? b=some a->e.heap.get? b=some a) (p:e.gens=m.s.gens) (q:e.os=m.s.os):s m m.st m.ρ e:=
 s.qi ⟨λd=>nw g.F λb a c=>k b a (m.O.cw b a c),λb a c=>⟨a,k b a c⟩,λi o=>by obtain⟨a,c⟩:=(m.O.dt i o).has;refine h (c ..) ?_;exact k i a c,λr d m j=>j.keeps k,λb a c d d d=>k b a c,λb a t c l n=> .same (k b a c) l n,λb a d c=>k b a c⟩ p q
def In0.handled(e:In0 g m)(b:kK g.I=true):g.ak.handled=none:=by
 have c:=e.hd;unfold kK at b;induction d:g.I.hd using Option.casesOn with
 |none=>rw [d] at c;exact c
 |some a=>rw [d] at b;cases b
def d.names{o:Type}{nm:o->Str}{f:o->Value->Sem Unit}(x:∀e{m:D g.w}{a w},In0 g m->b m a w->d g.z (f e w) Tt m (om g.I (nm e) a m.st)) (i:List o):∀{m:D g.w}{h:List Y}{j:List Value},In0 g m->bp m h j->d g.z (assignInOrder (i.map f) j) Tt m (wa g.I (i.map nm) h m.st):=by
 induction i with
 |nil=>
  intro m h j k r;rcases r with _|⟨q,s⟩
  . exact d.ret u
  . exact d.n
 |cons e i y=>
  intro m h j k r;rcases r with _|⟨q,s⟩
  . exact d.n
  . exact d.bind (d.bY (x e k q)) λt z t p t=>y (k.f p) (bp.f s p)
def d.unpack{t u:Type}{r:D g.w->u->t->Prop}{f:ab u}{h:List Y}{b:List Value}{j:Addr}{G k:Nat}{p:List Value->Sem t}(B:g.ak.handled=none)(A:m.s.heap.get? j=some (dQ b G))(q:bp m h b)(C:k=h.length)(x:∀e,m.To e->e.st=m.st->bp e h b->d g.z (p b) r e f):d g.z (unpackItems (.ref j) k none>>=p) r m f:=by obtain rfl:k=b.toArray.size:=C.trans q.length.symm;refineλI K c J H E z=>i (wpAny_unpackItems_tuple B ⟨_,A,rfl,_,rfl⟩ λy F=> ?_);have a:s m m.st m.ρ {m.s with heap:=y}:=s.keeps (λw f o=>F w f (gl (dk o)) o) rfl rfl;exact d.from (z:=g.z) (aG:=a.pt) a.f (x a.pt a.f rfl (q.f (aG:=a.pt) a.f)) c E z
def d.PN{t u:Type}{r:D g.w->u->t->Prop}{f:ab u}{h:List Y}{b:List Value}{j:Addr}{G k:Nat}{H:List Value}{p:List Value->Sem t}(B:g.ak.handled=none)(A:m.s.heap.get? j=some (dQ b G))(q:bp m h b)(C:k=h.length)(x:∀e,m.To e->e.st=m.st->bp e h b->d g.z (p b) r e f):d g.z (holding H (unpackItems (.ref j) k none)>>=p) r m f:=by obtain rfl:k=b.toArray.size:=C.trans q.length.symm;refineλJ L c K I E z=>i (j1 (wpAny_unpackItems_tuple B ⟨_,A,rfl,_,rfl⟩ λy F=> ?_));have a:s m m.st m.ρ {m.s with heap:=y}:=s.keeps (λw f o=>F w f (gl (dk o)) o) rfl rfl;exact d.from (z:=g.z) (aG:=a.pt) a.f (x a.pt a.f rfl (q.f (aG:=a.pt) a.f)) c E z
def S7{a:Expr}{c:Str×Pos}(b:Fx a=some c):a= .Name c.1 c.2:=by
 induction a using Expr.casesOn with
 |Name c d=>exact bw b▸rfl
 |_=>exact aA (T Option.isSome b)
def SF{env:Env}(b:List Expr):∀{e:List (Str×Pos)},z5 b=some e->assignEach b env=e.map (λh=>(false,λa=>do standAt h.2;bindName env h.1 a))/\e.length=b.length:=by
 induction b with
 |nil=>exactλd=>bw d▸⟨rfl,rfl⟩
 |cons j b g=>
  intro e d;obtain⟨c,i,d⟩:=Option.bind_eq_some_iff.mp d;obtain⟨k,f,rfl⟩:=Option.map_eq_some_iff.mp d;cases S7 i;exact⟨T (_::·) (g f).1,T Nat.succ (g f).2⟩
def d.uC{e:Expr}{c:Str}{o:Pos}{h:Value}(i:aF g m)(r:b m a h):d g.z (PySem.assign (.Attribute e c o) g.b h) Tt m (uC g.T g.r g.I e c a m.st):=
 d.eq (arm_assign_Attribute ..) (d.bind (d.bY i.E) λy w c j p=>d.bD (d.h2 (d.bY (d.qE p (r.f j))) λf x f t f=>d.cV (λs q k=>wpAny_release k) u))
def d.w7{j i:Expr}{q:Pos}{o:Value}(e:aF g m)(r:b m a o):d g.z (PySem.assign (.Subscript j i q) g.b o) Tt m (w7 g.r g.I j i a m.st):=
 d.eq (arm_assign_Subscript ..) (d.bind (d.bY e.E) λC z c f s=>d.bind (d.bY (e.f f).E) λD A E h t=>d.bD (d.h2 (d.bY (d.setItem (s.f h) t ((r.f f).f h))) λk B k y k=>d.cV (λx w p=>wpAny_release p) u))
def d.xh{f:List Expr}{k:Nat}{p:Pos}{j:Value}(i:In0 g m)(r:b m a j):d g.z (PySem.assign (.Tuple f k p) g.b j) Tt m (xh g.I f a m.st):=
 d.v λq e=>d.l (t:=λj=>PySem.assign (.Tuple f k p) g.b j) r λE F J I x B=>d.ok λy=>d.ok λz=>by
  have A:E.length=f.length:=by refine ba (aZ ..) ?_;refine ba (aZ ..) ?_;exact dR z
  have o:=SF (env:=g.b) f e;refine h (arm_assign_Tuple ..) ?_;unfold PySem.unpack;have w:(q.map (λe=>(false,λa=>do standAt e.2;bindName g.b e.1 a))).findIdx? (·.1)=none:=List.findIdx?_eq_none_iff.mpr λc D=>by obtain⟨e,_,rfl⟩:=List.mem_map.mp D;rfl
  refine h (o.1 ..) ?_;refine h (w ..) ?_;refine d.bD (d.PN (i.handled y) x B (by rw [List.length_map,o.2,A]) λH t u C=> ?_);refine h (List.map_map ..) ?_;refine h (OQ ..) ?_;refine ba (u ..) ?_;exact d.names (nm:=λe=>e.1) (f:=λ(e:Str×Pos) a=>do standAt e.2;bindName g.b e.1 a) (λG{s s s} i r=>d.bD (d.mL i r)) q (i.f t) C
def d.assign(h:Expr){i:Value}(e:aF g m)(r:b m a i):d g.z (PySem.assign h g.b i) Tt m (po g.T g.r g.I h a m.st):=by
 induction h using Expr.casesOn with
 |Name c f=>exact d.eq (arm_assign_Name ..) (d.bD (d.mL e.toIn0 r))
 |Attribute j c f=>exact d.uC e r
 |Subscript j o f=>exact d.w7 e r
 |Tuple k al f=>exact d.xh e.toIn0 r
 |_=>exact d.n
end
def VT{a:Expr}{e:Option Expr}{d:Nat}{b:Env}:Et a=false->swapsWith a e d b=Pure.pure false:=by induction a using Expr.casesOn<;>first|exactλf=>rfl|exactλc=>aA (c)
def VS(c:List Expr)(a:Expr)(b:Env):swappedStores c a b=swappedStores c a (jn b.scope):=rfl
def w.s5{c:List Addr}{d:Heap}{e:List Addr}{a:List Y}{b:List Value}(r:w c d e a b):w c d e a.reverse b.reverse:=
 w.gF (P:=λa b=>w c d e a.reverse b.reverse) .cQ (λf i g=>by refine h (xF ..) ?_;refine h (xF ..) ?_;exact w.append (.cI f .cQ) g) r
def toNext(a:ab Unit):ab bg:= .bind a λc b=> .ret .next b
def VR(a:I)(b:List Str)(e:Y)(d:St):ab Unit:= .v (kR e) λc=> .ok (kK a) (.ok (Nat.beq (C c) (C b)) (wa a (wD b []) (wD c []) d))
def AO(d:ay)(r:O)(a:I)(h:Expr)(c:Y)(b:St)(g:Sem (Option (List Str))):ab bg:=by
 induction g using Sem.casesOn with
 |pure f=>exact f.elim (toNext (po d r a h c b)) λe=>toNext (VR a e c b)
 |_=>exact .n
def wO(d:ay)(r:O)(a:I)(b c:Expr)(e:St):ab bg:= .bind (r.E a c e) λg f=>AO d r a b g f (swappedStores [b] c (jn a.sc))
section
variable{a:Fr}{m:D a.w}{c:Y}{b:Value}
def d.next{f:Sem Unit}{e:ab Unit}(g:d a.z f Tt m e):d a.z (f>>=λb=>Pure.pure Flow.next) b9 m (toNext e):=d.bind g λb h b b b=>d.ret (b:=bg.next) u
def Ii(a:Expr)(b:Env)(d:ay)(r:O)(e:I)(c:Y)(f:St):(assignEach [a] b).map (·.2)=[PySem.assign a b]\/po d r e a c f= .n:=by induction a using Expr.casesOn<;>first|exact .inl rfl|exact .inr rfl
def d.wO{t f:Expr}{s:Pos}(i:aF a m)(E:swapsWith f (some t) s.line a.b=Pure.pure false):d a.z (exec (.Assign [t] f s) a.b) b9 m (Mine.Internal.wO a.T a.r a.I t f m.st):=by
 refine h (arm_exec_Assign ..) ?_;refine h (show swapsWithSole [t] f s.line a.b=Pure.pure false from E) ?_;refine d.bD (d.qu (d.bind i.E λc q b x u=> ?_));refine h (VS ..) ?_;refine h (a.iV ..) ?_;have o:=i.f x;generalize swappedStores [t] f (jn a.I.sc)=F;rcases F with(_|names)|_
 . refine d.qu ?_;rcases Ii t a.b a.T a.r a.I c q.st with e|e
   . rw [e];exact d.next (d.assign t o u)
   . refine(?_:d a.z _ b9 q (toNext (po a.T a.r a.I t c q.st)));rw [e];exactλH I k=>False.elim k
 . refine d.qu (d.eq (t':=(PySem.rule "assign.swapped-stores">>=λg=>unpackItems b names.length none>>=λp=>assignInOrder (names.reverse.map λj=>bindName a.b j) p.reverse)>>=λg=>Pure.pure Flow.next) (by simp only [bind_assoc];rfl) (d.next ?_));refine d.l (t:=λb=>PySem.rule "assign.swapped-stores">>=λg=>unpackItems b names.length none>>=λp=>assignInOrder (names.reverse.map λj=>bindName a.b j) p.reverse) u λG J M j z C=>d.ok λA=>d.ok λB=>d.rule ?_;refine d.unpack (o.handled A) z C (((aZ G).symm.trans (dR B)).trans (aZ names)).symm λL w e D=> ?_;refine h (F' ..) ?_;refine h (F' ..) ?_;refine h (et ..) ?_;refine h (et ..) ?_;refine ba (e ..) ?_;have y:=d.names (nm:=λb=>b) (f:=λb c=>bindName a.b b c) (λK{g g g} i r=>d.mL i r) names.reverse (o.f w).toIn0 D.s5;rwa [List.map_id'] at y
 all_goals exact d.n
end
def l'(e:Operator)(b c:Y)(d:St):ab Y:=match e with
 | .Add=> .int b λa=> .int c λj=> .ret (.int (a+j)) d
 | .Sub=> .int b λa=> .int c λj=> .ret (.int (a-j)) d
 |_=> .n
noncomputable def ju:Option NameKind->Bool
 |some .local=>true
 |_=>false
def Fm(c:I)(b:Str)(a:St):ab Y:= .ok (ju (U b c.sc.names)) (.v (U b a.d) λd=> .ret d a)
def uE(r:O)(a:I)(b:Str)(d:Operator)(c:Expr)(e:St):ab bg:= .bind (Fm a b e) λj f=> .bind (r.E a c f) λi g=> .bind (l' d j i g) λk h=>toNext (om a b k h)
def uD(a:ay)(r:O)(b:I)(f:Expr)(d:Str)(g:Operator)(e:Expr)(h:St):ab bg:= .bind (r.E b f h) λc i=> .bind (.bind (p3 a c d i) λm j=> .bind (r.E b e j) λn k=>l' g m n k) λo l=>toNext (qE a c d o l)
noncomputable def Qa(a:Expr):Bool:=Nat.beq a.ctorIdx 26
def uF(r:O)(a:I)(e b:Expr)(f:Operator)(d:Expr)(g:St):ab bg:= .bR (Qa b)<| .bind (r.E a e g) λc h=> .bind (r.E a b h) λk i=> .bind (.bind (zE c k i) λn j=> .bind (r.E a d j) λo l=>l' f n o l) λp m=>toNext (qF c k p m)
def ve(r:O)(b:I)(a:Expr)(c:St):ab bg:= .bR (Et a) (.bind (r.E b a c) λe d=> .ret .next d)
def F9(r:O)(a:I)(b:Expr)(c:St):ab bg:= .map bg.ret (r.E a b c)
def Ij(g:ay)(r:O)(a:I)(i:Expr)(d:Operator)(b:Expr)(e:St):ab bg:=by
 induction i using Expr.casesOn with
 |Name f _=>exact uE r a f d b e
 |Attribute c f _=>exact uD g r a c f d b e
 |Subscript c h _=>exact uF r a c h d b e
 |_=>exact .n
def w3(e:ay)(r:O)(c:I)(f:Stmt)(b:St):ab bg:=by
 induction f using Stmt.casesOn with
 |Expr a _=>exact ve r c a b
 |Pass _=>exact .ret .next b
 |Break _=>exact .ret .brk b
 |Continue _=>exact .ret .cont b
 |Return a _=>exact a.elim (.ret (.ret .none) b) λa=>F9 r c a b
 |AugAssign d op a _=>exact Ij e r c d op a b
 |If d ah a _=>exact lZ r c d b (cU r c ah) (cU r c a)
 |_=>exact .n
section
variable{a:Fr}{m:D a.w}{e g:Y}{c f:Value}
def d.l'{i:Operator}(k:b m e c)(o:b m g f):d a.z (inplaceOp i c f) b m (Mine.Internal.l' i e g m.st):=by
 induction i using Operator.casesOn with
 |Add=>exact d.il (t:=λc f=>inplaceOp .Add c f) k o λr g j s=>d.leaf (λq p h=>PySem.P.iadd_int h) (G.dO _ _)
 |Sub=>exact d.il (t:=λc f=>inplaceOp .Sub c f) k o λr g j s=>d.leaf (λq p h=>PySem.P.isub_int h) (G.dO _ _)
 |_=>exact d.n
def vN{a:Option NameKind}(b:ju a=true):a=some .local:=by
 rcases a with _|k
 . cases b
 . cases k<;>first|rfl|cases b
def d.Rq{c:Str}:d a.z (loadName a.b c) b m (Fm a.I c m.st):=
 d.ok λo=>d.v λe p=>by
  obtain⟨s,g,k⟩:=m.O.d a.b.locals (bf a.aq) rfl;obtain⟨f,h,i⟩:=k c e p;exact d.cV (λr q j=>wpAny_loadName_local a.p0 (a.oj (vN o)) g h j) i
def d.drop{g:Expr}{h:Pos}{c:Value}:d a.z (dropValue g h c) b9 m (.ret .next m.st):=by
 refine d.cV (a:=Flow.next) (λf e b=> ?_) u;have j:wpAny a.z.ab a.z.ak (match c with| .ref _=>(do standAt h;let _<-runValue (.builtin "proto.let_go" {});Pure.pure .next:Sem Flow)|_=>Pure.pure .next) f e m.s:=by
  induction c using Value.casesOn with
  |ref _=>exact i (j0 (i (wpAny_runValue (codeAny_builtin entry_let_go (show wpAny _ _ (PySem.ret .none) _ _ m.s from V (V b))))))
  |_=>exact V b
 induction g using Expr.casesOn with
 |Name _ _=>exact V b
 |_=>exact(T (wpAny a.z.ab a.z.ak · f e m.s) (by kernel_rfl)).mp j
def d.uE{c:Str}{q p:Pos}{k:Operator}{j:Expr}(b:aF a m):d a.z (exec (.AugAssign (.Name c q) k j p) a.b) b9 m (uE a.r a.I c k j m.st):=
 d.eq (arm_exec_AugAssign ..) (d.bD (d.bind d.Rq λe u f h r=>d.bind (d.bY (b.f h).E) λg w z i s=>d.bD (d.bind (d.ov (d.l' (r.f i) s)) λy x A o t=>d.bD (d.next (d.mL (((b.f h).f i).f o).toIn0 t)))))
def d.uD{o:Expr}{c:Str}{y x:Pos}{p:Operator}{k:Expr}(j:aF a m):d a.z (exec (.AugAssign (.Attribute o c y) p k x) a.b) b9 m (uD a.T a.r a.I o c p k m.st):=
 d.eq (arm_exec_AugAssign_2 ..) (d.bD (d.bind j.E λg C f r q=>d.bind (d.bY (d.bD (d.bind (d.p3 q) λe t A b h=>d.bind (d.bY ((j.f r).f b).E) λD w E s z=>d.bD (d.ov (d.l' (h.f s) z))))) λA t B b h=>d.bD (d.bind (d.bY (d.qE (q.f b) h)) λi w i i i=>d.release (d.ret (b:=bg.next) u))))
def d.uF{x j:Expr}{I H:Pos}{y:Operator}{w:Expr}(q:aF a m):d a.z (exec (.AugAssign (.Subscript x j I) y w H) a.b) b9 m (uF a.r a.I x j y w m.st):=
 d.bR λE=>d.eq (arm_exec_AugAssign_3 ..) (d.bD (d.bind q.E λg L f t z=>d.bind (d.bY (q.f t).E) λk M p r A=>d.bind (d.bY (d.bD (d.bind (d.item (z.f r) A) λe F K b s=>d.bind (d.bY (((q.f t).f r).f b).E) λN G O B J=>d.bD (d.ov (d.l' (s.f B) J))))) λK F i b s=>by
  have C:augStore j f p i=(do holding [i,f,p] (PySem.setItem f p i);PySem.release [i,f,p] [];Pure.pure .next):=by revert E;induction j using Expr.casesOn<;>first|exactλo=>rfl|exactλD=>aA (D)
  refine h (C ..) ?_;exact d.bD (d.bind (d.bY (d.setItem ((z.f r).f b) (A.f b) s)) λo G o o o=>d.release (d.ret (b:=bg.next) u))))
def d.ve{b:Expr}{j:Pos}(f:aF a m):d a.z (exec (.Expr b j) a.b) b9 m (ve a.r a.I b m.st):=by
 refine d.bR λg=> ?_;have i:interactive a.b=false:=by unfold interactive;refine h (a.iV ..) ?_;refine h (a.kind ..) ?_;rfl
 refine h (arm_exec_Expr ..) ?_;refine h (i ..) ?_;refine h (VT g ..) ?_;exact d.bD (d.qu (d.bind f.E λe o c k p=>d.drop))
def d.Un{b:Expr}(f:aF a m):d a.z (eval b a.b>>=λe=>Pure.pure (Flow.ret e)) b9 m (F9 a.r a.I b m.st):=d.bind (o':=λe h=>ab.ret (bg.ret e) h) f.E λe j c i g=>d.ret (b:=bg.ret e) g
def d.w3(b:aF a m)(g:Stmt):d a.z (exec g a.b) b9 m (w3 a.T a.r a.I g m.st):=by
 induction g using Stmt.casesOn with
 |Expr f e=>exact d.ve b
 |Pass e=>exact d.eq (arm_exec_Pass ..) (d.bD (d.ret (b:=bg.next) u))
 |Break e=>exact d.eq (arm_exec_Break ..) (d.bD (d.ret (b:=bg.brk) u))
 |Continue e=>exact d.eq (arm_exec_Continue ..) (d.bD (d.ret (b:=bg.cont) u))
 |Return f e=>
  rcases f with _|f
  . exact d.eq (arm_exec_Return ..) (d.bD (d.ret (b:=bg.ret .none) G.iw))
  . exact d.eq (arm_exec_Return ..) (d.bD (d.Un b))
 |AugAssign h op f e=>
  induction h using Expr.casesOn with
  |Name c e=>exact d.uE b
  |Attribute i c e=>exact d.uD b
  |Subscript i j e=>exact d.uF b
  |_=>exact d.n
 |If h ah f e=>exact d.eq (arm_exec_If ..) (d.bD (d.lZ b (λb=>d.execs ah b) λb=>d.execs f b))
 |_=>exact d.n
end
noncomputable def pL{c:Type}(a:Str):List (Str×c)->List (Str×c)
 |[]=>[]
 |p::b=>cond (Fast.sEq p.1 a) (pL a b) (p::pL a b)
def rL(b:Str)(a:St):St:=⟨a.objs,pL b a.d⟩
def vO(a:I)(b:Str):Bool:=ju (U b a.sc.names)
noncomputable def p5(a:Nat):List Nat->Bool
 |[]=>false
 |c::b=>cond (Nat.beq c a) true (p5 a b)
noncomputable def ae.Nr:ae->Option Nat
 | .ar al _ _ _ _=>some al
 |_=>none
noncomputable def Y.Rr:Y->Option Nat
 | .d ai=>some ai
 |_=>Option.none
noncomputable def Y.Ti:Y->Option Nat
 | .obj ai=>some ai
 |_=>Option.none
def y1(a:ay)(b:Nat):Option eX:=(da b a.cls).bind λr=>cond r.ar (some r) none
def rU(b:ay)(f:Y)(e:St):Option (Nat×eX):=f.Ti.bind λc=>(t e.objs c).bind λd=>d.Nr.bind λa=>(y1 b a).map λr=>(a,r)
def vc(a:ay)(f e:Y)(d:St):Option Bool:=(rU a f d).bind λc=>e.Rr.bind λb=>(y1 a b).map λg=>p5 b c.2.mro
noncomputable abbrev sf(a:I)(b:Y):I:=⟨a.sc,some b,a.cells⟩
def AS(r:O)(c:I)(e:Y)(k:Option Str)(h:List Stmt)(d:St)(f:Q)(g:af):Prop:=match k with
 |none=>(cU r (sf c e) h d).A f (bT g)
 |some a=>cond (vO c a) ((cU r (sf c e) h ⟨d.objs,aO a e d.d⟩).A (λj b=>f j (rL a b)) (bT λi b=>cond (d0 i (rL a b)) (g i (rL a b)) False)) False
def sd(g:ay)(r:O)(d:I)(a:Y)(f:Q)(c:af):List ExceptHandler->St->Prop
 |[],st=>cond (d0 a st) (c a st) False
 |h::bn,st=>match h with
  | .ExceptHandler e name body _=>match e with
   |none=>False
   |some e=>match body with
    |[]=>False
    |ah::body=>(r.E (sf d a) e st).A (λi b=>match vc g a i b with
     |some al=>cond al (cond (d0 a b) (AS r d a name (ah::body) b f c) False) (sd g r d a f c bn b)
     |none=>False) (λj j=>False)
def yV(r:O)(e:I)(f:List Stmt)(b:Q)(d:af):Q:=λa c=>match a with
 | .next=>(cU r e f c).A b d
 |a=>b a c
def zX(g:ay)(r:O)(b:I)(h:List Stmt)(d:List ExceptHandler)(i:List Stmt)(j:St)(c:Q)(a:af):Prop:=
 (cU r b h j).A (yV r b i c a) (bT λf e=>match d with|[]=>a f e|_=>sd g r b f c a d e)
def we(a:St->Prop):Q:=λb c=>match b with
 | .next=>a c
 |_=>False
def r0(r:O)(c:I)(e:List Stmt)(a:Q)(b:af):Q:=λd f=>(cU r c e f).A (we (a d)) (bT b)
def r1(r:O)(d:I)(e:List Stmt)(b:af):af:=bT λa f=>(cU r (sf d a) e f).A (we λc=>cond (d0 a c) (b a c) False) (bT b)
def Hb(e:ay)(r:O)(a:I)(f:List Stmt)(g:List ExceptHandler)(h c:List Stmt)(i:St)(d:Q)(b:af):Prop:=match c with
 |[]=>zX e r a f g h i d b
 |_=>zX e r a f g h i (r0 r a c d b) (r1 r a c b)
def K9{j:Type}{c d:Str}{b:List (Str×j)}{g:j}:U d (pL c b)=some g->U d b=some g/\d≠c:=by
 induction b with
 |nil=>exactλa=>nomatch a
 |cons p b i=>
  obtain⟨k,m⟩:=p;intro a;have a:U d (cond (Fast.sEq k c) (pL c b) ((k,m)::pL c b))=some g:=a;by_cases f:k=c
  . rw [f,ta] at a;refine And.elim (λl h=> ?_) (i a);exact⟨(en (f▸i7 h)).trans l,h⟩
  . rw [s9 f] at a;by_cases e:k=d
    . exact⟨(e5 e).trans ((e5 e).symm.trans a),e▸f⟩
    . exact(i ((en e).symm.trans a)).imp (en e).trans id
def Pm(b:Nat)(a:List Nat):p5 b a=a.contains b:=by
 induction a with
 |nil=>rfl
 |cons e a d=>
  refine(?_:cond (Nat.beq e b) true (p5 b a)=_);refine h (List.contains_cons ..) ?_;refine h (d ..) ?_;refine h (Bool.cond_true_left ..) ?_
  congr 1
  exact Bool.eq_iff_iff.mpr ⟨λc=>beq_iff_eq.mpr (dR c).symm,λc=>beq_iff_eq.mp c▸mY _⟩
def cond_true{a:Bool}{b:Prop}(c:cond a b False):a=true/\b:=by
 rcases a with _|_
 . exact False.elim c
 . exact⟨rfl,c⟩
def Kc{e:Type}{a:Bool}{c d:e}(b:cond a (some c) none=some d):a=true/\c=d:=by
 rcases a with _|_
 . cases b
 . exact⟨rfl,bw b⟩
def y2{b:ay}{c:Nat}{a:eX}(d:y1 b c=some a):da c b.cls=some a/\a.ar=true:=by obtain⟨r,e,f⟩:=bind_some d;obtain⟨g,rfl⟩:=Kc f;exact⟨e,g⟩
inductive um{i:Wd}(m:D i)(f:ay)(b c:Nat)(e:eX):Value->Prop
 |mk (a:Addr) (d:Option Nat) (args:List Y) (h g:Bool):m.ρ[b]?=some a->t m.st.objs b=some (.ar c d args h g)->nj i.ag.fz m.s.heap m.ρ a c d args h g->da c f.cls=some e->e.ar=true->um m f b c e (.ref a)
def y3{u:Wd}{m:D u}{f:ay}{d:Y}{o:Value}{e:Nat}{n:eX}(r:b m d o)(a:rU f d m.st=some (e,n)):∃c,d= .obj c/\um m f c e n o:=by
 obtain⟨c,g,a⟩:=bind_some a;obtain⟨s,k,a⟩:=bind_some a;obtain⟨v,h,a⟩:=bind_some a;obtain⟨w,l,a⟩:=Option.map_eq_some_iff.mp a;cases a;induction d using Y.casesOn with
 |obj j=>
  cases g;obtain⟨p,i,rfl⟩:=r.bI;induction s using ae.casesOn with
  |ar e ap args t q=>cases h;exact⟨c,rfl,.mk p ap args t q i k (m.at k i) (y2 l).1 (y2 l).2⟩
  |_=>cases h
 |_=>cases g
section
variable{g:Fr}{m:D g.w}{c:Y}{a:Value}{f:Around}{e:a8}
def nX{n:Option Addr}{j:Unit->Shared->Prop}(r:b m c a)(o:d0 c m.st=true)(p:∀i,m.To i->i.st=m.st->j () i.s):wpAny g.z.ab f (PySem.setFlight a n) j e m.s:=
 d.vm (z:=g.za f) (m:=m) r o (λh q=>q=m.st) (λh h=>False) rfl _ _ (λh i h l h k=>p i l k) λh h h h h z=>False.elim z
def Jw(r:b m c a)(j:d0 c m.st=true)(l:∀d,m.To d->d.st=m.st->e a d.s):cameBackBy g.z.ab f g.b e a m.s:=by refine i (vl r j λk=> ?_);refine h (show(Value.ref k==Value.none)=false from rfl) ?_;refine h (if_neg (by decide)) ?_;exact nX r j l
def Ai{k:Type}{s:String}{l:k->Shared->Prop}(r:b m c a)(j:d0 c m.st=true)(q:∀d,m.To d->d.st=m.st->e a d.s):wpAny g.z.ab f (PySem.passOn s a g.b:Sem k) l e m.s:=by refine i (vl r j λo=> ?_);refine h (show(Value.ref o==Value.none)=false from rfl) ?_;refine h (if_neg (by decide)) ?_;exact i (nX r j λd n p=>q4 (q d n p))
def Fr.mark(g:Fr)(a:Value)(c:Y):Fr:={g with ak:=g.ak.mark (some a),I:=sf g.I c,iV:=g.iV,kind:=g.kind,frames:=g.frames,depth:=g.depth,units:=g.units}
def aF.mark(d:aF g m)(r:b m c a):aF (g.mark a c) m:=⟨⟨d.cells,⟨a,rfl,r⟩⟩,d.hS⟩
def d.exec{t:Y}{C:Value}{w:Bool}(r:b m c a)(T:b m t C)(k:vc g.T c t m.st=some w){u:Bool->Shared->Prop}(z:u w m.s):wpAny g.z.ab f (excMatches a C) u e m.s:=by
 refine aS λD q=> ?_;obtain⟨⟨x,B⟩,M,k⟩:=bind_some k;obtain⟨j,e2,k⟩:=bind_some k;obtain⟨XM,N,rfl⟩:=Option.map_eq_some_iff.mp k;obtain⟨XG,rfl,L,XD,U,XO,Z,XF,XK,K,Q,R⟩:=y3 r M;obtain⟨XJ,XN,XQ,XC,XH,XR,XI,XE,O,_⟩:=K;refine q ?_;induction t using Y.casesOn with
 |d W=>
  cases e2;cases T.bI;obtain⟨S,A⟩:=y2 N;have s:=g.F.cls _ _ S;have o:=g.In m;have E:Looks g.z.ab m.s.heap (isInstance (.ref j) (.type "tuple")) false:=looks_instIn o (pB s A).l;have G:Looks g.z.ab m.s.heap (isSubtype (.ref j) (.type "BaseException")) true:=q3 o (pB s A).cw;have H:Looks g.z.ab m.s.heap (typeOf (.ref L)) (.ref x):=(j3 O).andThen .now;have I:Looks g.z.ab m.s.heap (isSubtype (.ref x) (.ref j)) (p5 j B.mro):=q3 o (by refine h (Pm ..) ?_;exact(pB (g.F.cls _ _ Q) R).mro j);have F:Looks g.z.ab m.s.heap (isType (.ref j)) true:=by
   refine aS λD q=> ?_;obtain⟨X,p,_⟩:=(h6 s).mro;refine q ?_;unfold clsIn at p;split at p
   . rename_i P;exact(j3 (o _ _ P)).andThen .now
   . cases p
  have J:Looks g.z.ab m.s.heap (isExcClass (.ref j)) true:=F.andThen G;unfold excMatches;refine i (E.here (i (V ?_)));dsimp only;refine h (k9 ..) ?_;refine i (i (i (J.here (V ?_))));dsimp only;refine h (List.forIn_nil ..) ?_;refine V (i (H.here ?_));refine h (k9 ..) ?_;refine i (i (i (I.here ?_)));induction y:p5 j B.mro using Bool.casesOn with
  |true=>exact V (V (V (y▸z)))
  |false=>
   refine V ?_;dsimp only;refine h (List.forIn_nil ..) ?_;exact V (V (y▸z))
 |_=>cases e2
end
def QK{f:Fr}(m:D f.w)(d:Q)(e:Flow->Shared->Prop):Prop:=∀b a c,m.To a->b9 a b c->d b a.st->e c a.s
def EK{g:Fr}(m:D g.w)(f:af)(e:a8):Prop:=∀c a d,m.To a->b a c d->f c a.st->e d a.s
section
variable{g:Fr}{m aG:D g.w}{v:Y}{a:Value}{A:Around}{c:Q}{e:af}{n:Flow->Shared->Prop}{l:a8}
def QK.f(g:QK m c n)(a:m.To aG):QK aG c n:=λd h e b=>g d h e (a.trans b)
def EK.f(g:EK m e l)(a:m.To aG):EK aG e l:=λc h d b=>g c h d (a.trans b)
def b9.f{a:bg}{b:Flow}(d:b9 m a b)(c:m.To aG):b9 aG a b:=d.case (P:=λa b=>b9 aG a b) u u u λe e r=>G.mono c.kp r
def Ew{b:I}{a:Str}(c:vO b a=true):U a b.sc.names=some .local:=vN c
def Fr.z'(g:Fr):(g.b.scope.kind== .class||(g.b.scope.kind== .module&&g.b.locals !=g.b.globals))=false:=by refine h (g.p0 ..) ?_;rfl
def Hh{a:Str}{C:Pos}{n:Unit->Shared->Prop}(t:vO g.I a=true)(w:∀b,m.To b->b.st=rL a m.st->n () b.s):wpAny g.z.ab A (do bindName g.b a .none;unbindBehindTheSuite g.b a C) n l m.s:=by
 have k:=g.oj (Ew t);obtain⟨H,c,B⟩:=m.O.d g.b.locals (bf g.aq) rfl;refine i (wpAny_bindName (xB k c (λy u o=> ?_) g.z'));unfold unbindBehindTheSuite;refine wpAny_onRaise (wpAny_unbindName_local (v:= .none) k (s:={m.s with heap:=y,toks:=m.s.toks+1}) u (if_pos rfl) g.z' λz q v p=> ?_);have d:s m (rL a m.st) m.ρ {m.s with heap:=z,toks:=m.s.toks+1}:=s.Gv rfl c v ⟨p.1.trans o.1,λe j=>(p.2 e j).trans (o.2 e j)⟩ (λG q x=>by
  refine And.elim (λr f=> ?_) (K9 x);obtain⟨D,E,F⟩:=B G q r;exact⟨D,by refine h (if_neg f ..) ?_;refine h (if_neg f ..) ?_;exact E,F⟩) rfl rfl
 exact w d.pt d.f rfl
def ye(i:aF g m){h:List Stmt}(o:(cU g.r g.I h m.st).A c (bT e))(q:QK m c n)(p:∀v f a,m.To f->b f v a->d0 v f.st=true->e v f.st->l a f.s):wpAny g.z.ab g.z.ak (PySem.execs h g.b) n (notedBy g.z.ab g.z.ak g.b l) m.s:=
 d.execs h i _ _ o _ _ q λv f a j t r=>mq j t r λs k=>p v s a k
def uL(k:EK m e l):∀v c a,m.To c->b c v a->d0 v c.st=true->e v c.st->cameBackBy g.z.ab g.z.ak g.b l a c.s:=λv c a h f j n=>Jw f j λo d i=>k v o a (h.trans d) (f.f d) (i▸n)
def VZ{c:St->Prop}{a:St}(b:d0 v a=true)(k:c a):iX v a c:=by
 induction v using Y.casesOn with
 |obj d=>
  have b:(match t a.objs d with|some e=>e.tb|none=>false)=true:=b;refine(?_:(ab.v ((t a.objs d).bind ae.oI) λe=> .ret () ⟨aQ a.objs d e,a.d⟩).A (λj a=>c a) _);cases f:t a.objs d with
  |none=>rw [f] at b;cases b
  |some e=>
   rw [f] at b;cases e with
   |ar al ap args i g=>obtain rfl:i=true:=b;exact(by refine h (jM f ..) ?_;exact k:c ⟨aQ a.objs d (.ar al ap args true g),a.d⟩)
   |_=>cases b
 |_=>cases b
def d.VO{q:Option Str}{y:Stmt}{z:List Stmt}{O:Pos}(P:aF g m)(r:b m v a)(M:d0 v m.st=true)(j:AS g.r g.I v q (y::z) m.st c e)(L:QK m c n)(K:EK m e l):
  codeAny g.z.ab (g.ak.mark (some a)) (.handlers a [.ExceptHandler none q (y::z) O] g.b) (λr E=>match r with
     | .ok p=>(match(generalizing:=false) q with
      |none=>n p E
      |some o=>wpAny g.z.ab g.z.ak (do bindName g.b o .none;unbindBehindTheSuite g.b o O) (λXG XF=>n p XF) l E)
     | .error a=>cameBackBy g.z.ab g.z.ak g.b l a E) m.s:=by
 have F:=P.mark r;induction q using Option.casesOn with
 |none=>
  refine codeAny_handlers_suite (nX (g:=g.mark a v) r M λaG h f=> ?_);exact ye (g:=g.mark a v) (F.f h) (f.symm▸j) (L.f h) (uL (g:=g) (K.f h))
 |some o=>
  refine And.elim (λA j=> ?_) (cond_true (show cond (vO g.I o) _ False from j));have U:=g.oj (Ew A);refine codeAny_handlers_suite_as (nX (g:=g.mark a v) r M λaG h f=> ?_);obtain⟨XM,G,Y⟩:=aG.O.d g.b.locals (bf g.aq) rfl;refine xB U G (λX V W=> ?_) g.z';have t:s aG ⟨aG.st.objs,aO o v aG.st.d⟩ aG.ρ {aG.s with heap:=X,toks:=aG.s.toks+1}:=s.mL rfl G Y V W (r.f h) rfl rfl;have u:m.To t.pt:=D.To.trans (aG:=aG) h t.f;rw [<-f] at j;refine d.execs (g:=g.mark a v) (y::z) (m:=t.pt) (F.f u) _ _ j _ _ (λp XC S w XD k=> ?_) λXH XC XI w C B=> ?_
  . exact Hh (g:=g) A λN i f=>L p N S ((u.trans w).trans i) (XD.f i) (f▸k)
  . refine qJ (g:=g.mark a v) (d.qq C) B λN i XG k=> ?_;refine And.elim (λJ k=> ?_) (cond_true k);refine Hh (g:=g) A λXJ x f=>Ai (g:=g) ((C.f i).f x) (f▸J) λXK H I=> ?_;have Q:=(((u.trans w).trans i).trans x).trans H;exact mq (g:=g.mark a v) (X:=e) Q (((C.f i).f x).f H) (VZ (I▸f▸J) (I▸f▸k)) λZ R XE T B=>uL (g:=g) K XH Z XI R XE T B
def d.Pl(t:List ExceptHandler):∀{m:D g.w},aF g m->b m v a->a≠byPass->sd g.T g.r g.I v c e t m.st->QK m c n->EK m e l->wpAny g.z.ab g.z.ak (handleBy a g.b t) n l m.s:=by
 induction t with
 |nil=>
  intro m j r q i s k;refine And.elim (λC E=> ?_) (cond_true i);rw [handleBy];exact Ai r C λH w B=>k v H a w (r.f w) (B▸E)
 |cons F bn G=>
  obtain⟨y,I,p,L⟩:=F;intro m j r q i s k;rcases y with _|y
  . exact False.elim i
  rcases p with _|⟨A,p⟩
  . exact False.elim i
  refine wpAny_handleBy_cons (codeAny_handlers_test ((j.mark r).E _ _ i _ _ (λz aG M f J h=> ?_) λo o o o o K=>False.elim K)) q;have h:(match vc g.T v z aG.st with|some al=>cond al (cond (d0 v aG.st) (AS g.r g.I v I (A::p) aG.st c e) False) (sd g.T g.r g.I v c e bn aG.st)|none=>False):=h;cases u:vc g.T v z aG.st with
  |none=>rw [u] at h;exact False.elim h
  |some al=>
   rw [u] at h;refine d.exec (g:=g) (r.f f) J u ?_;cases al with
   |true=>
    have x:=cond_true h;exact d.VO (j.f f) (r.f f) x.1 x.2 (s.f f) (k.f f)
   |false=>exact G (j.f f) (r.f f) q h (s.f f) (k.f f)
end
section
variable{a:Fr}{m:D a.w}{g:Y}{i:Value}{h:Q}{f:af}{c:Flow->Shared->Prop}{e:a8}
def GY(r:b m g i)(a:bT f g m.st):i≠byPass:=by
 induction g using Y.casesOn with
 |obj d=>obtain⟨c,_,rfl⟩:=r.bI;exact ref_ne_byPass _
 |_=>exact False.elim a
def DB{j:List Stmt}{b:bg}{l:Flow}(o:aF a m)(q:b9 m b l)(k:yV a.r a.I j h f b m.st)(n:QK m h c)(p:EK m f e):(match(generalizing:=false) l with| .next=>wpAny a.z.ab a.z.ak (PySem.execs j a.b) c e m.s|b=>c b m.s):=
 q.case (P:=λb l=>yV a.r a.I j h f b m.st->(match l with| .next=>wpAny a.z.ab a.z.ak (PySem.execs j a.b) c e m.s|b=>c b m.s)) (λk=>d.execs j o _ _ k _ _ n p) (λk=>n .brk m .brk (.refl m) u k) (λk=>n .cont m .cont (.refl m) u k) (λg i r k=>n (.ret g) m (.ret i) (.refl m) r k) k
def E1{s z:List Stmt}{u:ExceptHandler}{t:List ExceptHandler}(p:aF a m)(A:zX a.T a.r a.I s (u::t) z m.st h f)(x:QK m h c)(w:EK m f e):
  wpAny a.z.ab a.z.ak (PySem.execs s a.b) (λl o=>match l with| .next=>wpAny a.z.ab a.z.ak (PySem.execs z a.b) c e o|l=>c l o)
   (λj o=>wpAny a.z.ab a.z.ak (noteFrame j a.b) (λG E=>wpAny a.z.ab a.z.ak (setFlight j none) (λG F=>wpAny a.z.ab a.z.ak (handleBy j a.b (u::t)) c e F) e E) e o) m.s:=
 d.execs s p _ _ A _ _ (λl C H b D k=>DB (p.f b) D k (x.f b) (w.f b)) λg C i b n y=>qJ (d.qq n) y λI r B k=>nX (n.f r) B λJ v j=>by
  have q:=(b.trans r).trans v;exact d.Pl (u::t) (p.f q) ((n.f r).f v) (GY n y) (j▸k) (x.f q) (w.f q)
def NZ{l:List Stmt}{b:bg}{d:Flow}(p:aF a m)(q:r0 a.r a.I l h f b m.st)(t:b9 m b d)(s:QK m h c)(r:EK m f e):FinallyPlain a.toRk.p a.ag.w a.ak e a.b l c d m.s:=
 ye p q (λj g n i u k=>u.case (P:=λj n=>we (h b) j g.st->(match n with| .next=>c d g.s|a=>c a g.s)) (λk=>s b g d i (t.f i) k) (λk=>False.elim k) (λk=>False.elim k) (λo o o k=>False.elim k) k) (uL r)
def N0{u:List Stmt}(z:aF a m)(w:r1 a.r a.I u f g m.st)(r:b m g i)(x:EK m f e):FinallyRaised a.toRk.p a.ag.w a.ak e a.b u c i m.s:=by refine⟨GY r w,qJ (d.qq r) w λH j D k=>nX (r.f j) D λI q A=> ?_⟩;rw [<-A] at k;have h:=j.trans q;have o:=(r.f j).f q;exact ye (g:=a.mark i g) ((z.f h).mark o) k (λt n v l F k=>F.case (P:=λt v=>we (λy=>cond (d0 g y) (f g y) False) t n.st->(match v with| .next=>wpAny a.z.ab a.ak (PySem.passOn "try.finally" i a.b) c e n.s|C=>wpAny a.z.ab a.ak (setFlight i none) (λp G=>c C G) e n.s)) (λk=>Ai (o.f l) (cond_true k).1 λE s B=>x g E i ((h.trans l).trans s) ((o.f l).f s) (B▸(cond_true k).2)) (λk=>False.elim k) (λk=>False.elim k) (λp p p k=>False.elim k) k) (uL (g:=a) (x.f h))
noncomputable def Hc(c:ay)(r:O)(e:I)(d:List Stmt)(b:List ExceptHandler)(g a:List Stmt)(i:St):ab bg:=⟨λh f=>cond (b.isEmpty&&a.isEmpty) False (Hb c r e d b g a i h f)⟩
def d.Wx{u B o:List Stmt}{b:List ExceptHandler}{N:Pos}(q:aF a m):d a.z (PySem.exec (.Try u b B o N) a.b) b9 m (Hc a.T a.r a.I u b B o m.st):=by
 intro h f j c e y t;have I:b≠[]\/o≠[]:=by
  rcases b with _|_
  . rcases o with _|_
    . exact False.elim j
    . exact .inr (λp=>aA (T List.isEmpty p))
  . exact .inl (λp=>aA (T List.isEmpty p))
 have j:Hb a.T a.r a.I u b B o m.st h f:=by
  rcases b with _|_
  . rcases o with _|_
    . exact False.elim j
    . exact j
  . exact j
 have y:QK m h c:=y;have t:EK m f e:=t;rcases o with _|⟨x,w⟩
 . rcases b with _|⟨J,b⟩
   . exact(I.elim (λD=>D rfl) λD=>D rfl).elim
   . exact wpAny_Try_except (E1 q j y t)
 . have F:QK m (r0 a.r a.I (x::w) h f) (FinallyPlain a.toRk.p a.ag.w a.ak e a.b (x::w) c):=λG K H r C k=>NZ (q.f r) k C (y.f r) (t.f r);have A:EK m (r1 a.r a.I (x::w) f) (FinallyRaised a.toRk.p a.ag.w a.ak e a.b (x::w) c):=λg K i r z p=>N0 (q.f r) p z (t.f r);rcases b with _|⟨J,b⟩
   . exact wpAny_Try_finally (d.execs u q _ _ (j:(cU ..).A _ _) _ _ (λG L H s C k=>DB (q.f s) C k (F.f s) (A.f s)) λg L i s z p=>qJ (d.qq z) p λM E O k=>A g M i (s.trans E) (z.f E) k)
   . exact wpAny_Try_except_finally (E1 q j F A)
end
noncomputable def ae.S9:ae->Bool
 | .ar _ _ _ _ a=> !a
 |_=>false
noncomputable def ae.Kw:ae->Option ae
 | .ar al ap args tb _=>some (.ar al ap args tb true)
 |_=>none
def C7(e:Option Y)(b:Y)(a:St):ab bg:= .or e (λd=> .obj d λj=> .obj b λc=> .ite (Nat.beq j c) (.raise b a) (.v (t a.objs j) λg=> .ok g.S9 (.v ((t a.objs c).bind ae.Kw) λf=> .raise b ⟨aQ a.objs c f,a.d⟩))) (.raise b a)
def F6(d:ay)(r:O)(a:I)(e:Expr)(f:St):ab bg:= .bind (r.E a e f) λc b=> .v (rU d c b) λg=>C7 a.hd c b
def M7:entryFor table "proto.unchain"=some Builtin.«proto.unchain»:=entryFor_of_tree (by kernel_rfl)
section
variable{a:Fr}{m:D a.w}{e:Y}{c:Value}
def G3{f:Type}{g:f->Shared->Prop}{e:a8}{d:Addr}{b:Option Value}(k:a.ak.handled=b)(j:b=none\/b=some (.ref d))(c:e (.ref d) m.s):wpAny a.z.ab a.z.ak (PySem.raiseNew (.ref d):Sem f) g e m.s:=by
 unfold PySem.raiseNew;refine i (wpAny_handled ?_);refine h (show a.z.ak.handled=b from k) ?_;rcases j with rfl|rfl
 . first
    |exact q4 c
    |exact i (V (q4 c))
 . dsimp only;refine h (if_neg (by simp)) ?_;first
    |exact q4 c
    |exact i (V (q4 c))
def d.raiseNew{b A:Nat}{XF:eX}(I:In0 a m)(K:um m a.T b A XF c):d a.z (PySem.raiseNew c:Sem Flow) b9 m (C7 a.I.hd (.obj b) m.st):=by
 obtain⟨z,N,L,XH,XK,e,F,J,_⟩:=K;have o:=I.hd;induction H:a.I.hd using Option.casesOn with
 |none=>
  rw [H] at o;exactλu y k x t D g=>G3 (m:=m) o (.inl rfl) (g (.obj b) m _ (.refl m) (G.gh e) k)
 |some Y=>
  rw [H] at o;obtain⟨X5,E,XG⟩:=o;cases Y with
  |obj j=>
   obtain⟨f,p,rfl⟩:=XG.bI;refine d.ite (λq=> ?_) λq=>d.v λZ XD=>d.ok λC=>d.v λXV XE=> ?_
   . cases dR q;cases e.symm.trans p;exactλu y k x t D g=>G3 (m:=m) E (.inr rfl) (g (.obj b) m _ (.refl m) (G.gh e) k)
   . obtain⟨XU,XC,O⟩:=bind_some XE;cases F.symm.trans XC;cases O;cases Z with
     |ar XJ XN XI X0 M=>
      cases M with
      |true=>cases C
      |false=>
       obtain⟨XX,XZ,X2,cv',XR,X4,XT,_,P,_,_,_,_,Q⟩:=(m.at XD p:nj ..);cases Q rfl;obtain⟨XW,XY,X1,XM,XQ,X3,XS,R,B,S,T,U,W,XO⟩:=J;have X:f≠z:=λr=>sK q ((jI m.O.d3 p (r▸e):j=b)▸mY j);intro u y k x t D g;unfold PySem.raiseNew;refine i (wpAny_handled ?_);refine h (show a.z.ak.handled=some (.ref f) from E) ?_;dsimp only;refine h (if_pos (by simpa using X)) ?_;have w:s m ⟨aQ m.st.objs b (.ar A N L XH true),m.st.d⟩ m.ρ {m.s with heap:=m.s.heap.update z (Obj.mapFields (·.setIfInBounds 2 (Value.ref f)))}:=
        s.ar (f:=Obj.mapFields (·.setIfInBounds 2 (Value.ref f))) (cv':= .ref f) e F R B S T U rfl W λr=>aA (r)
       refine i (j1 (wpAny_runValue (codeAny_builtin M7 ?_)));unfold Builtin.«proto.unchain»;dsimp only;refine i (m0 (x:= .none) P rfl rfl ?_);refine h (if_pos (by rfl)) ?_;refine V ?_;dsimp only;exact i (t2 B rfl (show 2<6 by decide) (q4 (g (.obj b) w.pt _ w.f (G.gh e) k)))
     |_=>cases C
  |_=>exact d.n
def d.T2{j:Expr}{Z:Pos}(y:aF a m):d a.z (PySem.exec (.Raise (Option.some j) Option.none Z) a.b) b9 m (F6 a.T a.r a.I j m.st):=by
 refine h (arm_exec_Raise ..) ?_;refine d.bD ?_;unfold raiseStmt;dsimp only [evalOpt,Option.map];refine d.bind (a0:=b) (d.h2 y.E λe f c C s=>d.bD (d.ret s)) λe f c C s=>d.v λ⟨r,XD⟩ XC=> ?_;refine aS λXE Y=> ?_;obtain⟨w,rfl,q⟩:=y3 s XC;have XH:=q;obtain⟨p,G,D,O,F,I,K,S,M,N⟩:=q;obtain⟨XS,XZ,X0,XI,XQ,X2,XR,XJ,u,XK,XM,XN,U,XO⟩:=S;refine Y ?_;have E:=pB (a.F.cls _ _ M) N;have A:Looks a.z.ab f.s.heap (typeOf (.ref p)) (.ref r):=(j3 u).andThen .now;have z:Looks a.z.ab f.s.heap (isType (.ref p)) false:=(j3 u).andThen .now;have P:Looks a.z.ab f.s.heap (isInstance (.ref p) (.type "BaseException")) true:=A.andThen (q3 (a.In f) E.cw);have Q:Looks a.z.ab f.s.heap (isExcClass (.ref p)) false:=z.andThen .now;have R:Looks a.z.ab f.s.heap (typeOf (.ref r)) (.type "type"):=looks_typeIn (a.In f) E.ty;refine d.qu λXF XG k B x X W=>i (j1 ?_);unfold excFromValue;refine i (Q.here (i (P.here (V (i (z.here ?_))))));unfold raisedInstance;refine i (i (A.here (i (R.here ?_))));refine h (if_pos (by rfl)) ?_;refine V ?_;have T:∀g,f.To g->g.st=f.st->um g a.T w r XD (.ref p)->wpAny a.z.ab a.z.ak (PySem.raiseNew (.ref p):Sem Flow) B x g.s:=λg o j q=>d.from (z:=a.z) o (d.raiseNew ((y.f C).f o).toIn0 q) (j▸k) X W;have H:∀g,f.To g->g.st=f.st->wpAny a.z.ab a.z.ak (PySem.raiseNew (.ref p):Sem Flow) B x g.s:=λg o j=>T g o j (by
  have L:t g.st.objs w=some (.ar r G D O F):=j▸K;exact .mk p G D O F (o.ext _ _ I) L (g.at L (o.ext _ _ I)) M N)
 refine i ?_;cases U with
 |n=>
  refine i (m0 (x:= .none) u rfl rfl ?_);refine h (if_neg (by decide)) ?_;exact V (H f (.refl f) rfl)
 |mk ah J X1 XT XU XV XW XX XY=>exact nX (m:=f) s (by refine(?_:(match t f.st.objs w with|some J=>J.tb|none=>false)=true);refine h (K ..) ?_;rfl) λg o j=>H g o j
end
noncomputable def CL(b:Data):Option ClassData:=by
 induction b using Data.casesOn with
 |cls a=>exact some a
 |_=>exact none
def JO{a:Data}{b:ClassData}(c:CL a=some b):a= .cls b:=by
 induction a using Data.casesOn with
 |cls d=>exact T Data.cls (bw c)
 |_=>exact aA (T Option.isSome c)
def ig{e:Type}{b:Option e}{c:e->Bool}(d:b.elim false c=true):∃a,b=some a/\c a=true:=by
 induction b using Option.casesOn with
 |none=>exact aA d
 |some a=>exact⟨a,rfl,d⟩
def lv{a b:Bool}(c:(a&&b)=true):a=true/\b=true:=Bool.and_eq_true_iff.mp c
def sL{a:Bool}(b:(!a)=true):a=false:=(Bool.not_eq_true' a).mp b
noncomputable def v6(c:Frag)(b:Addr):Bool:=(c.lookup b).elim false λd=>(CL d.data).elim false λa=>((d.slots.toList[4]?).join==some (.builtin "Exception.__new__"))&&(!a.mro.isEmpty&&(a.mro.contains (.ref b)&&(a.mro.contains (.type "Exception")&&(!a.mro.contains (.type "AttributeError")&&(!a.mro.contains (.type "NameError")&&
   ((specialIn c (.ref b) "__call__"==some (some (.builtin "type.__call__")))&&((instIn c (.ref b) (.type "type")==some true)&& !a.hasDel)))))))
structure rh(ab:Model)(a:Heap)(C:Addr):Prop where
 obj:∃c d b e,a.get? C=some ⟨c,d,.cls b,e⟩/\b.mro.isEmpty=false/\b.hasDel=false
 oc:Looks ab a (Bind.madeBy (.ref C)) (some "Exception.__new__")
 cw:Looks ab a (Bind.staticBase (.ref C)) (.ref C)
 self:Looks ab a (isSubtype (.ref C) (.ref C)) true
 i3:Looks ab a (isSubtype (.ref C) (.type "Exception")) true
 na:Looks ab a (isSubtype (.ref C) (.type "AttributeError")) false
 nn:Looks ab a (isSubtype (.ref C) (.type "NameError")) false
 call:Looks ab a (specialOf (.ref C) "__call__") (some (.builtin "type.__call__"))
 WJ:Looks ab a (isInstance (.ref C) (.type "type")) true
def E2{p:Frag}{ab:Model}{f:Heap}(d:p.In f){c:Addr}(a:v6 p c=true):rh ab f c:=by
 refine aS λL H=> ?_;obtain⟨⟨I,J,M,K⟩,q,a⟩:=ig a;obtain⟨e,G,a⟩:=ig a;cases JO G;obtain⟨y,a⟩:=lv a;obtain⟨e2,a⟩:=lv a;obtain⟨z,a⟩:=lv a;obtain⟨A,a⟩:=lv a;obtain⟨B,a⟩:=lv a;obtain⟨C,a⟩:=lv a;obtain⟨D,a⟩:=lv a;obtain⟨E,F⟩:=lv a;have s:clsIn p c=some e:=by unfold clsIn;rw [q]
 have u:Looks ab f (mroOf (.ref c)) e.mro:=(looks_clsIn d s).andThen .now;have o:∀{w:Value}{r:Bool},e.mro.contains w=r->Looks ab f (isSubtype (.ref c) w) r:=λb=>q3 d (by unfold mroIn;rw [s,Option.bind_some,if_neg (by rw [sL e2];decide),b]);obtain⟨l,m,t⟩:∃l m,e.mro=l::m:=by
  rcases b:e.mro with _|⟨l,m⟩
  . rw [b] at e2;exact aA e2
  . exact⟨l,m,rfl⟩
 refine H ?_;have v:Looks ab f (Bind.madeBy (.ref c)) (some "Exception.__new__"):=by intro g x j n k b;unfold Bind.madeBy;refine i (u g _ j n k ?_);refine h (t ..) ?_;refine h (k9 ..) ?_;refine i (i (i (i (xE (k _ _ (d _ _ q)) (V ?_)))));dsimp only;refine ba (Array.getElem?_toList ..) ?_;refine h (eq_of_beq y) ?_;exact V (V (V b))
 refine⟨⟨I,J,e,K,d _ _ q,sL e2,sL F⟩,v,?_,o z,o A,o (sL B),o (sL C),looks_specialIn d (eq_of_beq D),looks_instIn d (eq_of_beq E)⟩;intro g x j n k b;unfold Bind.staticBase;refine i (u g _ j n k ?_);refine h (t ..) ?_;refine h (k9 ..) ?_;exact i (i (i (v g _ j n k (V (V (V b))))))
noncomputable abbrev nR(a b:Addr):Obj:={cls:= .ref a,data:= .fields #[.ref b,.none,.none,.none,.bool false,.none]}
noncomputable abbrev f5(a:List Value):Obj:={cls:= .type "tuple",data:= .seq a.toArray}
section
variable{d:Program}{e:World}{c:Around}{b:Addr}{o:Result->Shared->Prop}{a:Heap}{g:Array GenState}{f:Drawn}{n:Nat}{l:OsState}
def Ab{ab:Model}{c:Around}{b:a8}{d:Unit->Shared->Prop}{a:Shared}{f:Sem Bool}{e:Bool->Sem Unit}{k:Sem Unit}(h:Looks ab a.heap f true)(g:wpAny ab c k d b a)(j:e true=k:=by rfl):wpAny ab c (f>>=e) d b a:=
 i (h.here (j▸g))
def Qp{g:Type}{ab:Model}{c:Around}{a:a8}{b:g->Shared->Prop}{e:Shared}{d:Bool}{f j:Sem g}(i:d=true)(h:wpAny ab c f b a e):wpAny ab c (if d=true then f else j) b a e:=by subst i;exact h
def n7{g:Type}{ab:Model}{c:Around}{a:a8}{b:g->Shared->Prop}{e:Shared}{d:Bool}{j f:Sem g}(i:d=false)(h:wpAny ab c f b a e):wpAny ab c (if d=true then j else f) b a e:=by subst i;exact h
def JD{ab:Model}{c:Around}{j:a8}{e:Unit->Shared->Prop}{s:List Value}(k:rh ab a b)(p:e () ⟨a,g,f,n,l⟩):
  wpAny ab c (checkBuiltinCall "Exception.__new__" ⟨.ref b::s,[]⟩) e j ⟨a,g,f,n,l⟩:=by refine aS λu q=> ?_;obtain⟨⟨A,B,w,D,o,e2,x⟩,r,m,C,t,y,z,v,E⟩:=k;refine q ?_;have d:=PySem.F.excBase_Exception;unfold checkBuiltinCall;refine h d.newKind ?_;refine h d.newSplit ?_;refine h d.newRow ?_;refine Qp (by rfl) ?_;refine Ab ((j3 o).andThen .now) ?_;refine Ab t ?_;refine i (m.here ?_);refine i (r.here ?_);refine n7 (bne_self_eq_false _) ?_;refine V p
def Nz{k:List Value}(m:rh (model d e) a b)(y:k.length<=sizeLine)
  (x:o (.ok (.ret (.ref (a.objs.size+1)))) ⟨(a.push (f5 k)).push (nR b a.objs.size),g,f,n,l⟩):
  codeAny (model d e) c (.call (.builtin "Exception.__new__") ⟨.ref b::k,[]⟩) o ⟨a,g,f,n,l⟩:=by
 have s:=m;refine aS λE z=> ?_;obtain⟨⟨J,K,H,M,q,e2,u⟩,A,t,L,D,B,C,G,N⟩:=m;refine z ?_;have j:=PySem.F.excBase_Exception;refine codeAny_call_builtin_code (Code.quiet_builtin _ j.quiet) ?_;refine JD s ?_;have w:Looks (model d e) a (Bind.madeHere "BaseException.__new__" (.ref b)) ():=t.andThen (A.andThen (Looks.of_pure (by simp only [Option.map_some,j.canon,bne_self_eq_false,Bool.false_eq_true,if_false])));refine codeAny_builtinAt j.entry ?_;unfold Builtin.«BaseException.__new__»;refine PySem.wpAt_bind ?_;refine(?_:PySem.wpAt _ _ _ (stack>>=_) _ _ _);refine PySem.wpAt_bind (PySem.wpAt_stack λp F=>PySem.wpAt_of_wpAny ?_);have I:=j.ends
 wp_walk
 refine PySem.wpAt_of_wpAny ?_;refine h (j.owner ..) ?_;have r:Looks (model d e) a (isType (.ref b)) true:=(j3 q).andThen .now;dsimp only;refine i (r.here ?_);refine n7 rfl ?_;refine i (D.here ?_);refine n7 rfl ?_;refine i (w.here ?_);refine(?_:wpAny _ _ ((do
   if<-isSubtype (.ref b) (.type "AttributeError") then return 2
   if<-isSubtype (.ref b) (.type "NameError") then return 1
   return 0:Sem Nat)>>=_) _ _ _)
 refine i (i (B.here ?_));refine n7 rfl ?_;refine i (C.here ?_);refine n7 rfl ?_;refine V ?_;unfold newTuple;refine i (o9 ?_ (by refine(?_:k.toArray.size<=sizeLine);refine h (o6 ..) ?_;exact y));have v:=cX (f5 k) q;refine i ?_;unfold newObj;dsimp only;refine h (if_neg (by rw [sizeLine_eq];simp)) ?_;unfold newObjAsIs classHasDel;refine i (wpAny_alloc ?_);dsimp only;refine i (i (wpAny_load (cX _ v) (V ?_)));refine h (u ..) ?_;refine V (V ?_);refine h (jY ..) ?_;exact x
def R4{h:List Value}{m:Value}(t:rh (model d e) a b)(E:h.length<=sizeLine)(B:Looks (model d e) a (typeLookup (.ref b) "__init__") (some m))
  (A:∀p,Looks (model d e) a (bindSpecial m p) (m,[p]))
  (C:codeAny (model d e) (c.under (.builtin "type.__call__" ⟨.ref b::h,[]⟩)) (.call m ⟨.ref (a.objs.size+1)::h,[]⟩) (InitBack (a.objs.size+1) o) ⟨(a.push (f5 h)).push (nR b a.objs.size),g,f,n,l⟩):
  codeAny (model d e) c (.call (.ref b) ⟨h,[]⟩) o ⟨a,g,f,n,l⟩:=by
 have w:=t;refine aS λH F=> ?_;obtain⟨⟨Q,R,y,U,v,z,K⟩,N,J,p,X,O,P,x,G⟩:=t;refine F ?_;refine q1 ?_;refine(?_:wpAny _ _ (callAny (.ref b) _) _ _ _);refine nd_load v ?_;refine(?_:wpAny _ _ (callAny.viaDunder (.ref b) _) _ _ _);unfold callAny.viaDunder;refine i (x.at ?_);dsimp only;rw [tc_bind];refine i (V (i (V ?_)));refine V (a:=Fin.again (.call (.builtin "type.__call__") ⟨.ref b::h,[]⟩)) (And.intro rfl ?_);refine codeAny_call_builtin_at (Code.quiet_builtin _ (by decide+kernel)) entry_typeCall (check_slot tc_kind tc_split G (tc_args _ _ _) ?_);unfold Builtin.«type.__call__»;have L:Looks (model d e) a (mroOf (.ref b)) y.mro:=((j3 (part:=none) v).andThen .now).andThen .now;repeat (first|with_reducible refine n7 z ?_|with_reducible refine m2 ?_|lk)
 refine Nz w E ?_;have k:∀q s,a.get? q=some s->((a.push (f5 h)).push (nR b a.objs.size)).get? q=some s:=λq s u=>cX _ (cX _ u);have D:((a.push (f5 h)).push (nR b a.objs.size)).get? (a.objs.size+1)=some (nR b a.objs.size):=by heap_get
 have W:Looks (model d e) ((a.push (f5 h)).push (nR b a.objs.size)) (typeOf (.ref (a.objs.size+1))) (.ref b):=(j3 D).andThen .now;have T:=p.keeps k;have M:=B.keeps k;have I:=(A (.ref (a.objs.size+1))).keeps k;unfold isInstance callSpecial? specialOf;repeat (first|with_reducible refine m2 ?_|lk)
 refine codeAny_mono C λr S j=> ?_;rcases r with u|(Y|_|_|_)<;>first|exact j|exact j.elim|skip
 obtain⟨rfl,j⟩:=j;exact V (V j)
end
section
variable{b:Program}{c:World}{n:Around}{l:Addr}{o:a8}{a:Heap}{e:Array GenState}{d:Drawn}{g:Nat}{f:OsState}
def Ny{k:List Value}{j:Addr}{p:Obj}{s:Array Value}{L:Addr}{v:a8}{C:Frag}(O:C.In a)(D:rh (model b c) a l)(z:a.get? j=some p)(x:p.cls= .ref l)(y:p.data= .fields s)(w:s[0]?=some (.ref L))(I:k.length<=sizeLine)
  (G:v .none ⟨(a.push (f5 k)).update j (Obj.mapFields (·.setIfInBounds 0 (.ref a.objs.size))),e,d,g,f⟩):
  wpAny (model b c) n (call (.builtin "Exception.__init__") (.ref j::k)) v o ⟨a,e,d,g,f⟩:=by
 refine aS λB r=> ?_;obtain⟨⟨Y,XC,Q,XF,F,S,T⟩,U,P,XE,M,W,X,call,XH⟩:=D;refine r ?_;have m:=PySem.F.excBase_Exception;have N:Looks (model b c) a (typeOf (.ref j)) (.ref l):=by refine aS λB r=> ?_;obtain⟨Z,XD,R,XG⟩:=p;refine r ?_;dsimp only at x;subst x;exact(j3 z).andThen .now
 have J:Looks (model b c) a (isInstance (.ref j) (.type "Exception")) true:=N.andThen M;have E:∀{q:Unit->Shared->Prop}{t:Around}{u:a8},q () ⟨a,e,d,g,f⟩->wpAny (model b c) t (checkBuiltinCall "Exception.__init__" ⟨.ref j::k,[]⟩) q u ⟨a,e,d,g,f⟩:=by
  intro q t u K;unfold checkBuiltinCall;refine h m.initKind ?_;refine h m.initSplit ?_;refine h m.initRow ?_;refine Ab J ?_;unfold Bind.checkArgs;repeat (first|lk|with_reducible refine wpAny_loadPart_at F ?_|wp_step)
  exact n7 (Bool.and_false _) (V K)
 refine m2 (tW m.init.plain m.initEntry (E ?_));unfold Builtin.«BaseException.__init__»;dsimp only;refine h (if_neg (by decide)) ?_;unfold newTuple Builtin.BaseException.bexcPut;have H:0<s.size:=(Array.getElem?_eq_some_iff.mp w).1;have A:=cX (h:=a) (f5 k) z;refine i (o9 (i (i (m0 A y w (i (t2 A y H ?_))))) (by refine(?_:k.toArray.size<=sizeLine);refine h (o6 ..) ?_;exact I));exact wpAny_letGo (V G)
end
def sM(r:O)(d:Option Y)(c:aL)(a:Y)(b:List Y)(e:St):ab Y:= .bind (lz r d c (a::b) e) λg f=> .ok g.isNone (.ret a f)
def sw(d:ay)(r:O)(f:Option Y)(c:Nat)(b:List Y)(a:St):ab Y:= .v (da c d.cls) λg=> .v (da g.init d.f6) λe=> .ite g.ar
 (.ok (Nat.ble (C b) 1000) (sM r f e (.obj (C a.objs)) b ⟨aJ a.objs (.ar c none b false false),a.d⟩))
 (sM r f e (.obj (Nat.succ (C a.objs))) b ⟨aJ (aJ a.objs (.dict [])) (.bj c (C a.objs)),a.d⟩)
noncomputable abbrev kQ(a:Addr)(b:List Value):Code:= .builtin "type.__call__" ⟨.ref a::b,[]⟩
def WU(a:Addr)(b:List Value):(kQ a b).weight=1:=by kernel_rfl
def WL(a:Addr)(b:List Value):(kQ a b).cUnits=1:=by kernel_rfl
def Nf(a:Addr)(b:List Value):(kQ a b).envs=[]:=by kernel_rfl
def aV(a:ay):Prop:=∀b c,da b a.cls=some c->c.ar=true->v6 a.K b=true
structure xL{C:au}{f:List Env}(m:D ⟨C,f⟩)(K X:af)(R:Result->Shared->Prop):Prop where
 q:∀v b d c a(g:s m b d a),fW (bf f) m.s.heap a.heap->G C.fz a.heap d v c->K v b->R (.ok (.ret c)) a
 e:∀v b d c a(g:s m b d a),fW (bf f) m.s.heap a.heap->G C.fz a.heap d v c->X v b->R (.error c) a
section
variable{k:Rk}{b:Around}{i:List Env}{m:D ⟨k.ag,i⟩}{hd:Option Y}{e:List Y}{c:List Value}{f g:af}{l:Result->Shared->Prop}{d:Nat}
def Ep(H:aC k.ag.hb k.T)(J:h1 k){aG:D ⟨k.ag,i⟩}{y:aL}{B:Nat}{a:Addr}(t:m.To aG)(R:∀(x:Addr)(n:Obj),m.s.heap.get? x=some n->aG.s.heap.get? x=some n) (L:fc k.ag.hb B y) {n:Nat} (A:aG.ρ[n]?=some a) (M:b.frames=some (eJ i)) (N:hY m b hd)
  (K:b.depth+2*(k.am+1)<recursionLimit) (P:b.units+16*(k.am+1)+64<cLine) (S:bp m e c) (u:(sM k.r hd y (.obj n) e aG.st).A f g) (E:xL m f g l):codeAny (model k.p k.ag.w) (b.under (kQ d c)) (.call (.ref B) ⟨.ref a::c,[]⟩) (InitBack a l) aG.s:=by
 have nx:∀{p q o},s aG p q o->s m p q o:=λj=>⟨j.O,Step.trans t j.f⟩;have C:∀{z},fW (bf i) aG.s.heap z->fW (bf i) m.s.heap z:=λu ab I Q j=>u ab I Q (j.keeps R);refine uO H J L (A:=b.under (kQ d c)) (m:=aG) (hd:=hd) (args:= .obj n::e) (by refine(?_:pushEnvs (kQ d c).envs b.frames=_);refine h (Nf ..) ?_;exact M) (hY.f (A:=b.under (kQ d c)) (m:=m) (by rcases hd with _|_<;>exact N) t) (by refine(?_:b.depth+(kQ d c).weight+1+2*k.am<_);refine h (WU ..) ?_;exact(bV K (by simp+arith only))) (by refine(?_:b.units+(kQ d c).cUnits+3+16*k.am+64<_);refine h (WL ..) ?_;exact(bV P (by simp+arith only))) (.cI (.gh A) (bp.f S t)) u
  (λF p q G o j v w r=> ?_) λF p q G o j v w r=>E.e F p q G o (nx j) (C v) w r
 refine And.elim (λO r=> ?_) (cond_true r);exact⟨vP (z:=⟨⟨k.ag,i⟩,k.p,b⟩) (m:=j.pt) w O,E.q _ p q _ o (nx j) (C v) (.gh (j.f.ext _ _ A)) r⟩
def CS(r:aC k.ag.hb k.T)(Q:aV k.T)(F:h1 k)(J:b.frames=some (eJ i))(K:hY m b hd)(H:b.depth+2*(k.am+1)<recursionLimit)(N:b.units+16*(k.am+1)+64<cLine)(z:bp m e c)(a:(sw k.T k.r hd d e m.st).A f g)(P:xL m f g l):
  codeAny (model k.p k.ag.w) b (.call (.ref d) ⟨c,[]⟩) l m.s:=by
 unfold sw at a;induction y:da d k.T.cls using Option.casesOn with
 |none=>rw [y] at a;exact False.elim a
 |some p=>
 rw [y] at a;cases B:da p.init k.T.f6 with
 |none=>
 have a:(ab.v (da p.init k.T.f6) _:ab Y).A f g:=a;rw [B] at a;exact False.elim a
 |some U=>
 have a:(ab.v (da p.init k.T.f6) _:ab Y).A f g:=a;rw [B] at a;have a:cond p.ar (cond (Nat.ble (C e) 1000) _ False) _:=a;have v:k.T.K.In m.s.heap:=λx o t=>m.O.cw x o (r.K x o t);have O:=r.cls _ _ y;have E:=h6 O;have M:=xI (M:=model k.p k.ag.w) v E.init;have G:∀A,Looks (model k.p k.ag.w) m.s.heap (bindSpecial (.ref p.init) A) (.ref p.init,[A]):=λA=>bind_fn v A (beq_iff_eq.mp E.P0);have I:=r.fn _ _ B;have q:=m.O.aE;induction hex:p.ar using Bool.casesOn with
 |false=>
  rw [hex] at a;have a:(sM ..).A f g:=a;rw [aZ,c0,c0] at a;have j:s m ⟨m.st.objs++[ae.dict []],m.st.d⟩ (m.ρ++[m.s.heap.objs.size]) {m.s with heap:=m.s.heap.push emptyDict}:=s.alloc (o:= .dict []) ⟨[],0,cY _ rfl,.fk,.nil⟩ rfl rfl rfl;have n:s j.pt ⟨(m.st.objs++[ae.dict []])++[ae.bj d m.st.objs.length],m.st.d⟩ ((m.ρ++[m.s.heap.objs.size])++[(m.s.heap.push emptyDict).objs.size]) {m.s with heap:=(m.s.heap.push emptyDict).push (instObj d m.s.heap.objs.size)}:=
   s.alloc (o:= .bj d m.st.objs.length) ⟨m.s.heap.objs.size,by refine h (jX ..) ?_;refine h (i5 (ed q) ..) ?_;refine h (q ..) ?_;refine h (pa ..) ?_;rfl,cY _ rfl⟩ rfl rfl rfl
  refine make_core (makes_of v (yq O hex).R6) M G (.inl rfl) ?_;exact Ep (a:=m.s.heap.objs.size+1) (aG:=n.pt) r F (Step.trans (aG:=j.pt) j.f n.f) (λx o t=>cX _ (cX _ t)) I (by refine h (show n.pt.ρ=_ from rfl) ?_;refine h (i5 (by rw [List.length_append,q];exact cb _)) ?_;refine h (eV ..) ?_;refine h (q ..) ?_;refine h (jY ..) ?_;simp) J K H N z a P
 |true=>
  rw [hex] at a;obtain⟨R,a⟩:=cond_true (show cond (Nat.ble (C e) 1000) _ False from a);have a:(sM ..).A f g:=a;rw [aZ,c0] at a;have S:c.length<=sizeLine:=by refine h (z.length ..) ?_;refine ba (aZ ..) ?_;refine h (sizeLine_eq ..) ?_;exact L (c8 R) (by decide)
  have j:s m m.st m.ρ {m.s with heap:=m.s.heap.push (f5 c)}:=s.push rfl rfl rfl;have T:m.s.heap.objs.size∉m.ρ++[(m.s.heap.push (f5 c)).objs.size]:=λD=>(List.mem_append.mp D).elim m.O.ne λD=>absurd (List.mem_singleton.mp D) (by refine h (jY ..) ?_;exact gl (hV _));have n:s j.pt ⟨m.st.objs++[ae.ar d none e false false],m.st.d⟩ (m.ρ++[(m.s.heap.push (f5 c)).objs.size]) {m.s with heap:=(m.s.heap.push (f5 c)).push (nR d m.s.heap.objs.size)}:=
   s.alloc (m:=j.pt) (o:= .ar d none e false false) ⟨none,m.s.heap.objs.size,.none,.none,.none,c,0,u,cY _ rfl,cX _ (cY _ rfl),T,w.mono (qg _) (bp.f (m:=m) (aG:=j.pt) z j.f),.n,λV=>rfl⟩ rfl rfl rfl
  refine R4 (E2 v (Q _ _ y hex)) S M G ?_;exact Ep (a:=m.s.heap.objs.size+1) (aG:=n.pt) r F (Step.trans (aG:=j.pt) j.f n.f) (λx o t=>cX _ (cX _ t)) I (by refine h (show n.pt.ρ=_ from rfl) ?_;refine h (i5 (ed q) ..) ?_;refine h (q ..) ?_;refine h (pa ..) ?_;refine h (jY ..) ?_;rfl) J K H N z a P
end
noncomputable def ae.Ie(b:List Y):ae->Option ae
 | .ar al ap _ tb a=>some (.ar al ap b tb a)
 |_=>none
def DM(c:ay)(d:List Y)(a:St):ab Y:=match d with
 |[]=> .n
 |aj::bn=> .obj aj λb=> .v (rU c (.obj b) a) λf=> .ok (Nat.ble (C bn) 1000) (.v ((t a.objs b).bind (ae.Ie bn)) λe=> .ret .none ⟨aQ a.objs b e,a.d⟩)
section
variable{a:Fr}{m:D a.w}
def d.nQ(O:aV a.T){C:List Y}{N:List Value}(o:bp m C N):d a.z (call (.builtin "Exception.__init__") N) b m (DM a.T C m.st):=by
 cases o with
 |cQ=>exact d.n
 | @cI aj M bn e XN o=>
  refine d.obj (t:=λM=>call (.builtin "Exception.__init__") (M::e)) XN λH B x=>d.v λ⟨p,X2⟩ XG=>d.ok λZ=>d.v λX1 XK XT XV k XU XR X X3=> ?_;refine aS λXS XD=> ?_;obtain⟨_,f,Q⟩:=y3 (G.gh x:b m (.obj H) _) XG;cases f;obtain⟨_,F,R,K,E,XZ,J,P,XH,XI⟩:=Q;obtain⟨I,XJ,T⟩:=bind_some XK;cases J.symm.trans XJ;cases T;obtain⟨XF,t,XO,S,XE,X4,X0,U,u,XW,XX,XY,V,W⟩:=P;refine XD ?_;have XC:e.length<=sizeLine:=by refine h (o.length ..) ?_;refine ba (aZ ..) ?_;refine h (sizeLine_eq ..) ?_;exact L (c8 Z) (by decide)
  refine Ny (a.In m) (E2 (a.In m) (O _ _ XH XI)) u rfl rfl rfl XC ?_;have g:s m m.st m.ρ {m.s with heap:=m.s.heap.push (f5 e)}:=s.push rfl rfl rfl;have r:=cX (f5 e) u;have j:=i6 (m.s.heap.push (f5 e)) B (Obj.mapFields (·.setIfInBounds 0 (Value.ref m.s.heap.objs.size)));have z:=iR j (b8 x);have XM:bp g.pt bn e:=bp.f o g.f;have A:s g.pt ⟨m.st.objs.set H (.ar p F bn K E),m.st.d⟩ m.ρ {m.s with heap:=(m.s.heap.push (f5 e)).update B (Obj.mapFields (·.setIfInBounds 0 (Value.ref m.s.heap.objs.size)))}:=
   s.dd (oy:= .ar p F R K E) x ((cW ..).symm.trans J) rfl j r (λy=>nomatch (show Value.ref p=TB from y)) ⟨XF,m.s.heap.objs.size,XO,S,XE,e,0,U,qW _ r rfl,(j.2 _ (mZ (dk u))).trans (cY _ rfl),m.O.ne,w.mono z XM,(V.mono (zJ _) λD I XQ f i q=> .same (cX _ f) i q).mono z (λD I XQ f i q=> .same ((j.2 D λy=>by subst y;cases r.symm.trans f;cases i).trans f) i q),W⟩ rfl rfl
  rw [d4] at k;exact X .none A.pt _ (Step.trans (aG:=g.pt) g.f A.f) G.iw k
end
mutual
def dq(k:Nat):Y->Prop
 | .obj b=>b<k
 | .l a=>aH k a
 | .c a=>aH k a
 |_=>True
def aH(k:Nat):List Y->Prop
 |[]=>True
 |aj::a=>dq k aj/\aH k a
end
def bB(k:Nat):List (Str×Y)->Prop
 |[]=>True
 |a::b=>dq k a.2/\bB k b
def JJ(k:Nat):Option Nat->Prop
 |some ap=>ap<k
 |none=>True
def lD(k:Nat):ae->Prop
 | .c c=>aH k c
 | .dict a=>bB k a
 | .bj _ ap=>ap<k
 | .ar _ ap args _ _=>JJ k ap/\aH k args
 | .cell (some aj)=>dq k aj
 | .cell none=>True
 | .ro b=>lD k b
def dn(k:Nat):List ae->Prop
 |[]=>True
 |a::os=>lD k a/\dn k os
structure Shift(k:Nat)(Z m:List Addr)(f:Heap)(d e:List Addr):Prop where
 p8:∀(g:Nat)(a:Addr),g<k->d[g]?=some a->e[g]?=some a
 l:∀(a:Addr)(i:List Value)(h:Nat),f.get? a=some (dQ i h)->a∉d->a∉e
 c:∀(a:Addr)(i:List Value)(h:Nat),f.get? a=some (listOf i.toArray h)->a∉d->a∉Z->a∉e/\a∉m
 tb:∀(b:Addr)(j:Obj),f.get? b=some j->j.cls=TB->b∉d->b∉e
structure iI(k:Nat)(h:Nat->Option Nat)(m:List ae)(Z f:List Addr)(g:Heap)(d e:List Addr):Prop extends Shift k Z f g d e where
 z4:∀(b j:Nat)(a:Addr),h b=some j->d[b]?=some a->e[j]?=some a
 fz:∀(b:Nat)(i:List Y)(a:Addr),t m b=some (.c i)->d[b]?=some a->h b=none->ll Z g d a i/\a∉e/\a∉f
section
variable{k:Nat}{e c:List Addr}{a:Heap}{d b:List Addr}
def G.cL(l:Shift k e c a d b){j:Y}{n:Value}(r:G e a d j n):dq k j->G c a b j n:=
 G.rec (motive_1:=λj n f=>dq k j->G c a b j n) (motive_2:=λt v f=>aH k t->w c a b t v) (λf=> .iw) (λo f=> .kM o) (λg q f=> .dO g q) (λg q f=> .fN g q) (λg f=> .oD g) (λg f=> .sZ g) (λg f=> .kL g)
  (λi h=> .gh (l.p8 _ _ h i)) (λi m f p h=> .mz i (l.l _ _ _ i m) (p h)) (λi m s f p h=> .my i (l.c _ _ _ i m s).1 (l.c _ _ _ i m s).2 (p h)) (λf=> .cQ) (λf f u o h=> .cI (u h.1) (o h.2)) r
def w.cL(i:Shift k e c a d b){f:List Y}{g:List Value}(r:w e a d f g):aH k f->w c a b f g:=w.gF (P:=λf g=>aH k f->w c a b f g) (λl=> .cQ) (λr l j h=> .cI (r.cL i h.1) (j h.2)) r
def c6.cL{i:World}(j:Shift k e c a d b){f:List (Str×Y)}{h:List DictEntry}(r:c6 i e a d f h):bB k f->c6 i c a b f h:=by
 induction r with
 |fk=>exactλm=> .fk
 |f0 ai _ l=>exactλg=> .f0 ⟨ai.key,ai.hash,ai.val.cL j g.1⟩ (l g.2)
def i9.Gy(j:Shift k e c a d b){f:Addr}{h:Bool}{i:Value}(r:i9 a d f h i):i9 a b f h i:=by
 induction r with
 |n=>exact .n
 |mk ah o p g al ap q m l=>exact .mk ah o p g al ap q (j.tb _ _ g al m) l
theorem cK.cL{u:World}{p:Addr}(i:Shift k e c a d b){h:ae}(r:cK u e a d p h)(l:lD k h):cK u c a b p h:=by
 induction h with
 |c H=>obtain⟨s,o,f,g⟩:=r;exact⟨s,o,f,g.cL i l⟩
 |dict F=>obtain⟨w,o,f,g,j⟩:=r;exact⟨w,o,f,g.cL i l,j⟩
 |bj ag ap=>obtain⟨n,f,g⟩:=r;exact⟨n,i.p8 _ _ l f,g⟩
 |ar ag ap args G E=>
  obtain⟨n,B,C,v,m,s,o,f,g,j,q,x,y,z⟩:=r;refine⟨n,B,C,v,m,s,o,?_,g,j,i.l _ _ _ j q,x.cL i l.2,y.Gy i,z⟩;induction ap with
  |none=>induction n with
   |none=>exact f
   |some p=>exact f
  |some ap=>induction n with
   |none=>exact f
   |some p=>exact i.p8 _ _ l.1 f
 |cell t=>
  rcases r with⟨h,f,g,j⟩|⟨h,t,D,f,g,j,q⟩
  . exact .n h f g j
  . exact .mk h t D f g j (q.cL i l)
 |ro h A=>exact A r l
theorem cK.QM{t:World}{o:Addr}{k:Obj}(g:a.get? o=some k){h:ae}(r:cK t e a d o h):k.cls≠.type "tuple"\/(∀n i,k.data≠.seq n i):=by
 induction h with
 |c C=>obtain⟨n,i,b,c⟩:=r;cases g.symm.trans b;exact .inl (by decide:Value.type "list"≠_)
 |dict x=>obtain⟨w,i,b,c,j⟩:=r;cases g.symm.trans b;exact .inr λl l f=>nomatch f
 |bj ag ap=>obtain⟨p,b,c⟩:=r;cases g.symm.trans c;exact .inl λf=>nomatch f
 |ar ag ap args A u=>obtain⟨p,z,B,v,m,n,i,b,c,_⟩:=r;cases g.symm.trans c;exact .inl λf=>nomatch f
 |cell s=>rcases r with⟨h,b,c,j⟩|⟨h,s,D,b,c,j,y⟩<;>cases g.symm.trans b<;>exact .inr λl l f=>nomatch f.symm.trans j
 |ro h q=>exact q r
theorem cK.Aa{q:World}{i:Addr}{l:Obj}(f:a.get? i=some l){g:ae}(r:cK q e a d i g):l.cls≠TB:=by
 induction g with
 |c B=>obtain⟨s,k,b,c⟩:=r;cases f.symm.trans b;exact(by decide:Value.type "list"≠TB)
 |dict w=>obtain⟨v,k,b,c,j⟩:=r;cases f.symm.trans b;exact(by decide:Value.type "dict"≠TB)
 |bj ag ap=>obtain⟨n,b,c⟩:=r;cases f.symm.trans c;exactλh=>nomatch h
 |ar ag ap args z t=>obtain⟨n,y,A,u,m,s,k,b,c,_⟩:=r;cases f.symm.trans c;exactλh=>nomatch h
 |cell p=>rcases r with⟨g,b,c,j⟩|⟨g,p,C,b,c,j,x⟩<;>cases f.symm.trans b<;>exact c
 |ro g o=>exact o r
end
def wg{a e:ae}{b:Prop}(d:jt a=false)(c:a= .ro e):b:=by subst c;cases d
def bh{d:Type}{b:d}{a:Prop}(c:none=some b):a:=by injection c
def bL(k:Nat)(g:Nat->Option Nat)(h:List ae)(j i:Y):Prop:=∀b c a e f,iI k g h b c a e f->∀d,G b a e j d->G c a f i d
def bM(k:Nat)(g:Nat->Option Nat)(h:List ae)(j i:List Y):Prop:=∀b c a e f,iI k g h b c a e f->∀d,w b a e j d->w c a f i d
structure ng(k:Nat)(e:Nat->Option Nat)(g:List ae)(a us:List (Str×Y)):Prop where
 qe:us.map (·.1)=a.map (·.1)
 lk:∀x h,U x us=some h->∃v,U x a=some v/\bL k e g v h
 f:∀Z c b j l,iI k e g Z c b j l->∀i d,c6 i Z b j a d->c6 i c b l us d
def di(k:Nat)(f:Nat->Option Nat)(g:List ae)(d e:List (Str×Y)):Prop:=∀c a,U c e=some a->∃b,U c d=some b/\bL k f g b a
structure fV(k:Nat)(mv:Nat->Option Nat)(ob:List ae)(d e:ae):Prop where
 Pu:jt d=jt e
 ro:∀h,d= .ro h->e= .ro h
 f:∀Z g b j l,iI k mv ob Z g b j l->∀i a,cK i Z b j a d->cK i g b l a e
structure hw(k:Nat)(mv:Nat->Option Nat)(ob:List ae)(os us:List ae):Prop where
 aE:us.length=os.length
 a4:∀(a:Nat) c,us[a]?=some c->∃b,os[a]?=some b/\fV k mv ob b c
def hv(k:Nat)(e:Nat->Option Nat)(f:List ae)(b c:bg):Prop:=(∃a d,b= .ret a/\c= .ret d/\bL k e f a d)\/c=b/\∀a,b≠.ret a
structure dT(k:Nat)(g:Nat->Option Nat)(f h:List ae)(b:List Nat)(us:List ae):Prop where
 aE:us.length=b.length
 a4:∀(d:Nat) e,us[d]?=some e->∃a c,b[d]?=some a/\h[a]?=some c/\fV k g f c e
section
variable{k:Nat}{mv:Nat->Option Nat}{ob a:List ae}
def bL.same{b:Y}(e:dq k b):bL k mv ob b b:=λa a a a a d a r=>r.cL d.toShift e
def bM.same{b:List Y}(d:aH k b):bM k mv ob b b:=λa a a a a c a r=>r.cL c.toShift d
def bL.obj{b j:Nat}(e:mv b=some j):bL k mv ob (.obj b) (.obj j):=λa a a a a d a r=>by
 obtain⟨g,f,rfl⟩:=r.bI;exact .gh (d.z4 _ _ _ e f)
def bL.fr{b:Nat}{vs us:List Y}(e:mv b=none)(m:t ob b=some (.c vs))(n:bM k mv ob vs us):bL k mv ob (.obj b) (.c us):=λa a a a a d a r=>by
 obtain⟨o,f,rfl⟩:=r.bI;obtain⟨⟨q,p,g,h⟩,i,j⟩:=d.fz _ _ _ m f e;exact .my g i j (n _ _ _ _ _ d _ h)
def bL.l{f e:List Y}(i:bM k mv ob f e):bL k mv ob (.l f) (.l e):=λa a a a a b a r=>by
 obtain⟨j,n,m,d,g,h⟩:=r.bI;exact .mz d (b.l _ _ _ d g) (i _ _ _ _ _ b _ h)
def bL.c{h g:List Y}(j:bM k mv ob h g):bL k mv ob (.c h) (.c g):=λa a a a a b a r=>by
 obtain⟨m,o,n,d,e,f,i⟩:=r.bI;exact .my d (b.c _ _ _ d e f).1 (b.c _ _ _ d e f).2 (j _ _ _ _ _ b _ i)
def bM.nil:bM k mv ob [] []:= .same u
def bM.cons{e c:Y}{f d:List Y}(g:bL k mv ob e c)(h:bM k mv ob f d):bM k mv ob (e::f) (c::d):=λa a a a a b a r=>by
 cases r with
 |cI al ap=>exact .cI (g _ _ _ _ _ b _ al) (h _ _ _ _ _ b _ ap)
def ng.nil:ng k mv ob [] []:=⟨rfl,λa a b=>bh b,λa a a a a a a a r=>by cases r;exact .fk⟩
def ng.cons{b:Str}{e j:Y}{m l:List (Str×Y)}(h:bL k mv ob e j)(d:ng k mv ob m l):ng k mv ob ((b,e)::m) ((b,j)::l):=by
 refine⟨T (b::·) d.qe,λn q i=> ?_,λa a a a a g a a r=> ?_⟩
 . by_cases c:b=n
   . exact⟨e,e5 c,bw ((e5 c).symm.trans i)▸h⟩
   . obtain⟨s,o,p⟩:=d.lk n q ((en c).symm.trans i);exact⟨s,(en c).trans o,p⟩
 . cases r with
   |f0 al ap=>exact .f0 ⟨al.key,al.hash,h _ _ _ _ _ g _ al.val⟩ (d.f _ _ _ _ _ g _ _ ap)
def di.drop{b:List (Str×Y)}:di k mv ob b []:=λc c a=>bh a
def di.same{b:List (Str×Y)}(d:bB k b):di k mv ob b b:=λi h a=>by
 refine⟨h,a,.same ?_⟩;induction b with
 |nil=>cases a
 |cons c f g=>
  by_cases e:c.1=i
  . exact bw ((e5 (l:=f) (v:=c.2) e).symm.trans a)▸d.1
  . exact g d.2 ((en (v:=c.2) e).symm.trans a)
def di.kv{a b:List (Str×Y)}(c:ng k mv ob a b):di k mv ob a b:=c.lk
def fV.same{b:ae}(e:lD k b):fV k mv ob b b:=⟨rfl,λa g=>g,λa a a a a d a a r=>r.cL d.toShift e⟩
def fV.c{d b:List Y}(l:bM k mv ob d b):fV k mv ob (.c d) (.c b):=⟨rfl,λa g=>wg rfl g,λa a a a a e a a r=>by obtain⟨m,j,h,i⟩:=r;exact .mk m j h (l _ _ _ _ _ e _ i)⟩
def fV.dict{b d:List (Str×Y)}(e:ng k mv ob b d):fV k mv ob (.dict b) (.dict d):=⟨rfl,λa i=>wg rfl i,λa a a a a g a a r=>by obtain⟨h,n,j,l,m⟩:=r;exact .mk h n j (e.f _ _ _ _ _ g _ _ l) (e.qe▸m)⟩
def fV.bj{b d e:Nat}(i:mv d=some e):fV k mv ob (.bj b d) (.bj b e):=⟨rfl,λa j=>wg rfl j,λa a a a a g a a r=>by obtain⟨h,l,m⟩:=r;exact .mk h (g.z4 _ _ _ i l) m⟩
def fV.ar{e h i:Nat}{p o:List Y}{n g:Bool}(s:mv h=some i)(C:bM k mv ob p o):fV k mv ob (.ar e (some h) p n g) (.ar e (some i) o n g):=by
 refine⟨rfl,λa t=>wg rfl t,λa a a a a b a a r=> ?_⟩;obtain⟨d,A,B,q,m,D,z,j,u,l,v,w,x,y⟩:=r;induction d with
 |none=>exact j.elim
 |some d=>exact .mk (some d) A B q m D z (b.z4 _ _ _ s j) u l (b.l _ _ _ l v) (C _ _ _ _ _ b _ w) (x.Gy b.toShift) y
def hw.nil:hw k mv ob [] []:=⟨rfl,λb b a=>bh a⟩
def hw.cons{b f:ae}{e g:List ae}(h:fV k mv ob b f)(c:hw k mv ob e g):hw k mv ob (b::e) (f::g):=
 ⟨T Nat.succ c.aE,λa i d=>by
  induction a with
  |zero=>exact⟨b,rfl,bw d▸h⟩
  |succ a _=>exact c.a4 a i d⟩
def hw.same{a:List ae}(b:dn k a):hw k mv ob a a:=by
 induction a with
 |nil=>exact .nil
 |cons d a c=>exact .cons (.same b.1) (c b.2)
def dT.nil:dT k mv a ob [] []:=⟨rfl,λc c b=>bh b⟩
def dT.cons{b:Nat}{c h:ae}{g:List Nat}{i:List ae}(l:t ob b=some c)(j:fV k mv a c h)(e:dT k mv a ob g i):dT k mv a ob (b::g) (h::i):=
 ⟨T Nat.succ e.aE,λd m f=>by
  induction d with
  |zero=>exact⟨b,c,rfl,cW ..▸l,bw f▸j⟩
  |succ d _=>exact e.a4 d m f⟩
def dT.s5{g:List Nat}{d:List ae}(p:dT k mv a ob g d){c f:Nat}(e:g[c]?=some f):∃b i,d[c]?=some i/\ob[f]?=some b/\fV k mv a b i:=by have h:c<d.length:=p.aE▸(List.getElem?_eq_some_iff.mp e).1;refine aS λo n=> ?_;obtain⟨q,b,j,l,m⟩:=p.a4 c _ (fa h);refine n ?_;cases e.symm.trans j;exact⟨b,_,fa h,l,m⟩
end
noncomputable def hh:List Nat->Nat->Nat->Option Nat
 |[],_,_=>none
 |j::r,a,m=>cond (Nat.beq j a) (some m) (hh r a (Nat.succ m))
def cN(b:List Nat)(a:Nat):Option Nat:=hh b a 0
def cm(b:List Nat)(c:Nat)(d:List Nat)(a:Nat):Option Nat:=cond (Nat.blt a (C b)) (t b a) (hh d a c)
def fx:List Nat->List ae->List ae->List ae
 |b::is,c::os,a=>fx is os (aQ a b c)
 |_,_,a=>a
structure ht(k:Nat)(b:List Nat)(d:Nat)(a:List Nat)(c:St)(f e:List ae):Prop where
 os:hw k (cm b d a) c.objs (es (C b) c.objs) f
 sU:dT k (cm b d a) c.objs c.objs a e
 ge:∀g∈a,b.length<=g
 nd:a.Nodup
noncomputable abbrev au.more(a:au)(b:List Addr):au:=⟨a.w,a.hb,a.fz++b⟩
abbrev Wd.more(a:Wd)(b:List Addr):Wd:=⟨a.ag.more b,a.aq⟩
def F0{b m j:Nat}{is:List Nat}(a:hh is b m=some j):∃c:Nat,is[c]?=some b/\j=m+c:=by
 induction is generalizing m with
 |nil=>exact bh a
 |cons e is i=>
  have a:cond (Nat.beq e b) (some m) (hh is b (Nat.succ m))=some j:=a;cases d:Nat.beq e b with
  |true=>rw [d] at a;exact⟨0,T some (dR d),(bw a).symm⟩
  |false=>
   rw [d] at a;obtain⟨c,f,g⟩:=i a;exact⟨c+1,f,by refine h (g ..) ?_;refine h (Nat.succ_add ..) ?_;rfl⟩
def TN{b m:Nat}{is:List Nat}(a:hh is b m=none):b∉is:=by
 induction is generalizing m with
 |nil=>exact cB
 |cons d is f=>
  have a:cond (Nat.beq d b) (some m) (hh is b (Nat.succ m))=none:=a;cases c:Nat.beq d b with
  |true=>rw [c] at a;cases a
  |false=>
   rw [c] at a;exactλg=>(List.mem_cons.mp g).elim (λe=>Nat.ne_of_beq_eq_false c e.symm) (f a)
section
variable{b:List Nat}{os ob:List ae}{e:Nat}{f:ae}
def wz:(fx b os ob).length=ob.length:=by
 induction b generalizing os ob with
 |nil=>rfl
 |cons a is c=>induction os with
  |nil=>rfl
  |cons d os _=>exact(c (os:=os) (ob:=aQ ob a d)).trans (by rw [d4,List.length_set])
def wA(c:e∉b):(fx b os ob)[e]?=ob[e]?:=by
 induction b generalizing os ob with
 |nil=>rfl
 |cons d is f=>induction os with
  |nil=>rfl
  |cons g os _=>exact(f (os:=os) (ob:=aQ ob d g) λa=>c (.tail _ a)).trans (by rw [d4,List.getElem?_set_ne λa:d=e=>c (a▸List.Mem.head is)])
def Am{a:Nat}(i:b.Nodup)(c:b[a]?=some e)(d:os[a]?=some f)(g:e<ob.length):(fx b os ob)[e]?=some f:=by
 induction b generalizing os ob a with
 |nil=>exact bh c
 |cons j is k=>induction os with
  |nil=>exact bh d
  |cons l os _=>induction a with
   |zero=>
    cases c;cases d;exact(wA (os:=os) (List.nodup_cons.mp i).1).trans (by rw [d4,List.getElem?_set_self g])
   |succ a _=>exact k (os:=os) (ob:=aQ ob j l) (List.nodup_cons.mp i).2 c d (by refine h (d4 ..) ?_;refine h (List.length_set ..) ?_;exact g)
def Ri{g:Type}{c d:List g}(e:∀(b:Nat) a,c[b]?=some a->d[b]?=some a):c.length<=d.length:=t0 λf=>absurd (List.getElem?_eq_some_iff.mp (e _ _ (fa f))).1 (gk _)
def nZ{e:Type}{d r:List e}{c:Nat}{a:e}(b:d[c]?=some a):(d++r)[c]?=some a:=(k4 (List.getElem?_eq_some_iff.mp b).1).trans b
structure lm(b:List Nat)(c d:List Addr):Prop where
 aE:d.length=b.length
 a4:∀(f e:Nat),b[f]?=some e->∃a,c[e]?=some a/\d[f]?=some a
def FU{c:List Addr}(f:∀a∈b,a<c.length):lm b c (b.map λa=>c.getD a 0):=
 ⟨List.length_map ..,λg a d=>by
  have e:=fa (f a (b8 d));exact⟨_,e,by refine h (List.getElem?_map ..) ?_;refine h (d ..) ?_;refine h (Option.map_some ..) ?_;refine h (List.getD_eq_getElem?_getD ..) ?_;refine h (e ..) ?_;rfl⟩⟩
variable{c d:List Addr}
def lm.mem(p:lm b c d){e:Addr}(k:e∈d):∃a h:Nat,b[a]?=some h/\c[h]?=some e/\d[a]?=some e:=by refine aS λm l=> ?_;refine Exists.elim (jV k) λa g=> ?_;have i:=fa (p.aE▸(List.getElem?_eq_some_iff.mp g).1:a<b.length);obtain⟨n,j,f⟩:=p.a4 a _ i;refine l ?_;cases g.symm.trans f;exact⟨a,_,i,j,f⟩
def lm.nd(p:lm b c d)(r:b.Nodup)(s:c.Nodup):d.Nodup:=List.pairwise_iff_getElem.mpr λj f e g u k=>by
 have h:=fa (p.aE▸e:j<b.length);have i:=fa (p.aE▸g:f<b.length);refine aS λv t=> ?_;obtain⟨w,o,q⟩:=p.a4 j _ h;obtain⟨x,m,n⟩:=p.a4 f _ i;refine t ?_;have a:=(fa e).symm.trans q;have l:=(fa g).symm.trans n;rw [k] at a;cases a.symm.trans l;exact absurd (jI r (jI s o m▸h) i) (gl u)
end
structure Sl{d:Wd}(m:D d)(k:Nat)(b:List Nat)(c e:List Addr):Prop where
 nx:b.Nodup
 p:lm b m.ρ c
 G:∀a,a∈e↔a∈m.ρ/\a∉c
 hk:∀i,i<k->b[i]?=some i
section
variable{e:Wd}{m:D e}{k:Nat}{b g:List Nat}{d c f:List Addr}{l v q:List ae}{i u:List (Str×Y)}{o:St}{n:Shared}
def Sl.sub(e:Sl m k b d c){a:Addr}(f:a∈d):a∈m.ρ:=by obtain⟨i,h,_,g,_⟩:=e.p.mem f;exact b8 g
def Sl.view(g:Sl m k b d c):iI k (cN b) [] e.ag.fz (e.ag.fz++c) m.s.heap m.ρ d:=by
 refine⟨⟨λh l u n=> ?_,λl f f f i a=>i (g.sub a),λl f f f i v=>⟨λa=>i (g.sub a),λa=>(List.mem_append.mp a).elim v λa=>i ((g.G l).mp a).1⟩,λq f f f i a=>i (g.sub a)⟩,λh j l n w=> ?_,λh y l n=>bh (List.getElem?_nil.symm.trans ((cW ..).symm.trans n))⟩
 . obtain⟨q,o,t⟩:=g.p.a4 h h (g.hk h u);exact o.symm.trans n▸t
 . obtain⟨x,o,rfl⟩:=F0 n;obtain⟨q,r,s⟩:=g.p.a4 x h o;rw [Nat.zero_add];exact r.symm.trans w▸s
def Sl.O(f:Sl m k b d c)(u:dT k (cN b) [] m.st.objs b l)(B:di k (cN b) [] m.st.d i):cD (e.ag.more c) e.aq ⟨l,i⟩ d m.s.heap:=by
 have a:=m.O;refine⟨a.cw,a.eh,f.p.aE.trans u.aE.symm,f.p.nd f.nx a.d3,λw E g z A=> ?_,λg s=>a.dt g (f.sub s),λg s=>(List.mem_append.mp s).elim (a.em g) λt=>a.dt g ((f.G g).mp t).1,λh j=>⟨(a.b7 h j).ge,λt=>(a.b7 h j).dj (f.sub t),(a.b7 h j).ns⟩,a.hF,a.envs,λh r j=> ?_⟩
 . obtain⟨v,F,n,o,y⟩:=u.a4 w E z;obtain⟨Q,I,J⟩:=f.p.a4 w v n;cases A.symm.trans J;exact y.f _ _ _ _ _ f.view _ _ (a.a4 v F _ o I)
 . obtain⟨D,q,H⟩:=a.d h r j;refine⟨D,q,λx L C=> ?_⟩;obtain⟨K,n,o⟩:=B x L C;obtain⟨M,N,P⟩:=H x K n;exact⟨M,N,o _ _ _ _ _ f.view _ P⟩
abbrev Sl.pt(a:Sl m k b d c)(f:dT k (cN b) [] m.st.objs b l)(g:di k (cN b) [] m.st.d i):D (e.more c):=⟨⟨l,i⟩,d,m.s,a.O f g⟩
def cD.Ca{a:au}{j:List Env}{l:St}{c:List Addr}{f:Heap}(e:cD a j l c f){b:Addr}(h:b∈c):∃k,cK a.w a.fz f c b k:=by refine Exists.elim (jV h) λi g=> ?_;exact⟨_,e.a4 i _ b (fa (e.aE▸(List.getElem?_eq_some_iff.mp g).1)) g⟩
structure ut(m:D e)(k:Nat)(b g:List Nat)(d c i f:List Addr)(j:Heap):Prop where
 d6:lm g f i
 mem:∀a∈m.ρ++i,a∈f\/a∈c
 pK:∀(h:Nat) a,b.length<=h->f[h]?=some a->m.s.heap.get? a=none
 b0:∀a∈c,j.get? a=m.s.heap.get? a
def Sl.ends(r:Sl m k b d c)(z:dT k (cN b) [] m.st.objs b l)(H:di k (cN b) [] m.st.d i)(x:s (r.pt z H) o f n)(D:ht k b m.st.objs.length g o v q):∃N,ut m k b g d c N f n.heap:=by
 have t:=x.f;have C:lm g f _:=FU λJ I=>by
  refine Exists.elim (jV I) λu j=> ?_;obtain⟨K,P,_,y,_⟩:=D.sU.s5 j;rw [x.O.aE];exact(List.getElem?_eq_some_iff.mp y).1
 refine⟨_,C,λa e=> ?_,λJ a z h=> ?_,λa e=> ?_⟩
 . rcases List.mem_append.mp e with e|e
   . by_cases w:a∈d
     . refine Exists.elim (jV w) λu j=> ?_;exact .inl (b8 (t.ext u a j))
     . exact .inr ((r.G a).mpr ⟨e,w⟩)
   . obtain⟨_,_,_,y,_⟩:=C.mem e;exact .inl (b8 y)
 . refine t.new a (b8 h) λw=> ?_;refine Exists.elim (jV w) λu j=> ?_;have:=(List.getElem?_eq_some_iff.mp j).1;rw [r.p.aE,jI x.O.d3 (t.ext u a j) h] at this;exact absurd z (Nat.not_le_of_lt this)
 . refine And.elim (λA E=> ?_) ((r.G a).mp e);refine Exists.elim (m.O.Ca A) λK B=> ?_;refine Exists.elim (B.c7) λL h=> ?_;exact(t.b0 a L h ((by rintro⟨_,_,_,M,_⟩;exact E (b8 M))) (λF=>(m.O.b7 a F).dj A) (B.Aa h)).trans h.symm
def ut.view{Q:List Addr}(H:Sl m k b d c)(U:dT k (cN b) [] m.st.objs b l)(V:di k (cN b) [] m.st.d i)(I:s (H.pt U V) o f n)(Z:ht k b m.st.objs.length g o v q)(A:ut m k b g d c Q f n.heap):
  iI k (cm b m.st.objs.length g) o.objs (e.ag.fz++c) e.ag.fz n.heap f (m.ρ++Q):=by
 have M:∀{r F},r∈c->n.heap.get? r=some F->∃G,m.s.heap.get? r=some F/\cK e.ag.w e.ag.fz m.s.heap m.ρ r G:=λD p=>by
  obtain⟨G,w⟩:=m.O.Ca ((H.G _).mp D).1;exact⟨G,(A.b0 _ D).symm.trans p,w⟩
 have N:∀{u j:Nat}{r:Addr},b[u]?=some j->f[u]?=some r->m.ρ[j]?=some r:=λD p=>by
  obtain⟨J,x,B⟩:=H.p.a4 _ _ D;exact(I.f.ext _ _ B).symm.trans p▸x
 refine⟨⟨λu r D p=>nZ (N (H.hk u D) p),λr Y z p E a=> ?_,λr Y z p E O=>⟨λa=> ?_,λa=>O (xC _ a)⟩,λJ F p R E a=> ?_⟩,λu j r p w=> ?_,λu X r p w z=> ?_⟩
 . refine(A.mem r a).elim E λa=> ?_;obtain⟨G,x,B⟩:=M a p;exact(B.QM x).elim (λw=>w rfl) λw=>w _ _ rfl
 . exact(A.mem r a).elim E λa=>O (Bu _ a)
 . refine(A.mem J a).elim E λa=> ?_;obtain⟨G,x,B⟩:=M a p;exact B.Aa x R
 . have p:cond (Nat.blt u (C b)) (t b u) (hh g u m.st.objs.length)=some j:=p;cases y:Nat.blt u (C b) with
   |true=>
    rw [y] at p;exact nZ (N (cW ..▸p) w)
   |false=>
    rw [y] at p;obtain⟨P,x,rfl⟩:=F0 p;obtain⟨J,S,T⟩:=A.d6.a4 P u x;refine ba (m.O.aE ..) ?_;refine h (i5 (c5 _ _) ..) ?_;refine h (Bz ..) ?_;exact S.symm.trans w▸T
 . have z:cond (Nat.blt u (C b)) (t b u) (hh g u m.st.objs.length)=none:=z;cases y:Nat.blt u (C b) with
   |true=>
    rw [y] at z;exact bh ((cW ..).symm.trans z|>.symm.trans (fa (Nat.blt_eq.mp (aZ b▸y))))
   |false=>
    rw [y] at z;have W:b.length<=u:=Nat.not_lt.mp λa=>by rw [aZ,Nat.blt_eq.mpr a] at y;cases y
    have L:=A.pK u r W w;refine⟨I.O.a4 u (.c X) r (cW ..▸p) w,λa=> ?_,λa=> ?_⟩
    . refine Or.elim (List.mem_append.mp a) (λa=> ?_) λa=> ?_
      . obtain⟨F,K⟩:=(m.O.dt r a).has;exact cG L K
      . obtain⟨P,j,x,B,_⟩:=A.d6.mem a;exact TN z (jI I.O.d3 w B▸b8 x)
    . obtain⟨F,K⟩:=(m.O.em r a).has;exact cG L K
def x5(b:Option (List (Str×Y)))(k:Nat)(c:Nat->Option Nat)(d:List ae)(i u:List (Str×Y)):Prop:=match b with
 |none=>di k c d i u
 |some a=>u=a
end
section
variable{c:Wd}{m:D c}{k:Nat}{a f:List Nat}{l v n u:List Addr}{o d e:List ae}{q h:List (Str×Y)}{g:St}{i:Shared}
def ht.FH{j b:Nat}{h:ae}(l:ht k a j f g d e)(m:d[b]?=some h)(o:b<a.length):∃c,g.objs[b]?=some c/\fV k (cm a j f) g.objs c h:=by obtain⟨c,i,n⟩:=l.os.a4 b h m;rw [kP,aZ,List.getElem?_take,if_pos o] at i;exact⟨c,i,n⟩
def Sl.fM{XH:Option (List (Str×Y))}(F:Sl m k a l v)(W:dT k (cN a) [] m.st.objs a o)(XR:di k (cN a) [] m.st.d q)(U:s (F.pt W XR) g u i)(J:ht k a m.st.objs.length f g d e)(C:ut m k a f l v n u i.heap)
  (XS:x5 XH k (cm a m.st.objs.length f) g.objs g.d h)(XZ:∀Z,XH=some Z->Z=m.st.d/\fW (bf c.aq) m.s.heap i.heap):s m ⟨fx a d m.st.objs++e,h⟩ (m.ρ++n) i:=by
 have Y:=C.view F W XR U J;have I:=m.O;have A:=U.O;have B:=U.f;have XC:=m.O.aE;have X1:a.length<=g.objs.length:=F.p.aE▸U.O.aE▸Ri B.ext;have XO:d.length=a.length:=J.os.aE.trans (by rw [kP,aZ,List.length_take,Nat.min_eq_left X1]);have XW:n.length=e.length:=C.d6.aE.trans J.sU.aE.symm;have X9:∀{z x:Nat}{b:Addr},a[z]?=some x->m.ρ[x]?=some b->u[z]?=some b:=λXF D=>by
  obtain⟨V,t,w⟩:=F.p.a4 _ _ XF;cases D.symm.trans t;exact B.ext _ _ w
 have St:Step m ⟨fx a d m.st.objs++e,h⟩ (m.ρ++n) i:=by
  refine⟨λx b D=>nZ D,λb K X4=> ?_,B.c7,λV H D X6 X5 X8=>B.b0 V H D (λXF=>X6 ?_) X5 X8,B.iA,B.fL,λx H D=> ?_,B.hJ,B.gens,B.os⟩
  . refine(List.mem_append.mp K).elim (λy=>absurd y X4) λy=> ?_;obtain⟨z,x,t,w,_⟩:=C.d6.mem y;exact C.pK x b (J.ge x (b8 t)) w
  . obtain⟨z,XD,t,w,XG⟩:=XF;obtain⟨x,XU,N,P,XE⟩:=W.a4 z XD t;obtain⟨Yd,XI,XJ⟩:=F.p.a4 z x N;cases w.symm.trans XJ;exact⟨x,XU,P,XI,XE.Pu.trans XG⟩
  . have X2:=(List.getElem?_eq_some_iff.mp D).1;refine nZ ?_;by_cases y:x∈a
    . refine Exists.elim (jV y) λz Q=> ?_;have T:=(List.getElem?_eq_some_iff.mp Q).1;obtain⟨XU,XD,t,w,XG⟩:=W.s5 Q;cases D.symm.trans w;have R:=fa (XO▸T:z<d.length);obtain⟨S,XK,XM⟩:=J.FH R T;cases(B.f8 z H (XG.ro H rfl▸t)).symm.trans XK;exact Am F.nx Q (XM.ro H rfl▸R) X2
    . exact(wA y).trans D
 refine⟨⟨A.cw,A.eh,by rw [List.length_append,List.length_append,wz,XC,XW],List.nodup_append.mpr ⟨I.d3,C.d6.nd J.nd A.d3,λb K V XY y=> ?_⟩,λx H b t w=> ?_,λb K=>(C.mem b K).elim (A.dt b) λy=>A.em b (Bu _ y),λb K=>A.em b (xC _ K),
  λE M=>⟨(I.b7 E M).ge,λy=>(C.mem E y).elim (A.b7 E M).dj λy=>(I.b7 E M).dj ((F.G E).mp y).1,(A.b7 E M).ns⟩,I.hF,I.envs,λE r M=> ?_⟩,St⟩
 . subst y;obtain⟨z,x,t,w,_⟩:=C.d6.mem XY;refine Exists.elim ((I.dt b K).has) λH XX=> ?_;exact cG (C.pK x b (J.ge x (b8 t)) w) XX
 . have t:(fx a d m.st.objs++e)[x]?=some H:=t;by_cases X:x<m.st.objs.length
   . have t:=(k4 (Nat.lt_of_lt_of_eq X wz.symm)).symm.trans t;have w:=(k4 (XC▸X)).symm.trans w;by_cases y:x∈a
     . refine Exists.elim (jV y) λz Q=> ?_;have T:=(List.getElem?_eq_some_iff.mp Q).1;have R:=fa (XO▸T:z<d.length);cases(Am F.nx Q R X).symm.trans t;obtain⟨S,XK,XM⟩:=J.FH R T;exact XM.f _ _ _ _ _ Y _ _ (A.a4 z S b XK (X9 Q w))
     . have K:=b8 w;have X7:b∉l:=λXN=>by
        obtain⟨z,j,N,P,_⟩:=F.p.mem XN;exact y (jI I.d3 P w▸b8 N)
       exact(I.a4 x H b ((wA y).symm.trans t) w).mono St.kp B.iA (C.b0 b ((F.G b).mpr ⟨K,X7⟩))
   . have XQ:=t0 X;have t:=(i5 (L (ed wz) XQ)).symm.trans t;have w:=(i5 (XC▸XQ)).symm.trans w;rw [wz] at t;rw [XC] at w;obtain⟨XT,S,N,P,XE⟩:=J.sU.a4 _ H t;obtain⟨V,XI,XJ⟩:=C.d6.a4 _ XT N;cases w.symm.trans XJ;exact XE.f _ _ _ _ _ Y _ _ (A.a4 XT S _ P XI)
 . induction XH using Option.casesOn with
   |none=>
    obtain⟨X3,e,R⟩:=A.d E r M;refine⟨X3,e,λXV S X0=> ?_⟩;obtain⟨XD,N,P⟩:=XS XV S X0;obtain⟨XN,Yb,Yc⟩:=R XV XD N;exact⟨XN,Yb,P _ _ _ _ _ Y _ Yc⟩
   |some Z=>
    refine And.elim (λD Ya=> ?_) (XZ Z rfl);exact(show h=m.st.d from XS.trans D)▸(I.d E r M).mono St.kp (Ya E (M▸.head _))
inductive fb{i:Type}(l:Nat->(Nat->Option Nat)->List ae->i->i->Prop)(lo:Option (List (Str×Y)))(k:Nat)(a:List Nat)(c:List ae)(K:i->St->Prop)(b:i)(g:St):Prop
 |mk (f:List Nat) (d e:List ae) (h:List (Str×Y)) (j:i):ht k a c.length f g d e->x5 lo k (cm a c.length f) g.objs g.d h->l k (cm a c.length f) g.objs b j->K j ⟨fx a d c++e,h⟩->fb l lo k a c K b g
def TJ{h:Nat->Option Nat}{d:List ae}(e:dT k h d m.st.objs a o):∀c∈a,c<m.ρ.length:=λc b=>by
 refine aS λi g=> ?_;refine Exists.elim (jV b) λl f=> ?_;obtain⟨j,n,_,b,_⟩:=e.s5 f;refine g ?_;rw [m.O.aE];exact(List.getElem?_eq_some_iff.mp b).1
noncomputable def uV(b l:List Addr):List Addr:=b.filter λa=> !l.contains a
def Ve(e:a.Nodup)(d:∀b,b<k->a[b]?=some b) (c:∀b∈a,b<m.ρ.length):Sl m k a (a.map λb=>m.ρ.getD b 0) (uV m.ρ (a.map λb=>m.ρ.getD b 0)):=
 ⟨e,FU c,λf=>by unfold uV;rw [List.mem_filter,Bool.not_eq_true',<-Bool.not_eq_true,List.contains_iff_mem],d⟩
def Gs{Q M:Type}{p:Program}{A:Around}{t:Sem Q}{bv:Nat->(Nat->Option Nat)->List ae->M->M->Prop}{a0:∀c:Wd,D c->M->Q->Prop} {lo:Option (List (Str×Y))} {T:M->St->Prop} {V:af}
  (XJ:a.Nodup) (XF:∀y,y<k->a[y]?=some y) (x:dT k (cN a) [] m.st.objs a o) (E:di k (cN a) [] m.st.d q) {U:Q->Shared->Prop} {R:a8} {S:Prop}
  (XD:∀j(g:D (c.more j))(L:D c) XC k l C i,iI k XC g.st.objs (c.ag.fz++j) c.ag.fz L.s.heap g.ρ L.ρ->g.s=L.s->bv k XC g.st.objs l C->a0 (c.more j) g l i->a0 c L C i)
  (XG:∀K,lo=some K->K=m.st.d) (XH:∀l g i,m.To g->a0 c g l i->T l g.st->U i g.s) (XE:∀F g B,m.To g->b g F B->V F g.st->R B g.s)
  (XI:∀j(I:D (c.more j)),I.st=⟨o,q⟩->I.s=m.s->iI k (cN a) [] c.ag.fz (c.ag.fz++j) m.s.heap m.ρ I.ρ->
    (∀l(g:D (c.more j)) i,I.To g->(lo=none\/fW (bf c.aq) m.s.heap g.s.heap)->a0 (c.more j) g l i->fb bv lo k a m.st.objs T l g.st->U i g.s)->
    (∀F(g:D (c.more j)) B,I.To g->(lo=none\/fW (bf c.aq) m.s.heap g.s.heap)->b g F B->fb bL lo k a m.st.objs V F g.st->R B g.s)->S):S:=by
 have v:=Ve (m:=m) XJ XF (TJ x);have Z:∀{f d e h}{g:D (c.more (uV m.ρ (a.map λy=>m.ρ.getD y 0)))},(v.pt x E).To g->(lo=none\/fW (bf c.aq) m.s.heap g.s.heap)->ht k a m.st.objs.length f g.st d e->x5 lo k (cm a m.st.objs.length f) g.st.objs g.st.d h->
   ∃N,∃u:s m ⟨fx a d m.st.objs++e,h⟩ N g.s,iI k (cm a m.st.objs.length f) g.st.objs (c.ag.fz++uV m.ρ (a.map λy=>m.ρ.getD y 0)) c.ag.fz g.s.heap g.ρ N:=λ{f d e h g} H J w G=>by
  have P:s (v.pt x E) g.st g.ρ g.s:=⟨g.O,H⟩;obtain⟨n,W⟩:=v.ends x E P w;exact⟨_,v.fM x E P w W G λK X=>⟨XG K X,J.elim (λXK=>bh (XK.symm.trans X)) id⟩,W.view v x E P w⟩
 refine XI _ (v.pt x E) rfl rfl v.view (λl g i H J r z=> ?_) λF g B H J r z=> ?_
 . obtain⟨f,d,e,h,C,w,G,O,z⟩:=z;obtain⟨N,u,Y⟩:=Z H J w G;exact XH C u.pt i u.f (XD _ g u.pt _ _ _ _ _ Y rfl O r) z
 . obtain⟨f,d,e,h,C,w,G,O,z⟩:=z;obtain⟨N,u,Y⟩:=Z H J w G;exact XE C u.pt B u.f (O _ _ _ _ _ Y _ r) z
end
abbrev Rk.more(k:Rk)(a:List Addr):Rk:=⟨k.ag.more a,k.p,k.T,k.am,k.r⟩
abbrev Fr.more(a:Fr)(c:List Addr):Fr:=⟨a.toRk.more c,a.F,a.ak,a.aq,a.b,a.I,a.iV,a.r5,a.blt,a.kind,a.frames,a.i3,a.depth,a.units⟩
def b1(k:Rk):Prop:=∀a,h1 (k.more a)
def lC(k:Nat):List (Str×Nat)->Prop
 |[]=>True
 |p::a=>p.2<k/\lC k a
def pz(k:Nat):Option Y->Prop
 |none=>True
 |some aj=>dq k aj
abbrev i8(a:Type):=Nat->(Nat->Option Nat)->List ae->a->a->Prop
structure HV{a:Type}(c:i8 a)(b:I)(k:Nat)(A:St->ab a)(st:St)(K:a->St->Prop)(X:af):Prop where
 aE:(es k st.objs).length=k
 os:dn k (es k st.objs)
 d:bB k st.d
 cells:lC k b.cells
 hd:pz k b.hd
 A:(A ⟨es k st.objs,st.d⟩).A (fb c none k (List.range k) st.objs K) (fb bL none k (List.range k) st.objs X)
noncomputable def r3{a:Type}(b:i8 a)(c:I)(k:Nat)(d:St->ab a)(e:St):ab a:=⟨HV b c k d e⟩
def fo{a:Type}(d:i8 a)(e:I)(f:Option Nat)(b:St->ab a)(c:St):ab a:=match f with
 |none=>b c
 |some k=>r3 d e k b c
def rc:i8 Bool:=λa a a b c=>b=c
def JK{k e:Nat}{f:Str}{a:List (Str×Nat)}(d:lC k a)(c:U f a=some e):e<k:=by
 induction a with
 |nil=>exact bh c
 |cons b a h=>
  by_cases g:b.1=f
  . exact bw ((e5 (l:=a) (v:=b.2) g).symm.trans c)▸d.1
  . exact h d.2 ((en (v:=b.2) g).symm.trans c)
def JM{k a:Nat}{e:ae}{c:List ae}(d:dn k c)(b:c[a]?=some e):lD k e:=by
 induction c generalizing a with
 |nil=>exact bh b
 |cons g h f=>induction a with
  |zero=>exact bw b▸d.1
  |succ a _=>exact f d.2 b
def Aj{k:Nat}{f:Nat->Option Nat}{e ob:List ae}(b:(es k ob).length=k)(d:dn k (es k ob)):dT k f e ob (List.range k) (es k ob):=
 ⟨b.trans List.length_range.symm,λg h a=>by
  have c:=b▸(List.getElem?_eq_some_iff.mp a).1;refine⟨g,h,tX c,?_,.same (JM d a)⟩;rwa [kP,List.getElem?_take,if_pos c] at a⟩
def qv{k:Nat}{P' P G:List ae}(b:P'.length=k)(c:P.length=k):fx (List.range k) P' (P++G)=P'++G:=by
 refine List.ext_getElem? λd=> ?_;by_cases a:d<k
 . refine h (k4 (b▸a)) ?_;have e:=fa (b▸a:d<P'.length);exact(Am xG (tX a) e (by refine h (eV ..) ?_;refine h (c ..) ?_;exact Nat.lt_add_right _ a)).trans e.symm
 . rw [wA λf=>a (List.mem_range.mp f),List.getElem?_append_right (c▸Nat.le_of_not_lt a),List.getElem?_append_right (b▸Nat.le_of_not_lt a),b,c]
section
variable{a:Fr}{m:D a.w}{i h:Type}{f:Sem i}{e:i8 h}{k:Nat}{g:St->ab h}{c:∀w:Wd,D w->h->i->Prop}
def In0.more(e:In0 a m){c:List Addr}{b:D (a.more c).w}{q:Nat->Option Nat}{s:List ae}(l:b.s=m.s)(Y:iI k q s a.ag.fz (a.ag.fz++c) m.s.heap m.ρ b.ρ)(p:lC k a.I.cells)(i:pz k a.I.hd):In0 (a.more c) b:=by
 refine⟨λd j h=> ?_,?_⟩
 . obtain⟨g,a1,a2⟩:=e.cells d j h;exact⟨g,Y.p8 j g (JK p h) a1,a2⟩
 . have:=e.hd;refine(?_:hY b a.ak a.I.hd);generalize a.I.hd=r at this i;cases r with
   |none=>exact this
   |some aj=>
    obtain⟨d,n,o⟩:=this;exact⟨d,n,(show G _ b.s.heap _ _ _ from l▸G.cL Y.toShift o i)⟩
def rp(c:∀a:Wd,D a->h->i->Prop) (e:i8 h):Prop:=∀(a:Wd) f(b:D (a.more f))(d:D a) m k j l g,iI k m b.st.objs (a.ag.fz++f) a.ag.fz d.s.heap b.ρ d.ρ->b.s=d.s->e k m b.st.objs j l->c (a.more f) b j g->c a d l g
def A5:rp (λe=> @b e) bL:=λa a a a a a a a a Y d c r=>c _ _ _ _ _ Y _ (show G _ _ _ _ _ from d▸r)
def WQ:rp (λc=> @Is c Bool) rc:=λa a a a a a a a a a a b r=>b.symm.trans r
def Hn:rp (λc=> @b9 c) hv:=λc e h j i k n f d Y g a r=>by
 rcases a with⟨b,l,rfl,rfl,a⟩|⟨rfl,a⟩
 . induction d using PySem.Flow.casesOn with
   |ret m=>exact A5 c e h j i k b l m Y g a r
   |_=>exact r.elim
 . induction f using bg.casesOn with
   |ret b=>exact absurd rfl (a b)
   |_=>rcases d with _|_|_|_<;>exact r
def d.frame(F:rp c e)(q:In0 a m)(J:∀b(h:D (a.more b).w),In0 (a.more b) h->d (a.more b).z f (c _) h (g h.st)):d a.z f (c _) m (r3 e a.I k g m.st):=λO P x r p I G=>by
 obtain⟨y,z,A,B,C,E⟩:=x;refine Gs (p:=a.p) (A:=a.ak) (t:=f) (a0:=c) (bv:=e) (lo:=none) xG (λQ H=>tX H) (Aj y z) (.same A) (F a.w) (λR N=>bh (N)) I G λb h w o Y K u=> ?_;exact o▸J b h (q.more o Y B C) _ _ (w▸E) r p (λt j s i=>K t j s i (.inl rfl)) λL j M i=>u L j M i (.inl rfl)
def d.fo{j:Option Nat}(o:rp c e)(i:In0 a m)(q:∀m:D a.w,In0 a m->d a.z f (c _) m (g m.st)) (p:∀b(h:D (a.more b).w),In0 (a.more b) h->d (a.more b).z f (c _) h (g h.st)):d a.z f (c _) m (Mine.Internal.fo e a.I j g m.st):=by
 induction j using Option.casesOn with
 |none=>exact q m i
 |some k=>exact d.frame o i p
end
inductive BR(A:List Y->St->ab Y)(k:Nat)(a:List Nat)(args:List Y)(st:St)(K X:af):Prop
 |mk (P:List ae) (c:List Y):a.Nodup->(∀b,b<k->a[b]?=some b)->dT k (cN a) [] st.objs a P->bM k (cN a) [] args c->(A c ⟨P,[]⟩).A (fb bL (some st.d) k a st.objs K) (fb bL (some st.d) k a st.objs X)->BR A k a args st K X
noncomputable def AB(c:List Y->St->ab Y)(k:Nat)(b:List Nat)(a:List Y)(d:St):ab Y:=⟨BR c k b a d⟩
section
variable{k:Rk}{f:List Env}{a:Around}{m:D ⟨k.ag,f⟩}{e:List Y}{c:List Value}{n:Nat}{ix:List Nat}
def d.Gr{z:List Y->St->ab Y}{q:Value}(O:bp m e c)
  (M:∀p(g:D ⟨k.ag.more p,f⟩) e c j o y,bp g e c->(z e g.st).A j o->xL g j o y->codeAny (model k.p k.ag.w) a (.call q ⟨c,[]⟩) y g.s):d ⟨⟨k.ag,f⟩,k.p,a⟩ (call q c) b m (AB z n ix e m.st):=λj o E W U L K=>by
 obtain⟨V,A,F,G,H,I,J⟩:=E;refine Gs (p:=k.p) (A:=a) (t:=call q c) (a0:=λR=> @b R) (bv:=bL) (lo:=some m.st.d) F G H .drop (A5 _) (λX S=>(bw S).symm) L K λp g C i Y N B=> ?_;refine m2 (i▸M p g A c _ _ _ (show w _ g.s.heap _ _ _ from i▸I _ _ _ _ _ Y _ O) (C▸J) ⟨λu Q T x P h t r s=> ?_,λu Q T x P h t r s=> ?_⟩)
 . exact N u h.pt x h.f (.inr (i▸t)) r s
 . exact B u h.pt x h.f (.inr (i▸t)) r s
def d.rC(p:aC k.ag.hb k.T)(r:b1 k){i:Nat}{j:aL}(t:fc k.ag.hb i j)(u:a.frames=some (eJ f))(w:a.handled=none)(s:a.depth+2*(k.am+1)<recursionLimit)(x:a.units+16*(k.am+1)+64<cLine)(g:bp m e c):
  d ⟨⟨k.ag,f⟩,k.p,a⟩ (call (.ref i) c) b m (AB (lz k.r none j) n ix e m.st):=
 d.Gr g λh B e c y A z g q o=>uO (k:=k.more h) p (r h) t (hd:=none) u w (show a.depth+1+2*k.am<_ by exact(bV s (by simp+arith only))) (show a.units+3+16*k.am+64<_ by exact(bV x (by simp+arith only))) g q o.q o.e
def d.R3(j:aC k.ag.hb k.T)(o:aV k.T)(q:b1 k){i:Nat}(s:a.frames=some (eJ f))(t:a.handled=none)(r:a.depth+2*(k.am+1)<recursionLimit)(u:a.units+16*(k.am+1)+64<cLine)(g:bp m e c):
  d ⟨⟨k.ag,f⟩,k.p,a⟩ (call (.ref i) c) b m (AB (sw k.T k.r none i) n ix e m.st):=
 d.Gr g λh A e c x z y g p w=>CS (k:=k.more h) j o (q h) (hd:=none) s t r u g p w
end
abbrev bF:=Nat->List Y->St->(af)->(af)->Prop
def Made(e:au)(p:Program)(q j:Nat)(r:List Y)(s:St)(n o:af):Prop:=∀(c:Around)(g:List Env)(m:D ⟨e,g⟩) l,m.st=s->c.frames=some (eJ g)->c.handled=none->c.depth+2*j<recursionLimit->c.units+16*j+64<cLine->bp m r l->
 ∀(h:a8)(f:a8),(∀i a d,m.To a->b a i d->n i a.st->h d a.s)->(∀k a d,m.To a->b a k d->o k a.st->f d a.s)->wpAny (model p e.w) c (call (.ref q) l) h f m.s
def az(f:au)(p:Program)(g:Nat)(h:bF):Prop:=∀d c e a b,h d c e a b->Made f p g d c e a b
def dS(a:au)(p:Program):List (Nat×bF)->Prop
 |[]=>True
 |b::r=>az a p b.1 b.2/\dS a p r
theorem dS.ct{g:au}{p:Program}{d:List (Nat×bF)}(h:dS g p d){b:Nat}{c:bF}(a:da b d=some c):az g p b c:=by
 induction d with
 |nil=>exact bh a
 |cons e r i=>
  have a:cond (Nat.beq e.1 b) (some e.2) (da b r)=some c:=a;cases f:Nat.beq e.1 b with
  |true=>rw [f] at a;exact dR f▸bw a▸h.1
  |false=>rw [f] at a;exact i h.2 a
def pU{k n:Nat}{P' J:List ae}{lc:List (Str×Y)}(c:P'.length=k)(b:dn k P'):ht k (List.range k) n [] ⟨P'++J,lc⟩ P' []:=by refine⟨?_,.nil,λd a=>absurd a cB,.nil⟩;refine(?_:hw k _ _ (es (C (List.range k)) (P'++J)) P');rw [kP,aZ,List.length_range,List.take_left' c];exact .same b
def cv(d:Option Nat)(r:O)(a:I)(h:Expr)(e f:List Stmt)(c:Q)(b:af):Nat->St->Prop
 |0,_=>False
 |j+1,st=>(fo rc a d (r.B a h) st).A (λi g=>cond i ((fo hv a d (cU r a e) g).A (eU (cv d r a h e f c b j) c) (bT b)) ((cU r a f g).A c (bT b))) (bT b)
def bO(f:Option Nat)(d:ay)(r:O)(a:I)(h:Expr)(e g:List Stmt)(c:Q)(b:af):List Y->St->Prop
 |[],st=>(cU r a g st).A c (bT b)
 |aj::j,st=>(po d r a h aj st).A (λk i=>(fo hv a f (cU r a e) i).A (eU (bO f d r a h e g c b j) c) (bT b)) (bT b)
def r2(a:ay)(b:Expr)(c:St):Option Nat:=cond (cA b.pos.line a.OP) (some (C c.objs)) none
noncomputable def Hr(c:ay)(r:O)(g:I)(a:Expr)(f h:List Stmt)(b:St):ab bg:=⟨λd e=>cond (cA a.pos.line c.xt) (cv (r2 c a b) r g a f h d e 64 b) (∃m:Nat,cv (r2 c a b) r g a f h d e m b)⟩
section
variable{a:Fr}{m:D a.w}
def d.DP(f:aF a m)(i:b1 a.toRk){h:Option Nat}{b:List Stmt}:d a.z (PySem.execs b a.b) b9 m (Mine.Internal.fo hv a.I h (cU a.r a.I b) m.st):=
 d.fo Hn f.toIn0 (λm e=>d.execs b ⟨e,f.hS⟩) λg j e=>d.execs (g:=a.more g) b ⟨e,i g⟩
def d.V8(f:aF a m)(i:b1 a.toRk){h:Option Nat}{b:Expr}:d a.z (isTrue b a.b (eval b a.b)) Is m (Mine.Internal.fo rc a.I h (a.r.B a.I b) m.st):=
 d.fo WQ f.toIn0 (λm e=>f.hS.B a b m rfl e) λg j e=>(i g).B (a.more g) b j rfl e
def d.Ni(g:aF a m)(j:b1 a.toRk){i:Option Nat}{e:Expr}:d a.z (eval e a.b) b m (Mine.Internal.fo bL a.I i (a.r.E a.I e) m.st):=
 d.fo A5 g.toIn0 (λm f=>g.hS.E a e m rfl f) λh k f=>(j h).E (a.more h) e k rfl f
def Ht(K:b1 a.toRk){E:Option Nat}{j:Expr}{h g:List Stmt}{p:Q}{z:af}(w:Nat):∀{m:D a.w},aF a m->cv E a.r a.I j h g p z w m.st->BH a (.whileLoop j h g a.b) m p z:=by
 induction w with
 |zero=>exactλS F=>False.elim F
 |succ w O=>
  intro m y F I B A;refine q1 ?_;refine(?_:wpAny _ a.ak ((whileTurn j h g a.b).onRaise (λe=>do PySem.noteFrame e a.b;theTreesLotGoes e)) _ _ m.s);refine wpAny_noted (i (d.V8 y K _ _ F _ _ (λM R P l N L=> ?_) λc o e b x s=>mq b x s λt f=>A c t e f));rcases N;cases M with
  |true=>
   refine i (d.DP (y.f l) K _ _ L _ _ (λn v q C H G=> ?_) λc o e b x s=>mq (l.trans b) x s λt f=>A c t e f);have b:=l.trans C;have J:cv E a.r a.I j h g p z w v.st->codeAny a.z.ab a.z.ak (.whileLoop j h g a.b) I v.s:=λk=>O (y.f b) k I (λn o q f=>B n o q (b.trans f)) λc o e f=>A c o e (b.trans f);exact H.case (P:=λn q=>eU (cv E a.r a.I j h g p z w) p n v.st->wpAny a.z.ab a.z.ak (match q with| .next| .cont=>again (.whileLoop j h g a.b)| .brk=>Pure.pure (.done .next)| .ret c=>Pure.pure (.done (.ret c))) _ _ v.s) (λk=>V ⟨rfl,J k⟩) (λk=>V (B .next _ _ b u k)) (λk=>V ⟨rfl,J k⟩) (λc e r k=>V (B (.ret c) _ _ b r k)) G
  |false=>exact i (d.execs g (y.f l) _ _ L _ _ (λn v q C H G=>V (B n _ _ (l.trans C) H G)) λc o e b x s=>mq (l.trans b) x s λt f=>A c t e f)
def d.W2(j:aF a m)(p:b1 a.toRk){e:Expr}{f g:List Stmt}{r:Pos}:d a.z (PySem.exec (.While e f g r) a.b) b9 m (Hr a.T a.r a.I e f g m.st):=by
 refine h (arm_exec_While ..) ?_;refine d.bD (d.bk λk o b=> ?_);have b:cond (cA e.pos.line a.T.xt) (cv (r2 a.T e m.st) a.r a.I e f g k o 64 m.st) (∃i:Nat,cv (r2 a.T e m.st) a.r a.I e f g k o i m.st):=b;induction q:cA e.pos.line a.T.xt using Bool.casesOn with
 |true=>rw [q] at b;exact Ht p 64 j b
 |false=>
  rw [q] at b;obtain⟨i,b⟩:=b;exact Ht p i j b
end
noncomputable def Af(a:String):Bool:= !(["enumerate","zip","dict_itemiterator","dict_reverseitemiterator","odict_iterator","itertools.zip_longest","itertools.pairwise"].contains a)&& !(a=="traceback")
inductive pg(c:Addr)(b:Heap):Prop
 |mk (a:Obj) (d:String) (e:Array Value):b.get? c=some a->a.cls= .type d->a.data= .fields e->Af d=true->pg c b
structure gL{w:Wd}(d:List Addr)(m a:D w):Prop where
 st:a.st=m.st
 ρ:a.ρ=m.ρ
 b0:∀b c,b∉d->m.s.heap.get? b=some c->a.s.heap.get? b=some c
 gens:a.s.gens=m.s.gens
 os:a.s.os=m.s.os
def Tn{a:String}(b:Af a=true):(Value.type a)≠TB:=λc=>by cases c;exact absurd b (by decide)
def Xl{ab:Model}{d:Around}{o:Expr}{g:Addr}{j:Value}{a:Shared}{b:Unit->Shared->Prop}{e:a8}(p:pg g a.heap)(f:b () a):wpAny ab d (letOwnedTupleGo o (.ref g) j) b e a:=by
 obtain⟨u,m,v,q,r,s,l⟩:=p;have t:(["enumerate","zip","dict_itemiterator","dict_reverseitemiterator","odict_iterator","itertools.zip_longest","itertools.pairwise"].contains m)=false:=by unfold Af at l;exact Bool.not_eq_true' _▸(Xz _ _▸l).1
 have k:∀c n,wpAny ab d (letOwnedTupleGo (.Tuple [] c n) (.ref g) j) b e a:=λc n=>by
  induction j using Value.casesOn with
  |ref ai=>
   refine i (wpAny_load q ?_);refine h (r ..) ?_;refine h (s ..) ?_;refine(?_:wpAny ab d (if(["enumerate","zip","dict_itemiterator","dict_reverseitemiterator","odict_iterator","itertools.zip_longest","itertools.pairwise"].contains m&&_)=true then _ else _) b e a);refine h (t ..) ?_;refine h (Bool.false_and ..) ?_;refine h (if_neg Bool.false_ne_true ..) ?_;exact V f
  |_=>exact V f
 induction o using Expr.casesOn with
 |Tuple ai ah c=>exact k ah c
 |List ai ah=>exact k 0 ah
 |_=>exact V f
inductive m7(b:Addr)(c:Heap):Prop
 |mk (a:Obj):c.get? b=some a->(∀d n,a.data≠.seq d n)->a.cls≠TB->m7 b c
def m7.of{b:Addr}{c:Heap}(d:m7 b c){a:Obj}(e:c.get? b=some a):(∀i n,a.data≠.seq i n)/\a.cls≠TB:=by obtain⟨j,f,g,h⟩:=d;cases e.symm.trans f;exact⟨g,h⟩
def pg.nL{c:Addr}{b:Heap}(d:pg c b):m7 c b:=by obtain⟨i,k,l,e,f,g,h⟩:=d;exact .mk i e (λj j a=>nomatch a.symm.trans g) λa=>Tn h (f.symm.trans a)
structure pj(p:Program)(W:World)(A:Around)(w:Expr)(i:Addr)(j t:List Addr)(n:Nat)(Pv:Nat->Value->Heap->Heap->Prop)(P:Nat->Heap->Prop):Prop where
 frame:∀a h c,P a h->(∀b,b∈j\/b∈t->∀e,h.get? b=some e->c.get? b=some e)->P a c
 item:∀{a:Nat}{s:Shared}{m:Type}{f:Option Value->Sem m}{k:Value->Sem m}{d:m->Shared->Prop}{g q:a8},(∀v,f (some v)=letOwnedTupleGo w (.ref i) v>>=λx=>k v)->a<n->P a s.heap->
  (∀o c l,Pv a o s.heap c->P (a+1) c->(∀b e,b∉j->s.heap.get? b=some e->c.get? b=some e)->wpAny (model p W) A (k o) d g {s with heap:=c,toks:=l})->wpAny (model p W) A (pyNext (.ref i)) (λr u=>wpAny (model p W) A (f r) d g u) q s
 done:∀{s:Shared}{d:Option Value->Shared->Prop}{g:a8},P n s.heap->(∀c l,(∀b e,b∉j->s.heap.get? b=some e->c.get? b=some e)->d none {s with heap:=c,toks:=l})->wpAny (model p W) A (pyNext (.ref i)) d g s
 self:∀(a:Nat)(s:Shared)(d:a8)(g:a8),P a s.heap->d (.ref i) s->wpAny (model p W) A (pyIter (.ref i)) d g s
 nL:∀a h,P a h->∀b∈j,m7 b h
def pj.of{p:Program}{o:World}{l:Around}{z:Expr}{d:Addr}{r:List Addr}{n:Nat}{m:Nat->Value->Prop}{f:Nat->Heap->Prop}(e:Walks p o l d (d::r) [d] n m f)(t:∀a c,f a c->pg d c):pj p o l z d [d] r n (λa C D D=>m a C) f:=
 ⟨λa c g b w=>e.frame a c g b λq j=>w q ((List.mem_cons.mp j).imp List.mem_singleton.mpr id),
  λu v b k=>e.item _ _ _ _ v b λB g A y s x=>by refine h (u ..) ?_;exact i (Xl (t _ _ s) (k B g A y s x)),
  λb k=>e.done _ _ _ b k,e.self,λa c b q j=>List.mem_singleton.mp j▸(t a c b).nL⟩
structure lj(p:Program)(A:Around)(g:Wd)(q:Expr)(o:Addr)(h j:List Addr)(m:List Y)(Pv:Nat->Value->Heap->Heap->Prop)(P:Nat->Heap->Prop)(f:List Addr->Heap->List Addr->Prop):Prop where
 W:pj p g.ag.w A q o h j m.length Pv P
 item:∀Z l i e d c,f Z d c->(∀a,e.get? a=none->a∉c)->Pv l i e d->∃v,m[l]?=some v/\G Z d c v i
 jk:∀Z e c d n,Kp e c d n->f Z e c->f Z d n
 jv:∀Z k e d c,(∀v i,G Z e c v i->G k d c v i)->f Z e c->f k d c
 nf:∀b∈h,b∉bf g.aq
 nz:∀b∈h,b∉g.ag.fz
 ge:∀b∈h,g.ag.n0<=b
 ff:∀b∈j,b∉bf g.aq
 Fw:∀b∈h,b∉j
structure Wk{c:Wd}(e fp:List Addr)(P:Nat->Heap->Prop)(d:List Addr->Heap->List Addr->Prop)(k:Nat)(m:D c):Prop where
 dj:∀b∈e,b∉m.ρ
 a4:P k m.s.heap
 fp:∀b∈fp,¬bk m.st m.ρ b/\∃a,m.s.heap.get? b=some a/\a.cls≠TB
 j:d c.ag.fz m.s.heap m.ρ
section
variable{a:Wd}{g:Expr}{n:Addr}{e l:List Addr}{i:Nat->Heap->Prop}{h:List Addr->Heap->List Addr->Prop}{k:Nat}{m c:D a}{p:Program}{A:Around}{d:List Y}{o:Nat->Value->Heap->Heap->Prop}
def Ah{c o:St}{d g:List Addr}{b:Addr}(n:d.length=c.objs.length)(s:g.Nodup)(ext:∀(a:Nat) i,d[a]?=some i->g[a]?=some i) (t:b∉d->b∉g) (r:∀(a:Nat) f,c.objs[a]?=some (.ro f)->o.objs[a]?=some (.ro f)) (u:¬bk c d b):¬bk o g b:=λ⟨a,w,p,k,q⟩=>by
 by_cases m:b∈d
 . obtain⟨j,e⟩:=jV m;obtain rfl:=jI s k (ext j b e);have h:=fa (n▸(List.getElem?_eq_some_iff.mp e).1:a<c.objs.length);generalize c.objs[a]'(n▸(List.getElem?_eq_some_iff.mp e).1)=f at h;cases l:jt f with
   |false=>exact u ⟨a,_,h,e,l⟩
   |true=>
    obtain⟨v,rfl⟩:=Ek l;cases(r a v h).symm.trans p;cases q
 . exact t m (b8 k)
def Step.bk{d:St}{c:List Addr}{j:Shared}(b:Step m d c j)(h:c.Nodup){a:Addr}{i:Obj}(e:m.s.heap.get? a=some i):¬bk m.st m.ρ a->¬bk d c a:=Ah m.O.aE h b.ext (λg f=>cG (b.new a f g) e) b.f8
def Wk.f(t:lj p A a g n e l d o i h)(s:Wk e l i h k m)(u:m.To c):Wk e l i h k c:=by
 have y:=t.W.nL k _ s.a4;refine⟨λb q D=> ?_,t.W.frame k _ _ s.a4 λb q B r=> ?_,λb q=> ?_,t.jk _ _ _ _ _ u.kp s.j⟩
 . obtain⟨x,r,_⟩:=y b q;exact cG (u.new b D (s.dj b q)) r
 . refine Or.elim (q) (λq=> ?_) λq=> ?_
   . exact u.b0 _ B r ((by rintro⟨_,_,_,C,_⟩;exact s.dj b q (b8 C))) (t.nf b q) ((y b q).of r).2
   . obtain⟨w,x,z,v⟩:=s.fp b q;cases r.symm.trans z;exact u.b0 b _ r w (t.ff b q) v
 . obtain⟨w,x,r,v⟩:=s.fp b q;exact⟨u.bk c.O.d3 r w,x,u.b0 b x r w (t.ff b q) v,v⟩
def gL.kp(b:gL e m c)(g:∀a∈e,m7 a m.s.heap):Kp m.s.heap m.ρ c.s.heap c.ρ:=
 ⟨λa k f n ⟨o,d,i⟩ n=>b.b0 a k (λp=>((g a p).of f).1 o d i) f,λq h l=>b.ρ▸l,λh j d=>absurd (b.ρ▸j) d⟩
def w.map{b c:List Addr}{e f:Heap}{a:List Addr}(j:∀g h,G b e a g h->G c f a g h) {d:List Y} {i:List Value} (r:w b e a d i):w c f a d i:=w.gF .cQ (λr l k=> .cI (j _ _ r) k) r
def c6.map{a:World}{c d:List Addr}{g h:Heap}{b:List Addr}(k:∀i j,G c g b i j->G d h b i j) {f:List (Str×Y)} {e:List DictEntry} (r:c6 a c g b f e):c6 a d h b f e:=by
 induction r with
 |fk=>exact .fk
 |f0 ai _ l=>exact .f0 ⟨ai.key,ai.hash,k _ _ ai.val⟩ l
theorem cK.map{a:World}{v w:List Addr}{k l:Heap}{s:List Addr}{o:Addr}(q:∀n x,G v k s n x->G w l s n x) (C:∀g j f,k.get? g=some (dQ j f)->l.get? g=some (dQ j f)) (B:∀p b d,k.get? p=some b->b.cls=TB->b.data= .fields d->l.get? p=some b) (i:l.get? o=k.get? o) {b:ae} (r:cK a v k s o b):cK a w l s o b:=by
 induction b with
 |c d=>obtain⟨j,f,c,e⟩:=r;exact⟨j,f,i.trans c,e.map q⟩
 |dict N=>obtain⟨z,f,c,e,h⟩:=r;exact⟨z,f,i.trans c,e.map q,h⟩
 |bj ag ap=>obtain⟨t,c,e⟩:=r;exact⟨t,c,i.trans e⟩
 |ar ag ap args O M=>
  obtain⟨t,g,J,y,m,j,f,c,e,h,u,D,E,F⟩:=r;refine⟨t,g,J,y,m,j,f,c,i.trans e,C _ _ _ h,u,D.map q,?_,F⟩;induction E with
  |n=>exact .n
  |mk p b d A al ap L f I=>exact .mk p b d (B _ _ _ A al ap) al ap L f I
 |cell n=>
  rcases r with⟨b,c,e,h⟩|⟨b,n,K,c,e,h,u⟩
  . exact .n b (i.trans c) e h
  . exact .mk b n K (i.trans c) e h (q _ _ u)
 |ro b H=>exact H r
def CA{o:Heap}(J:Nat)(s:∀t b,t∉e->m.s.heap.get? t=some b->o.get? t=some b) (x:∀p∈e,p∉m.ρ/\p∉bf a.aq/\a.ag.n0<=p/\(p∈a.ag.fz->∃b,o.get? p=some b)) (I:∀p∈e,∀b,m.s.heap.get? p=some b->(b.cls=TB->∀d,b.data≠.fields d)/\∀K k,b≠dQ K k)
  (E:∀z A,G a.ag.fz m.s.heap m.ρ z A->G a.ag.fz o m.ρ z A) (L:∀v,a.ag.B v->a.ag.n0<=v.objs.size):∃c:D a,c.s={m.s with heap:=o,toks:=J}/\gL e m c:=by
 have i:=m.O;have F:∀{h b},h∈m.ρ->m.s.heap.get? h=some b->o.get? h=some b:=λv f=>s _ _ (λl=>(x _ l).1 v) f;have H:∀j∈bf a.aq,∀k,m.s.heap.Ns j k->o.Ns j k:=λj n k u=>by
  obtain⟨b,P,O,f,r⟩:=u;exact⟨b,P,O,s j b (λl=>(x j l).2.1 n) f,r⟩
 have C:=a.ag.mono (λh b S f=>s h b (λl=>absurd S (Nat.not_lt.mpr (x h l).2.2.1)) f:ph a.ag m.s.heap o) i.cw;refine⟨⟨m.st,m.ρ,{m.s with heap:=o,toks:=J},C,L _ C,i.aE,i.d3,λR b h B w=> ?_,λh q=>⟨?_,(i.dt h q).ge⟩,λh q=>⟨?_,(i.em h q).ge⟩,λj n=>⟨(i.b7 j n).ge,(i.b7 j n).dj,?_⟩,i.hF,i.envs,λj r n=> ?_⟩,rfl,rfl,rfl,s,rfl,rfl⟩
 . have y:=i.a4 R b h B w;obtain⟨U,f⟩:=y.c7;exact y.map E (λg K k f=>s g _ (λl=>(I g l _ f).2 _ _ rfl) f) (λt b d f M N=>s t b (λl=>(I t l _ f).1 M d N) f) ((F (b8 w) f).trans f.symm)
 . obtain⟨b,f⟩:=(i.dt h q).has;exact⟨b,F q f⟩
 . by_cases l:h∈e
   . exact(x h l).2.2.2 q
   . obtain⟨b,f⟩:=(i.em h q).has;exact⟨b,s h b l f⟩
 . obtain⟨k,u⟩:=(i.b7 j n).ns;exact⟨k,H j n k u⟩
 . obtain⟨k,u,y⟩:=i.d j r n;exact⟨k,H j (n▸.head _) k u,λA z Q=>let⟨T,B,w⟩:=y A z Q;⟨T,B,E _ _ w⟩⟩
def Cz{e:Addr}{g:Heap}(k:Nat)(s:∀f b,f≠e->m.s.heap.get? f=some b->g.get? f=some b) (w:e∉m.ρ) (u:e∉bf a.aq) (r:a.ag.n0<=e) (t:e∈a.ag.fz->∃b,g.get? e=some b) (v:∀b,m.s.heap.get? e=some b->(b.cls=TB->∀d,b.data≠.fields d)/\∀x i,b≠dQ x i)
  (q:∀l n,G a.ag.fz m.s.heap m.ρ l n->G a.ag.fz g m.ρ l n) (o:∀j,a.ag.B j->a.ag.n0<=j.objs.size):∃c:D a,c.s={m.s with heap:=g,toks:=k}/\gL [e] m c:=
 CA k (λf b i p=>s f b (λy=>i (List.mem_singleton.mpr y)) p) (λf h=>List.mem_singleton.mp h▸⟨w,u,r,t⟩) (λf h=>List.mem_singleton.mp h▸v) q o
def Wk.next(w:lj p A a g n e l d o i h)(B:Wk e l i h k m)(XJ:k<=d.length)(Z:∀K,a.ag.B K->a.ag.n0<=K.objs.size) {P:Type} {N:Option Value->Sem P} {U:Value->Sem P} {M:P->Shared->Prop} {L X:a8} (XI:∀y,N (some y)=letOwnedTupleGo g (.ref n) y>>=λI=>U y)
  (XM:∀y G(c:D a),d[k]?=some y->gL e m c->b c y G->Wk e l i h (k+1) c->wpAny (model p a.ag.w) A (U G) M L c.s) (done:∀c:D a,k=d.length->gL e m c->wpAny (model p a.ag.w) A (N none) M L c.s):wpAny (model p a.ag.w) A (pyNext (.ref n)) (λr XR=>wpAny (model p a.ag.w) A (N r) M L XR) X m.s:=by
 have J:=w.W.nL k _ B.a4;have V:∀z C,(∀q x,q∉e->m.s.heap.get? q=some x->z.get? q=some x)->∃c:D a,c.s={m.s with heap:=z,toks:=C}/\gL e m c:=λz C E=>
  CA C E (λq s=>⟨B.dj q s,w.nf q s,w.ge q s,λt=>absurd t (w.nz q s)⟩) (λq s x u=>⟨λt=>absurd t ((J q s).of u).2,λW F t=>((J q s).of u).1 _ _ (T Obj.data t)⟩)
   (λy G r=>r.mono ⟨λq x u I ⟨W,F,XD⟩ I=>E q x (λt=>((J q t).of u).1 W F XD) u,λI I O=>O,λI K F=>absurd K F⟩) Z
 rcases Nat.lt_or_ge k d.length with XN|XF
 . refine w.W.item XI XN B.a4 λG z C XO XG E=> ?_;refine aS λQ H=> ?_;obtain⟨c,u,v⟩:=V z C E;have R:=w.jk _ _ _ _ _ (v.kp J) B.j;have S:c.s.heap=z:=T Shared.heap u;obtain⟨y,XK,XQ⟩:=w.item _ k G m.s.heap _ _ R (λY XH t=>by
    obtain⟨x,O⟩:=(m.O.dt Y (v.ρ▸t)).has;exact cG XH O) (S.symm▸XO)
   refine H ?_;refine u▸XM y G c XK v XQ ⟨λq s=>v.ρ▸B.dj q s,S.symm▸XG,λq s=> ?_,R⟩;refine aS λQ H=> ?_;obtain⟨F,x,XE,XC⟩:=B.fp q s;refine H ?_;exact⟨v.st▸v.ρ▸F,x,v.b0 q x (λt=>w.Fw q t s) XE,XC⟩
 . obtain rfl:=xK XJ XF;refine w.W.done B.a4 λz C E=> ?_;refine aS λQ H=> ?_;obtain⟨c,u,v⟩:=V z C E;refine H ?_;exact u▸done c rfl v
end
def eL:Option (Nat×ae)->St->St
 |none,st=>st
 |some a,st=>⟨aQ st.objs a.1 (.ro a.2),st.d⟩
def gj:Option (Nat×ae)->St->St
 |none,st=>st
 |some a,st=>⟨aQ st.objs a.1 a.2,st.d⟩
def j8(d:St)(c:Option (Nat×ae)):Prop:=∀b a,c=some (b,a)->d.objs[b]?=some a/\jt a=false
section
variable{c:Wd}{t:Expr}{i:Addr}{d g:List Addr}{f:Nat->Heap->Prop}{J:List Addr->Heap->List Addr->Prop}{k:Nat}{e m m':D c}{p:Program}{l:Around}{o:List Y}{n:Nat->Value->Heap->Heap->Prop}{a:Option (Nat×ae)}
def D.To.e1(h:e.To m)(g:gL d m m')(I:∀l∈d,e.s.heap.get? l=none) (H:∀l∈d,l∉bf c.aq):e.To m':=by
 have j:∀{b f},e.s.heap.get? b=some f->b∉d:=λa t=>cG (I _ t) a;refine⟨λp b a=>g.ρ▸h.ext p b a,λb C q=>h.new b (g.ρ▸C) q,λb f a=> ?_,λb f a E F G=>g.b0 b f (j a) (h.b0 b f a E F G),λb f o a w y=> ?_,λb f J a=>g.b0 b f (j a) (h.fL b f J a),λp f a=>g.st▸h.f8 p f a,λk u q v=> ?_,g.gens.trans h.gens,g.os.trans h.os⟩
 . refine Exists.elim (h.c7 b f a) λi n=> ?_;exact⟨i,g.b0 b i (j a) n⟩
 . obtain⟨i,K,n,x,z,r⟩:=h.iA b f o a w y;exact⟨i,K,g.b0 b i (j a) n,x,z,r⟩
 . obtain⟨f,B,A,a,r⟩:=h.hJ k u q v;exact⟨f,B,A,g.b0 k f (λt=>H k t (qX u)) a,r⟩
def F7{c:au}{m:List Env}{f:St}{h:List Addr}{g:Heap}(a:cD c m f h g){e:Nat}{i k:ae}(l:f.objs[e]?=some i)(p:∀d,cK c.w c.fz g h d i->cK c.w c.fz g h d k):cD c m ⟨aQ f.objs e k,f.d⟩ h g:=by
 refine⟨a.cw,a.eh,a.aE.trans (by rw [d4,List.length_set]),a.d3,λj n d b e2=> ?_,a.dt,a.em,a.b7,a.hF,a.envs,a.d⟩;have b:(aQ f.objs e k)[j]?=some n:=b;rw [d4] at b;by_cases o:e=j
 . subst o;rw [List.getElem?_set_self (List.getElem?_eq_some_iff.mp l).1] at b;exact bw b▸p d (a.a4 e i d l e2)
 . rw [List.getElem?_set_ne o] at b;exact a.a4 j n d b e2
def s.mark(k:j8 m.st a):s m (eL a m.st) m.ρ m.s:=by
 rcases a with _|⟨h,d⟩
 . exact⟨m.O,D.To.refl m⟩
 . refine And.elim (λg i=> ?_) (k h d rfl);refine⟨F7 m.O g λo e=>e,λb b c=>c,λb e l=>absurd e l,λb d c=>⟨d,c⟩,λb b c b b b=>c,λb b b=> .same,λb b b c=>c,λj p c=> ?_,λb b b c=>c,rfl,rfl⟩;refine(?_:(aQ m.st.objs h (.ro d))[j]?=_);rw [d4,List.getElem?_set_ne λn=>by subst n;cases g.symm.trans c;cases i];exact c
def s.tE(p:j8 m.st a)(b:(s.mark p).pt.To m'):s m (gj a m'.st) m'.ρ m'.s:=by
 rcases a with _|⟨c,e⟩
 . exact⟨m'.O,b⟩
 . refine And.elim (λg l=> ?_) (p c e rfl);have k:∀{j:Nat},j≠c->(aQ m.st.objs c (.ro e))[j]?=m.st.objs[j]?:=λd=>by rw [d4,List.getElem?_set_ne (Ne.symm d)]
   have v:(aQ m.st.objs c (.ro e))[c]?=some (.ro e):=by rw [d4,List.getElem?_set_self (List.getElem?_eq_some_iff.mp g).1]
   refine⟨F7 m'.O (b.f8 c e v) λy w=>w,b.ext,b.new,b.c7,λq x r o=>b.b0 q x r λ⟨j,i,t,e2,u⟩=> ?_,b.iA,b.fL,λj i n=> ?_,b.hJ,b.gens,b.os⟩
   . by_cases d:j=c
     . subst d;exact o ⟨j,e,g,e2,l⟩
     . exact o ⟨j,i,(k d).symm.trans t,e2,u⟩
   . have d:j≠c:=λd=>by subst d;cases g.symm.trans n;cases l
     refine(?_:(aQ m'.st.objs c e)[j]?=_);refine h (d4 ..) ?_;refine h (List.getElem?_set_ne (i7 d)) ?_;exact b.f8 j i ((k d).trans n)
inductive ef(p:Program)(l:Around)(t:Expr)(e:D c)(a:List Y×Option (Nat×ae))(m':D c):Value->Prop
 |mk (m:D c) (j:j8 m.st a.2) (i:Addr) (d g:List Addr) (n:Nat->Value->Heap->Heap->Prop) (f:Nat->Heap->Prop) (J:List Addr->Heap->List Addr->Prop):e.To m->(s.mark j).pt.To m'->(∀b∈d,m.s.heap.get? b=none)->lj p l c t i d g a.1 n f J->Wk d g f J 0 m'->m'.st=eL a.2 m.st->m'.ρ=m.ρ->(∀b h,m.s.heap.get? b=some h->m'.s.heap.get? b=some h)->ef p l t e a m' (.ref i)
def EE{s':Shared}(F:j8 m.st a)(L:pj p c.ag.w l t i d g o.length n f)(P:∀u H y e r k,J u r k->(∀C,e.get? C=none->C∉k)->n H y e r->∃x,o[H]?=some x/\G u r k x y) (I:∀u e k r K,Kp e k r K->J u e k->J u r K) (Q:∀u B e r k,(∀x y,G u e k x y->G B r k x y)->J u e k->J B r k)
  (z:∀b∈g,b∉bf c.aq/\¬bk (eL a m.st) m.ρ b/\∃h,m.s.heap.get? b=some h/\h.cls≠TB) (N:J c.ag.fz m.s.heap m.ρ) (w:∀b∈d,m.s.heap.get? b=none/\c.ag.n0<=b) (E:∀b h,m.s.heap.get? b=some h->s'.heap.get? b=some h) (A:s (s.mark F).pt (eL a m.st) m.ρ s') (O:f 0 s'.heap):∃m':D c,m'.s=s'/\m'.st=eL a m.st/\ef p l t m (o,a) m' (.ref i):=by
 refine⟨A.pt,rfl,rfl,.mk m F i d g n f J (.refl m) A.f (λb j=>(w b j).1) ⟨L,P,I,Q,λb j v=> ?_,λb j v=> ?_,λb j=>(w b j).2,λb e=>(z b e).1,λb j v=> ?_⟩ ⟨λb j v=> ?_,O,λb e=>⟨(z b e).2.1,?_⟩,I _ _ _ _ _ A.f.kp N⟩ rfl rfl E⟩
 . obtain⟨R,h,_,_,q,_⟩:=(m.O.b7 _ v).ns;exact cG (w b j).1 q
 . obtain⟨h,q⟩:=(m.O.em _ v).has;exact cG (w b j).1 q
 . obtain⟨_,_,h,q,_⟩:=z _ v;exact cG (w b j).1 q
 . obtain⟨h,q⟩:=(m.O.dt _ v).has;exact cG (w b j).1 q
 . obtain⟨_,_,h,q,M⟩:=z b e;exact⟨h,E b h q,M⟩
end
section
variable{a:Fr}{m:D a.w}
def In0.e1{i:List Addr}{c:D a.w}(b:In0 a m)(g:a.I.hd=none)(d:gL i m c):In0 a c:=⟨λj h e=>d.ρ▸b.cells j h e,by have:=b.hd;rw [g] at this⊢;exact this⟩
def Oz(XT:b1 a.toRk)(XJ:a.I.hd=none){O:Option Nat}{j:Expr}{n l:List Stmt}{B:Q}{G:af}{y:Addr}{XE XH:List Addr}{P:Nat->Heap->Prop}{XG:List Addr->Heap->List Addr->Prop}{J:List Y}{XN:Nat->Value->Heap->Heap->Prop}(v:lj a.p a.ak a.w j y XE XH J XN P XG)
  {sA:D a.w}(XK:∀XQ∈XE,sA.s.heap.get? XQ=none) {R:Result->Shared->Prop} (X:∀o e p,sA.To e->b9 e o p->B o e.st->R (.ok p) e.s) (U:∀f e c,sA.To e->b e f c->d0 f e.st=true->G f e.st->R (.error c) e.s) (z:List Y):∀{k:Nat}{m:D a.w},k<=J.length->J.drop k=z->
  aF a m->sA.To m->Wk XE XH P XG k m->bO O a.T a.r a.I j n l B G z m.st->codeAny a.z.ab a.z.ak (.forLoop j (.ref y) n l a.b) R m.s:=by
 induction z with
 |nil=>
  intro k m W w A L N S;refine q1 ?_;refine(?_:wpAny _ a.ak ((forTurn j (.ref y) n l a.b).onRaise (λc=>do PySem.noteFrame c a.b;theTreesLotGoes c)) _ _ m.s);refine wpAny_noted (i (j0 (i (wpAny_onRaise (N.next v W (λs g=>nw a.F g) (λs=>rfl) (λf c e XC=> ?_) λe s g=>V ⟨rfl,codeAny_block ?_⟩)))))
  . exact bh ((BB (List.drop_eq_nil_iff.mp w)).symm.trans XC)
  . have t:=L.e1 g XK v.nf;exact d.execs l ⟨A.toIn0.e1 XJ g,A.hS⟩ _ _ (g.st.symm▸S) _ _ (λo XM p h XD Z=>X o XM p (t.trans h) XD Z) λf e c h q E=>mq (t.trans h) q E λF=>U f F c
 |cons f z XU=>
  intro k m W w A L N S;refine q1 ?_;refine(?_:wpAny _ a.ak ((forTurn j (.ref y) n l a.b).onRaise (λc=>do PySem.noteFrame c a.b;theTreesLotGoes c)) _ _ m.s);have H:k<J.length:=Nat.lt_of_not_le λXF=>by rw [List.drop_eq_nil_iff.mpr XF] at w;cases w
  rw [List.drop_eq_getElem_cons H] at w;refine And.elim (λXR XS=> ?_) (List.cons.inj w);refine wpAny_noted (i (j0 (i (wpAny_onRaise (N.next v W (λs g=>nw a.F g) (λs=>rfl) (λXX c XW XC g q XO=> ?_) λe XF g=>absurd H (XF▸gk _))))));have x:XX=f:=bw (XC.symm.trans ((fa H).trans (T some XR)));subst x;have M:=L.e1 g XK v.nf;have K:aF a XW:=⟨A.toIn0.e1 XJ g,A.hS⟩;refine i (d.assign j K q _ _ (g.st.symm▸S) _ _ (λs XM s h s Z=> ?_) λf e c h q E=>mq (M.trans h) q E λF=>U f F c);refine i (d.DP (K.f h) XT _ _ Z _ _ (λo I p C XD XV=> ?_) λf e c C q E=>mq ((M.trans h).trans C) q E λF=>U f F c);have t:=(M.trans h).trans C;have XI:bO O a.T a.r a.I j n l B G z I.st->codeAny a.z.ab a.z.ak (.forLoop j (.ref y) n l a.b) R I.s:=λk=>XU H XS ((K.f h).f C) t ((XO.f v h).f v C) k;exact XD.case (P:=λo p=>eU (bO O a.T a.r a.I j n l B G z) B o I.st->wpAny a.z.ab a.z.ak (match p with| .next| .cont=>again (.forLoop j (.ref y) n l a.b)| .brk=>Pure.pure (.done .next)| .ret f=>Pure.pure (.done (.ret f))) _ _ I.s) (λk=>V ⟨rfl,XI k⟩) (λk=>V (X .next _ _ t u k)) (λk=>V ⟨rfl,XI k⟩) (λf c r k=>V (X (.ret f) _ _ t r k)) XV
end
noncomputable def qG:List Nat->List Y
 |[]=>[]
 |al::a=> .str ⟨#[al]⟩::qG a
noncomputable def mC(a:Int):Int->Nat->List Y
 |_,0=>[]
 |ai,b+1=> .int ai::mC a (ai+a) b
noncomputable def sn:List (Str×Y)->List Y
 |[]=>[]
 |a::b=> .str a.1::sn b
abbrev ew:=List Y×Option (Nat×ae)
def Qt(b:Nat)(d:ae)(e:St):ab ew:=match d with
 | .c a=> .ret (a,some (b,.c a)) (eL (some (b,.c a)) e)
 | .dict c=> .ret (sn c,some (b,.dict c)) (eL (some (b,.dict c)) e)
 | .ro d=>(match d with| .c a=> .ret (a,none) e|_=> .n)
 |_=> .n
def EC(e:Y)(a:St):ab ew:=match e with
 | .c b=> .ret (b,none) a
 | .l b=> .ret (b,none) a
 | .str f=> .ret (qG f.cps.toList,none) a
 | .obj c=> .v (t a.objs c) λd=>Qt c d a
 |_=> .n
def Ar(e:List Y)(d:St):ab ew:=match e with
 |[]=> .n
 |a::r=>match r with
  |[]=> .int a λb=> .ok (Builtin.Range.small 0 b 1) (.ret (mC 1 0 (Builtin.Range.rangeSize 0 b 1).toNat,none) d)
  |b::r=>match r with
   |[]=> .int a λa=> .int b λb=> .ok (Builtin.Range.small a b 1) (.ret (mC 1 a (Builtin.Range.rangeSize a b 1).toNat,none) d)
   |c::r=>match r with
    |[]=> .int a λa=> .int b λb=> .int c λc=> .ok (Builtin.Range.small a b c) (.bR (Int.beq' c 0) (.bR (Builtin.divisionGoesByPylong (b-a) c) (.ret (mC c a (Builtin.Range.rangeSize a b c).toNat,none) d)))
    |_=> .n
section
variable{b:List Addr}{a:Heap}{c:List Addr}
def w.zl{f:List Y}{h:List Value}(r:w b a c f h){d:Nat}{g:Value}:h[d]?=some g->∃e,f[d]?=some e/\G b a c e g:=
 w.gF (P:=λf h=>∀{d:Nat},h[d]?=some g->∃e,f[d]?=some e/\G b a c e g) (λa=>bh a) (λ{e l f h} r k j d=>Nat.casesOn (motive:=λd=>(l::h)[d]?=some g->∃i,(e::f)[d]?=some i/\G b a c i g) d (λa=>⟨e,rfl,bw a▸r⟩) λk a=>j a) r
def GA(a:List Nat):(qG a).length=a.length:=by
 induction a with
 |nil=>rfl
 |cons _ _ b=>exact T Nat.succ b
def U'{c:List Nat}{b d:Nat}(a:c[b]?=some d):(qG c)[b]?=some (.str ⟨#[d]⟩):=by
 induction c generalizing b with
 |nil=>exact bh a
 |cons _ _ e=>induction b with
  |zero=>exact bw a▸rfl
  |succ b _=>exact e a
def Ub(c:Int)(a:Nat):∀b,(mC c b a).length=a:=by
 induction a with
 |zero=>exactλe=>rfl
 |succ a d=>exactλb=>T Nat.succ (d _)
def Ua(c:Int){e:Nat}:∀{d:Nat}(b:Int),d<e->(mC c b e)[d]?=some (.int (b+d*c)):=by
 induction e with
 |zero=>exactλh a=>absurd a (eu _)
 |succ e g=>
  intro d b a;induction d with
  |zero=>exact T (λf=>some (Y.int f)) (by refine(?_:b=b+0*c);rw [Int.zero_mul,Int.add_zero])
  |succ d _=>exact(g (b+c) (hq a)).trans (T (λf=>some (Y.int f)) (by refine(?_:b+c+d*c=b+(d+1)*c);rw [Int.add_mul,Int.one_mul,Int.add_assoc,Int.add_comm c]))
def QI(a:List (Str×Y)):(sn a).length=a.length:=by
 induction a with
 |nil=>rfl
 |cons _ _ b=>exact T Nat.succ b
def QH{f:List (Str×Y)}{g:List (Str×Value)}(r:bx b a c f g){d:Nat}{k:Str}{i:Value}(e:g[d]?=some (k,i)):(sn f)[d]?=some (.str k):=by
 induction r generalizing d with
 |nil=>exact bh e
 |cons _ _ h=>induction d with
  |zero=>exact(m1 (bw e)).1▸rfl
  |succ d _=>exact h e
end
section
variable{z:G0}{g:Expr}{m:D z.w}{a:Option (Nat×ae)}{fp:List Addr}{c:List Y}
def ef.f{j:Wd}{p:Program}{A:Around}{i:Expr}{d c:D j}{a:ew}{k:Value}(e:ef p A i d a c k):d.To c:=by obtain⟨m,b,q,r,fp,o,n,l,g,h,_⟩:=e;exact g.trans (Step.trans (aG:=(s.mark b).pt) (s.mark b).f h)
def ef.from{y:Wd}{p:Program}{b:Around}{e:Expr}{d aG c:D y}{a:ew}{g:Value}(l:d.To aG)(h:ef p b e aG a c g):ef p b e d a c g:=by obtain⟨m,w,x,z,fp,k,j,i,n,o,q,r,s,t,u,v⟩:=h;exact .mk m w x z fp k j i (l.trans n) o q r s t u v
def d.oc{t:Sem Value}{u:Shared}{r:Obj}{C:Nat->Value->Prop}{x:Nat->Heap->Prop}{J:List Addr->Heap->List Addr->Prop}{F:Nat}(U:gM z t m.s (.ref m.s.heap.objs.size) u)(V:j8 m.st a)(L:Walks z.p z.w.ag.w z.ak m.s.heap.objs.size (m.s.heap.objs.size::fp) [m.s.heap.objs.size] F C x)(R:F=c.length)
  (W:∀f p i b e,J f b e->C p i->∃w,c[p]?=some w/\G f b e w i) (X:∀f b e o H,Kp b e o H->J f b e->J f o H) (Y:∀f D b o e,(∀w i,G f b e w i->G D o e w i)->J f b e->J D o e) (Z:∀p b,x p b->pg m.s.heap.objs.size b)
  (P:∀q∈fp,q∉bf z.w.aq/\¬Mine.Internal.bk (eL a m.st) m.ρ q/\∃r,m.s.heap.get? q=some r/\r.cls≠TB) (M:J z.w.ag.fz m.s.heap m.ρ) (E:u.heap=m.s.heap.push r) (Q:u.gens=m.s.gens) (S:u.os=m.s.os) (N:x 0 u.heap):d z t (λA a i=>ef z.p z.ak g m a A i) m (.ret (c,a) (eL a m.st)):=λXD XE k K I T XF=>by
 subst R;obtain⟨A,rfl,y,B⟩:=EE (t:=g) V (pj.of L Z) (λf p i b o e j XG XC=>W f p i o e j XC) X Y P M (λq O=>List.mem_singleton.mp O▸⟨kC,m.O.eh⟩) (λq r y=>by refine h (E ..) ?_;exact cX _ y) (s.push E Q S) N;exact U K I (T _ A _ B.f B (y▸k))
def qh(a:St):j8 a none:=λb b z=>bh z
def wn{c:Addr}{b:Obj}(g:m.s.heap.get? c=some b)(e:b.cls≠TB)(f:c∉bf z.w.aq)(i:¬Mine.Internal.bk (eL a m.st) m.ρ c):∀d∈[c],d∉bf z.w.aq/\¬Mine.Internal.bk (eL a m.st) m.ρ d/\∃b,m.s.heap.get? d=some b/\b.cls≠TB:=λd h=>List.mem_singleton.mp h▸⟨f,i,b,g,e⟩
def AC{a:Addr}{c:Obj}{h:Array Value}{b:Nat}(f:m.s.heap.get? a=some c)(e:c.data= .seq h b):a∉bf z.w.aq:=λg=>by
 obtain⟨b,d⟩:=(m.O.b7 a g).ns;exact ot d f e
def FC{b:Addr}(c:b∉m.ρ):¬Mine.Internal.bk (eL none m.st) m.ρ b:=(by rintro⟨_,_,_,a,_⟩;exact c (b8 a))
def vE{c:St}{b:Nat}{a:Addr}{i:ae}(h:m.ρ[b]?=some a)(d:c.objs[b]?=some (.ro i)):¬bk c m.ρ a:=λ⟨j,k,e,f,g⟩=>by
 cases jI m.O.d3 f h;cases d.symm.trans e;cases g
def zZ{a:Nat}{b:ae}(c:m.st.objs[a]?=some b):(eL (some (a,b)) m.st).objs[a]?=some (.ro b):=by refine(?_:(aQ m.st.objs a _)[a]?=_);rw [d4,List.getElem?_set_self (List.getElem?_eq_some_iff.mp c).1]
def zY{a:Nat}{o:ae}(b:m.st.objs[a]?=some o)(c:jt o=false):j8 m.st (some (a,o)):=λj d z=>by cases z;exact⟨b,c⟩
variable(e:z.ak.handled=none)
include e
def d.zV{i:Addr}{j:List Value}{E:Nat}(f:m.s.heap.get? i=some (listOf j.toArray E))(r:bp m c j)(B:j8 m.st a)(A:¬Mine.Internal.bk (eL a m.st) m.ρ i):d z (pyIter (.ref i)) (λD a k=>ef z.p z.ak g m a D k) m (.ret (c,a) (eL a m.st)):=
 d.oc (J:=λq h o=>w q h o c j) (λH G h=>wpAny_pyIter_list ⟨_,f,rfl,_,rfl⟩ h) B (Walks.list e _ i (gl (dk f)) j.toArray) r.length (λb C k h o r s=>r.zl (o7▸s)) (λb b b b b p r=>r.mono p) (λb b b b b t r=>r.map t) (λC h ⟨⟨F,u,x,y⟩,_⟩=>⟨F,_,_,u,x,y,by decide⟩)
  (wn f (by decide:Value.type "list"≠TB) (AC f rfl) A) r rfl rfl rfl ⟨⟨_,cY _ rfl,rfl,rfl⟩,⟨_,cX _ f,rfl,_,rfl⟩⟩
def d.WD{i:Addr}{j:List Value}{C:Nat}(f:m.s.heap.get? i=some (dQ j C))(D:i∉m.ρ)(r:bp m c j):d z (pyIter (.ref i)) (λB a k=>ef z.p z.ak g m a B k) m (.ret (c,none) m.st):=
 d.oc (J:=λq h o=>w q h o c j) (λG F h=>wpAny_pyIter_tuple ⟨_,f,rfl,_,rfl⟩ h) (qh _) (Walks.tuple e _ i (gl (dk f)) j.toArray) r.length (λb A k h o r s=>r.zl (o7▸s)) (λb b b b b p r=>r.mono p) (λb b b b b t r=>r.map t) (λA h ⟨⟨E,u,x,y⟩,_⟩=>⟨E,_,_,u,x,y,by decide⟩)
  (wn f (by decide:Value.type "tuple"≠TB) (AC f rfl) (FC D)) r rfl rfl rfl ⟨⟨_,cY _ rfl,rfl,rfl⟩,⟨_,cX _ f,rfl,_,rfl⟩⟩
def d.VF{h:Str}{q:Tok}:d z (pyIter (.str h q)) (λD a h=>ef z.p z.ak g m a D h) m (.ret (qG h.cps.toList,none) m.st):=by
 have w:∀s j r(f:Heap)(y:List Addr),True->SignAt h j r->∃x,(qG h.cps.toList)[j]?=some x/\G s f y x r:=λs j r f y b ⟨E,F,i,C⟩=>C▸⟨_,U' (Array.getElem?_toList▸i),.fN _ _⟩;induction t:h.cps.all (·<128) using Bool.casesOn with
 |false=>exact d.oc (fp:=[]) (λB A f=>wpAny_pyIter_wide t f) (qh _) (Walks.strWide e _ h q) (GA _).symm w (λb b b b b b f=>f) (λb b b b b b f=>f) (λj f ⟨p,i,k,o⟩=>⟨p,_,_,i,k,o,by decide⟩) (λb f=>absurd f cB) u rfl rfl rfl ⟨_,cY _ rfl,rfl,rfl⟩
 |true=>exact d.oc (fp:=[]) (λB A f=>wpAny_pyIter_ascii t f) (qh _) (Walks.strAscii e _ h q) (GA _).symm w (λb b b b b b f=>f) (λb b b b b b f=>f) (λj f ⟨p,i,k,o⟩=>⟨p,_,_,i,k,o,by decide⟩) (λb f=>absurd f cB) u rfl rfl rfl ⟨_,cY _ rfl,rfl,rfl⟩
def d.Lm(D:mainGlobals<z.w.ag.n0){h:Nat}{i:Addr}{j:List (Str×Y)}(o:m.ρ[h]?=some i)(p:m.st.objs[h]?=some (.dict j)):d z (pyIter (.ref i)) (λG a y=>ef z.p z.ak g m a G y) m (.ret (sn j,some (h,.dict j)) (eL (some (h,.dict j)) m.st)):=by
 have w:=m.O.a4 h _ i p o;refine aS λJ F=> ?_;obtain⟨E,x,C⟩:=(show ey _ _ _ _ _ _ from w).of (p:=z.p);obtain⟨A,t⟩:=C.dictAt;obtain⟨M,L,q,_⟩:=id t;refine F ?_;exact d.oc (J:=λb b b=>True) (λK I f=>wpAny_pyIter_dict (oq m D o) t f) (zY p rfl) (Walks.dictKeys e _ i (gl (dk q)) E A) ((QI _).trans x.length.symm).symm (λb h y f P b ⟨k,O,r,s⟩=>by
   obtain⟨N,rfl⟩:=si.mp s;exact⟨_,QH x r,.fN _ _⟩) (λb b b b b b f=>f) (λb b b b b b f=>f) (λh f ⟨⟨H,r,s,B⟩,_⟩=>⟨H,_,_,r,s,B,by decide⟩)
  (wn q (w.Aa q) (λf=>(m.O.b7 i f).dj (b8 o)) (vE o (zZ p))) u rfl rfl rfl ⟨⟨_,cY _ rfl,rfl,rfl⟩,t.push _⟩
set_option tactic.hygienic true in
def d.aN(y:mainGlobals<z.w.ag.n0){u:Y}{o:Value}(r:b m u o):d z (pyIter o) (λC a o=>ef z.p z.ak g m a C o) m (EC u m.st):=by
 have i:=r.bI;induction u using Y.casesOn with
 |c c=>obtain⟨p,w,q,f,t,F,h⟩:=i;exact d.zV e f h (qh _) (FC t)
 |l c=>obtain⟨p,w,q,f,t,h⟩:=i;exact d.WD e f t h
 |str s=>obtain⟨G,rfl⟩:=i;exact d.VF e
 |obj A=>
  refine aS λD B=> ?_;obtain⟨p,j,rfl⟩:=i;refine B ?_;refine d.v λk a=> ?_;have a:=(cW ..).symm.trans a;have x:=m.O.a4 A k p a j;induction k using ae.casesOn with
  |c c=>obtain⟨w,q,f,h⟩:=x;exact d.zV e f h (zY a rfl) (vE j (zZ a))
  |dict E=>exact d.Lm e y j a
  |ro k=>induction k using ae.casesOn with
   |c c=>obtain⟨w,q,f,h⟩:=(show ll _ _ _ _ _ from x);exact d.zV e f h (qh _) (vE j a)
   |_=>exact d.n
  |_=>exact d.n
 |_=>exact d.n
end
def WK(a b c:Value):checkTypeCall "range" ⟨[a,b,c],[]⟩=pure ():=by kernel_rfl
def SY(a b c:Value):checkBuiltinCall "range.__new__" ⟨[.type "range",a,b,c],[]⟩=pure ():=by kernel_rfl
def PZ(d a b c:Value):argsOk "object.__init__" ⟨[d,a,b,c],[]⟩:=by unfold argsOk;refine h (signature?_of (id:="object.__init__") (n:=['_','_','t','i','n','i','_','_']) (o:=['t','c','e','j','b','o']) (by kernel_rfl) F.owner_object) ?_;kernel_rfl
section
variable{d:Program}{e:World}{b:Around}{c:a8}{a:Shared}
def Jv{g h f:Int}{i j k:Tok}{l:a8}(n:f≠0)(o:Builtin.divisionGoesByPylong (h-g) f=false)(m:l (.ref a.heap.objs.size) {a with heap:=a.heap.push {cls:= .type "range",data:= .fields #[.int g i,.int h j,.int f k]}}):wpAny (model d e) b (call (.type "range") [.int g i,.int h j,.int f k]) l c a:=
 callType_new F.called_range (by decide) (WK _ _ _) (SY _ _ _) (λp=>PZ p _ _ _) F.entry_range_new (AutoRange.range___new___type_int_int_int_1 g h f i j k F.called_range.sub (by simpa using n)) ⟨o,⟨_,cY _ rfl,rfl⟩,m⟩
end
def T'(a b c:Int):0<=Builtin.Range.rangeSize a b c:=by
 unfold Builtin.Range.rangeSize;split
 . rename_i d;split
   . exact Int.add_nonneg (Int.ediv_nonneg (by omega) (by omega)) (by decide)
   . exact Int.le_refl _
 . split
   . exact Int.add_nonneg (Int.ediv_nonneg (by omega) (by omega)) (by decide)
   . exact Int.le_refl _
inductive rj{g:Wd}(m:D g)(d:ew):Value->Prop
 |mk (r:Addr) (a b c:Int) (e f v:Tok):IsRange m.s.heap r a b c e f v->Builtin.Range.small a b c=true->d=(mC c a (Builtin.Range.rangeSize a b c).toNat,none)->rj m d (.ref r)
def WS{p:Program}{j:World}{d:Around}{i:Addr}{g k:List Addr}{c:Nat}{f:Nat->Value->Prop}{e:Nat->Heap->Prop}(a:Walks p j d i g k c f e):Walks p j d i g k c (λb v=>b<c/\f b v) e:=⟨a.sub,a.frame,λb r m l h s o=>a.item b r m l h s λu n t q=>o u n t ⟨h,q⟩,a.done,a.self⟩
section
variable{z:G0}{m:D z.w}
def d.Aq{f:Sem Value}{a e b:Int}{g h i:Tok}{k:Nat}(o:Builtin.Range.small a e b=true)(j:gM z f m.s (.ref m.s.heap.objs.size) {m.s with heap:=m.s.heap.push {cls:= .type "range",data:= .fields #[.int a g,.int e h,.int b i]},toks:=k}):d z f rj m (.ret (mC b a (Builtin.Range.rangeSize a e b).toNat,none) m.st):=
 d.vY j (s.push rfl rfl rfl) (.mk _ a e b g h i (IsRange.new ..) o rfl)
def d.T8{u:List Y}{x:List Value}(r:bp m u x):d z (call (.type "range") x) rj m (Ar u m.st):=by
 rcases r with _| @⟨C,b,_,_,i,r⟩
 . exact d.n
 . rcases r with _| @⟨D,a,_,_,s,r⟩
   . exact d.int (t:=λb=>call (.type "range") [b]) i λg h=>d.ok λf=>d.Aq f λp o e=>call_range_1 e
   . rcases r with _| @⟨E,w,_,_,B,r⟩
     . exact d.int (t:=λb=>call (.type "range") [b,a]) i λg h=>d.int (t:=λa=>call (.type "range") [.int g h,a]) s λj t=>d.ok λf=>d.Aq f λp o e=>call_range_2 e
     . rcases r with _|⟨_,r⟩
       . exact d.int (t:=λb=>call (.type "range") [b,a,w]) i λg h=>d.int (t:=λa=>call (.type "range") [.int g h,a,w]) s λj t=>d.int (t:=λa=>call (.type "range") [.int g h,.int j t,a]) B λk F=>d.ok λf=>d.bR λq=>d.bR λA=>
          d.Aq (k:=m.s.toks) f λp o e=>Jv (λy=>by rw [y] at q;cases q) A e
       . exact d.n
def d.T9(s:z.ak.handled=none){C:Expr}{j:ew}{i:Value}(k:rj m j i):d z (pyIter i) (λA j i=>ef z.p z.ak C m j A i) m (.ret j m.st):=by
 obtain⟨r,b,g,e,B,F,G,w,x,rfl⟩:=k;have p:b+((0:Nat):Int)*e=b:=by refine(?_:b+0*e=b);rw [Int.zero_mul,Int.add_zero]
 have e2:(((Builtin.Range.rangeSize b g e).toNat:Int)-((0:Nat):Int))=Builtin.Range.rangeSize b g e:=(Int.sub_zero _).trans (Int.toNat_of_nonneg (T' b g e));refine d.oc (fp:=[]) (J:=λa a a=>True) (λE D f=>wpAny_pyIter_range w x f) (qh _) (WS (Walks.range s _ b e (Builtin.Range.rangeSize b g e).toNat)) (Ub ..).symm (λa y i f H a ⟨t,B,o⟩=>⟨_,Ua e b t,o▸.dO _ _⟩) (λa a a a a a f=>f) (λa a a a a a f=>f) (λy f q=>⟨_,_,_,q,rfl,rfl,by decide⟩) (λa f=>absurd f cB) u rfl rfl rfl ?_;refine(?_:IsRangeIter _ _ (b+((0:Nat):Int)*e) (((Builtin.Range.rangeSize b g e).toNat:Int)-((0:Nat):Int)) e);refine h (p ..) ?_;refine h (e2 ..) ?_;exact cY _ rfl
end
def Fn{b:Expr}{d:Str}(c:v' b=some d):∃a,b= .Name d a:=by
 induction b using Expr.casesOn with
 |Name e a=>exact⟨a,T (Expr.Name · a) (bw c)⟩
 |_=>exact bh c
def Jp{b:Expr}{a:Expr×List Expr×List Keyword×Pos}(c:rD b=some a):b= .Call a.1 a.2.1 a.2.2.1 a.2.2.2:=by
 induction b using Expr.casesOn with
 |Call cf d e p=>exact bw c▸rfl
 |_=>exact bh c
def Y.vR:Y->Bool
 | .ty a=>(match a with| .range=>true|_=>false)
 |_=>false
def Y.Uc{a:Y}(b:a.vR=true):a= .ty .range:=by
 induction a using Y.casesOn with
 |ty e=>induction e using Ty.casesOn<;>first|rfl|exact aA (b)
 |_=>exact aA (b)
def nD(c:Str)(b:Expr):Option (List Expr×Pos):=(rD b).bind λa=>(v' a.1).bind λd=>cond (Fast.sEq d c) (match a.2.2.1 with|[]=>some (a.2.1,a.2.2.2)|_=>none) none
def uJ{b:Str}{e:Expr}{c:List Expr×Pos}(g:nD b e=some c):∃p,e= .Call (.Name b p) c.1 [] c.2:=by
 obtain⟨⟨n,m,f,p⟩,h,i⟩:=bind_some g;obtain⟨l,j,a⟩:=bind_some i;obtain⟨r,rfl⟩:=Fn j;cases Jp h;dsimp only at a;cases d:Fast.sEq l b with
 |false=>rw [d] at a;exact bh a
 |true=>
  rw [d] at a;rcases f with _|⟨k,f⟩
  . exact bw a▸⟨r,by rw [Fast.sEq_iff.mp d]⟩
  . exact bh a
abbrev s1:Expr->Option (List Expr×Pos):=nD "range"
def Y.vL:Y->Bool
 | .ty a=>(match a with| .u'=>true|_=>false)
 |_=>false
def Y.Nc{a:Y}(b:a.vL=true):a= .ty .u':=by
 induction a using Y.casesOn with
 |ty e=>induction e using Ty.casesOn<;>first|rfl|exact aA (b)
 |_=>exact aA (b)
noncomputable def zC(a:Expr):Bool:=Nat.beq a.ctorIdx (Expr.Tuple [] 0 default).ctorIdx
def Qc{d:Expr}(e:zC d=true):∃a b c,d= .Tuple a b c:=by
 induction d using Expr.casesOn with
 |Tuple a b c=>exact⟨a,b,c,rfl⟩
 |_=>cases e
noncomputable def vS(a:Expr):Bool:=Nat.beq a.ctorIdx (Expr.Set [] 0 default).ctorIdx
def sl(f:ay)(r:O)(a:I)(b:Expr)(e:St):ab ew:= .ok (kK a)<| .or (s1 b) (λd=> .ok (ga d.1) (.bind (mo f a "range" e) λg c=> .ok g.vR (.bind (e3 r a d.1 c) λj h=>Ar j h))) (.bR (vS b) (.bind (r.E a b e) λi c=>EC i c))
def vt(a:ay)(r:O)(d:I)(m e:Expr)(i k:List Stmt)(l:St):ab bg:= .bind (sl a r d e l) λb f=>⟨λg h=>bO (r2 a e f) a r d m i k (λj c=>g j (gj b.2 c)) (λn c=>h n (gj b.2 c)) b.1 f⟩
def C0{a:Bool}{b:Prop}(c:cond a False b):a=false/\b:=by
 rcases a with _|_
 . exact⟨rfl,c⟩
 . exact False.elim c
def vC{a:I}(b:kK a=true):a.hd=none:=by
 unfold kK at b;induction c:a.hd using Option.casesOn with
 |none=>rfl
 |some aj=>rw [c] at b;cases b
section
variable{a:Fr}{m:D a.w}{f g:Type}
def Ox{a:Expr}(d:vS a=false)(c:Env)(b:Value):foldedSetIterable a c b=Pure.pure b:=by
 induction a using Expr.casesOn with
 |Set=>cases d
 |_=>rfl
def d.range{b:List Expr}{g:Pos}(j:aF a m)(f:ga b=true):d a.z (PySem.callWith g (.type "range") [] (backTo g (starEach b a.b)) []) rj m (.bind (Mine.Internal.e3 a.r a.I b m.st) λi t=>Ar i t):=λx z k y w p e=>
 callWith_of (P:=a.ag.B) (by refine h (oo b f ..) ?_;rfl) (λA u=>⟨.machine,.inr (.inl rfl),.now⟩) (y0 (oo b f) (d.e3 b j _ _ k _ _ (λi r B o s q=>⟨r.O.cw,d.from (z:=a.z) o (d.T8 s) q p e⟩) e))
def zG(v:aF a m){tg r:Expr}{g:ew->St->Prop}{f:af}{Q s:a8}(j:(sl a.T a.r a.I r m.st).A g f)(B:∀t c q,ef a.p a.ak tg m t c q->g t c.st->Q q c.s) (u:∀l c e,m.To c->b c l e->f l c.st->s e c.s):
  wpAny a.z.ab a.z.ak (eval r a.b) (λe O=>wpAny a.z.ab a.z.ak (pyIter e) Q s O) s m.s:=by
 refine And.elim (λJ j=> ?_) (cond_true j);have A:=v.toIn0.handled J;revert j;refine Option.rec (motive:=λD=>s1 r=D->(ab.or D _ _:ab ew).A g f->_) (λT j=> ?_) (λz L j=> ?_) (s1 r) rfl
 . refine And.elim (λP j=> ?_) (C0 (show cond (vS r) False (ab.A (ab.bind (a.r.E a.I r m.st) _) g f) from j));exact v.E _ _ j _ _ (λl C e o N k=>d.aN A a.main N g f k Q s (λt c q n w=>B t c q (w.from o)) λl c e n=>u l c e (o.trans n)) u
 . refine And.elim (λK G=> ?_) (cond_true (show cond (ga z.1) (ab.A (ab.bind (mo a.T a.I "range" m.st) _) g f) False from j));obtain⟨p,rfl⟩:=uJ L;have H:(mo a.T a.I "range" m.st).A (λx S=>(ab.A (ab.ok x.vR _) g f)) f:=G;refine i (d.name v.toIn0 _ _ H _ _ (λx C F o M k=> ?_) u);refine And.elim (λI k=> ?_) (cond_true (show cond x.vR (ab.A (ab.bind (Mine.Internal.e3 a.r a.I z.1 C.st) _) g f) False from k));cases Y.Uc I;refine h (show F=_ from M.bI) ?_;exact d.range (v.f o) K g f k _ _ (λt R e y w k=>d.T9 (z:=a.z) A w g f k Q s (λE c q n It=>B E c q (It.from (o.trans y))) λl c e n=>u l c e ((o.trans y).trans n)) λl c e n=>u l c e (o.trans n)
def zb{h:ay}{r:O}{i:I}{a:Expr}{k:St}{d:ew->St->Prop}{e:af}(b:(sl h r i a k).A d e)(f:Env)(c:Value):foldedSetIterable a f c=Pure.pure c:=by
 have b:=(cond_true b).2;revert b;refine Option.rec (motive:=λg=>s1 a=g->(ab.or g _ _:ab ew).A d e->_) (λl b=> ?_) (λm j l=> ?_) (s1 a) rfl
 . exact Ox (C0 (show cond (vS a) False _ from b)).1 f c
 . obtain⟨p,rfl⟩:=uJ j;rfl
def d.vt(A:aF a m)(O:b1 a.toRk){o F:Expr}{u x:List Stmt}{Y:Pos}:d a.z (PySem.exec (.For o F u x Y) a.b) b9 m (Mine.Internal.vt a.T a.r a.I o F u x m.st):=by
 refine h (arm_exec_For ..) ?_;refine d.bD λXF J w Q G S E=> ?_;have P:=vC (show kK a.I=true from(cond_true w).1);refine i (wpAny_mono (zG (tg:=o) A w (Q:=λL XC=>wpAny a.z.ab a.z.ak (runOwn (.forLoop o L u x a.b) a.b) Q G XC) (λt XK p H k=> ?_) E) (λp XN U=>by refine h (zb w ..) ?_;exact i (V (i (j0 (i (j1 U)))))) λe e z=>z);obtain⟨XM,g,XJ,XO,XI,XH,XG,XE,q,B,R,K,I,_⟩:=H;refine wpAny_runOwn ?_;refine h (show a.ak.mark none=a.ak from by unfold Around.mark;rw [Option.none_or]) ?_;refine Oz O P K (sA:=(s.mark g).pt) R (R:=_) (λM aG N r Z W=> ?_) (λy aG p r j D T=> ?_) t.1 (bU _) List.drop_zero (A.f (q.trans (Step.trans (aG:=(s.mark g).pt) (s.mark g).f B))) B I k
 . have f:=s.tE g r;exact S M f.pt N (q.trans f.f) Z W
 . refine i (vl j D λt=> ?_);refine h (show(Value.ref t==Value.none)=false from rfl) ?_;refine h (if_neg (by decide)) ?_;refine d.vm (z:=a.z) (m:=aG) j D (λe XD=>J y (gj _ XD)) (λe e=>False) T _ _ (λe X e C e k=> ?_) λe e e e e z=>False.elim z;have f:=s.tE g (r.trans C);have j:b X y p:=j.f C;exact E y f.pt p (q.trans f.f) j k
noncomputable def nP:Int->List Y->List Y
 |_,[]=>[]
 |a,aj::b=> .l [.int a,aj]::nP (a+1) b
def Na(a:List Y):∀b,(nP b a).length=a.length:=by
 induction a with
 |nil=>exactλd=>rfl
 |cons _ _ c=>exactλb=>T Nat.succ (c _)
def M'{e:List Y}:∀{b:Nat}{d:Y}(a:Int),e[b]?=some d->(nP a e)[b]?=some (.l [.int (a+b),d]):=by
 induction e with
 |nil=>exactλi c=>bh c
 |cons h e g=>
  intro b d a c;induction b with
  |zero=>exact bw c▸T (λf=>some (Y.l [.int f,h])) (show a=a+0 from(Int.add_zero a).symm)
  |succ b _=>exact(g (a+1) c).trans (T (λf=>some (Y.l [.int f,d])) (by refine(?_:a+1+b=a+(b+1));rw [Int.add_assoc,Int.add_comm 1]))
def Nd{p:Program}{w:World}{C:Around}(O:C.handled=none){e it l:Addr}(E:e≠it)(F:l≠e)(R:l≠it)(v:Array Value){elts:List Expr}{c:Nat}{pos:Pos}:pj p w C (.Tuple elts c pos) e [e,it] [l] v.size
  (λg V f t=>∃U d,V= .ref f.objs.size/\t.get? f.objs.size=some (dQ [.int g U,d] 0)/\v[g]?=some d) (λg f=>(∃o,IsEnum f e it g o)/\f.IsListIter it l g/\f.IsList l v):=by
 have D:e∈[e,it]:= .head _;have e2:it∈[e,it]:= .tail _ (.head _);have z:∀{c:Addr},c∉[e,it]->c≠e/\c≠it:=λf=>⟨λb=>f (b▸D),λb=>f (b▸e2)⟩;refine⟨λg f t ⟨⟨o,j⟩,n,r⟩ q=>⟨⟨o,q e (.inl D) _ j⟩,n.at λa=>q it (.inl e2) a,r.at λa=>q l (.inr (.head _)) a⟩,λ{g B A X k H G W} N P ⟨⟨o,j⟩,n,r⟩ u=> ?_,λ⟨⟨o,j⟩,n,r⟩ u=> ?_,λg B H G ⟨⟨o,j⟩,_⟩ u=>wpAny_pyIter_enum j u,λg f ⟨⟨o,j⟩,n,_⟩ s m=> ?_⟩
 . have y:v[g]?=some v[g]:=Bw P;refine wpAny_pyNext_enum_item j n r y E λt S Q L Y q=> ?_;refine h (N ..) ?_;refine i (wpAny_letOwnedTupleGo_enum S λI M x=>u _ I (B.toks+1) ⟨B.toks,_,rfl,(x.2 _ ?_).trans L,y⟩ ⟨⟨_,M⟩,Q.at λa d=>(x.2 it E.symm).trans d,(r.at λa d=>q l a F R d).at λa d=>(x.2 l F).trans d⟩ λs a m d=>(x.2 s (z m).1).trans (q s a (z m).1 (z m).2 d));exactλb=>absurd (dk j) (b▸gk _)
 . exact wpAny_pyNext_enum_end O j n r (Array.getElem?_eq_none (cb _)) λt y=>u t _ λs a m d=>y s a (z m).2 d
 . rcases List.mem_cons.mp m with rfl|m
   . exact .mk _ j (λA A b=>nomatch b) λb=>absurd b (by decide:Value.type "enumerate"≠Value.type "traceback")
   . obtain rfl:=List.mem_singleton.mp m;obtain⟨a,T,J,K⟩:=n;exact .mk a T (λA A b=>nomatch b.symm.trans K) λb=>absurd (J.symm.trans b) (by decide:Value.type "list_iterator"≠Value.type "traceback")
def ef.self{e:Wd}{p:Program}{c:Around}{o:Expr}{l a:D e}{n:ew}{b:Value}(h:ef p c o l n a b){d g:a8}(k:d b a.s):wpAny (model p e.ag.w) c (pyIter b) d g a.s:=by obtain⟨m,u,v,w,t,s,r,q,_,_,_,j,i,_⟩:=h;exact j.W.self 0 _ _ _ i.a4 k
def yY(d:List Y)(c:St):ab ew:=match d with
 |[]=> .n
 |aj::r=>match r with
  |[]=> .obj aj λa=> .v ((t c.objs a).bind ae.du) λb=> .ret (nP 0 b,some (a,.c b)) (eL (some (a,.c b)) c)
  |_=> .n
def d.M9(XE:a.ak.handled=none){R:List Y}{xs:List Value}{I:List Expr}{b:Nat}{c:Pos}(r:bp m R xs):d a.z (call (.type "enumerate") xs) (λC D q=>ef a.p a.ak (.Tuple I b c) m D C q) m (yY R m.st):=by
 rcases r with _| @⟨XO,q,_,_,XM,r⟩
 . exact d.n
 . rcases r with _|⟨_,r⟩
   . refine d.obj (t:=λq=>call (.type "enumerate") [q]) XM λx l M=>d.v λy XH F XS k XR XQ XG XT=> ?_;refine aS λU B=> ?_;obtain⟨o,p,XJ⟩:=bind_some XH;cases ae.v3 XJ;have p:=(cW ..).symm.trans p;obtain⟨u,XV,i,Q⟩:=(show ll _ _ _ _ _ from m.O.a4 x _ l p M);refine B ?_;refine call_enumerate_list (items:=u.toArray) ⟨_,i,rfl,_,rfl⟩ λK XD XF XU A=> ?_;have XK:∀{b},m.s.heap.objs.size<=b->m.s.heap.get? b=none:=λ{b} g=>by
      induction D:m.s.heap.get? b using Option.casesOn with
      |none=>rfl
      |some o=>exact absurd (dk D) (Nat.not_lt.mpr g)
     have N:=zY (z:=a.z) (m:=m) (o:= .c y) p rfl;have O:=dk i;have P:∀b∈[m.s.heap.objs.size+1,m.s.heap.objs.size],m.s.heap.objs.size<=b:=λb g=>(List.mem_cons.mp g).elim (λz=>z▸fU _) λz=>List.mem_singleton.mp z▸cb _;have Wk:=Nd (p:=a.p) (w:=a.ag.w) (elts:=I) (c:=b) (pos:=c) XE (e:=m.s.heap.objs.size+1) (it:=m.s.heap.objs.size) (l:=l) (mZ (hV _)) (gl (Nat.lt_succ_of_lt O)) (gl O) u.toArray;rw [show u.toArray.size=(nP 0 y).length from Q.length.trans (Na y 0).symm] at Wk;obtain⟨C,e,X,E⟩:=EE (J:=λH J T=>w H J T y u) (s':={m.s with heap:=K}) N Wk (λH x q J K T j Z ⟨t,S,V,e2,W⟩=>by
       subst V;refine aS λU B=> ?_;obtain⟨XO,XI,XN⟩:=w.zl j (o7▸W:u[x]?=some S);refine B ?_;exact⟨_,M' 0 XI,G.mz (xs:=[.int x t,S]) e2 (Z _ kC) (.cI (by refine h (Int.zero_add ..) ?_;exact .dO _ _) (.cI XN .cQ))⟩) (λf f f f f F r=>r.mono F) (λf f f f f XC r=>r.map XC)
      (wn (z:=a.z) i (by decide:Value.type "list"≠TB) (AC i rfl) (vE (z:=a.z) (m:=m) M (zZ (z:=a.z) (m:=m) p))) Q (λb g=>⟨XK (P b g),L m.O.eh (P b g)⟩) A (s.keeps (g:=a) (m:=(s.mark N).pt) A rfl rfl) ⟨⟨.none,XD⟩,XF,⟨_,A _ _ i,rfl,_,rfl⟩⟩
     have:=XG _ C _ E.f E (X▸k);rw [e] at this;exact this
   . exact d.n
def d.Nb(B:a.ak.handled=none){b:List Expr}{q:Pos}{z:List Expr}{j:Nat}{A:Pos}(t:aF a m)(p:ga b=true):d a.z (PySem.callWith q (.type "enumerate") [] (backTo q (starEach b a.b)) []) (λe F f=>ef a.p a.ak (.Tuple z j A) m F e f) m (.bind (Mine.Internal.e3 a.r a.I b m.st) λr H=>yY r H):=λw y k x s C o=>
 callWith_of (P:=a.ag.B) (by refine h (oo b p ..) ?_;rfl) (λK J=>⟨.machine,.inr (.inl rfl),.now⟩) (y0 (oo b p) (d.e3 b t _ _ k _ _ (λr E L i G D=>⟨E.O.cw,d.M9 B G w y D x s (λj e f g u=>C j e f (i.trans g) (u.from i)) λI e f g=>o I e f (i.trans g)⟩) o))
def zF(b:ay)(r:O)(a:I)(i c:Expr)(e:St):ab ew:= .ok (kK a)<| .or (nD "enumerate" c) (λd=> .ok (zC i)<| .ok (ga d.1) (.bind (mo b a "enumerate" e) λf g=> .ok f.vL (.bind (e3 r a d.1 g) λj h=>yY j h))) (sl b r a c e)
def ED(n:aF a m){x o:Expr}{g:ew->St->Prop}{e:af}{z r:a8}(f:(zF a.T a.r a.I x o m.st).A g e)(A:∀l c t,ef a.p a.ak x m l c t->g l c.st->z t c.s) (w:∀q c j,m.To c->b c q j->e q c.st->r j c.s):
  wpAny a.z.ab a.z.ak (eval o a.b) (λj P=>wpAny a.z.ab a.z.ak (pyIter j) z r P) r m.s:=by
 refine And.elim (λH f=> ?_) (cond_true f);revert f;refine Option.rec (motive:=λB=>nD "enumerate" o=B->(ab.or B _ _:ab ew).A g e->_) (λU f=> ?_) (λu J f=> ?_) (nD "enumerate" o) rfl
 . exact zG n f A w
 refine aS λQ L=> ?_;refine And.elim (λK f=> ?_) (cond_true (show cond (zC x) (ab.A (ab.ok (ga u.1) _) g e) False from f));refine And.elim (λI E=> ?_) (cond_true (show cond (ga u.1) (ab.A (ab.bind (mo a.T a.I "enumerate" m.st) _) g e) False from f));obtain⟨p,rfl⟩:=uJ J;obtain⟨t,l,S,rfl⟩:=Qc K;refine L ?_;have F:(mo a.T a.I "enumerate" m.st).A (λv T=>(ab.A (ab.ok v.vL _) g e)) e:=E;refine i (d.name n.toIn0 _ _ F _ _ (λv M D s O k=> ?_) w);refine And.elim (λG k=> ?_) (cond_true (show cond v.vL (ab.A (ab.bind (Mine.Internal.e3 a.r a.I u.1 M.st) _) g e) False from k));cases Y.Nc G;refine h (show D=_ from O.bI) ?_;exact d.Nb (n.toIn0.handled H) (n.f s) I g e k _ _ (λl N j R y k=>y.self (A l N j (y.from s) k)) λq c j C=>w q c j (s.trans C)
def DZ{h:ay}{r:O}{i:I}{l b:Expr}{k:St}{d:ew->St->Prop}{e:af}(a:(zF h r i l b k).A d e)(f:Env)(c:Value):foldedSetIterable b f c=Pure.pure c:=by
 have a:=(cond_true a).2;revert a;refine Option.rec (motive:=λg=>nD "enumerate" b=g->(ab.or g _ _:ab ew).A d e->_) (λm a=> ?_) (λn j m=> ?_) (nD "enumerate" b) rfl
 . exact zb a f c
 obtain⟨p,rfl⟩:=uJ j;rfl
end
section
variable{Z pk:List Addr}{c b:Heap}{ρ:List Addr}
def G.rF(n:∀a e d,c.get? a=some (dQ e d)->b.get? a=some (dQ e d)) (k:∀a(e:List Value) d,c.get? a=some (listOf e.toArray d)->a∉Z->b.get? a=some (listOf e.toArray d)/\a∉pk) (h:Y) (i:Value) (r:G Z c ρ h i):G pk b ρ h i:=
 G.rec (motive_1:=λh i g=>G pk b ρ h i) (motive_2:=λo e g=>w pk b ρ o e) .iw .kM .dO .fN .oD .sZ .kL (λf=> .gh f) (λf d g j=> .mz (n _ _ _ f) d j) (λf d l g j=> .my (k _ _ _ f l).1 d (k _ _ _ f l).2 j) .cQ (λg g a m=> .cI a m) r
variable{a:au}{d:List Env}{e:St}
def cD.map{j:au}(f:cD a d e ρ c)(D:j.w=a.w)(B:j.hb=a.hb)(i:∀(m:Addr)(h:Obj),c.get? m=some h->b.get? m=some h) (z:a.n0<=b.objs.size) (A:∀k∈j.fz,nh a.n0 b k) (w:∀q s,G a.fz c ρ q s->G j.fz b ρ q s):cD j d e ρ b:=by
 obtain⟨J,I,K⟩:=j;cases D;cases B;refine⟨λm h g=>i m h (f.cw m h g),z,f.aE,f.d3,λE h k u v=> ?_,λk x=>⟨?_,(f.dt k x).ge⟩,A,λl n=>⟨(f.b7 l n).ge,(f.b7 l n).dj,?_⟩,f.hF,f.envs,λl r n=> ?_⟩
 . have p:=f.a4 E h k u v;obtain⟨L,g⟩:=p.c7;exact p.map w (λM N o g=>i _ _ g) (λH h y g y y=>i _ _ g) ((i _ _ g).trans g.symm)
 . obtain⟨h,g⟩:=(f.dt k x).has;exact⟨h,i _ _ g⟩
 . obtain⟨o,t⟩:=(f.b7 l n).ns;exact⟨o,t.keeps i⟩
 . obtain⟨o,t,p⟩:=f.d l r n;exact⟨o,t.keeps i,λs q C=>let⟨F,u,v⟩:=p s q C;⟨F,u,w _ _ v⟩⟩
def cD.more(l:cD a d e ρ c)(k:∀(j:Addr)(i:Obj),c.get? j=some i->b.get? j=some i) (m:∀f∈Z,c.get? f=none/\nh a.n0 b f) (n:a.n0<=b.objs.size):cD (a.more Z) d e ρ b:=
 l.map rfl rfl k n (λf o=>(List.mem_append.mp o).elim (λg=>(l.em f g).mono λj i h=>⟨i,k j i h⟩) λg=>(m f g).2) (G.rF (λf r p h=>k _ _ h) λf r p h q=>⟨k _ _ h,λg=>(List.mem_append.mp g).elim q λg=>cG (m f g).1 h⟩)
def G.jy(e:Y)(f:Value)(r:G (a.fz++Z) c ρ e f):G a.fz c ρ e f:=G.rF (λb b b d=>d) (λb b b d g=>⟨d,λh=>g (xC _ h)⟩) e f r
def cD.jy(b:cD (a.more Z) d e ρ c):cD a d e ρ c:=b.map rfl rfl (λi i g=>g) b.eh (λf h=>b.em f (xC _ h)) G.jy
end
structure gn{e:Wd}{Z:List Addr}{ce:Env}(a:D e)(b:D ⟨e.ag.more Z,ce::e.aq⟩):Prop where
 ext:∀(g:Nat) c,a.ρ[g]?=some c->b.ρ[g]?=some c
 new:∀c∈b.ρ,c∉a.ρ->a.s.heap.get? c=none
 c7:j5 a.s.heap b.s.heap
 b0:∀c d,a.s.heap.get? c=some d->¬bk a.st a.ρ c->c∉bf e.aq->d.cls≠TB->b.s.heap.get? c=some d
 iA:lp a.s.heap b.s.heap
 fL:ph e.ag a.s.heap b.s.heap
 f8:∀(g:Nat) d,a.st.objs[g]?=some (.ro d)->b.st.objs[g]?=some (.ro d)
 hJ:fW (bf e.aq) a.s.heap b.s.heap
 gens:b.s.gens=a.s.gens
 os:b.s.os=a.s.os
section
variable{d:Wd}{g:List Addr}{e:Env}{a:D d}{b c:D ⟨d.ag.more g,e::d.aq⟩}
def gn.Vt(ext:∀(i:Nat) d,a.ρ[i]?=some d->b.ρ[i]?=some d) (p:∀d∈b.ρ,d∉a.ρ->a.s.heap.get? d=none) (n:∀(i:Nat) e,a.st.objs[i]?=some (.ro e)->b.st.objs[i]?=some (.ro e)) (h:∀d e,a.s.heap.get? d=some e->b.s.heap.get? d=some e) (m:b.s.gens=a.s.gens) (o:b.s.os=a.s.os):gn a b:=
 ⟨ext,p,λd e g=>⟨e,h d e g⟩,λd e g j j j=>h d e g,λd e s g c l=> .same (h d e g) c l,λd e j g=>h d e g,n,λq j r k=>k.keeps h,m,o⟩
def gn.f(g:gn a b)(E:a.s.heap.get? e.locals=none)(j:b.To c):gn a c:=by
 refine⟨λm d i=>j.ext m d (g.ext m d i),λd p k=> ?_,λd h i=> ?_,λd h i v u w=>j.b0 d h (g.b0 d h i v u w) (Ah a.O.aE b.O.d3 g.ext (λk p=>cG (g.new d p k) i) g.f8 v) (λn=>(List.mem_cons.mp n).elim (λL=>cG E (L▸i)) u) w,λd h I i c A=> ?_,
  λd h t i=>j.fL d h t (g.fL d h t i),λm h i=>j.f8 m h (g.f8 m h i),λq r k x=>j.hJ q r k (g.hJ q r k x),j.gens.trans g.gens,j.os.trans g.os⟩
 . by_cases s:d∈b.ρ
   . exact g.new d s k
   . have F:=j.new d p s;cases n:a.s.heap.get? d with
     |none=>rfl
     |some h=>obtain⟨o,l⟩:=g.c7 d h n;exact(cG F l).elim
 . obtain⟨o,l⟩:=g.c7 d h i;exact j.c7 d o l
 . obtain⟨o,J,l,y,B,n⟩:=g.iA d h I i c A;obtain⟨G,K,D,z,C,H⟩:=j.iA d o J l y B;exact⟨G,K,D,z,C,H.trans n⟩
def gn.e1{m:List Addr}(j:gn a b)(i:gL m b c)(F:∀e∈m,a.s.heap.get? e=none) (E:∀e∈m,e∉bf d.aq):gn a c:=by
 have l:∀{e h},a.s.heap.get? e=some h->e∉m:=λg s=>cG (F _ s) g;refine⟨λp e g=>i.ρ▸j.ext p e g,λe A q=>j.new e (i.ρ▸A) q,λe h g=> ?_,λe h g B C D=>i.b0 e h (l g) (j.b0 e h g B C D),λe h H g c w=> ?_,λe h G g=>i.b0 e h (l g) (j.fL e h G g),λp h g=>i.st▸j.f8 p h g,λn t q u=> ?_,i.gens.trans j.gens,i.os.trans j.os⟩
 . obtain⟨k,o⟩:=j.c7 e h g;exact⟨k,i.b0 e k (l g) o⟩
 . obtain⟨k,I,o,v,x,r⟩:=j.iA e h H g c w;exact⟨k,I,i.b0 e k (l g) o,v,x,r⟩
 . obtain⟨h,z,y,g,r⟩:=j.hJ n t q u;exact⟨h,z,y,i.b0 n h (λs=>E n s t) g,r⟩
def gn.me(c:gn a b):s a ⟨b.st.objs,a.st.d⟩ b.ρ b.s:=by have h:Step a ⟨b.st.objs,a.st.d⟩ b.ρ b.s:=⟨c.ext,c.new,c.c7,c.b0,c.iA,c.fL,c.f8,λe g=>c.hJ e (qX g),c.gens,c.os⟩;have d:=b.O.jy;exact⟨⟨d.cw,d.eh,d.aE,d.d3,d.a4,d.dt,d.em,λe g=>d.b7 e (.tail _ g),a.O.hF,a.O.envs,λe r g=>(a.O.d e r g).mono h.kp (c.hJ e (g▸.head _))⟩,h⟩
end
def zu(r:O)(a:I):List Expr->St->ab Bool
 |[],st=> .ret true st
 |al::d,st=> .bind (r.B a al st) λc b=> .ite c (zu r a d b) (.ret false b)
def lF{b:Type}(c:ay)(r:O)(a:I)(f:Expr)(e:List Expr)(d:b->St->ab b):List Y->b->St->ab b
 |[],s,st=> .ret s st
 |aj::h,s,st=> .bind (po c r a f aj st) λm k=> .bind (zu r a e k) λi g=> .ite i (.bind (d s g) λj l=>lF c r a f e d h j l) (lF c r a f e d h s g)
noncomputable abbrev vG(b:Env):Expr->Bool->Sem (ForInStep Bool):=λa r=>if r=true then do let c<-isTrue a b (eval a b);Pure.pure (ForInStep.yield c) else Pure.pure (ForInStep.yield r)
section
variable{g:Fr}
def d.ifs(j:List Expr):∀{m:D g.w},aF g m->d g.z (forIn j true (vG g.b)) Is m (zu g.r g.I j m.st):=by
 induction j with
 |nil=>exactλs=>d.ret rfl
 |cons al e k=>
  intro m o;have r:∀e:List Expr,(forIn e false (vG g.b))=(Pure.pure false:Sem Bool):=λe=>by
   induction e with
   |nil=>rfl
   |cons al e k=>refine h (k9 ..) ?_;exact k
  refine h (k9 ..) ?_;refine d.bind (t:=isTrue al g.b (eval al g.b)>>=λq=>Pure.pure (ForInStep.yield q)) (a0:=λs i(f:ForInStep Bool)=>f= .yield i) (d.h2 o.B λi a f p b=>(show i=f from b)▸d.ret rfl) λi t f p b=> ?_;subst b;exact d.ite (λb=>by subst b;exact k (o.f p)) λb=>by subst b;exact d.eq (r e) (d.ret rfl)
structure ul(g:Fr)(c:Addr){h:Type}(d:h->D g.w->Prop)(o:Sem Unit)(n:h->St->ab h):Prop where
 f:∀{s m a},d s m->m.To a->d s a
 e1:∀{s e m a},c∉e->d s m->gL e m a->(∀b∈e,m7 b m.s.heap)->d s a
 A:∀{s}{m:D g.w},aF g m->d s m->∀{K},(n s m.st).A K (λp p=>False)->∀{i l},(∀aG a j,m.To aG->(a=aG\/gL [c] aG a/\∀v k,G g.ag.fz aG.s.heap aG.ρ v k->G g.ag.fz a.s.heap aG.ρ v k)->d j a->K j a.st->i () a.s)->wpAny g.z.ab g.z.ak o i l m.s
variable{l c:Addr}{e n:List Addr}{q:Nat->Heap->Prop}{o:List Addr->Heap->List Addr->Prop}{t:List Y}{u:Nat->Value->Heap->Heap->Prop}{k:Nat}{m a:D g.w}
def Wk.e1{F:Expr}(x:lj g.p g.ak g.w F l e n t u q o)(i:Wk e n q o k m)(h:gL [c] m a)(A:c∉e)(B:c∉n)(C:o g.ag.fz a.s.heap a.ρ):Wk e n q o k a:=by have s:∀{b},b∈e\/b∈n->b∉[c]:=λz w=>z.elim (λr=>A (List.mem_singleton.mp w▸r)) λr=>B (List.mem_singleton.mp w▸r);refine⟨λb d=>h.ρ▸i.dj b d,x.W.frame k _ _ i.a4 λb d E p=>h.b0 b E (s d) p,λb d=> ?_,C⟩;obtain⟨D,v,p,y⟩:=i.fp b d;exact⟨h.st▸h.ρ▸D,v,h.b0 b v (s (.inr d)) p,y⟩
def J9{H:Type}{O:H->D g.w->Prop}{XV:Sem Unit}{XR:H->St->ab H}{nb:D g.w->Prop}{w F:Expr}{XD:List Expr}{X2:Pos}{XO:Result->Shared->Prop}{XM:H->St->Prop}(W:g.I.hd=none)(j:lj g.p g.ak g.w F l e n t u q o)(A:ul g c O XV XR)
  (K:∀{m a},nb m->m.To a->nb a) (U:∀{XH m a},XH=e\/XH=[c]->nb m->gL XH m a->nb a) (S:c∉e) (X1:c∉n)
  (XS:∀{XN XK h},wpAny g.z.ab g.z.ak (standAt X2>>=λb=>pyNext (.ref l)>>=λr=>match r with
    |none=>Pure.pure (.done .next)
    |some G=>letOwnedTupleGo F (.ref l) G>>=λb=>assign F g.b G>>=λb=>forIn XD true (vG g.b)>>=λX5=>if X5=true then XV>>=λb=>again (.compLoop w 0 (.ref l) (.ref c) g.b) else again (.compLoop w 0 (.ref l) (.ref c) g.b)) XN (notedBy g.z.ab g.ak g.b XK) h->wpAny g.z.ab (g.z.ak.under (.compLoop w 0 (.ref l) (.ref c) g.b)) (g.z.ab.den (.compLoop w 0 (.ref l) (.ref c) g.b)) XN XK h) (Z:(Code.compLoop w 0 (.ref l) (.ref c) g.b).quiet=true)
  (X0:∀h m,nb m->aF g m->O h m->XM h m.st->XO (.ok .next) m.s) (M:List Y):∀{k:Nat}{m:D g.w}{h:H},k<=t.length->t.drop k=M->aF g m->nb m->Wk e n q o k m->O h m->(lF g.T g.r g.I F XD XR M h m.st).A XM (λb b=>False)->codeAny g.z.ab g.z.ak (.compLoop w 0 (.ref l) (.ref c) g.b) XO m.s:=by
 induction M with
 |nil=>
  intro k m h X p v XC E N R;refine q1 ?_;refine XS (i (j0 (i (E.next j X (λb f=>nw g.F f) (λb=>rfl) (λG X8 a XG=> ?_) λa b f=>V ?_))))
  . exact bh ((BB (List.drop_eq_nil_iff.mp p)).symm.trans XG)
  . exact X0 h a (U (.inl rfl) XC f) ⟨v.toIn0.e1 W f,v.hS⟩ (A.e1 S N f (j.W.nL _ _ E.a4)) (f.st.symm▸R)
 |cons G M XE=>
  intro k m h X p v XC E N R;refine q1 ?_;have z:k<t.length:=Nat.lt_of_not_le λs=>by rw [List.drop_eq_nil_iff.mpr s] at p;cases p
  rw [List.drop_eq_getElem_cons z] at p;have L:=List.cons.inj p;refine XS (i (j0 (i (E.next j X (λb f=>nw g.F f) (λb=>rfl) (λX7 X8 X4 XG f X6 XX=> ?_) λa s f=>absurd z (s▸gk _)))));have x:X7=G:=bw (XG.symm.trans ((fa z).trans (T some L.1)));subst x;have P:aF g X4:=⟨v.toIn0.e1 W f,v.hS⟩;have XW:=A.e1 S N f (j.W.nL _ _ E.a4);refine i (d.assign F P X6 _ _ (f.st.symm▸R) _ _ (λb Ya b B b X3=> ?_) λb b b b b s=>False.elim s);refine i (d.ifs XD (P.f B) _ _ X3 _ _ (λXY Yb X9 J p XT=> ?_) λb b b b b s=>False.elim s);rcases p;have XF:=K (K (U (.inl rfl) XC f) B) J;have XQ:=(XX.f j B).f j J;have XI:=A.f (A.f XW B) J;have I:=(P.f B).f J;cases XY with
  |false=>exact V ⟨Z,XE z L.2 I XF XQ XI XT⟩
  |true=>
   refine i (A.A I XI XT λYc Yd Ye C y XJ XU=> ?_);have Q:=XQ.f j C;rcases y with rfl|⟨y,XZ⟩
   . exact V ⟨Z,XE z L.2 (I.f C) (K XF C) Q XJ XU⟩
   . exact V ⟨Z,XE z L.2 ⟨(I.f C).toIn0.e1 W y,v.hS⟩ (U (.inr rfl) (K XF C) y) (Q.e1 j y S X1 (y.ρ▸j.jv _ _ _ _ _ XZ Q.j)) XJ XU⟩
end
noncomputable def vM:NameKind->Bool
 | .free=>true
 |_=>false
noncomputable def zy:NameKind->Bool
 | .local=>true
 |_=>false
def nE(b:List (Str×Nat)):List (Str×NameKind)->List (Str×Nat)->Option (List (Str×Nat))
 |[],a=>some a
 |p::c,a=>cond (vM p.2) ((U p.1 b).bind λd=>nE b c ((p.1,d)::a)) (cond (sh p.2) none (nE b c a))
def mh(a:List (Str×NameKind)):List (Str×NameKind)->Bool
 |[]=>true
 |p::b=>cond (zy p.2) (cond (ju (U p.1 a)) (mh a b) false) (mh a b)
def e6(b a:Scope):Scope:=relabel b (jn a)
noncomputable def zw:ScopeKind->Bool
 | .function=>true
 |_=>false
def p1{k:ScopeKind}(a:zw k=true):k= .function:=by rcases k with _|_|_|_|_|_|_<;>first|rfl|cases a
def OO(k:NameKind):(k==NameKind.free)=vM k:=by rcases k with _|_|_|_|_<;>rfl
def zR{b c:List (Str×NameKind)}(a:mh b c=true):∀f∈c,f.2= .local->b.lookup f.1=some .local:=by
 induction c with
 |nil=>exactλl a=>absurd a cB
 |cons p c k=>
  have a:cond (zy p.2) (cond (ju (U p.1 b)) (mh b c) false) (mh b c)=true:=a;have i:(p.2= .local->b.lookup p.1=some .local)/\mh b c=true:=by
   cases e:zy p.2 with
   |false=>rw [e] at a;exact⟨λd=>(by rw [d] at e;cases e),a⟩
   |true=>
    rw [e] at a;induction h:ju (U p.1 b) using Bool.casesOn with
    |false=>rw [h] at a;cases a
    |true=>rw [h] at a;exact⟨λl=>sr ..▸vN h,a⟩
  exactλf j d=>(List.mem_cons.mp j).elim (λg=>g▸i.1 (g▸d)) λg=>k i.2 f g d
noncomputable abbrev uM(c:Env):Str×NameKind->List (Str×Addr)->Sem (ForInStep (List (Str×Addr))):=λa b=>if(a.2==NameKind.free)=true then do let al<-cellOf c a.1;Pure.pure (ForInStep.yield ((a.1,al)::b)) else Pure.pure (ForInStep.yield b)
def lf(f:List Addr)(d:List (Str×Nat))(e:List (Str×Addr)):Prop:=∀c b,U c d=some b->∃a,f[b]?=some a/\e.lookup c=some a
def yp{t:Env}{ρ:List Addr}{g:List (Str×Nat)}(D:lf ρ g t.cells){o:List (Str×NameKind)}:∀{f i:List (Str×Nat)}{ca:List (Str×Addr)},nE g o f=some i->lf ρ f ca->
  (∀b∈o,b.2≠.cell)/\∃x,(forIn o ca (uM t))=(Pure.pure x:Sem _)/\lf ρ i x:=by
 induction o with
 |nil=>exactλa l=>⟨λI e=>absurd e cB,_,rfl,bw a▸l⟩
 |cons p n y=>
  obtain⟨b,k⟩:=p;intro f i ca a l;have a:cond (vM k) ((U b g).bind λu=>nE g n ((b,u)::f)) (cond (sh k) none (nE g n f))=some i:=a;have w:∀{v:Prop},k≠.cell->((∀b∈n,b.2≠.cell)/\v)->(∀d∈(b,k)::n,d.2≠.cell)/\v:=λG ⟨a,r⟩=>⟨λd m=>(List.mem_cons.mp m).elim (λc=>c▸G) (a d),r⟩;refine h (k9 ..) ?_;dsimp only [uM];refine h (OO ..) ?_;cases e:vM k with
  |true=>
   rw [e] at a;refine aS λH F=> ?_;obtain⟨u,E,a⟩:=bind_some a;obtain⟨s,C,e2⟩:=D b u E;refine F ?_;have:=y (ca:=(b,s)::ca) a λd j m=>by
    by_cases c:b=d
    . cases(e5 c).symm.trans m;exact⟨s,C,by rw [c,List.lookup_cons_self]⟩
    . obtain⟨z,A,B⟩:=l d j ((en c).symm.trans m);exact⟨z,A,by refine h (List.lookup_cons ..) ?_;refine h (show(d==b)=false from beq_false_of_ne (i7 c)) ?_;exact B⟩
   refine h (if_pos rfl ..) ?_;refine h (show cellOf t b=Pure.pure s from by unfold cellOf;rw [e2]) ?_;exact w (λc=>by rw [c] at e;cases e) this
  |false=>
   rw [e] at a;induction q:sh k using Bool.casesOn with
   |true=>rw [q] at a;cases a
   |false=>
    rw [q] at a;refine h (if_neg (by decide)) ?_;exact w (λc=>by rw [c] at q;cases q) (y a l)
def yo{b:Scope}{a:Env}{c:List (Str×Addr)}(e:forIn b.names ([]:List (Str×Addr)) (uM a)=Pure.pure c):closureFor b a=Pure.pure c:=by refine Eq.trans (show closureFor b a=(forIn b.names ([]:List (Str×Addr)) (uM a)>>=λd=>Pure.pure d) from rfl) ?_;rw [e];rfl
abbrev J8(a:Fr)(e:List Addr)(b:Env)(c:I)(f:b.scope=c.sc)(g:b.globals=mainGlobals)(h:b.builtins=builtinsNs)(i:c.sc.kind= .function)(d:eJ (b::a.b::a.aq)=eJ (a.b::a.aq))(j:b.frame=a.b.frame):Fr:=
 ⟨a.toRk.more e,a.F,a.ak,a.b::a.aq,b,c,f,g,h,i,d▸a.frames,d▸j▸a.i3,a.depth,a.units⟩
def oh{C:au}{Y Z:List Addr}:(C.more Y).more Z=C.more (Y++Z):=T (au.mk C.w C.hb) (jX ..)
def b1.more{k:Rk}(c:b1 k)(a:List Addr):b1 (k.more a):=λb=>by
 have:=c (a++b);unfold Rk.more at this⊢;rw [oh];exact this
section
variable{b:Fr}{m:D b.w}
def CW{L:Type}{Z:List Addr}{oa:Obj}{oG:St}{la:List Addr}{a:D b.w}{e:D b.w}{o:Addr}{B P:List Addr}{z:Nat->Heap->Prop}{M:List Addr->Heap->List Addr->Prop}{S:List Y}{XN:Nat->Value->Heap->Heap->Prop}{v:Scope}{O:List (Str×Nat)}{XC:List (Str×Addr)}{w J:Expr}{X0:List Expr}{Ys:Pos}
  {Rs:Addr->Result->Shared->Prop}{K:L->St->Prop}{C:a8}{Ac:∀T:Wd,L->D T->Prop} {t:Env->Sem Unit} {emit:I->L->St->ab L} {AV:L}
  (XV:b1 b.toRk) (Yy:b.I.hd=none) (Yk:b.ak.handled=none) (n:lj b.p b.ak b.w J o B P S XN z M) (A:Wk B P z M 0 e) (E:a.To e) (XX:∀c d,a.s.heap.get? c=some d->e.s.heap.get? c=some d) (Yl:∀c∈B,a.s.heap.get? c=none)
  (XZ:∀g∈Z,g=e.s.heap.objs.size) (X:cD (b.ag.more Z) (b.b::b.aq) oG la (e.s.heap.push oa)) (ext:∀(q:Nat) g,e.ρ[q]?=some g->la[q]?=some g) (X3:∀g∈la,g∉e.ρ->g=e.s.heap.objs.size) (XW:∀(q:Nat) d,e.st.objs[q]?=some (.ro d)->oG.objs[q]?=some (.ro d))
  (Yi:∀g∈v.names,g.2≠.cell) (Yj:lf la O XC) (XY:v.kind= .function)
  (Yp:∀{N:Result->Shared->Prop}{u env},codeAny b.z.ab b.ak (.compLoop w 0 (.ref o) (.ref e.s.heap.objs.size) env) N u->wpAny b.z.ab b.ak (pyIter (.ref o)) (λYt XI=>codeAny b.z.ab b.ak (.compLoop w 0 Yt (.ref e.s.heap.objs.size) env) N XI) (notedBy b.z.ab b.ak env λg XI=>N (.error g) XI) u->codeAny b.z.ab b.ak (.compStart w 0 (.ref o) (.ref e.s.heap.objs.size) env) N u)
  (Yq:∀{W C u env},wpAny b.z.ab b.ak (standAt Ys>>=λs=>pyNext (.ref o)>>=λr=>match r with
    |none=>Pure.pure (.done .next)
    |some XJ=>letOwnedTupleGo J (.ref o) XJ>>=λs=>assign J env XJ>>=λs=>forIn X0 true (vG env)>>=λYw=>if Yw=true then t env>>=λs=>again (.compLoop w 0 (.ref o) (.ref e.s.heap.objs.size) env) else again (.compLoop w 0 (.ref o) (.ref e.s.heap.objs.size) env)) W (notedBy b.z.ab b.ak env C) u->wpAny b.z.ab (b.ak.under (.compLoop w 0 (.ref o) (.ref e.s.heap.objs.size) env)) (b.z.ab.den (.compLoop w 0 (.ref o) (.ref e.s.heap.objs.size) env)) W C u)
  (Yn:∀env,(Code.compLoop w 0 (.ref o) (.ref e.s.heap.objs.size) env).quiet=true)
  (X8:∀m:Fr,m.toRk=b.toRk.more Z->b1 m.toRk->m.ak=b.ak->e.s.heap.objs.size∉bf (m.b::m.aq)->ul m e.s.heap.objs.size (Ac m.w) (t m.b) (emit m.I))
  (Yg:∀{T:Wd}{p:D T},p.ρ=la->p.st.objs=oG.objs->(∀c d,(e.s.heap.push oa).get? c=some d->p.s.heap.get? c=some d)->Ac T AV p)
  (y:(lF b.T b.r ⟨e6 v b.I.sc,none,O⟩ J X0 (emit ⟨e6 v b.I.sc,none,O⟩) S AV ⟨oG.objs,[]⟩).A K (λs s=>False))
  (Yh:∀(ce:Env) u(p:D ⟨b.ag.more Z,ce::b.b::b.aq⟩),a.s.heap.get? ce.locals=none->gn a p->Ac _ u p->K u p.st->Rs ce.locals (.ok .next) p.s):
  wpAny b.z.ab b.ak (newFunctionEnv v b.b.globals XC [] b.b.qual none .none (some b.b)) (λXQ Yx=>codeAny b.z.ab b.ak (.compStart w 0 (.ref o) (.ref e.s.heap.objs.size) {XQ with scope:=relabel v b.b}) (Rs XQ.locals) Yx) C {e.s with heap:=e.s.heap.push oa}:=by
 refine wpAny_newFunctionEnv Yi (λYB Yr=>absurd Yr cB) (λXE Ym Yo=> ?_) XY;have XF:∀c d,(e.s.heap.push oa).get? c=some d->XE.get? c=some d:=λc d f=>(Yo.2 c (gl (dk f))).trans (cX _ f);have R:∀c d,e.s.heap.get? c=some d->XE.get? c=some d:=λc d f=>XF c d (cX _ f);refine aS λXK F=> ?_;obtain⟨_,U,XT,XU⟩:=X.envs b.b (.head _);refine F ?_;let ce:Env:=compEnvC v XC (e.s.heap.push oa).objs.size b.b;have XS:ce.scope=e6 v b.I.sc:=by refine(?_:relabel v b.b=relabel v (jn b.I.sc));rw [<-b.iV];rfl
 have XR:ce.scope.kind= .function:=XY;have Ye:∀{c},a.s.heap.get? c=none\/(∃d,a.s.heap.get? c=some d):=λ{c}=>by
  induction a.s.heap.get? c using Option.casesOn with
  |none=>exact .inl rfl
  |some d=>exact .inr ⟨d,rfl⟩
 have XH:∀c,e.s.heap.objs.size<=c->a.s.heap.get? c=none:=λc j=>Ye.elim id (by rintro⟨d,f⟩;exact absurd (dk (XX c d f)) (Nat.not_lt.mpr j));have XM:a.s.heap.get? ce.locals=none:=XH _ (by refine(?_:_<=(e.s.heap.push oa).objs.size);refine h (jY ..) ?_;exact fU _);have X2:∀{c d},e.s.heap.get? c=some d->c≠ce.locals:=λf l=>absurd (dk (cX oa f)) (l▸gk _);have Yf:eJ (ce::b.b::b.aq)=eJ (b.b::b.aq):=List.filter_cons_of_neg λl=>by
  have l:ce.frame=some ce.locals:=beq_iff_eq.mp l;have i:U=ce.locals:=bw (XT.symm.trans l);refine Exists.elim ((X.b7 U XU).ns) λx V=> ?_;exact absurd V.lt (i▸gk _)
 let m:Fr:=J8 b Z ce ⟨e6 v b.I.sc,none,O⟩ XS b.r5 b.blt (XS▸XR) Yf rfl;let H:D m.w:=⟨⟨oG.objs,[]⟩,la,{e.s with heap:=XE,toks:=e.s.toks+0},X.DG (env:=ce) (lc:=[]) rfl (by refine h (XR ..) ?_;decide) ⟨U,XT,.tail _ XU⟩ Ym XF λg XJ i=>bh i⟩;have X4:e.s.heap.objs.size∉bf (b.b::b.aq):=λi=>by
  refine Exists.elim ((e.O.b7 _ i).ns) λx V=> ?_;exact absurd V.lt (gk _)
 have X7:=n.W.nL _ _ A.a4;have Q:∀c∈B,∃d,e.s.heap.get? c=some d:=λc j=>let⟨d,f,_,_⟩:=X7 c j;⟨d,f⟩;have XG:∀g∈la,g∉e.ρ->e.s.heap.get? g=none:=λg y x=>X3 g y x▸kC;have Ya:gn (Z:=Z) (ce:=ce) a H:=gn.Vt (λq g f=>ext q g (E.ext q g f)) (λg y x=>by
   by_cases i:g∈e.ρ
   . exact E.new g i x
   . exact XH g (ed (X3 g y i).symm)) (λq d f=>XW q d (E.f8 q d f)) (λg d f=>R g d (XX g d f)) E.gens E.os
 have X9:aF m H:=⟨⟨Yj,Yk⟩,XV Z⟩;have XO:Wk B P z M 0 H:=⟨λc j i=>by
   by_cases l:c∈e.ρ
   . exact A.dj c j l
   . refine Exists.elim (Q c j) λd f=> ?_;exact cG (XG c i l) f,n.W.frame 0 _ _ A.a4 λc s Yv f=>R c Yv f,λc j=>by
   refine aS λXK F=> ?_;obtain⟨x,d,f,Yd⟩:=A.fp c j;refine F ?_;exact⟨Ah e.O.aE H.O.d3 ext (λx y=>cG (XG c y x) f) XW x,d,R c d f,Yd⟩,
  n.jk _ _ _ _ _ ⟨λc d f s s s=>R c d f,ext,XG⟩ (n.jv _ _ _ _ _ (G.rF (λs s s f=>f) λg YA x f Yu=>⟨f,λi=>(List.mem_append.mp i).elim Yu λi=>cG kC (XZ g i▸f)⟩) A.j)⟩
 have Yc:lj m.p m.ak m.w J o B P S XN z M:=⟨n.W,n.item,n.jk,n.jv,λc j i=>(List.mem_cons.mp i).elim (X2 (Q c j).choose_spec) (n.nf c j),λc j i=>(List.mem_append.mp i).elim (n.nz c j) λi=>by
   refine Exists.elim (Q c j) λd f=> ?_;rw [XZ c i] at f;exact cG kC f,n.ge,λc j i=>by
   refine aS λXK F=> ?_;obtain⟨_,d,f,_⟩:=A.fp c j;refine F ?_;exact(List.mem_cons.mp i).elim (X2 f) (n.ff c j),n.Fw⟩
 have X1:codeAny b.z.ab b.ak (.compLoop w 0 (.ref o) (.ref e.s.heap.objs.size) ce) (Rs ce.locals) H.s:=by
  refine J9 (g:=m) (nb:=λp=>gn a p) rfl Yc (X8 m rfl (XV.more Z) rfl ?_) (λz Yb=>z.f XM Yb) (λ{c p Yz} j z X6=>z.e1 X6 ?_ ?_) (λl=>cG kC (Q _ l).choose_spec) (λi=> ?_) (λ{W C u} y=>Yq y) (Yn ce) (λu p q s X5 k=>Yh ce u p XM q X5 k) S (bU _) List.drop_zero X9 Ya XO (Yg rfl rfl XF) y
  . exactλi=>(List.mem_cons.mp i).elim (λl=>absurd (l.trans (jY ..)) (gl (hV _))) X4
  . exact j.elim (λl=>l▸Yl) λl=>l▸λg XD=>List.mem_singleton.mp XD▸XH _ (cb _)
  . exact j.elim (λl=>l▸n.nf) λl=>l▸λg XD=>List.mem_singleton.mp XD▸X4
  . obtain⟨_,d,f,_⟩:=A.fp _ i;exact cG kC f
 exact Yp X1 (n.W.self 0 _ _ _ XO.a4 X1)
end
inductive x4(a:Addr)(b:Wd)(us:List Y)(m:D b):Prop
 |mk (c:Array Value):a∉m.ρ->m.s.heap.PlainList a c->w b.ag.fz m.s.heap m.ρ us c.toList->x4 a b us m
def u2(d:Option Nat)(r:O)(c:Expr)(a:I)(b:List Y)(e:St):ab (List Y):= .ok (Nat.ble (C b) sizeLine) (.bind (fo bL a d (r.E a c) e) λg f=> .ret (aJ b g) f)
def uP{i:Type}(c:ay)(r:O)(b:I)(k h n:Expr)(m:List Expr)(a:Scope)(l:List Y->St->ab i)(o:St):ab i:= .v (nE b.cells a.names []) λe=> .ok (mh a.names a.names)<| .ok (zw a.kind)
 ⟨λj d=>(zF c r b h n o).A (λf g=>(lF c r ⟨e6 a b.sc,none,e⟩ h m (u2 none r k ⟨e6 a b.sc,none,e⟩) f.1 [] ⟨g.objs,[]⟩).A (λq p=>(l q (gj f.2 ⟨p.objs,g.d⟩)).A j d) λs s=>False) d⟩
def zQ{a:Addr}{b:Heap}{g:Array Value}{e:Nat}(d:b.get? a=some (listOf g e)){c:Obj}(f:b.get? a=some c):c.cls= .type "list":=by cases d.symm.trans f;rfl
section
variable{c:Fr}{m:D c.w}
def M0(X:b1 c.toRk){e:Addr}(M:e∈c.ag.fz)(D:e∉bf (c.b::c.aq)){J:Option Nat}{A:Expr}:ul c e (x4 e c.w) (eval A c.b>>=λH=>call (.builtin "list.append") [.ref e,H]>>=λp=>Pure.pure ()) (u2 J c.r A c.I):=by
 refine⟨λ{XH m XC} ⟨q,o,⟨k,n⟩,r⟩ j=>⟨q,λb=>cG (j.new e b o) n,⟨k,j.b0 e _ n ((by rintro⟨_,_,_,a,_⟩;exact o (b8 a))) D (by decide:Value.type "list"≠TB)⟩,r.mono j.kp⟩,λ{XH XN m XC} XD ⟨q,o,⟨k,n⟩,r⟩ f z=>⟨q,f.ρ▸o,⟨k,f.b0 e _ XD n⟩,r.mono (f.kp z)⟩,λ{s m} z R{I} B{XK XJ} v=> ?_⟩;obtain⟨W,B⟩:=cond_true (show cond (Nat.ble (C s) sizeLine) (ab.A (ab.bind (Mine.Internal.fo bL c.I J (c.r.E c.I A) m.st) _) I _) False from B);obtain⟨q,o,⟨k,n⟩,r⟩:=R;have hsz:q.size<=sizeLine:=L (ed (by rw [<-Array.length_toList,r.length,<-aZ])) (c8 W);refine i (d.Ni z X _ _ B _ _ (λy l P j XE Z=> ?_) λp p p p p b=>False.elim b);have O:e∉l.ρ:=λb=>cG (j.new e b o) n;have t:=j.b0 e _ n ((by rintro⟨_,_,_,a,_⟩;exact o (b8 a))) D (by decide:Value.type "list"≠TB);have XF:=r.mono j.kp;refine i (wpAny_list_append_plain (hsz:=hsz) ⟨k,t⟩ λU K Y=>V ?_);have E:∀g x,g≠e->l.s.heap.get? g=some x->U.get? g=some x:=λg x b a=>(Y.2 g b).trans a;have u:=G.rF (ρ:=l.ρ) (Z:=c.ag.fz) (pk:=c.ag.fz) (λg Q k a=>E g _ (λb=>absurd (zQ t (b▸a)) (by decide:Value.type "tuple"≠_)) a) λg Q k a N=>⟨E g _ (λb=>N (b▸M)) a,N⟩;obtain⟨XM,S⟩:=id K;obtain⟨F,a,f⟩:=Cz (m:=l) l.s.toks E O D (l.O.em e M).ge (λp=>⟨_,S⟩) (λx a=>⟨λb=>absurd ((zQ t a).symm.trans b) (by decide:Value.type "list"≠TB),λQ k b=>absurd ((zQ t a).symm.trans (T Obj.cls b)) (by decide:Value.type "list"≠Value.type "tuple")⟩) u λp f=>nw c.F f;have XG:w c.ag.fz F.s.heap F.ρ (s++[y]) (q.toList++[P]):=by rw [f.ρ,a];exact w.append (.cI (u _ _ XE) .cQ) (XF.map u)
 have v:=v l F (s++[y]) j (.inr ⟨f,λXI H r=>by refine h (a ..) ?_;exact u XI H r⟩) ⟨q.push P,f.ρ▸O,a▸K,by refine h (Array.toList_push ..) ?_;exact XG⟩ (f.st▸c0 s y▸(show I (aJ s y) l.st from Z));rw [a] at v;exact v
def ES{iq:D c.w}{f:Addr}{E:Str->Option Value}{p:Heap}(x:m.To iq)(B:m.s.heap.get? f=none)(n:iq.s.heap.Ns f E)(F:f∉iq.ρ)(v:f∉bf (c.b::c.aq))(t:f∉c.ag.fz)(A:c.ag.n0<=f)(C:Heap.SameBut f iq.s.heap p):
  ∃g:D c.w,g.s={iq.s with heap:=p}/\g.st=iq.st/\m.To g/\∀j l,b iq j l->b g j l:=by have s:∀d o,d≠f->iq.s.heap.get? d=some o->p.get? d=some o:=λd o e a=>(C.2 d e).trans a;have u:=G.rF (ρ:=iq.ρ) (Z:=c.ag.fz) (pk:=c.ag.fz) (λd w k a=>s d _ (λe=>ot n (e▸a) rfl) a) λd w k a t=>⟨s d _ (λe=>ot n (e▸a) rfl) a,t⟩;obtain⟨g,a,i⟩:=Cz (m:=iq) iq.s.toks s F v A (λe=>absurd e t) (λo a=>⟨λH I z=>wj n a z,λw k e=>ot n (e▸a) rfl⟩) u λH i=>nw c.F i;exact⟨g,a,i.st,x.e1 i (λy q=>List.mem_singleton.mp q▸B) (λy q=>List.mem_singleton.mp q▸v),λj l r=>by refine(?_:G _ g.s.heap g.ρ j l);refine h (i.ρ ..) ?_;refine h (a ..) ?_;exact u j l r⟩
structure x3(m b:D c.w)(a:Addr):Prop where
 pK:m.s.heap.get? a=none
 dj:a∉b.ρ
 nf:a∉bf (c.b::c.aq)
 nz:a∉c.ag.fz
 ge:c.ag.n0<=a
 ns:∃d,b.s.heap.Ns a d
def Eb{d:D c.w}{a:Option (Nat×ae)}(h:j8 d.st a)(j:m.To d){k:List Addr}{b:Env}{i:D ⟨c.ag.more k,b::c.b::c.aq⟩}(g:gn (s.mark h).pt i)(e:d.s.heap.get? b.locals=none):x3 m (s.tE h (m':=g.me.pt) g.me.f).pt b.locals:=by
 have Fr:=i.O.b7 b.locals (.head _);refine⟨?_,Fr.dj,λa=> ?_,λn=> ?_,Fr.ge,Fr.ns⟩
 . induction a:m.s.heap.get? b.locals using Option.casesOn with
   |none=>rfl
   |some f=>obtain⟨p,l⟩:=j.c7 _ f a;exact(cG e l).elim
 . obtain⟨o,f,_,_,a,_⟩:=(d.O.b7 _ a).ns;exact cG e a
 . obtain⟨f,a⟩:=(d.O.em _ n).has;exact cG e a
def CV{B:Expr}(XF:b1 c.toRk)(XM:c.I.hd=none)(XN:c.ak.handled=none){d:ew}{m':D c.w}{g:Value}(E:ef c.p c.ak B m d m' g){y XT:Expr}{P:List Expr}{i:Scope}{XW:Pos}{XC:Option Nat}{x:List (Str×Nat)}{L:List (Str×Addr)}{K:List Y->St->Prop}{C:a8}{Rs:Value->Addr->Result->Shared->Prop}
  (XI:∀g∈i.names,g.2≠.cell) (XJ:lf m'.ρ x L) (XO:i.kind= .function) (n:(lF c.T c.r ⟨e6 i c.I.sc,none,x⟩ B P (u2 XC c.r y ⟨e6 i c.I.sc,none,x⟩) d.1 [] ⟨m'.st.objs,[]⟩).A (λf XY=>K f (gj d.2 ⟨XY.objs,m'.st.d⟩)) λj j=>False)
  (XG:∀f p I t,m.To p->b p (.c f) (.ref I)->x3 m p t->K f p.st->Rs (.ref I) t (.ok .next) p.s):
  wpAny c.z.ab c.ak (newList []) (λH XZ=>wpAny c.z.ab c.ak (newFunctionEnv i c.b.globals L [] c.b.qual none .none (some c.b)) (λJ X0=>codeAny c.z.ab c.ak (.compStart (.ListComp y [⟨B,XT,P,0⟩] i XW) 0 g H {J with scope:=relabel i c.b}) (Rs H J.locals) X0) C XZ) C m'.s:=by
 obtain⟨o,z,X6,X8,X5,X3,X2,E,F,R,XQ,U,S,X,e2,O⟩:=E;have X7:m'.s.heap.objs.size∉bf (c.b::c.aq):=λq=>by
  obtain⟨v,l⟩:=(m'.O.b7 _ q).ns;exact absurd l.lt (gk _)
 refine o9 (CW (a:=(s.mark z).pt) (Z:=[m'.s.heap.objs.size]) (oG:=m'.st) (la:=m'.ρ) (oa:=listOf ([]:List Value).toArray 0) (Ac:=x4 m'.s.heap.objs.size) (t:=λZ=>eval y Z>>=λg=>call (.builtin "list.append") [.ref m'.s.heap.objs.size,g]>>=λj=>Pure.pure ()) (Rs:=λt=>Rs (.ref m'.s.heap.objs.size) t) XF XM XN U S R O XQ (λg XS=>List.mem_singleton.mp XS)
  (m'.O.more (λd A e=>cX _ e) (λa XH=>List.mem_singleton.mp XH▸⟨kC,⟨_,cY _ rfl⟩,m'.O.eh⟩) (by refine h (jY ..) ?_;exact k6 m'.O.eh)) (λj j e=>e) (λg n v=>absurd n v) (λj j e=>e) XI XJ XO
  codeAny_compStart_list (λn=>wpAny_noted n) (λj=>rfl) (λXD u M N XE=> ?_) (λu M N=>⟨#[],u▸m'.O.ne,⟨0,N _ _ (cY _ rfl)⟩,.cQ⟩) n λW f XU XK w Q k=> ?_)
 . have XR:XD.r=c.r:=(T Rk.r u).trans rfl;exact XR▸M0 M (u▸Bu _ (.head _)) XE
 . obtain⟨xs,v,⟨X4,e⟩,r⟩:=Q;have l:=s.tE z (m':=w.me.pt) w.me.f;have V:∀{d},o.s.heap.get? d=none->d∉c.ag.fz:=λe X1=>by obtain⟨A,q⟩:=(o.O.em _ X1).has;exact cG e q
   have XV:o.s.heap.get? m'.s.heap.objs.size=none:=by
    cases q:o.s.heap.get? m'.s.heap.objs.size with
    |none=>rfl
    |some A=>exact absurd (dk (O _ A q)) (gk _)
   have XX:b l.pt (.c f) (.ref m'.s.heap.objs.size):= .my (xs:=xs.toList) (by refine h (Array.toArray_toList ..) ?_;exact e) v (V XV) (r.map G.jy);refine XG f l.pt _ W.locals (F.trans l.f) XX (Eb z F w XK) ?_;refine(?_:K f (gj d.2 ⟨XU.st.objs,(eL d.2 o.st).d⟩));rw [<-X];exact k
end
section
variable{c:Fr}{m:D c.w}
def lf.f{e g:List Addr}{d:List (Str×Nat)}{c:List (Str×Addr)}(i:lf e d c)(h:∀(b:Nat) a,e[b]?=some a->g[b]?=some a):lf g d c:=λm b l=>by
 obtain⟨a,j,k⟩:=i m b l;exact⟨a,h b a j,k⟩
def d.Rl(f:aF c m)(I:b1 c.toRk){r y w:Expr}{u:List Expr}{x:Scope}{U:Pos}:d c.z (eval (.ListComp r [⟨y,w,u,0⟩] x U) c.b) b m (uP c.T c.r c.I r y w u x (λe j=> .ret (.c e) j) m.st):=by refine d.v λXE N=>d.ok λP=>d.ok λs K Y g B z Q O=> ?_;have t:=(cond_true g).1;refine aS λA i=> ?_;obtain⟨J,XD,M,L⟩:=yp (ρ:=m.ρ) f.toIn0.cells N λW XG X=>bh X;refine i ?_;refine h (eval_ListComp ..) ?_;refine Bx (use:=none) rfl (DZ g c.b) (yo M) (p1 s) (zR P) (ED f g (λXC XH W o k=> ?_) O);refine CV I (vC t) (f.toIn0.handled t) o (K:=λe j=>K (.c e) j) (Rs:=λE p=>compPost c.z.ab c.ak z none B E p) J (L.f o.f.ext) (p1 s) k λe XI Z p C V a k=> ?_;obtain⟨T,q⟩:=a.ns;refine⟨T,q,λXF R=> ?_⟩;refine aS λA i=> ?_;obtain⟨S,F,G,D,H⟩:=ES C a.pK q a.dj a.nf a.nz a.ge R;refine i ?_;exact F▸Q (.c e) S _ D (H _ _ V) (G▸k)
def GP{he:D c.w}{v:Y}{t:Value}{f:Addr}{e:Str}{K:Pos}{p:Shared->Prop}{u:a8}(y:m.To he)(L:b he v t)(a:x3 m he f)(G:ju (U e c.I.sc.names)=true)(E:∀d:D c.w,m.To d->d.st=⟨he.st.objs,aO e v he.st.d⟩->p d.s):
  wpAny c.z.ab c.ak (PySem.assign (.Name e K) c.b t) (λN k=>∃r,k.heap.Ns f r/\∀g,Heap.SameBut f k.heap g->p {k with heap:=g}) u he.s:=by refine h (arm_assign_Name ..) ?_;refine aS λw j=> ?_;obtain⟨r,l,I⟩:=he.O.d c.b.locals (bf c.aq) rfl;refine j ?_;refine i (j0 (wpAny_bindName (xB (c.oj (vN G)) l (λH C q=> ?_) (by refine h (c.p0 ..) ?_;rfl))));have o:s he ⟨he.st.objs,aO e v he.st.d⟩ he.ρ {he.s with heap:=H,toks:=he.s.toks+1}:=s.mL rfl l I C q L rfl rfl;obtain⟨J,x⟩:=a.ns;have n:=x.sameBut q λM=>a.nf (M▸.head _);refine⟨J,n,λg F=> ?_⟩;refine aS λw j=> ?_;obtain⟨d,A,B,z,_⟩:=ES (y.trans o.f) a.pK (iq:=o.pt) n a.dj a.nf a.nz a.ge F;refine j ?_;exact A▸E d z B
def w4(c:Str)(b:Y)(a:St):ab bg:= .ret .next ⟨a.objs,aO c b a.d⟩
def d.Rm(s:aF c m)(L:b1 c.toRk){g p b:Expr}{j:List Expr}{f:Scope}{y e D:Pos}{a:Str}(T:swapsWith (.ListComp g [⟨p,b,j,0⟩] f y) (some (.Name a e)) D.line c.b=Pure.pure true)(W:ju (U a c.I.sc.names)=true):
  d c.z (PySem.exec (.Assign [.Name a e] (.ListComp g [⟨p,b,j,0⟩] f y) D) c.b) b9 m (uP c.T c.r c.I g p b j f (λq=>w4 a (.c q)) m.st):=by refine d.v λXH P=>d.ok λS=>d.ok λB K XD w Q E x R=> ?_;have C:=(cond_true w).1;obtain⟨M,XG,O,N⟩:=yp (ρ:=m.ρ) s.toIn0.cells P λZ XI XC=>bh XC;refine h (exec_Assign_Name_used _ _ _ _ T ..) ?_;refine i (j0 (i ?_));refine(?_:wpAny _ c.ak (do let _<-comprehension (.ListComp g [⟨p,b,j,0⟩] f y) f c.b _ (newList []) false (eval b c.b) (some (PySem.assign (.Name a e) c.b))) _ _ m.s);refine i (wpAny_mono (Bx (use:=some (PySem.assign (.Name a e) c.b)) (Q:=λr o=>Q .next o) (E:=E) rfl (DZ w c.b) (yo O) (p1 B) (zR S) (ED s w (λXF XJ Z z k=> ?_) R)) (λr o x=>V (V x)) λr r t=>t);exact CV L (vC C) (s.toIn0.handled C) z (K:=λq F=>K .next ⟨F.objs,aO a (.c q) F.d⟩) (Rs:=λJ A=>compPost c.z.ab c.ak E (some (PySem.assign (.Name a e) c.b)) (λr o=>Q .next o) J A) M (N.f z.f.ext) (p1 B) k λq XK XE A H Y G k=>GP H Y G W λX I t=>x .next X .next I u (t▸k)
def Dj(j:Nat)(c e:Y)(a:St):ab Unit:= .v (t a.objs j) λd=> .v d.eC λb=> .str c λf=> .ok (Nat.ble (C b) sizeLine) (.ret () ⟨aQ a.objs j (.dict (aO f e b)),a.d⟩)
def d.dictSet{a:G0}{m:D a.w}{j:Nat}{f:Addr}{w i:Y}{e k:Value}(g:m.ρ[j]?=some f)(N:b m w e)(O:b m i k):d a (PySem.dictSet f e k) Tt m (Dj j w i m.st):=by
 refine d.v λZ z=>d.v λC B=> ?_;cases ae.nJ B;have q:ey .. :=m.at z g;refine aS λQ M=> ?_;obtain⟨W,y,L⟩:=q.of (p:=a.p);obtain⟨U,X,I,V,J⟩:=q;refine M ?_;refine d.str (t:=λe=>PySem.dictSet f e k) N λA t=>d.ok λF R T x S P K XC=> ?_;refine wpAny_dictSet_pairs (strKind_is a.p a.w.ag.w A t) L (λE H r=> ?_) (by refine h (y.length ..) ?_;refine ba (aZ ..) ?_;exact c8 F);have o:=iR r (b8 g);have p:s m ⟨m.st.objs.set j (.dict (aO A i C)),m.st.d⟩ m.ρ {m.s with heap:=E,toks:=m.s.toks+1}:=
  s.dd g ((cW ..).symm.trans z) rfl r I rN (ey.Ae (p:=a.p) (AP (G.mono o O) (y.mono o) J) H) rfl rfl
 rw [d4] at x;exact K () p.pt () p.f u x
def yW(r:O)(b g:Expr)(j:Nat)(a:I)(_:Unit)(c:St):ab Unit:= .bind (r.E a b c) λk d=> .bind (r.E a g d) λf e=>Dj j k f e
def CU{i:Type}(d:ay)(r:O)(b:I)(n s q m:Expr)(l:List Expr)(a:Scope)(k:Y->St->ab i)(o:St):ab i:= .v (nE b.cells a.names []) λf=> .ok (mh a.names a.names)<| .ok (zw a.kind)
 ⟨λj e=>(sl d r b m o).A (λg c=>(lF d r ⟨e6 a b.sc,none,f⟩ q l (yW r n s (C c.objs) ⟨e6 a b.sc,none,f⟩) g.1 () ⟨aJ c.objs (.dict []),[]⟩).A (λh p=>(k (.obj (C c.objs)) (gj g.2 ⟨p.objs,c.d⟩)).A j e) λh h=>False) e⟩
def BI(j:Nat)(a:Addr)(b:Wd)(_:Unit)(m:D b):Prop:=m.ρ[j]?=some a
def MZ{j:Nat}{f:Addr}{l p:Expr}{w:Pos}:ul c f (BI j f c.w) (eval l c.b>>=λg=>holding [g] (eval p c.b)>>=λo=>standAt w>>=λa=>holding [g,o] (PySem.dictSet f g o)) (yW c.r l p j c.I):=by refine⟨λe b=>b.ext _ _ e,λa e q a=>(show _=_ from q.ρ▸e),λ{C m} h e{s} u{t r} v=> ?_⟩;exact d.bind h.E (λk A E b x=>d.bind (d.bY (h.f b).E) λD B F i y=>d.bD (d.bY (d.dictSet (i.ext _ _ (b.ext _ _ e)) (x.f i) y))) s _ u t r (λa n a b a k=>v n n () b (.inl rfl) (b.ext _ _ e) k) λa a a a a z=>False.elim z
def d.Ll(A:aF c m)(XQ:b1 c.toRk){q g x r:Expr}{y:List Expr}{w:Scope}{L t Z:Pos}{f:Str}(X2:swapsWith (.DictComp q g [⟨x,r,y,0⟩] w L) (some (.Name f t)) Z.line c.b=Pure.pure true)(X4:ju (U f c.I.sc.names)=true):
  d c.z (PySem.exec (.Assign [.Name f t] (.DictComp q g [⟨x,r,y,0⟩] w L) Z) c.b) b9 m (CU c.T c.r c.I q g x r y w (w4 f) m.st):=by
 refine d.v λYe XV=>d.ok λXZ=>d.ok λS K Yb p Q E H XX=> ?_;have W:=(cond_true p).1;obtain⟨XS,Yd,XU,XT⟩:=yp (ρ:=m.ρ) A.toIn0.cells XV λM Yh X8=>bh X8;refine h (exec_Assign_Name_used _ _ _ _ X2 ..) ?_;refine i (j0 (i ?_));refine(?_:wpAny _ c.ak (do let _<-comprehension (.DictComp q g [⟨x,r,y,0⟩] w L) w c.b _ newDict false (eval r c.b) (some (PySem.assign (.Name f t) c.b))) _ _ m.s);refine i (wpAny_mono (Bx (use:=some (PySem.assign (.Name f t) c.b)) (Q:=λb z=>Q .next z) (E:=E) rfl (zb p c.b) (yo XU) (p1 S) (zR XZ) (zG (tg:=x) A p (λj m' M B k=> ?_) XX)) (λb z H=>V (V H)) λb b e=>e);have XF:=B;obtain⟨X,I,Yi,Yk,Yf,Ya,X9,B,P,D,X0,XI,XH,XK,e2,XY⟩:=B;rw [aZ,c0] at k;have O:s m' ⟨m'.st.objs++[.dict []],m'.st.d⟩ (m'.ρ++[m'.s.heap.objs.size]) {m'.s with heap:=m'.s.heap.push emptyDict}:=s.alloc (o:= .dict []) ⟨[],0,cY _ rfl,.fk,.nil⟩ rfl rfl rfl;have XJ:(m'.ρ++[m'.s.heap.objs.size])[m'.st.objs.length]?=some m'.s.heap.objs.size:=by refine ba (m'.O.aE ..) ?_;refine h (i5 (cb _) ..) ?_;refine h (pa ..) ?_;rfl
 refine o9 (CW (a:=(s.mark I).pt) (Z:=[]) (oG:=⟨m'.st.objs++[.dict []],m'.st.d⟩) (la:=m'.ρ++[m'.s.heap.objs.size]) (oa:=emptyDict) (Ac:=BI m'.st.objs.length m'.s.heap.objs.size) (t:=λR=>eval q R>>=λJ=>holding [J] (eval g R)>>=λXD=>standAt {q.pos with endLine:=g.pos.endLine,endCol:=g.pos.endCol}>>=λb=>holding [J,XD] (PySem.dictSet m'.s.heap.objs.size J XD)) (emit:=yW c.r q g m'.st.objs.length) (AV:=())
  (K:=λb XC=>K .next ⟨(gj j.2 ⟨XC.objs,m'.st.d⟩).objs,aO f (.obj m'.st.objs.length) (gj j.2 ⟨XC.objs,m'.st.d⟩).d⟩)
  (Rs:=λXG=>compPost c.z.ab c.ak E (some (PySem.assign (.Name f t) c.b)) (λb z=>Q .next z) (.ref m'.s.heap.objs.size) XG) XQ (vC W) (A.toIn0.handled W) XI XH D XY X0 (λM X3=>absurd X3 cB)
  (O.O.more (λj o e=>e) (λa XR=>absurd XR cB) O.O.eh) (λb b e=>nZ e) (λM p X6=>(List.mem_append.mp p).elim (λX7=>absurd X7 X6) List.mem_singleton.mp) (λb b e=>nZ e) XS ((XT.f XF.f.ext).f λb b e=>nZ e) (p1 S)
  codeAny_compStart_dict (λp=>wpAny_noted p) (λb=>rfl) (λXM F XN XO Yg=> ?_) (λF XN XO=>(show _=_ from F▸XJ)) k λYc Yj Y XW C XE k=> ?_)
 . have X1:XM.r=c.r:=(T Rk.r F).trans rfl;exact X1▸MZ
 . have N:=s.tE I (m':=C.me.pt) C.me.f;refine GP (P.trans N.f) (he:=N.pt) (v:= .obj m'.st.objs.length) (G.gh XE) (Eb I P C XW) X4 λX5 D e=>H .next X5 .next D u ?_;refine h (e ..) ?_;refine(?_:K .next ⟨(gj j.2 ⟨Y.st.objs,(eL j.2 X.st).d⟩).objs,aO f _ (gj j.2 ⟨Y.st.objs,(eL j.2 X.st).d⟩).d⟩);rw [<-XK];exact k
end
def a1{a:Type}(b:List Y)(c:Y->ab a):ab a:=match b with
 |[]=> .n
 |aj::r=>match r with
  |[]=>c aj
  |_=> .n
def a2{a:Type}(b:List Y)(c:Y->Y->ab a):ab a:=match b with
 |[]=> .n
 |aj::r=>a1 r (c aj)
def a3{a:Type}(b:List Y)(c:Y->Y->Y->ab a):ab a:=match b with
 |[]=> .n
 |aj::r=>a2 r (c aj)
section
variable{a:G0}{m:D a.w}{h g:Type}{c:List Y}{f:List Value}{t:List Value->Sem h}{e:D a.w->g->h->Prop}
def d.a1{h:Y->ab g}(r:bp m c f)(k:∀i j,b m i j->d a (t [j]) e m (h i)):d a (t f) e m (Mine.Internal.a1 c h):=by
 rcases r with _|⟨o,r⟩
 . exact d.n
 . rcases r with _|⟨p,r⟩
   . exact k _ _ o
   . exact d.n
def d.a2{j:Y->Y->ab g}(r:bp m c f)(k:∀o h p i,b m o p->b m h i->d a (t [p,i]) e m (j o h)):d a (t f) e m (Mine.Internal.a2 c j):=by
 rcases r with _|⟨q,r⟩
 . exact d.n
 . exact d.a1 (t:=λu=>t (_::u)) r λh i s=>k _ _ _ _ q s
def d.a3{p:Y->Y->Y->ab g}(r:bp m c f)(k:∀q h i s j o,b m q s->b m h j->b m i o->d a (t [s,j,o]) e m (p q h i)):d a (t f) e m (Mine.Internal.a3 c p):=by
 rcases r with _|⟨u,r⟩
 . exact d.n
 . exact d.a2 (t:=λy=>t (_::y)) r λh i j o w x=>k _ _ _ _ _ _ u w x
end
def mf(a:Nat)(b:St):ab Y:= .ok (Nat.blt a 9223372036854775808) (.ret (.int (Int.ofNat a)) b)
def ER(b:Y)(a:St):ab Y:= .ite b.isStr (.str b λd=>mf d.length a) (.or (kR b) (λc=>mf (C c) a) (.v (du b a) λc=>mf (C c) a))
noncomputable def oH:List Int->Int
 |[]=>0
 |b::a=>b+oH a
def lx{b:Type}(e:Y)(d:St)(c:Nat->List Y->ab b):ab b:= .obj e λa=> .v ((t d.objs a).bind ae.du) λf=>c a f
def AU(c:Y)(a:St):ab Y:=lx c a λe d=> .v (n3 d) λb=> .ret (.int (oH b)) a
def WH(a:ay)(b:St):ae->Option KT
 | .bj al ap=>(da al a.cls).bind λr=>cond r.ar none (cond (cA al a.lX) (((gH b.objs ap).bind ae.eC).map λc=> .cls al) none)
 |_=>none
def WI(a:ay)(b:St)(d:Y):Option KT:=match d with
 | .str _=>some (.ty .str)
 | .l _=>some (.ty .tuple)
 | .d ai=>cond (cA ai a.lP) (some .fn) none
 | .obj c=>(t b.objs c).bind (WH a b)
 |_=>none
noncomputable def JP:Y->Option KT
 | .d al=>some (.cls al)
 | .ty a=>some (.ty a)
 |_=>none
def Ez(a:ay)(g d:Y)(b:St):ab Y:= .v (WI a b g) λf=> .v (JP d) λe=> .v (sq f e a.qf) λc=> .ret (.bool c) b
def FM(c:Y)(b:St):ab Y:= .str c λa=> .ok (Nat.beq a.length 1) (.ret (.int (Int.ofNat (a.cps.getD 0 0))) b)
def uy(e d:Y)(a:St):ab Y:=lx e a λc b=> .ok (Nat.ble (C b) sizeLine) (.ret .none ⟨aQ a.objs c (.c (aJ b d)),a.d⟩)
noncomputable def pW{c:Type}:List c->Nat->List c
 |[],_=>[]
 |ai::b,a=>match a with
  |0=>b
  |a+1=>ai::pW b a
def FZ(e b:Y)(a:St):ab Y:= .qm b λj=>lx e a λd c=> .ok (Nat.ble (C c) sizeLine) (.ok (Nat.blt j 1000) (.v (t c j) λb=> .ret b ⟨aQ a.objs d (.c (pW c j)),a.d⟩))
def Dr(e k b:Y)(a:St):ab Y:= .obj e λd=> .v ((t a.objs d).bind ae.eC) λc=> .str k λf=> .bR (U f c).isSome (.ret b a)
def EG(a:Y)(d:Y)(c:St):ab Y:= .str a λa=> .v (du d c) λe=> .v (iz e) λb=> .ok (JoinOk a b) (.ret (.str (Txt.join a b)) c)
noncomputable def y:List Str->List Y
 |[]=>[]
 |b::a=> .str b::y a
def GH(c:Y)(b:St):ab Y:= .str c λa=> .ok (Nat.ble (a.length+2) sizeLine) (lu (.c (y (Txt.words a))) b)
def Em(a d:Str)(c:St):ab Y:= .v (Builtin.Str.occurrences a d 0 a.length 1).head? λb=> .ret (.int (Int.ofNat b)) c
section
variable{f:G0}{m:D f.w}{c g k n:Y}{a e l:Value}
def RG{a:Nat}(b:a<9223372036854775808):¬(a:Int)>=2^63:=Int.not_le.mpr (Int.ofNat_lt.mpr b)
def d.mf{g:Sem Value}{e:Nat}(a:e<9223372036854775808->∃i k,gM f g m.s (.int (Int.ofNat e) i) {m.s with toks:=k}):d f g b m (Mine.Internal.mf e m.st):=d.ok λh=>(a (c8 h)).elim λj a=>a.elim λj a=>d.leaf a (G.dO _ _)
def d.aE(r:b m c a):d f (call (.builtin "len") [a]) b m (ER c m.st):=
 d.ite (λq=>d.str (t:=λa=>call (.builtin "len") [a]) r λa t=>d.mf λe=>⟨_,_,λp o g=>PySem.P.len_str (RG e) g⟩) λq=>
 d.mu (d.l (t:=λa=>call (.builtin "len") [a]) r λw s k u i j=>by refine h (aZ ..) ?_;refine ba (j.length ..) ?_;exact d.mf λe=>⟨_,_,λp o g=>PyProof.Rows.len_tuple (items:=k.toArray) ⟨_,i,rfl,_,rfl⟩ (Int.ofNat_lt.mpr e) g⟩) λq=>
 d.c (t:=λa=>call (.builtin "len") [a]) r λw s k u i j=>by refine h (aZ ..) ?_;refine ba (j.length ..) ?_;exact d.mf λe=>⟨_,_,λp o g=>PyProof.Rows.len_list (items:=k.toArray) ⟨_,i,rfl,_,rfl⟩ (Int.ofNat_lt.mpr e) g⟩
def d.mw(r:b m c a):d f (call (.builtin "ord") [a]) b m (FM c m.st):=d.str (t:=λa=>call (.builtin "ord") [a]) r λa t=>d.ok λe=>d.leaf (λi h g=>PyProof.Rows.ord_of_one (dR e) g) (G.dO _ _)
def TQ(a:Nat->Int)(b:Nat):preSum a (b+1)=a 0+preSum (λc=>a (c+1)) b:=by
 induction b with
 |zero=>exact(Int.zero_add _).trans (Int.add_zero _).symm
 |succ b d=>
  refine(?_:preSum a (b+1)+a (b+1)=a 0+(preSum (λc=>a (c+1)) b+a (b+1)));rw [d,Int.add_assoc]
def TP(a:List Int):preSum (λb=>a.getD b 0) a.length=oH a:=by
 induction a with
 |nil=>rfl
 |cons ai a c=>exact(TQ _ _).trans (T (ai+·) c)
def P2{f:List Value}{e:List Int}(a:IntsAre f e):∀{b:Nat}{c:Value},f[b]?=some c->∃d,c= .int (e.getD b 0) d:=by
 induction a with
 |nil=>exactλa=>bh a
 |cons h d _ g=>
  intro b c a;induction b with
  |zero=>exact⟨d,(bw a).symm⟩
  |succ b _=>exact g a
def d.lx{u w:Type}{t:Value->Sem u}{s:D f.w->w->u->Prop}{o:Nat->List Y->ab w}(r:b m c a)(k:∀g e h i j,m.ρ[g]?=some e->m.st.objs[g]?=some (.c h)->m.s.heap.get? e=some (listOf i.toArray j)->bp m h i->d f (t (.ref e)) s m (o g h)):d f (t a) s m (Mine.Internal.lx c m.st o):=
 d.obj r λg e q=>d.v λh B=>by
  refine aS λC A=> ?_;obtain⟨E,p,x⟩:=bind_some B;cases ae.v3 x;obtain⟨i,j,y,z⟩:=(m.at p q:ll ..);refine A ?_;exact k g e h i j q ((cW ..).symm.trans p) y z
def d.append(r:b m c a)(H:b m g e):d f (call (.builtin "list.append") [a,e]) b m (uy c g m.st):=
 d.lx (t:=λa=>call (.builtin "list.append") [a,e]) r λC N I u D p F o q=>d.ok λy K M k L J B O=>by
  refine wpAny_list_append_plain (items:=u.toArray) (hsz:=by refine h (o6 ..) ?_;refine h (q.length ..) ?_;refine ba (aZ ..) ?_;exact c8 y) ⟨D,o⟩ λx A t=> ?_;refine Exists.elim (A) λE z=> ?_;have i:=iR t (b8 p);have j:s m ⟨m.st.objs.set C (.c (aJ I g)),m.st.d⟩ m.ρ {m.s with heap:=x}:=
   s.dd p F rfl t o zW ⟨u++[e],E,by rw [z,List.push_toArray],by refine h (c0 ..) ?_;exact w.append (.cI (G.mono i H) .cQ) (w.mono i q)⟩ rfl rfl
  rw [d4] at k;exact B .none j.pt _ j.f .iw k
def w.Nh{e:List Addr}{f:Heap}{g:List Addr}{b:List Y}{d:List Value}(r:w e f g b d):∀k,w e f g (pW b k) (d.eraseIdx k):=
 w.gF (P:=λb d=>∀k,w e f g (pW b k) (d.eraseIdx k)) (λj=> .cQ) (λ{c a b d} r i h k=>Nat.casesOn (motive:=λk=>w e f g (pW (c::b) k) ((a::d).eraseIdx k)) k i λk=> .cI r (h k)) r
def d.TM(r:b m c a)(Q:b m g e):d f (call (.builtin "list.pop") [a,e]) b m (FZ c g m.st):=
 d.qm (t:=λe=>call (.builtin "list.pop") [a,e]) Q λj t=>d.lx (t:=λa=>call (.builtin "list.pop") [a,.int (.ofNat j) t]) r λO o S i D A P p x=>d.ok λH=>d.ok λI=>d.v λT N V Y k X U M Z=>by
  obtain⟨e,C,R⟩:=x.wk N;have K:j<i.length:=(List.getElem?_eq_some_iff.mp C).1;have J:Builtin.List.listFitsIndex (Int.ofNat j)=true:=by have:=c8 I;unfold Builtin.List.listFitsIndex;simp;exact(Int.ofNat_lt.mpr (bV this (by simp+arith only)))
  have L:seqIndex? (Int.ofNat j) i.toArray.size=some j:=by
   unfold seqIndex?;have:¬((Int.ofNat j)<0):=by simp
   simp only [this,if_false];simp [K]
  have z:= @MeetsSeq.list_pop_at o i.toArray D (Int.ofNat j) t j e J L (by simpa using C) (by refine h (o6 ..) ?_;refine h (x.length ..) ?_;refine ba (aZ ..) ?_;exact c8 H);generalize (Value.int (Int.ofNat j) t)=XC at z⊢;refine call_meets PySem.F.slot_list_pop ⟨_,p,rfl⟩ PySem.F.entry_list_pop (PySem.F.args_list_pop_2 _ _) z ⟨p,?_⟩;have B:=i6 m.s.heap o (Obj.mapSeq λi=>i.eraseIdxIfInBounds j);obtain⟨q,y⟩:∃q,Obj.mapSeq (λi=>i.eraseIdxIfInBounds j) (W.listOf i.toArray D)=W.listOf (i.toArray.eraseIdxIfInBounds j) q:=⟨_,rfl⟩;have E:(m.s.heap.update o (Obj.mapSeq λi=>i.eraseIdxIfInBounds j)).get? o=some (W.listOf (i.toArray.eraseIdxIfInBounds j) q):=by rw [Heap.get?_update_self _ p (by refine h (y ..) ?_;rfl),y]
  have F:=iR B (b8 A);have u:s m ⟨m.st.objs.set O (.c (pW S j)),m.st.d⟩ m.ρ {m.s with heap:=m.s.heap.update o (Obj.mapSeq λi=>i.eraseIdxIfInBounds j)}:=
   s.dd A P rfl B p zW ⟨i.eraseIdx j,q,by refine h (E ..) ?_;simp,w.Nh (w.mono F x) j⟩ rfl rfl
  rw [d4] at k;exact M T u.pt _ u.f (G.mono u.f.kp R) k
def VJ{d:List Value}{c:List Str}(e:StrsAre d c):∃b:List (Str×Tok),d=strValues b/\b.map (·.1)=c:=by
 induction e with
 |nil=>exact⟨[],rfl,rfl⟩
 |cons a j _ i=>
  obtain⟨b,f,g⟩:=i;exact⟨(a,j)::b,by refine h (f ..) ?_;rfl,T (a::·) g⟩
def d.join(r:b m c a)(q:b m g e):d f (call (.builtin "str.join") [a,e]) b m (EG c g m.st):=
 d.str (t:=λa=>call (.builtin "str.join") [a,e]) r λa t=>d.c (t:=λe=>call (.builtin "str.join") [.str a t,e]) q λA w C y i o=>d.v λz p=>d.ok λj=>by
  obtain⟨x,h,e2⟩:=VJ (o.strs p);subst h;exact d.zO (λg=>_) (λu s k=>SC.join ⟨_,i,rfl,_,rfl⟩ e2 j k) λg B=>G.fN _ _
def VI{b:List Addr}{c:Heap}{e:List Addr}(a:List (Str×Tok)):w b c e (y (a.map (·.1))) (strValues a):=by
 induction a with
 |nil=>exact .cQ
 |cons p a d=>exact .cI (.fN _ _) d
def d.split(r:b m c a):d f (call (.builtin "str.split") [a]) b m (GH c m.st):=
 d.str (t:=λa=>call (.builtin "str.split") [a]) r λa t=>d.ok λg q D k u B A E=>by
  have g:=c8 g;have z:(Builtin.Str.spaceWords a (a.length+1)).length<=sizeLine:=by have w:=(StrLaws.sw_weight a).1;have e2:=StrLaws.len_le_wsum (Builtin.Str.spaceWords a (a.length+1));exact(hD g w e2 (by simp+arith only))
  have o:∀(e:List (Str×Tok))(i:Nat),e.map (·.1)=Txt.words a->u (.ref m.s.heap.objs.size) {m.s with heap:=m.s.heap.push {cls:= .type "list",data:= .seq (strValues e).toArray},toks:=i}:=by
   intro e i x;have j:s m ⟨m.st.objs++[.c (y (Txt.words a))],m.st.d⟩ (m.ρ++[m.s.heap.objs.size]) {m.s with heap:=m.s.heap.push {cls:= .type "list",data:= .seq (strValues e).toArray},toks:=i}:=
    s.alloc (o:= .c (y (Txt.words a))) ⟨strValues e,0,cY _ rfl,x▸VI e⟩ rfl rfl rfl
   have k:q (.obj (C m.st.objs)) ⟨aJ m.st.objs (.c (y (Txt.words a))),m.st.d⟩:=k;rw [c0] at k;exact A _ j.pt _ j.f (.gh (by refine h (aZ ..) ?_;refine ba (m.O.aE ..) ?_;refine(?_:(m.ρ++[m.s.heap.objs.size])[m.ρ.length]?=_);refine h (i5 (cb _) ..) ?_;refine h (pa ..) ?_;rfl)) k
  refine call_meets PySem.F.slot_str_split (typeIs_str _ _ _) PySem.F.entry_str_split (PySem.F.args_str_split_1 _) (meets_str_split_space a t (L (c5 _ _) g) z) ?_;rcases p:Builtin.Str.spaceWords a (a.length+1)==[(0,a.length)] with _|_
  . simp only [Bool.false_eq_true,if_false];refine h (strsFrom_eq ..) ?_;exact o (numbered m.s.toks (PySem.wordsOf a)) _ ((numbered_texts _ _).trans (if_neg (ne_true_of_eq_false p)).symm)
  . simp only [if_true];exact o [(a,t)] m.s.toks (if_pos p).symm
def d.LZ(B:mainGlobals<f.w.ag.n0)(r:b m c a)(K:b m k e)(J:b m n l):d f (call (.builtin "dict.pop") [a,e,l]) b m (Dr c k n m.st):=
 d.obj (t:=λa=>call (.builtin "dict.pop") [a,e,l]) r λT u w=>d.v λS j=>d.str (t:=λe=>call (.builtin "dict.pop") [.ref u,e,l]) K λg t=>d.bR λA=>by
  refine aS λO I=> ?_;obtain⟨U,y,z⟩:=bind_some j;cases ae.nJ z;obtain⟨H,F,q⟩:=(show ey _ _ _ _ _ _ from m.at y w).of (p:=f.p);refine I ?_;have C:valueAt H g=none:=Option.not_isSome_iff_eq_none.mp λj=>by rw [(F.at g).isSome,A] at j;cases j
  refineλP R G Q N E L=> ?_;refine call_meetsIn PySem.F.slot_dict_pop q.typeIs PySem.F.entry_dict_pop (PySem.F.args_dict_pop_3 _ _ _) (S:=λL s x=>x=m.s/\∀o,s (.ok (.ret l)) {m.s with toks:=o}) (.of_wp λM s x p=> ?_) ⟨rfl,λo=>E n (m.tk o) _ (.tk m o) J G⟩;obtain⟨rfl,p⟩:=p;unfold Builtin.«dict.pop»;refine i ?_;unfold Builtin.Dict.keyAndDefault;refine i (wpAny_notOrdered_dict q.typeIs ?_);refine(?_:wpAny _ _ (Pure.pure (u,Value.str g t,some l)) _ _ m.s);refine V ?_;have D:(keyPart (Value.str g t)).isSome=true:=rfl;simp only [D,if_true];refine i (V ?_);simp only [Bool.false_eq_true,if_false];refine i (wpAny_takeOut_pairs_none (strKind_is f.p f.w.ag.w g t) q C ?_);simp only [Option.isNone_none,if_true];unfold Builtin.Dict.missedRemoval;refine h (oq m B w ..) ?_;simp only [Bool.false_eq_true,if_false];exact i (V (i (wpAny_rule (V ⟨_,rfl,p _⟩))))
end
def Ci(g:ay)(l:Option Y)(h:Bi)(b:List Y)(c:St):ab Y:=match h with
 | .aE=>a1 b λa=>ER a c
 | .sum=>(match l with|none=>a1 b λa=>AU a c|some _=> .n)
 | .vU=>a2 b λa i=>Ez g a i c
 | .mw=>a1 b λa=>FM a c
 | .so=>a2 b λa d=>uy a d c
 | .sp=>a2 b λa d=>FZ a d c
 | .rO=>a3 b λa k j=>Dr a k j c
 | .tr=>a2 b λa d=> .str a λe=> .str d λf=> .ret (.bool (Txt.startswith e f)) c
 | .tp=>a1 b λa=> .str a λe=> .ok (Nat.ble e.length 5592405) (.ret (.str (Txt.lower e)) c)
 | .tt=>a1 b λa=> .str a λe=> .bR (Builtin.Str.tooLong (Txt.upper e).length) (.ret (.str (Txt.upper e)) c)
 | .tm=>a2 b λa d=> .str a λe=> .str d λf=>Em e f c
 | .tl=>a2 b λa d=> .str a λe=> .str d λf=> .ret (.int (Txt.find e f)) c
 | .tn=>a2 b λa d=>EG a d c
 | .tq=>a1 b λa=>GH a c
 | .nQ=>DM g b c
def Hg(f:Ty)(b:List Y)(d:St):ab Y:=match f with
 | .str=>a1 b λa=> .int a λc=> .ok (Nat.blt c.natAbs.log2 1920) (.ret (.str (Str.ofString (toString c))) d)
 | .int=>a1 b λa=> .str a λe=> .v (PySem.intText? e) λj=> .ok (Nat.ble e.length 640) (.ret (.int j) d)
 |_=> .n
namespace BL
def wV:Slot "function" "__getattribute__" "object.__getattribute__":=
 .of (owner:="object") (n:="__getattribute__") (by rw [typeLookup_type,builtinLookup_eq_fast];kernel_rfl) (by decide+kernel) (by decide+kernel) (by decide+kernel)
  (by first|exact .inl (by decide+kernel)|exact .inr (by decide+kernel)) (by rw [isSubtype_type];kernel_rfl)
def Rp:typeLookup (.type "function") "__class__"=pure (some (.builtin "object.__class__")):=by rw [typeLookup_type,builtinLookup_eq_fast];kernel_rfl
def VM:isSubtype (.type "function") (.type (".".intercalate ("object.__class__".cutAt '.').dropLast))=pure true:=by rw [F.owner_object_class,isSubtype_type];kernel_rfl
def Ig(a b:Value):argsOk "object.__getattribute__" ⟨[a,b],[]⟩:=by unfold argsOk;rw [signature?_of (id:="object.__getattribute__") (n:=['_','_','e','t','u','b','i','r','t','t','a','t','e','g','_','_']) (o:=['t','c','e','j','b','o']) (by kernel_rfl) F.owner_object];kernel_rfl
def M6:entryFor table "object.__getattribute__"=some Builtin.«object.__getattribute__»:=entryFor_of_tree (by kernel_rfl)
section
variable{i:Program}{l:World}{h:Around}{n:a8}{a:Heap}{c:Array GenState}{b:Drawn}{e:Nat}{d:OsState}{f:Addr}{g:Obj}
def JI{j:Result->Shared->Prop}(n:a.get? f=some g)(m:g.cls= .type "function")(q:j (.ok (.ret (.type "function"))) ⟨a,c,b,e,d⟩):
  codeAny (model i l) h (.call (.builtin "getset_descriptor.__get__") ⟨[.builtin "object.__class__",.ref f,.type "function"],[]⟩) j ⟨a,c,b,e,d⟩:=by
 have p:(⟨a,c,b,e,d⟩:Shared).TypeIs (.ref f) "function":=⟨_,n,m⟩;have k:(⟨a,c,b,e,d⟩:Shared).TypeIs (.builtin "object.__class__") "getset_descriptor":=Bv;have o:=VM;refine tW F.slot_gs_get.plain F.entry_gs_get (F.slot_gs_get.check _ _ _ _ _ _ _ _ k (F.args_gs_get _ _ _) ?_);repeat (any_goals (first|assumption|wp_step))
 refine⟨Code.quiet_builtin _ (by decide+kernel),codeAny_builtin F.entry_object_class ?_⟩;repeat (any_goals (first|assumption|wp_step))
def JH{o:Tok}{j:Fin->Shared->Prop}(m:a.get? f=some g)(k:g.cls= .type "function")(v:j (.done (.ret (.type "function"))) ⟨a,c,b,e,d⟩):
  wpAny (model i l) h (Builtin.«object.__getattribute__» ⟨[.ref f,.str "__class__" o],[]⟩) j n ⟨a,c,b,e,d⟩:=by
 have t:(⟨a,c,b,e,d⟩:Shared).TypeIs (.ref f) "function":=⟨_,m,k⟩;have u:(⟨a,c,b,e,d⟩:Shared).TypeIs (.builtin "object.__class__") "getset_descriptor":=Bv;have p:=Rp;have q:=Bv;have r:=F.slot_gs_get.lookup;have s:=F.slot_gs_set.lookup;repeat (any_goals (first|assumption|wp_step))
 refine JI m k ?_;repeat (any_goals (first|assumption|wp_step))
def JG{o:Tok}{j:Result->Shared->Prop}(m:a.get? f=some g)(k:g.cls= .type "function")(n:j (.ok (.ret (.type "function"))) ⟨a,c,b,e,d⟩):
  codeAny (model i l) h (.call (.builtin "object.__getattribute__") ⟨[.ref f,.str "__class__" o],[]⟩) j ⟨a,c,b,e,d⟩:=
 tW wV.plain M6 (wV.check _ _ _ _ _ _ _ _ (show(⟨a,c,b,e,d⟩:Shared).TypeIs (.ref f) "function" from⟨_,m,k⟩) (Ig _ _) (JH m k n))
def JF{o:Tok}{j:a8}(m:a.get? f=some g)(k:g.cls= .type "function")(s:j (.type "function") ⟨a,c,b,e,d⟩):wpAny (model i l) h (getAttrBy (.ref f) (.str "__class__" o) false) j n ⟨a,c,b,e,d⟩:=by
 have r:(⟨a,c,b,e,d⟩:Shared).TypeIs (.ref f) "function":=⟨_,m,k⟩;have p:=wV.lookup;have q:=wV.bind (.ref f);repeat (any_goals (first|assumption|wp_step))
 refine JG m k ?_;repeat (any_goals (first|assumption|wp_step))
def JE{j:Option Value->Shared->Prop}(m:a.get? f=some g)(k:g.cls= .type "function")(o:j (some (.type "function")) ⟨a,c,b,e+1,d⟩):wpAny (model i l) h (getAttr? (.ref f) "__class__") j n ⟨a,c,b,e,d⟩:=by unfold getAttr? getAttrBy?;repeat (any_goals (first|assumption|with_reducible apply JF m k|wp_step))
end
end BL
def QN{c:Frag}{b:Addr}:KitX c (.ref b) (.type "function") (KitAt b "function"):=kitx_of kitAt_ty (λ{a a a a a f} p k=>by obtain⟨i,h,g,m,l⟩:=f;obtain⟨j,d,e⟩:=p;exact BL.JE d e k)
def Tk(a:Frag):specialIn a (.builtin "object.__class__") "__get__"=some (some (.builtin "getset_descriptor.__get__")):=by kernel_rfl
def Tl(a:Frag):takesIn a (.builtin "object.__class__")=some true:=by kernel_rfl
section
variable{c:Fr}{m:D c.w}{e g:Y}{a f:Value}
def d.sum(x:c.ak.handled=none)(r:b m e a):d c.z (call (.builtin "sum") [a]) b m (AU e m.st):=
 d.lx (t:=λa=>call (.builtin "sum") [a]) r λf t P p M L N h B=>d.v λi z I K k J H A Q=>by
  have w:=B.ints z;refine call_sum_walkAnyS ?_;have y:t≠m.s.heap.objs.size:=gl (dk h);refine wpAny_pyIter_list (items:=p.toArray) ⟨_,h,rfl,_,rfl⟩ ⟨m.s.heap.objs.size,_,_,_,_,_,_,λf=>i.getD f 0,rfl,(Walks.list (by exact x) m.s.heap.objs.size t y p.toArray).toS,?_,?_,λf e C=>P2 w (o7▸C),λE O o=> ?_⟩
  . exact⟨⟨_,cY _ rfl,rfl,rfl⟩,⟨_,cX _ h,rfl,_,rfl⟩⟩
  . intro u j;rw [Heap.size_push];rcases List.mem_cons.mp j with rfl|j
    . exact hV _
    . exact List.mem_singleton.mp j▸Nat.lt_succ_of_lt (dk h)
  . have q:s m m.st m.ρ E:=s.keeps (λu D g=>o.heap u D (λF=>absurd (dk g) (List.mem_singleton.mp F▸gk _)) (cX _ g)) o.gens o.os;have g:preSum (λf=>i.getD f 0) p.toArray.size=oH i:=by rw [List.size_toArray,w.length,TP]
    exact A (.int (oH i)) q.pt _ q.f (g▸G.dO _ _) k
def d.Qd(r:b m e a)(XD:b m g f):d c.z (call (.builtin "isinstance") [a,f]) b m (Ez c.T e g m.st):=by
 refine d.v λC h=>d.v λG z=>d.v λx y=> ?_;have F:=c.In m;have U:f=G.val:=by
  have j:=XD.bI;induction g using Y.casesOn with
  |d p=>cases z;exact j
  |ty A=>cases z;exact j
  |_=>exact bh z
 subst U;have y:=c.F.qf _ _ _ y;have w:∀{E:Heap->Prop},KitX c.T.K a C.val E->E m.s.heap->a≠.builtin "__main__.__loader__#opaque"->d c.z (call (.builtin "isinstance") [a,G.val]) b m (.ret (.bool x) m.st):=λJ O T XG XI k XH XF S XE=>kia_one J F O y T λI=>S (.bool x) (m.tk I) _ (.tk m I) (.kM x) k;have j:=r.bI;induction e using Y.casesOn with
 |str s=>obtain⟨XM,rfl⟩:=j;cases h;exact w kitx_str u λo=>nomatch o
 |l XN=>obtain⟨p,XO,A,i,_⟩:=j;cases h;exact w kitx_tuple ⟨_,i,rfl⟩ λo=>nomatch o
 |d p=>
  have h:cond (cA p c.T.lP) (some KT.fn) none=some C:=h;cases q:cA p c.T.lP with
  |false=>rw [q] at h;exact bh h
  |true=>
   rw [q] at h;cases h;obtain⟨B,R,e2⟩:=Option.map_eq_some_iff.mp (c.F.lP _ q);cases(show a= .ref p from j);exact w QN ⟨B,F _ _ R,e2⟩ λo=>nomatch o
 |obj XK=>
  obtain⟨p,Q,rfl⟩:=j;obtain⟨B,q,h⟩:=bind_some h;induction B using ae.casesOn with
  |bj t ap=>
   obtain⟨H,XC,h⟩:=bind_some h;have h:cond H.ar none (cond (cA t c.T.lX) (((gH m.st.objs ap).bind ae.eC).map λXE=>KT.cls t) none)=some C:=h;cases hex:H.ar with
   |true=>rw [hex] at h;exact bh h
   |false=>
    rw [hex] at h;induction i:cA t c.T.lX using Bool.casesOn with
    |false=>rw [i] at h;exact bh h
    |true=>
     rw [i] at h;obtain⟨XJ,V,rfl⟩:=Option.map_eq_some_iff.mp h;obtain⟨o2,X,Z⟩:=bind_some V;cases ae.nJ Z;have i:=c.F.lX _ i;obtain⟨K,M,N⟩:=(show x6 _ _ _ _ _ from m.at q Q);obtain⟨L,A,P,_⟩:=(show ey _ _ _ _ _ _ from m.ru X M);have D:=h6 (c.F.cls _ _ XC);exact w (kitx_own (ox:=instObj t K) (od:=W.dictOf L A) i.1 D.dict i.2 (Tk c.T.K) (Tl c.T.K) D.obj) ⟨N,rfl,rfl,P⟩ λo=>nomatch o
  |_=>exact bh h
 |_=>exact bh h
def d.p8{a f:Str}{i k:Tok}:d c.z (call (.builtin "str.index") [.str a i,.str f k]) b m (Em a f m.st):=d.v λq e=>by
 induction g:Builtin.Str.occurrences a f 0 a.length 1 using List.casesOn with
 |nil=>rw [g] at e;cases e
 |cons j r=>rw [g] at e;cases e;exact d.leaf (λp o h=>SC.index g h) (G.dO _ _)
def d.bi(C:In0 c m)(B:aV c.T){i:Bi}{x:List Y}{A:List Value}(o:bp m x A):d c.z (call (.builtin i.id) A) b m (Ci c.T c.I.hd i x m.st):=by
 induction i using Bi.casesOn with
 |aE=>exact d.a1 (t:=λh=>call (.builtin "len") h) o λe a r=>d.aE r
 |sum=>
  have z:=C.hd;refine(?_:d c.z _ b m (match c.I.hd with|none=>Mine.Internal.a1 x λe=>AU e m.st|some _=> .n));generalize c.I.hd=D at z;cases D with
  |none=>exact d.a1 (t:=λh=>call (.builtin "sum") h) o λe a r=>d.sum z r
  |some _=>exact d.n
 |vU=>exact d.a2 (t:=λh=>call (.builtin "isinstance") h) o λe p a f k i=>d.Qd k i
 |mw=>exact d.a1 (t:=λh=>call (.builtin "ord") h) o λe a r=>d.mw r
 |so=>exact d.a2 (t:=λh=>call (.builtin "list.append") h) o λe p a f k i=>d.append k i
 |sp=>exact d.a2 (t:=λh=>call (.builtin "list.pop") h) o λe p a f k i=>d.TM k i
 |rO=>exact d.a3 (t:=λh=>call (.builtin "dict.pop") h) o λe p E a f F k i g=>d.LZ c.main k i g
 |tr=>exact d.a2 (t:=λh=>call (.builtin "str.startswith") h) o λe p a f k i=>d.tj (t:=λa f=>call (.builtin "str.startswith") [a,f]) k i λs t j p=>d.cV (λw u q=>SC.startswith q) (G.kM _)
 |tp=>exact d.a1 (t:=λh=>call (.builtin "str.lower") h) o λe a r=>d.str (t:=λa=>call (.builtin "str.lower") [a]) r λs t=>d.ok λy=>d.leaf (λw u q=>SC.lower (fit_lower (a' y)) q) (G.fN _ _)
 |tt=>exact d.a1 (t:=λh=>call (.builtin "str.upper") h) o λe a r=>d.str (t:=λa=>call (.builtin "str.upper") [a]) r λs t=>d.bR λy=>d.leaf (λw u q=>SC.upper y q) (G.fN _ _)
 |tm=>exact d.a2 (t:=λh=>call (.builtin "str.index") h) o λe p a f k i=>d.tj (t:=λa f=>call (.builtin "str.index") [a,f]) k i λs t j p=>d.p8
 |tl=>exact d.a2 (t:=λh=>call (.builtin "str.find") h) o λe p a f k i=>d.tj (t:=λa f=>call (.builtin "str.find") [a,f]) k i λs t j p=>d.leaf (λw u q=>SC.find q) (G.dO _ _)
 |tn=>exact d.a2 (t:=λh=>call (.builtin "str.join") h) o λe p a f k i=>d.join k i
 |tq=>exact d.a1 (t:=λh=>call (.builtin "str.split") h) o λe a r=>d.split r
 |nQ=>exact d.nQ B o
def d.ty{p:G0}{m:D p.w}{t:Ty}{i:List Y}{o:List Value}(k:bp m i o):d p (call (.type t.name) o) b m (Hg t i m.st):=by
 induction t using Ty.casesOn with
 |str=>exact d.a1 (t:=λh=>call (.type "str") h) k λe a r=>d.int (t:=λa=>call (.type "str") [a]) r λw t=>d.ok λf=>d.leaf (λs q g=>PySem.P.str_of_int (c8 f) g) (G.fN _ _)
 |int=>exact d.a1 (t:=λh=>call (.type "int") h) k λe a r=>d.str (t:=λa=>call (.type "int") [a]) r λw t=>d.v λj u=>d.ok λf=>d.leaf (λs q g=>KIN.call_text u (a' f) g) (G.dO _ _)
 |_=>exact d.n
end
def og:List (Str×Y)->List (Str×Y)->List (Str×Y)
 |a,[]=>a
 |a,p::r=>og (aO p.1 p.2 a) r
def va(r:O)(a:I):List (Option Expr)->List Expr->St->ab (List (Str×Y))
 |[],_,st=> .ret [] st
 |k::c,b,st=> .v k λk=> .v b.head? λj=> .bind (r.E a k st) λd f=> .str d λl=> .bind (r.E a j f) λi g=> .bind (va r a c b.tail g) λe h=> .ret ((l,i)::e) h
noncomputable def oF:List (Option Expr)->List Expr->Bool
 |[],a=>a.isEmpty
 |k::b,a=>cond (k.isSome&& !a.isEmpty) (oF b a.tail) false
def Di(r:O)(e:I)(b:List (Option Expr))(d:List Expr)(a:St):ab Y:= .ok (oF b d)<| .ite b.isEmpty (lu (.dict []) a)<| .ok (Nat.ble (C b) 15)<|
 .bind (va r e b d ⟨aJ a.objs (.dict []),a.d⟩) λg c=> .v ((t c.objs (C a.objs)).bind ae.eC) λf=> .ok f.isEmpty (.ret (.obj (C a.objs)) ⟨aQ c.objs (C a.objs) (.dict (og [] g)),c.d⟩)
noncomputable def qt(b:Pos)(a:Env):List (Option Expr)->List Expr->List (Sem Value×Sem Value)
 |some k::c,aj::d=>(eval k a,do let e<-eval aj a;standAt b;pure e)::qt b a c d
 |_,_=>[]
def Gx{k:Option Expr}{d:List (Option Expr)}{a:List Expr}(b:oF (k::d) a=true):∃f c e,k=some f/\a=c::e/\oF d e=true:=by
 rcases k with _|k
 . exact aA (b)
 . rcases a with _|⟨c,a⟩
   . exact aA (b)
   . exact⟨k,c,a,rfl,rfl,b⟩
def AF{a:List Expr}(b:oF [] a=true):a=[]:=List.isEmpty_iff.mp b
section
variable{a:Fr}{m:D a.w}{pos:Pos}
def TE{env:Env}{a:List (Option Expr)}:∀{b:List Expr},oF a b=true->(evalEachOpt a env).zip ((evalEach b env).map λd=>do let i<-d;standAt pos;pure i)=((qt pos env a b).map λp=>(some p.1,p.2))/\(qt pos env a b).length=a.length:=by
 induction a with
 |nil=>exactλc=>by cases AF c;exact⟨rfl,rfl⟩
 |cons k a g=>
  intro b c;refine aS λj h=> ?_;obtain⟨k,d,b,rfl,rfl,c⟩:=Gx c;obtain⟨e,f⟩:=g c;refine h ?_;exact⟨T (_::·) e,T Nat.succ f⟩
def PR(p:Program){a:Wd}(m:D a)(c:List (Str×Y))(d:List (Value×Value)):Prop:=∃b,bx a.ag.fz m.s.heap m.ρ c b/\Carries (strKind p a.ag.w) d b
def d.TD{e:List (Option Expr)}:∀{f:List Expr}{m:D a.w},aF a m->oF e f=true->d a.z (evalPairs (qt pos a.b e f)) (PR a.p) m (va a.r a.I e f m.st):=by
 induction e with
 |nil=>exactλj i=>by cases AF i;exact d.ret ⟨[],.nil,u⟩
 |cons k e A=>
  intro f m j i;obtain⟨k,q,f,rfl,rfl,i⟩:=Gx i;refine(?_:d a.z (evalPairs ((eval k a.b,do let g<-eval q a.b;standAt pos;Pure.pure g)::qt pos a.b e f)) _ m (.bind (a.r.E a.I k m.st) λw J=> .str w λg=> .bind (a.r.E a.I q J) λo K=> .bind (va a.r a.I e f K) λp L=> .ret ((g,o)::p) L));rw [evalPairs];refine d.bind j.E λw O h s H=>d.str (t:=λh=>holding [h] (eval q a.b>>=λg=>standAt pos>>=λR=>Pure.pure g)>>=λx=>holding [h,x] (evalPairs (qt pos a.b e f))>>=λC=>Pure.pure ((h,x)::C)) H λg t=>d.bind (d.bY (d.h2 (j.f s).E λo N h M r=>d.bD (d.ret (a0:=b) r))) λo P h y I=>d.bind (d.bY (A ((j.f s).f y) i)) λp Q S z E=> ?_;obtain⟨B,F,G⟩:=E;exact d.ret (b:=(g,o)::p) ⟨(g,h)::B,.cons (I.f z) F,si.mpr ⟨t,rfl⟩,rfl,G⟩
def R'{a:List Addr}{c:Heap}{d:List Addr}{h:List (Str×Y)}{g:List (Str×Value)}(k:bx a c d h g):∀{b:List (Str×Y)}{f:List (Str×Value)},bx a c d b f->(b.map (·.1)).Nodup->bx a c d (og b h) (merged f g):=by
 induction k with
 |nil=>exactλr l=>r
 |cons i _ j=>exactλr e=>j (AP i r e) (Al _ _ e)
def Ts{h g:Type}{b:Option h}{e:h->ab g}{c:g->St->Prop}{d:af}(f:(ab.v b e).A c d):∃a,b=some a/\(e a).A c d:=by
 rcases b with _|a
 . exact False.elim f
 . exact⟨a,rfl,f⟩
def d.dict{C:List (Option Expr)}{F:List Expr}(J:aF a m):d a.z (eval (.Dict C F pos) a.b) b m (Di a.r a.I C F m.st):=by
 have f:s m ⟨m.st.objs++[.dict []],m.st.d⟩ (m.ρ++[m.s.heap.objs.size]) {m.s with heap:=m.s.heap.push emptyDict}:=s.alloc (o:= .dict []) ⟨[],0,cY _ rfl,.fk,.nil⟩ rfl rfl rfl;have A:(m.ρ++[m.s.heap.objs.size])[m.st.objs.length]?=some m.s.heap.objs.size:=by refine ba (m.O.aE ..) ?_;refine h (i5 (cb _) ..) ?_;refine h (pa ..) ?_;rfl
 refine d.ok λq=> ?_;unfold lu;refine h (aZ ..) ?_;refine h (c0 ..) ?_;refine d.ite (λk=> ?_) λz=>d.ok λj=> ?_
 . cases List.isEmpty_iff.mp k;cases AF q;refine h (arm_eval_Dict ..) ?_;exact d.bD (d.eq (t':=newDict) rfl (d.vY (λL I p=>o9 p) f (G.gh A)))
 . have j:=c8 j;rw [aZ] at j;obtain⟨XC,r⟩:=TE (pos:=pos) (env:=a.b) q;intro u N P L I p k;refine wpAny_Dict_pairs (knd:=strKind a.p a.ag.w) XC (λXK=>by rw [XK] at r;rw [List.isEmpty_iff_length_eq_zero.mpr r.symm] at z;cases z) (r▸j) ?_;refine d.TD (m:=f.pt) (J.f f.f) q _ _ P _ _ (λE e XM y XD g=> ?_) λXG W XJ M=>k XG W XJ (D.To.trans (aG:=f.pt) f.f M);refine aS λXN V=> ?_;obtain⟨U,XE,XF⟩:=XD;obtain⟨O,XH,g⟩:=Ts (show(ab.v ((t e.st.objs m.st.objs.length).bind ae.eC) _:ab Y).A u N from g);obtain⟨S,g⟩:=cond_true (show cond O.isEmpty (u (.obj m.st.objs.length) ⟨aQ e.st.objs m.st.objs.length (.dict (og [] E)),e.st.d⟩) False from g);cases List.isEmpty_iff.mp S;obtain⟨o,H,XI⟩:=bind_some XH;cases ae.nJ XI;have i:=y.ext _ _ A;have x:ey .. :=e.at H i;obtain⟨XQ,X,Z⟩:=x.of (p:=a.p);cases X;obtain⟨XO,XR,T,_⟩:=x;refine V ?_;refine⟨U,XF,Z,λQ R B=> ?_⟩;have K:=iR B (b8 i);have w:s e ⟨e.st.objs.set m.st.objs.length (.dict (og [] E)),e.st.d⟩ e.ρ {e.s with heap:=Q,toks:=e.s.toks+XM.length}:=
    s.dd i ((cW ..).symm.trans H) rfl B T rN (ey.Ae (p:=a.p) (R' (XE.mono K) .nil .nil) R) rfl rfl
   rw [d4] at g;exact p (.obj m.st.objs.length) w.pt _ ((D.To.trans (aG:=f.pt) f.f y).trans w.f) (.gh i) g
end
def vw(b:List Comprehension):Option (Expr×Expr×List Expr):=match b with
 |[]=>none
 |a::r=>match r with
  |[]=>cond (Int.beq' a.is_async 0) (some (a.target,a.iter,a.ifs)) none
  |_=>none
def zk{c:List Comprehension}{b:Expr×Expr×List Expr}(a:vw c=some b):c=[⟨b.1,b.2.1,b.2.2,0⟩]:=by
 rcases c with _|⟨h,_|_⟩
 . exact bh a
 . obtain⟨f,g,i,d⟩:=h;have a:cond (Int.beq' d 0) (some (f,g,i)) none=some b:=a;cases e:Int.beq' d 0 with
   |false=>rw [e] at a;exact bh a
   |true=>rw [e] at a;cases a;rw [show d=0 from by simpa using e]
 . exact bh a
noncomputable def GW:Sem Bool->Option Bool
 | .pure ah=>some ah
 |_=>none
def VP{a:Sem Bool}{b:Bool}(c:GW a=some b):a=Pure.pure b:=by rcases a with _|_|_|_|⟨_,_⟩|⟨_,_⟩|⟨_,_,_⟩|⟨_,_,_,_⟩|⟨_,_⟩|⟨_,_⟩|⟨_,_⟩|⟨_,_⟩|_|_|⟨_,_,_⟩|⟨_,_,_⟩|⟨_,_,_,_,_⟩|⟨_,_⟩|⟨_,_⟩|⟨_,_⟩|⟨_,_,_,_⟩|⟨_,_,_,_⟩|_|⟨_,_⟩|_|⟨_,_,_,_,_⟩<;>first|exact T Sem.pure (bw c)|exact bh c
def VU(b a:Expr)(d:Nat)(c:Env):swapsWith b (some a) d c=swapsWith b (some a) 0 (jn c.scope):=by induction b using Expr.casesOn<;>first|rfl|(induction a using Expr.casesOn<;>rfl)
def U4(d:ay)(r:O)(e:I)(g:Str)(k:Expr)(f:St):ab bg:=by
 induction k using Expr.casesOn with
 |ListComp h b c _=>exact .v (vw b) λa=>uP d r e h a.1 a.2.1 a.2.2 c (λj=>w4 g (.c j)) f
 |DictComp i l b c _=>exact .v (vw b) λa=>CU d r e i l a.1 a.2.1 a.2.2 c (w4 g) f
 |_=>exact .n
def wR(d:ay)(r:O)(a:I)(b c:Expr)(e:St):ab bg:= .v (GW (swapsWith c (some b) 0 (jn a.sc))) λg=> .ite g (.v (v' b) λf=> .ok (ju (U f a.sc.names)) (U4 d r a f c e)) (wO d r a b c e)
def Jq(a:ay)(r:O)(c:I)(e:List Expr)(h:Pos)(i:St)(f:Expr)(d:ab Y):ab Y:=by
 induction f using Expr.casesOn with
 |Attribute g j b=>exact E3 a r c g j b h e i
 |_=>exact d
def CF(a:ay)(r:O)(b:I)(d:Expr)(c:List Expr)(f:Pos)(e:St):ab Y:=Jq a r b c f e d (CE a r b d c e)
def VK(r:O)(b:I)(a:Expr)(f:St)(d:Expr)(c:ab Y):ab Y:=by
 induction d using Expr.casesOn with
 |Slice lo hi e _=>exact wU r b a lo hi e f
 |_=>exact c
def VA(c:ay)(r:O)(b:I)(a:St)(h:Expr)(g:ab Y):ab Y:=by
 induction h using Expr.casesOn with
 |Subscript ai f _=>exact VK r b ai a f (w6 r b ai f a)
 |Attribute ai o _=>exact uB c r b ai o a
 |Call cf j e l=>exact .ok e.isEmpty (CF c r b cf j l a)
 |Dict e n _=>exact Di r b e n a
 |ListComp i k scope _=>exact .v (vw k) λd=>uP c r b i d.1 d.2.1 d.2.2 scope (λm a=> .ret (.c m) a) a
 |_=>exact g
def w0(a:ay)(r:O)(b:I)(c:Expr)(d:St):ab Y:=VA a r b d c (w1 a r b c d)
def T3(b:ay)(r:O)(d:I)(a c:Option Expr)(e:St):ab bg:= .bR c.isSome (.v a λa=>F6 b r d a e)
def Ih(b:ay)(r:O)(c:I)(a:List Expr)(d:Expr)(e:St):ab bg:=match a with
 |[]=> .n
 |f::a=> .ok a.isEmpty (wR b r c f d e)
def VB(b:ay)(r:O)(c:I)(d:St)(e:Stmt)(g:ab bg):ab bg:=by
 induction e using Stmt.casesOn with
 |Assign l a _=>exact Ih b r c l a d
 |While f ah a _=>exact Hr b r c f ah a d
 |For f j ah a _=>exact vt b r c f j ah a d
 |Try ah i k h _=>exact Hc b r c ah i k h d
 |Raise a e _=>exact T3 b r c a e d
 |_=>exact g
def w2(a:ay)(r:O)(c:I)(b:Stmt)(d:St):ab bg:=VB a r c d b (w3 a r c b d)
def GN(a:ay)(r:O)(d:Option Y)(b:Nat)(c:List Y)(e:St):ab Y:= .or (da b a.f6) (λf=>lz r d f c e) (sw a r d b c e)
def Jm(f:ay)(h:List (Nat×bF))(r:Nat->O)(a:Nat)(d:Option Y)(b:Nat)(c:List Y)(e:St):ab Y:= .or (da b h) (λg=>(match d with|none=>⟨g a c e⟩|some _=> .n)) (match a with|0=> .n|a+1=>GN f (r a) d b c e)
def Jo(c:ay)(e:List (Nat×bF))(r:Nat->O)(f:Nat)(d:Option Y)(g:Y)(a:List Y)(b:St):ab Y:=match g with
 | .d ai=>Jm c e r f d ai a b
 | .bi ah=>Ci c d ah a b
 | .ty h=>Hg h a b
 |_=> .n
def x(a:ay)(b:List (Nat×bF)):Nat->Nat->O
 |0,_=>O.none
 |k+1,ap=>⟨w0 a (x a b k ap),wZ (x a b k ap),w2 a (x a b k ap),Jo a b (x a b k) ap⟩
section
variable{a:Fr}{m:D a.w}
def d.U3{e b:Expr}{p:Pos}(f:aF a m)(k:b1 a.toRk):d a.z (PySem.exec (.Assign [e] b p) a.b) b9 m (Mine.Internal.wR a.T a.r a.I e b m.st):=by
 refine d.v λw t=> ?_;have i:=(VU b e p.line a.b).trans ((T (λj=>swapsWith b (some e) 0 (jn j)) a.iV).trans (VP t));refine d.ite (λg=> ?_) λg=>by subst g;exact d.wO f i
 subst g;refine d.v λB s=>d.ok λo=> ?_;obtain⟨z,rfl⟩:=Fn s;induction b using Expr.casesOn with
 |ListComp x r j u=>exact d.v λq h=>by cases zk h;exact d.Rm f k i o
 |DictComp y A r j u=>exact d.v λq h=>by cases zk h;exact d.Ll f k i o
 |_=>exact d.n
def d.rD{e:Expr}{g:List Expr}{h:Pos}(f:aF a m):d a.z (eval (.Call e g [] h) a.b) b m (CF a.T a.r a.I e g h m.st):=by
 induction e using Expr.casesOn with
 |Attribute o p k=>exact d.R9 f
 |_=>exact d.Jl f (λi i i j=>nomatch j)
def d.w0(e:aF a m)(i:b1 a.toRk)(g:Expr):d a.z (eval g a.b) b m (Mine.Internal.w0 a.T a.r a.I g m.st):=by
 induction g using Expr.casesOn with
 |Subscript ai k f=>induction k using Expr.casesOn with
  |Slice lo hi t f=>exact d.wU e
  |_=>exact d.w6 e
 |Attribute ai w f=>exact d.uB e
 |Call cf r o f=>exact d.ok λh=>by cases List.isEmpty_iff.mp h;exact d.rD e
 |Dict o u f=>exact d.dict e
 |ListComp q s scope f=>exact d.v λp j=>by cases zk j;exact d.Rl e i
 |_=>exact d.w1 e _
def d.w2(b:aF a m)(i:b1 a.toRk)(e:Stmt):d a.z (PySem.exec e a.b) b9 m (Mine.Internal.w2 a.T a.r a.I e m.st):=by
 induction e using Stmt.casesOn with
 |Assign k g f=>
  rcases k with _|⟨j,k⟩
  . exact d.n
  . exact d.ok λh=>by cases List.isEmpty_iff.mp h;exact d.U3 b i
 |While j ah g f=>exact d.W2 b i
 |For j s ah g f=>exact d.vt b i
 |Try ah r t q f=>exact d.Wx b
 |Raise g e f=>exact d.bR λh=>by cases Option.not_isSome_iff_eq_none.mp (Bool.eq_false_iff.mp h);exact d.v λp o=>by subst o;exact d.T2 b
 |_=>exact d.w3 b _
end
section
variable{C:au}{p:Program}{a:ay}{ct:List (Nat×bF)}
noncomputable abbrev Fr.at(a:Fr)(r:O):Fr:=⟨⟨a.ag,a.p,a.T,a.am,r⟩,a.F,a.ak,a.aq,a.b,a.I,a.iV,a.r5,a.blt,a.kind,a.frames,a.i3,a.depth,a.units⟩
def In0.at{a:Fr}{m:D a.w}(b:In0 a m)(r:O):In0 (a.at r) m:=⟨b.cells,b.hd⟩
def Vz(l:aC C.hb a)(J:aV a){g:Nat}{r:O}(y:h1 ⟨C,p,a,g,r⟩){e:Around}{n:List Env}{m:D ⟨C,n⟩}{z:Option Y}{w:Nat}{x:List Y}{H:List Value}(B:e.frames=some (eJ n))(E:hY m e z)(A:e.depth+2*(g+1)<recursionLimit)(F:e.units+16*(g+1)+64<cLine)(G:bp m x H):
  d ⟨⟨C,n⟩,p,e⟩ (call (.ref w) H) b m (GN a r z w x m.st):=by
 refine d.or (λP N K M o L I s q=> ?_) λk K M o L I s q=> ?_
 . exact m2 (uO (k:=⟨C,p,a,g,r⟩) l y (l.fn _ _ N) B E (show e.depth+1+2*g<_ by exact(bV A (by simp+arith only))) (show e.units+3+16*g+64<_ by exact(bV F (by simp+arith only))) G o (λi u v j t c k h f=>s i c.pt j c.f h f) λi u v j t c k h f=>q i c.pt j c.f h f)
 . exact m2 (CS (k:=⟨C,p,a,g,r⟩) l J y B E A F G o ⟨λi u v j t c k h f=>s i c.pt j c.f h f,λi u v j t c k h f=>q i c.pt j c.f h f⟩)
def DH(N:aC C.hb a)(L:aV a)(U:∀f,dS (C.more f) p ct) (k:Nat):∀(c:Nat)(f:List Addr),h1 ⟨C.more f,p,a,c,x a ct k c⟩:=by
 induction k with
 |zero=>exactλc f=>h1.none
 |succ k I=>
  intro c f;have S:b1 ⟨C.more f,p,a,c,x a ct k c⟩:=λQ=>by
   have:=I c (f++Q);unfold Rk.more;rw [oh];exact this
  have J:∀{e:Fr}{m:D e.w},e.toRk=⟨C.more f,p,a,c,x a ct (k+1) c⟩->In0 e m->aF (e.at (x a ct k c)) m/\b1 (e.at (x a ct k c)).toRk:=λ{e m} i g=>by
   have u:(e.at (x a ct k c)).toRk=⟨C.more f,p,a,c,x a ct k c⟩:=T (λw:Rk=>(⟨w.ag,w.p,w.T,w.am,x a ct k c⟩:Rk)) i;exact⟨⟨g.at _,u▸I c f⟩,u▸S⟩
  refine⟨λe i m h g=> ?_,λe i m h g=> ?_,λe F m h g=> ?_,λe m R M G Z h g W y=> ?_⟩
  . obtain⟨K,z,l,v,t,j,a1,a2,a3,B,o,E,q,r⟩:=e;refine And.elim (λn s=> ?_) (J h g);subst h;exact d.w0 n s i
  . obtain⟨K,z,l,v,t,j,a1,a2,a3,B,o,E,q,r⟩:=e;refine And.elim (λn s=> ?_) (J h g);subst h;exact d.wZ n i
  . obtain⟨K,z,l,v,t,j,a1,a2,a3,B,o,E,q,r⟩:=e;refine And.elim (λn s=> ?_) (J h g);subst h;exact d.w2 n s F
  . obtain⟨K,z,l,v,t,j,a1,a2,a3,B,o,E,q,r⟩:=e;subst h;have A:=W.bI;induction R using Y.casesOn with
    |d ai=>
     cases(show G= .ref ai from A);refine d.or (λF i=> ?_) λXC=> ?_
     . have H:=g.hd;refine(?_:d (Fr.z _) _ b m (match j.hd with|none=>⟨F c M m.st⟩|some _=> .n));change hY m l j.hd at H;generalize j.hd=V at H;cases V with
       |none=>exactλO P u=>(U f).ct i c M m.st O P u l (t::v) m Z rfl o H q r y
       |some _=>exact d.n
     . induction c using Nat.casesAuxOn with
       |zero=>exact d.n
       |succ c=>exact Vz (C:=C.more f) N L (I c f) o g.hd q r y
    |bi ah=>
     cases(show G= .builtin ah.id from A);exact d.bi g L y
    |ty X=>
     cases(show G= .type X.name from A);exact d.ty y
    |_=>exact d.n
end
noncomputable abbrev pw:Program:=PySem.Challenge.pw_ot0061_01
noncomputable def vo(a:Stmt):Option (Arguments×Scope×Pos):=by
 induction a using Stmt.casesOn with
 |FunctionDef _ ai _ _ _ _ b _ _ p=>exact some (ai,b,p)
 |_=>exact none
noncomputable def I5(a:Stmt):List Stmt:=by
 induction a using Stmt.casesOn with
 |FunctionDef _ _ ah _ _ _ _ _ _ _=>exact ah
 |ClassDef _ _ _ ah _ _ _ _ _ _ _=>exact ah
 |For _ _ ah _ _=>exact ah
 |While _ ah _ _=>exact ah
 |If _ ah _ _=>exact ah
 |_=>exact []
noncomputable def QJ(c:Stmt):List Expr:=by
 induction c using Stmt.casesOn with
 |Assign d aj _=>exact aj::d
 |Return aj _=>exact aj.toList
 |For a b _ _ _=>exact [a,b]
 |While a _ _ _=>exact [a]
 |_=>exact []
noncomputable def QL(a:Expr):List Expr:=by
 induction a using Expr.casesOn with
 |ListComp a d _ _=>exact a::d.flatMap λc=>[c.target,c.iter]
 |Call cf b _ _=>exact cf::b
 |IfExp e ai ah _=>exact [e,ai,ah]
 |List b _=>exact b
 |BinOp ai _ ah _=>exact [ai,ah]
 |Subscript ai ah _=>exact [ai,ah]
 |_=>exact []
def qD(a:Expr):Scope:=by
 induction a using Expr.casesOn with
 |ListComp _ _ b _=>exact b
 |_=>exact pw.main.scope
def eS(b:Nat)(a:Expr):Expr:=(QL a).getD b a
def eR(b:Option Stmt)(a:Nat):Expr:=(b.toList.flatMap QJ).getD a (.Constant (.bool true) 0 ⟨0,0,0,0⟩)
def gR(a:Option Stmt):List Stmt:=a.toList.flatMap I5
def wM(b:Option Stmt):Scope:=match b.bind vo with
 |some a=>a.2.1
 |none=>pw.main.scope
def ql(b:Option Stmt):List Str:=match b.bind vo with
 |some a=>a.1.args.map (·.arg)
 |none=>[]
def m(a:Nat):Option Stmt:=t pw.main.body a
def db(a j:Nat):Option Stmt:=t (gR (m a)) j
def c(a:Option Stmt)(b:List Y):aL:=⟨ql a,gR a,wM a,b⟩
def f6:List (Nat×aL):=[
 (35,c (db 2 0) []),
 (81,c (db 5 0) [.l [.str "NONE"],.int 0,.int 0]),
 (102,c (db 6 0) [.none,.bool false,.str ""]),
 (139,c (m 8) [.l [.str "NONE"]]),
 (146,c (m 9) []),
 (153,c (m 10) []),
 (160,c (m 11) []),
 (167,c (m 12) []),
 (174,c (m 13) []),
 (181,c (m 15) []),
 (188,c (m 16) []),
 (195,c (m 17) []),
 (202,c (m 18) []),
 (209,c (m 19) []),
 (216,c (m 20) []),
 (223,c (m 21) []),
 (230,c (m 23) []),
 (258,c (m 29) []),
 (265,c (m 30) []),
 (279,c (m 32) []),
 (286,c (m 33) []),
 (293,c (m 34) []),
 (300,c (m 35) []),
 (315,c (m 37) [.bool false]),
 (322,c (m 38) []),
 (329,c (m 40) []),
 (336,c (m 41) []),
 (343,c (m 42) []),
 (350,c (m 43) []),
 (357,c (m 44) []),
 (364,c (m 45) []),
 (371,c (m 46) []),
 (378,c (m 47) []),
 (385,c (m 48) []),
 (392,c (m 49) []),
 (399,c (m 50) []),
 (413,c (db 52 0) []),
 (435,c (db 54 0) [.int 40,.none]),
 (442,c (db 54 1) []),
 (449,c (db 54 2) []),
 (463,c (db 54 4) []),
 (477,c (db 54 6) []),
 (484,c (db 54 7) []),
 (491,c (db 54 8) []),
 (512,c (m 55) []),
 (519,c (m 56) []),
 (526,c (m 57) []),
 (540,c (m 59) []),
 (547,c (m 60) []),
 (562,c (db 61 0) [.int 40,.none]),
 (576,c (db 61 2) []),
 (583,c (db 61 3) []),
 (590,c (db 61 4) []),
 (597,c (db 61 5) []),
 (604,c (db 61 6) []),
 (633,c (db 61 10) [.none]),
 (640,c (db 61 11) []),
 (647,c (db 61 12) []),
 (661,c (db 61 14) []),
 (673,c (m 63) []),
 (680,c (m 64) []),
 (687,c (m 65) []),
 (694,c (m 66) []),
 (701,c (m 67) []),
 (706,c (m 68) []),
 (713,c (m 69) []),
 (718,c (m 70) []),
 (725,c (m 71) []),
 (732,c (m 72) []),
 (739,c (m 73) []),
 (746,c (m 74) []),
 (753,c (m 75) []),
 (760,c (m 76) []),
 (767,c (m 77) []),
 (774,c (m 78) []),
 (781,c (m 79) []),
 (786,c (m 80) []),
 (793,c (m 81) []),
 (798,c (m 82) []),
 (805,c (m 83) []),
 (812,c (m 84) []),
 (819,c (m 85) []),
 (826,c (m 86) []),
 (833,c (m 87) []),
 (840,c (m 88) []),
 (845,c (m 89) []),
 (852,c (m 90) [])]
noncomputable def r6:List (Str×Y):=[
 (⟨#[101,114,114,111,114]⟩,.d 139),(⟨#[119,114,111,110,103,95,97,114,103,115]⟩,.d 146),(⟨#[99,117,116]⟩,.d 153),(⟨#[110,111,116,101,95,114,111,119]⟩,.d 160),(⟨#[101,110,100,95,114,101,116,117,114,110]⟩,.d 167),(⟨#[101,110,100,95,112,114,111,99]⟩,.d 174),(⟨#[105,115,95,98,108,97,110,107]⟩,.d 181),(⟨#[100,105,103,105,116]⟩,.d 188),(⟨#[100,105,103,105,116,115,95,118,97,108,117,101]⟩,.d 195),(⟨#[98,97,115,101,95,111,102]⟩,.d 202),(⟨#[119,104,111,108,101,95,111,102]⟩,.d 209),(⟨#[98,111,111,108,95,111,102]⟩,.d 216),(⟨#[110,101,101,100,95,98,111,111,108]⟩,.d 223),(⟨#[116,114,117,116,104]⟩,.d 230),(⟨#[104,101,120,95,115,105,103,110]⟩,.d 237),(⟨#[111,99,116,97,108,95,115,105,103,110]⟩,.d 244),(⟨#[98,97,99,107,115,108,97,115,104]⟩,.d 251),(⟨#[99,104,101,99,107,95,98,101,104,105,110,100]⟩,.d 258),(⟨#[98,114,97,99,101,100,95,101,108,101,109,101,110,116]⟩,.d 265),(⟨#[113,117,111,116,101,100,95,101,108,101,109,101,110,116]⟩,.d 272),(⟨#[98,97,114,101,95,101,108,101,109,101,110,116]⟩,.d 279),(⟨#[102,105,110,100,95,101,108,101,109,101,110,116]⟩,.d 286),(⟨#[115,112,108,105,116,95,108,105,115,116]⟩,.d 293),(⟨#[109,111,100,101,95,111,102]⟩,.d 300),(⟨#[101,115,99,97,112,101,100]⟩,.d 307),(⟨#[113,117,111,116,101]⟩,.d 315),(⟨#[106,111,105,110,95,108,105,115,116]⟩,.d 322),(⟨#[114,117,110,95,98,111,100,121]⟩,.d 329),(⟨#[114,117,110,95,110,101,120,116]⟩,.d 336),(⟨#[114,117,110,95,119,104,105,108,101]⟩,.d 343),(⟨#[114,117,110,95,102,111,114]⟩,.d 350),(⟨#[101,97,99,104,95,103,114,111,117,112,115]⟩,.d 357),(⟨#[115,101,116,95,114,111,117,110,100]⟩,.d 364),(⟨#[114,117,110,95,101,97,99,104]⟩,.d 371),(⟨#[114,117,110,95,98,114,101,97,107]⟩,.d 378),(⟨#[114,117,110,95,99,111,110,116,105,110,117,101]⟩,.d 385),(⟨#[101,97,99,104,95,99,111,109,109,97,110,100,115]⟩,.d 392),(⟨#[108,111,111,112,95,99,111,109,109,97,110,100,115]⟩,.d 399),(⟨#[110,111,95,118,97,114,105,97,98,108,101]⟩,.d 512),(⟨#[118,97,114,95,105,110]⟩,.d 519),(⟨#[112,117,116,95,118,97,108,117,101]⟩,.d 526),(⟨#[101,108,101,109,101,110,116,115,95,105,110]⟩,.d 533),(⟨#[112,97,105,114,95,111,102]⟩,.d 540),(⟨#[97,99,116]⟩,.d 547),(⟨#[95,108,97,119,95,116,97,107,101]⟩,.d 673),(⟨#[95,108,97,119,95,98,97,115,101]⟩,.d 680),(⟨#[95,108,97,119,95,110,97,109,101,115]⟩,.d 687),(⟨#[95,108,97,119,95,108,105,115,116,115]⟩,.d 694),(⟨#[95,108,97,119,95,101,110,100,115]⟩,.d 701),(⟨#[95,108,97,119,95,99,111,109,109,97,110,100]⟩,.d 706),(⟨#[95,108,97,119,95,116,101,115,116]⟩,.d 713),(⟨#[95,108,97,119,95,114,117,110]⟩,.d 718),(⟨#[95,108,97,119,95,114,97,105,115,101]⟩,.d 725),(⟨#[95,108,97,119,95,101,120,112,114]⟩,.d 732),(⟨#[95,108,97,119,95,97,99,116]⟩,.d 739),(⟨#[95,108,97,119,95,111,107]⟩,.d 746),(⟨#[95,108,97,119,95,102,97,117,108,116]⟩,.d 753),(⟨#[95,108,97,119,95,110,111,95,102,117,101,108]⟩,.d 760),(⟨#[95,108,97,119,95,115,112,101,110,100,115]⟩,.d 767),(⟨#[95,108,97,119,95,119,114,105,116,101]⟩,.d 774),(⟨#[95,108,97,119,95,105,116,101,109,115]⟩,.d 781),(⟨#[95,108,97,119,95,108,105,115,116]⟩,.d 786),(⟨#[95,108,97,119,95,119,114,111,110,103,95,119,111,114,100,115]⟩,.d 793),(⟨#[95,108,97,119,95,100,117,101,95,115,99,114,105,112,116]⟩,.d 798),(⟨#[95,108,97,119,95,100,117,101,95,99,111,109,109,97,110,100]⟩,.d 805),(⟨#[95,108,97,119,95,100,117,101,95,111,119,110]⟩,.d 812),(⟨#[95,108,97,119,95,111,117,116,95,111,102,95,112,114,111,99]⟩,.d 819),(⟨#[95,108,97,119,95,100,117,101,95,102,111,114]⟩,.d 826),(⟨#[95,108,97,119,95,100,117,101,95,108,111,111,112]⟩,.d 833),(⟨#[95,108,97,119,95,100,117,101,95,116,101,115,116]⟩,.d 840),(⟨#[95,108,97,119,95,100,117,101,95,101,97,99,104]⟩,.d 845),(⟨#[95,108,97,119,95,104,111,115,116]⟩,.d 852),(⟨#[108,97,119]⟩,.d 857),(⟨#[84,99,108,70,97,117,108,116]⟩,.d 38),(⟨#[77,105,115,117,115,101,100]⟩,.d 51),(⟨#[79,117,116,79,102,70,117,101,108]⟩,.d 63),(⟨#[82,97,105,115,101,100]⟩,.d 84),(⟨#[78,101,115,116]⟩,.d 105),(⟨#[80,97,117,115,101]⟩,.d 126),(⟨#[86,97,114]⟩,.d 416),(⟨#[72,111,115,116]⟩,.d 501),(⟨#[83,109,97,108,108,72,111,115,116]⟩,.d 664)]
noncomputable def JQ:List (Nat×eX):=[
 (38,⟨[(⟨#[119,104,121]⟩,.bk)],[],true,35,[38]⟩),
 (51,⟨[(⟨#[119,104,121]⟩,.bk)],[],true,35,[51,38]⟩),
 (63,⟨[(⟨#[119,104,121]⟩,.bk)],[],true,35,[63,38]⟩),
 (84,⟨[(⟨#[99,111,100,101]⟩,.bk),(⟨#[118,97,108,117,101]⟩,.bk),(⟨#[101,114,114,111,114,99,111,100,101]⟩,.bk),(⟨#[108,101,118,101,108]⟩,.bk),(⟨#[114,101,116]⟩,.bk),(⟨#[105,110,102,111]⟩,.bk),(⟨#[105,115,95,110,111,116,101,100]⟩,.bk),(⟨#[108,105,110,101]⟩,.bk),(⟨#[101,120,116,114,97]⟩,.bk)],[],true,81,[84]⟩),
 (105,⟨[(⟨#[115,99,114,105,112,116]⟩,.bk),(⟨#[98,97,99,107]⟩,.bk),(⟨#[105,115,95,112,114,111,99]⟩,.bk),(⟨#[108,97,98,101,108]⟩,.bk)],[],false,102,[105]⟩),
 (416,⟨[(⟨#[107,105,110,100]⟩,.bk),(⟨#[118,97,108,117,101]⟩,.bk),(⟨#[116,114,97,99,101,115]⟩,.bk),(⟨#[105,115,95,98,117,115,121]⟩,.bk),(⟨#[105,115,95,101,108,101,109,101,110,116]⟩,.bk),(⟨#[119,114,105,116,101,115]⟩,.bk)],[],false,413,[416]⟩),
 (501,⟨[],[(⟨#[95,95,105,110,105,116,95,95]⟩,435)],false,435,[501]⟩),
 (664,⟨[(⟨#[116,111,111,108,115]⟩,.bk),(⟨#[105,110,108,105,110,101]⟩,.bk),(⟨#[108,105,109,105,116]⟩,.bk),(⟨#[102,117,101,108]⟩,.bk),(⟨#[100,101,112,116,104]⟩,.bk),(⟨#[115,112,101,110,116]⟩,.bk),(⟨#[101,112,111,99,104]⟩,.bk),(⟨#[102,114,97,109,101]⟩,.bk),(⟨#[99,111,114,111,117,116,105,110,101]⟩,.bk),(⟨#[118,97,114,115]⟩,.bk),(⟨#[99,111,109,109,97,110,100,115]⟩,.bk),(⟨#[102,105,114,115,116,115]⟩,.bk),(⟨#[114,117,110]⟩,.ea 463),(⟨#[116,111,111,108]⟩,.ea 442),(⟨#[115,112,101,110,100]⟩,.ea 449),(⟨#[99,97,108,108]⟩,.ea 477),(⟨#[102,105,110,105,115,104]⟩,.ea 484),(⟨#[108,101,97,118,101]⟩,.ea 491),(⟨#[112,108,97,99,101]⟩,.ea 576),(⟨#[114,101,97,100,95,118,97,114]⟩,.ea 583),(⟨#[119,114,105,116,101,95,118,97,114]⟩,.ea 590),(⟨#[114,101,97,100]⟩,.ea 597),(⟨#[119,114,105,116,101]⟩,.ea 604),(⟨#[112,117,116]⟩,.ea 633),(⟨#[114,101,109,111,118,101]⟩,.ea 640),(⟨#[97,100,100]⟩,.ea 647),(⟨#[98,101,103,105,110]⟩,.ea 661)],[],false,562,[664,501]⟩)]
noncomputable def pu:List (Str×Y):=[(⟨#[108,101,110]⟩,.bi .aE),("sum",.bi .sum),("isinstance",.bi .vU),("ord",.bi .mw),("str",.ty .str),("int",.ty .int),("tuple",.ty .tuple),("range",.ty .range),("enumerate",.ty .u'),("Exception",.ty .vd)]
def f(a:Frag):ay:=⟨a,JQ,f6,r6,pu,[343,350,378,385],[105],[(.fn,.ty .tuple,false),(.ty .tuple,.ty .tuple,true),(.ty .str,.cls 105,false),(.cls 105,.cls 105,true),(.ty .str,.cls 126,false)],[716,751,755],[112,114]⟩
section
abbrev HI:= @PySem.W.Fast.tw10156331382660048174
abbrev HH:= @PySem.W.Fast.tw6613529449190102663
abbrev HG:= @PySem.W.Fast.tw11892475500146522536
abbrev HJ:= @PySem.W.Fast.tw14364793385576792824
def A1(b:Code->Sem Fin)(c:Thread->Bool)(p:Program)(d:World):Nat->SharedT->Thread->Option SharedT
 |0,_,_=>none
 |f+1,s,a=>cond (through a) (some s) (cond (c a) ((HI b p d s a).elim none λe=>A1 b c p d f e.1 e.2) none)
def Je(b:Params):BT:=((boot_heap b).objs.toList.foldl (λ(a:BT×Nat) c=>(a.1.ins a.2 c,a.2+1)) (.nil,0)).1
def Gn(a:World)(b:OsState):SharedT:=⟨Je a.params,11,(boot_heap a.params).life,#[],boot_drawn,boot_toks,b⟩
def oM(a:World)(b:OsState):Option SharedT:=A1 (HG HJ) (HH 11 (some (.ref 6))) pw a 5400 (Gn a b) (topStub pw)
end
section
def CX{g:Type}{a:Bool}{f b c:g}(d:a=false)(e:cond a f b=c):b=c:=by subst d;exact e
def CY{g:Type}{a:Bool}{b f c:g}(d:a=true)(e:cond a b f=c):b=c:=by subst d;exact e
def Wm{p:Program}{j:World}{i:Nat}{f:Option Value}(c:Nat):∀(d e:SharedT)(b:Thread),A1 (denote treeTable) (stepOk i f) p j c d b=some e->topRun treeTable p j i f c d.abs b=some e.abs:=by
 induction c using Nat.rec with
 |zero=>exactλm m m a=>nomatch a
 |succ c n=>
  intro d e b a;unfold topRun;induction l:through b using Bool.casesOn with
  |true=>cases CY l a;rfl
  |false=>
   have a:=CX l a;induction k:stepOk i f b using Bool.casesOn with
   |false=>exact nomatch CX k a
   |true=>
    have a:=CY k a;rw [show HI=stepT from Fast.te10156331382660048174.symm] at a;induction g:stepT (denote treeTable) p j d b using Option.casesOn with
    |none=>rw [g] at a;cases a
    |some r=>
     obtain⟨o,q⟩:=r;rw [g] at a;refine h (stepT_spec g ..) ?_;exact n o e q a
def s0(b:World)(a:OsState):Shared:=⟨boot_heap b.params,#[],boot_drawn,boot_toks,a⟩
def UO(b:World)(a:OsState):(Gn b a).abs=s0 b a:=by kernel_rfl
def UR(b:World)(a:OsState):((s0 b a).heap.isNs mainGlobals&&(s0 b a).gens.size==0)=true:=by kernel_rfl
def UP(b:World)(a:OsState):(s0 b a).heap.nsMap mainGlobals "__annotations__"=some (.ref 6):=by kernel_rfl
def US(b:World)(a:OsState):(s0 b a).heap.objs.size=11:=by kernel_rfl
def Tr:opening pw=plainProg pw.main.scope.names:=by kernel_rfl
end
section
abbrev t4:= @PySem.W.Fast.tw4187177175401517315
def hm:Program:=view pw [91]
def ip:List Str:=pw.boundNames.filter (· !=("law":Str))
def FA:importedModules pw.main.body=[]:=by kernel_rfl
def NR(a:Shared):fenceModules? pw a=some a:=by kernel_rfl
def tw(c:World)(b:OsState)(a:Shared):Bool:=staticsOk [] (s0 c b).heap a.heap&&namesBound pw a.heap&&gensDone a&&laidKept (s0 c b).heap a.heap
def Wn{d:String->Option Builtin}{p:Program}{e:World}{c:Nat}{a b:Shared}(f:(a.heap.isNs mainGlobals&&a.gens.size==0)=true)(r:topRun d p e a.heap.objs.size (a.heap.nsMap mainGlobals "__annotations__") c a (topStub p)=some b)
  (g:(staticsOk (importedModules p.main.body) a.heap b.heap&&namesBound p b.heap&&gensDone b&&laidKept a.heap b.heap)=true):topFrom d p e c a=some b:=by unfold topFrom;refine h (f ..) ?_;dsimp only;rw [r,Option.bind_some,g]
def M4{h:Type}{b:String->Option Builtin}{p:Program}{c:World}{a:Nat}{e f:Shared}{d:Shared->h}{g:h}(i:fencedOpening b p c a=some e)(j:topFrom b p c a e=some f)(k:d f=g):(openEnds b p c a).map d=some g:=by unfold openEnds;rw [i,Option.bind_some,j,Option.map_some,k]
def UQ{P:Params}{a:Shared}(g:World)(b:(a.heap,a.gens,a.drawn,a.toks)=(boot_heap g.params,Array.mk [],boot_drawn,boot_toks)):a=s0 g a.os:=by obtain⟨j,i,h,k,l⟩:=a;refine And.elim (λc b=> ?_) (m1 b);refine And.elim (λd b=> ?_) (m1 b);refine And.elim (λe f=> ?_) (m1 b);have c:j=_:=c;have d:i=_:=d;have e:h=_:=e;have f:k=_:=f;unfold s0;rw [c,d,e,f]
def UM{a:World}{b:OsState}{d:SharedT}(c:oM a b=some d):topRun treeTable pw a (s0 a b).heap.objs.size ((s0 a b).heap.nsMap mainGlobals "__annotations__") 5400 (s0 a b) (topStub pw)=some d.abs:=by refine h (US ..) ?_;refine h (UP ..) ?_;refine ba (UO ..) ?_;refine Wm _ _ _ _ ?_;unfold oM at c;refine h (show stepOk=HH from Fast.te6613529449190102663) ?_;refine h (show denote=HG from Fast.te11892475500146522536) ?_;refine h (show treeTable=HJ from Fast.te14364793385576792824) ?_;exact c
def D7{k l m:Type}{b c:k}{d e:l}{f g:m}(a:(b,d,f)=(c,e,g)):b=c/\d=e/\f=g:=by refine And.elim (λh a=> ?_) (m1 a);refine And.elim (λi j=> ?_) (m1 a);exact⟨h,i,j⟩
def Wo{c:World}{b:OsState}{a:Shared}(d:tw c b a=true):(staticsOk (importedModules pw.main.body) (s0 c b).heap a.heap&&namesBound pw a.heap&&gensDone a&&laidKept (s0 c b).heap a.heap)=true:=by refine h (FA ..) ?_;unfold tw at d;exact d
def UX{g:Type}{a:Shared}{b c:g}(d:t4 hm ip [] (λf=>true) true a=openGood hm ip) (e:b=c):(openSeen hm ip (importedModules pw.main.body) (λf=>true) true a,b)=(openGood hm ip,c):=by rw [FA,show openSeen=t4 from Fast.te4187177175401517315,d,e]
def Rf{j:Type}{h:Shared->j}{g:j}(l:∀a b,(oM a b).map (λc=>(t4 hm ip [] (λi=>true) true c.abs,tw a b c.abs,h c.abs))=some (openGood hm ip,true,g)):LeftO pw hm ip (λi=>true) h (λi=>g) 5400:=λa=>by
 refine aS λk e=> ?_;obtain⟨c,d,o⟩:=Option.map_eq_some_iff.mp (boot_open Tr (N:=5400) rfl NR a);refine e ?_;rw [UQ (P:=a.params) a o] at d;generalize c.os=b at d;refine aS λk e=> ?_;obtain⟨sT,m,n⟩:=Option.map_eq_some_iff.mp (l a b);have f:=D7 n;refine e ?_;exact M4 d (Wn (UR a b) (UM m) (Wo f.2.1)) (UX f.1 f.2.2)
end
def wu(b:Option Stmt):Arguments:=match b.bind vo with
 |some a=>a.1
 |none=>⟨[],[],none,[],[],none,[]⟩
def TO(b:Option Stmt):Pos:=match b.bind vo with
 |some a=>a.2.2
 |none=>default
def pI:DefRec:=⟨"law",wu (m 91),gR (m 91),wM (m 91),TO (m 91)⟩
def K8:defOf hm "law"=some (pI,[]):=by kernel_rfl
def TF:wu (m 91)=⟨[],(wu (m 91)).args,none,[],[],none,[]⟩:=by kernel_rfl
def SE:(wu (m 91)).args.map (·.arg)=ql (m 91):=by kernel_rfl
def Wc:PySem.Challenge.rw_ot0061_01.row.prog.theDef PySem.Challenge.rw_ot0061_01.row.name=some (pI.params,pI.body,pI.scope):=by kernel_rfl
def QP:kwWritten? pI.params.kwonlyargs pI.params.kw_defaults=some []:=by kernel_rfl
noncomputable abbrev qB:RowW:=PySem.Challenge.rw_ot0061_01.row.toRowW
def Tm:(chainsOk hm&&opensWell PySem.Challenge.rw_ot0061_01.row.prog&&(frees qB&&PySem.Challenge.rw_ot0061_01.row.within.isEmpty))=true:=by kernel_rfl
section
noncomputable def Hk:Value->Option Int
 | .int a _=>some a
 |_=>none
noncomputable def xn:Value->Option Str
 | .str s _=>some s
 |_=>none
noncomputable def xm:Value->Option Addr
 | .ref ai=>some ai
 |_=>none
noncomputable def C8:Data->Option (Array Value)
 | .fields a=>some a
 |_=>none
noncomputable def C9:Data->Option FuncData
 | .func cf=>some cf
 |_=>none
noncomputable def yF:Data->Option (Array Value×Nat)
 | .seq b a=>some (b,a)
 |_=>none
section
variable{b:Value}{a:Data}
def WM{d:Int}(c:Hk b=some d):∃a,b= .int d a:=by
 induction b using Value.casesOn with
 |int j a=>exact⟨a,T (Value.int · a) (bw c)⟩
 |_=>exact bh c
def A4{d:Str}(c:xn b=some d):∃a,b= .str d a:=by
 induction b using Value.casesOn with
 |str j a=>exact⟨a,T (Value.str · a) (bw c)⟩
 |_=>exact bh c
def A3{a:Addr}(c:xm b=some a):b= .ref a:=by
 induction b using Value.casesOn with
 |ref ah=>exact T Value.ref (bw c)
 |_=>exact bh c
def Ky{c:Array Value}(b:C8 a=some c):a= .fields c:=by
 induction a using Data.casesOn with
 |fields ah=>exact T Data.fields (bw b)
 |_=>exact bh b
def Kz{b:FuncData}(c:C9 a=some b):a= .func b:=by
 induction a using Data.casesOn with
 |func ah=>exact T Data.func (bw c)
 |_=>exact bh c
def KC{b:Array Value×Nat}(c:yF a=some b):a= .seq b.1 b.2:=by
 induction a using Data.casesOn with
 |seq ah d=>exact bw c▸rfl
 |_=>exact bh c
end
noncomputable def vT:Value->Bool
 | .type a=>a=="tuple"
 |_=>false
def Qb{a:Value}(b:vT a=true):a= .type "tuple":=by
 induction a using Value.casesOn with
 |type c=>exact T Value.type (beq_iff_eq.mp b)
 |_=>cases b
def Ad(a:Obj):Option (Array Value×Nat):=cond (vT a.cls&&(a.dict.isNone&&a.slots.isEmpty)) (yF a.data) none
def FG{d:Obj}{b:Array Value×Nat}(a:Ad d=some b):d=dQ b.1.toList b.2:=by
 obtain⟨e,f,h,g⟩:=d;have a:cond (vT e&&(f.isNone&&g.isEmpty)) (yF h) none=some b:=a;cases c:vT e&&(f.isNone&&g.isEmpty) with
 |false=>rw [c] at a;cases a
 |true=>
  rw [c] at a;refine And.elim (λi e2=> ?_) (Bool.and_eq_true_iff.mp c);refine And.elim (λe2 j=> ?_) (Bool.and_eq_true_iff.mp e2);cases Qb i;cases Option.isNone_iff_eq_none.mp e2;cases Array.isEmpty_iff.mp j;cases KC a;rfl
def CR(b:Heap)(a:Value)(d:Str):Bool:=((xm a).bind b.get?).elim false λc=>(C8 c.data).elim false λe=>e[1]?.elim false λf=>(xn f).elim false λg=>Fast.sEq g d
def J5{c:Heap}{b:Value}{d:Str}(a:CR c b d=true):c.CodeRec b d:=by refine aS λo k=> ?_;obtain⟨l,f,a⟩:=ig a;obtain⟨e,g,e2⟩:=bind_some f;obtain⟨n,h,a⟩:=ig a;obtain⟨p,i,a⟩:=ig a;obtain⟨q,j,a⟩:=ig a;obtain⟨m,rfl⟩:=A4 j;refine k ?_;exact⟨e,l,n,m,A3 g,e2,Ky h,Fast.sEq_iff.mp a▸i⟩
noncomputable def Ho:List Y->Option Y
 |[]=>none
 |aj::r=>(match r with|[]=>some aj|_=>none)
noncomputable def GR:Y->Option Str
 | .str a=>some a
 |_=>none
def De(e:Heap)(h:Y)(a:Value):Bool:=match h with
 | .none=>a== .none
 | .bool ah=>a== .bool ah
 | .int f=>(Hk a).elim false λj=>decide (j=f)
 | .str c=>(xn a).elim false λb=>Fast.sEq b c
 | .l i=>((Ho i).bind GR).elim false λc=>((xm a).bind λd=>(e.get? d).bind Ad).elim false λg=>match g.1.toList with
  |[]=>false
  |b::r=>r.isEmpty&&(xn b).elim false λb=>Fast.sEq b c
 |_=>false
def Tq{b:List Y}{d:Str}(f:(Ho b).bind GR=some d):b=[.str d]:=by
 obtain⟨g,a,c⟩:=bind_some f;rcases b with _|⟨h,_|⟨_,_⟩⟩
 . exact bh a
 . cases a;induction g using Y.casesOn with
   |str e=>exact T (λe=>[Y.str e]) (bw c)
   |_=>exact bh c
 . exact bh a
def Lb{h:Heap}{e:Y}{c:Value}(a:De h e c=true):G [] h [] e c:=by
 induction e using Y.casesOn with
 |none=>exact beq_iff_eq.mp (show(c== .none)=true from a)▸.iw
 |bool ah=>exact beq_iff_eq.mp (show(c== .bool ah)=true from a)▸.kM _
 |int x=>
  obtain⟨j,b,e2⟩:=ig a;obtain⟨i,rfl⟩:=WM b;exact tY e2▸.dO _ _
 |str u=>
  obtain⟨v,b,e2⟩:=ig a;obtain⟨i,rfl⟩:=A4 b;exact Fast.sEq_iff.mp e2▸.fN _ _
 |l z=>
  obtain⟨u,b,g⟩:=ig a;obtain⟨s,e2,d⟩:=ig g;obtain⟨w,k,l⟩:=bind_some e2;obtain⟨y,f,m⟩:=bind_some l;clear a g;cases Tq b;cases A3 k;cases FG m;generalize s.1.toList=q at d f;rcases q with _|⟨v,r⟩
  . cases d
  . refine And.elim (λt p=> ?_) (Bool.and_eq_true_iff.mp d);obtain⟨A,n,o⟩:=ig p;obtain⟨i,rfl⟩:=A4 n;cases List.isEmpty_iff.mp t;cases Fast.sEq_iff.mp o;exact .mz (xs:=[_]) f cB (.cI (.fN _ _) .cQ)
 |_=>cases a
def yM(b:Heap):List Y->List Value->Bool
 |[],a=>a.isEmpty
 |aj::c,a=>match a with
  |[]=>false
  |d::a=>De b aj d&&yM b c a
def Lh{d:Heap}{c:List Y}:∀{a:List Value},yM d c a=true->w [] d [] c a:=by
 induction c with
 |nil=>exactλ{a} b=>List.isEmpty_iff.mp b▸.cQ
 |cons aj c e=>
  intro a b;rcases a with _|⟨f,a⟩
  . cases b
  . exact .cI (Lb (Bool.and_eq_true_iff.mp b).1) (e (Bool.and_eq_true_iff.mp b).2)
def Dd(a:Heap)(b:List Y)(c:Value):Bool:=(c== .none&&b.isEmpty)||((xm c).bind λd=>(a.get? d).bind Ad).elim false λe=>yM a b e.1.toList
def La{b:Heap}{d:List Y}{e:Value}(a:Dd b d e=true):m6 b d e:=by
 refine Or.elim (Bool.or_eq_true_iff.mp a) (λa=> ?_) λa=> ?_
 . have c:=Bool.and_eq_true_iff.mp a;exact beq_iff_eq.mp c.1▸.n (List.isEmpty_iff.mp c.2)
 . obtain⟨m,e2,j⟩:=ig a;obtain⟨k,f,g⟩:=bind_some e2;obtain⟨l,h,i⟩:=bind_some g;exact A3 f▸.mk _ _ _ (Lh j) (FG i▸h)
noncomputable def AQ:List Str->List Str->Bool
 |[],a=>a.isEmpty
 |b::c,a=>match a with
  |[]=>false
  |d::a=>Fast.sEq b d&&AQ c a
def VH{c:List Str}:∀{a:List Str},AQ c a=true->c=a:=by
 induction c with
 |nil=>exactλb=>(List.isEmpty_iff.mp b).symm
 |cons g c f=>
  intro a b;rcases a with _|⟨h,a⟩
  . cases b
  . obtain⟨d,e⟩:=Bool.and_eq_true_iff.mp b;rw [Fast.sEq_iff.mp d,f e]
noncomputable def P9:ScopeKind->Bool
 | .function=>true
 |_=>false
def Oc(b:Heap)(r:aL)(a:FuncData):Bool:=
 (a.params.posonlyargs.isEmpty&&(a.params.vararg.isNone&&(a.params.kwonlyargs.isEmpty&&a.params.kwarg.isNone)))&&(AQ (a.params.args.map (·.arg)) r.names&&(a.closure.isEmpty&&(a.globals==mainGlobals&&(a.builtins==builtinsNs&&(CR b a.code a.qualname&&(Dd b r.jj a.defaults&&(decide r.names.Nodup&&(P9 r.scope.kind&&(!r.scope.isGenerator&& !r.scope.isCoroutine)))))))))
def vp(a:Heap)(b:Nat)(r:aL):Option (Bool×FuncBody×Scope):=(a.get? b).bind λc=>(C9 c.data).bind λfd=>some (Oc a r fd,fd.body,fd.scope)
noncomputable def vn(r:aL):Option (Bool×FuncBody×Scope):=some (true,.stmts r.body,r.scope)
def Od{e:Heap}{d:Nat}{r:aL}(a:vp e d r=vn r):fc e d r:=by
 obtain⟨B,z,a⟩:=bind_some a;obtain⟨fd,A,a⟩:=bind_some a;refine And.elim (λm a=> ?_) (m1 (bw a));refine And.elim (λe2 n=> ?_) (m1 a);have b:∀{d c:Bool},(d&&c)=true->d=true/\c=true:=Bool.and_eq_true_iff.mp;refine And.elim (λp a=> ?_) (b m);refine And.elim (λh p=> ?_) (b p);refine And.elim (λi p=> ?_) (b p);refine And.elim (λj l=> ?_) (b p);refine And.elim (λo a=> ?_) (b a);refine And.elim (λs a=> ?_) (b a);refine And.elim (λt a=> ?_) (b a);refine And.elim (λu a=> ?_) (b a);refine And.elim (λv a=> ?_) (b a);refine And.elim (λw a=> ?_) (b a);refine And.elim (λx a=> ?_) (b a);refine And.elim (λf a=> ?_) (b a);refine And.elim (λy q=> ?_) (b a);have g:∀{c:Bool},(!c)=true->c=false:=λ{c} e=>by rcases c with _|_<;>first|rfl|cases e
 refine⟨.mk B fd fd.params.args fd.params.kw_defaults fd.params.defaults z (Kz A) ?_ (VH o) e2 n (List.isEmpty_iff.mp s) (beq_iff_eq.mp t) (beq_iff_eq.mp u) (J5 v) (La w),tY x,?_,g y,g q⟩
 . generalize fd.params=C at h i j l;obtain⟨a1,a2,a3,D,E,F,G⟩:=C;cases List.isEmpty_iff.mp h;cases Option.isNone_iff_eq_none.mp i;cases List.isEmpty_iff.mp j;cases Option.isNone_iff_eq_none.mp l;rfl
 . generalize r.scope.kind=k at f;cases k<;>first|rfl|cases f
end
section
def ij(c:Heap)(b:List Nat):Frag:=b.filterMap λa=>(c.get? a).map λd=>(a,d)
theorem zd{b:Heap}:∀{c:List Nat},(ij b c).In b
 |[],ai,d,a=>by cases a
 |ah::c,ai,d,a=>by
  induction e:b.get? ah using Option.casesOn with
  |none=>
   have:ij b (ah::c)=ij b c:=by unfold ij;refine h (qY ..) ?_;refine h (e ..) ?_;rfl
   rw [this] at a;exact zd ai d a
  |some g=>
   have:ij b (ah::c)=(ah,g)::ij b c:=by unfold ij;refine h (qY ..) ?_;refine h (e ..) ?_;rfl
   rw [this] at a;change (match ai==ah with|true=>some g|false=>List.lookup ai (ij b c))=some d at a;induction f:ai==ah using Bool.casesOn with
   |true=>rw [f] at a;cases a;refine h (beq_iff_eq.mp f) ?_;exact e
   |false=>rw [f] at a;exact zd ai d a
def Ea(b:Heap)(a:Str×Y):Bool:=match a.2 with
 | .d ai=>b.nsMap mainGlobals a.1==some (.ref ai)
 |_=>false
def Cq(b:Heap)(a:Str×Y):Bool:=(b.nsMap mainGlobals a.1).isNone&&(match a.2 with
 | .bi id=>b.nsMap builtinsNs a.1==some (.builtin id.id)
 | .ty c=>b.nsMap builtinsNs a.1==some (.type c.name)
 |_=>false)
def qI(a:ay):Bool:=a.cls.all (λb=>pC a.K b.1 b.2&&(!b.2.ar||v6 a.K b.1))&&(a.lP.all (λd=>typeIn a.K (.ref d)==some (.type "function"))&&(a.lX.all (λc=>plainGet a.K c "__class__"&&findIn a.K (.ref c) "__class__"==some (some (.builtin "object.__class__")))&&a.qf.all (λb=>kitOne a.K b.1.val b.2.1.val==some b.2.2)))
def wi(a:Heap)(b:ay):Bool:=a.isNs mainGlobals&&(a.isNs builtinsNs&&(a.noLimitOk&&(b.r6.all (Ea a)&&b.pu.all (Cq a))))
def O9{d:Heap}{a:Str×Y}(c:Ea d a=true):∃b,a.2= .d b/\d.nsMap mainGlobals a.1=some (.ref b):=by
 obtain⟨a,e⟩:=a;induction e using Y.casesOn with
 |d b=>exact⟨b,rfl,beq_iff_eq.mp c⟩
 |_=>cases c
def Cr{c:Heap}{a:Str×Y}(b:Cq c a=true):c.nsMap mainGlobals a.1=none/\((∃d,a.2= .bi d/\c.nsMap builtinsNs a.1=some (.builtin d.id))\/∃e,a.2= .ty e/\c.nsMap builtinsNs a.1=some (.type e.name)):=by
 obtain⟨f,b⟩:=Bool.and_eq_true_iff.mp b;refine⟨Option.isNone_iff_eq_none.mp f,?_⟩;obtain⟨a,g⟩:=a;induction g using Y.casesOn with
 |bi d=>exact .inl ⟨d,rfl,beq_iff_eq.mp b⟩
 |ty e=>exact .inr ⟨e,rfl,beq_iff_eq.mp b⟩
 |_=>cases b
theorem vZ{f:Type}{b:Nat}{r:f}:∀{c:List (Nat×f)},da b c=some r->(b,r)∈c
 |[],a=>by cases a
 |e::c,a=>by
  replace a:cond (Nat.beq e.1 b) (some e.2) (da b c)=some r:=a;induction d:Nat.beq e.1 b using Bool.casesOn with
  |true=>rw [d] at a;cases a;refine ba (dR d ..) ?_;exact .head _
  |false=>rw [d] at a;exact .tail _ (vZ a)
theorem v0{g:Type}{a:Str}{r:g}:∀{c:List (Str×g)},U a c=some r->(a,r)∈c
 |[],e=>by cases e
 |f::c,e=>by
  have b:cond (Fast.sEq f.1 a) (some f.2) (U a c)=some r:=e;induction d:Fast.sEq f.1 a using Bool.casesOn with
  |true=>rw [d] at b;cases b;refine ba (Fast.sEq_iff.mp d) ?_;exact .head _
  |false=>rw [d] at b;exact .tail _ (v0 b)
theorem vA{b:Nat}:∀{c:List Nat},cA b c=true->b∈c
 |[],a=>by cases a
 |e::c,a=>by
  replace a:cond (Nat.beq e b) true (cA b c)=true:=a;induction d:Nat.beq e b using Bool.casesOn with
  |true=>refine h (dR d ..) ?_;exact .head _
  |false=>rw [d] at a;exact .tail _ (vA a)
def EM{b c:KT}(a:n9 b c=true):b=c:=by rcases b with _|_|_<;>rcases c with _|_|_<;>first|rfl|(cases a;done)|exact T _ (tY a)|exact T _ (dR a)
theorem EU{d b:KT}{f:Bool}:∀{e:List (KT×KT×Bool)},sq d b e=some f->(d,b,f)∈e
 |[],a=>by cases a
 |c::e,a=>by
  replace a:cond (n9 c.1 d&&n9 c.2.1 b) (some c.2.2) (sq d b e)=some f:=a;induction g:(n9 c.1 d&&n9 c.2.1 b) using Bool.casesOn with
  |true=>
   rw [g] at a;cases a;refine And.elim (λh e2=> ?_) (Bool.and_eq_true_iff.mp g);rw [<-EM h,<-EM e2];exact .head _
  |false=>rw [g] at a;exact .tail _ (EU a)
def m6.keeps{d f:Heap}{g:List Y}{h:Value}(i:m6 d g h)(k:∀c e,d.get? c=some e->f.get? c=some e):m6 f g h:=by
 rcases i with a|⟨m,o,l,j,a⟩
 . exact .n a
 . exact .mk m o l (j.mono ⟨λc e a b b b=>k c e a,λb b a=>a,λb d b=>absurd d cB⟩) (k _ _ a)
def fc.keeps{d e:Heap}{b:Nat}{r:aL}(p:fc d b r)(k:∀c a,d.get? c=some a->e.get? c=some a):fc e b r:=by refine aS λI A=> ?_;obtain⟨⟨a,fd,h,z,o,g,x,y,q,s,t,u,v,w,⟨i,F,H,G,j,l,m,n⟩,f⟩,B,C,D,E⟩:=p;refine A ?_;exact⟨.mk a fd h z o (k _ _ g) x y q s t u v w ⟨i,F,H,G,j,k _ _ l,m,n⟩ (f.keeps k),B,C,D,E⟩
def NP{e f:Heap}{T:ay}(u:T.K.In e)(k:∀h g,e.get? h=some g->f.get? h=some g) (i:qI T=true) (l:wi e T=true) (t:T.f6.map (λb=>vp e b.1 b.2)=T.f6.map λb=>vn b.2) (v:∃j g,f.objs.size=j+1/\f.get? j=some g):aC f T:=by
 unfold qI at i;unfold wi at l;simp only [Bool.and_eq_true,List.all_eq_true] at i l;refine aS λx w=> ?_;obtain⟨p,q,n,s⟩:=i;have c:=l;refine w ?_;refine⟨u.keeps k,λd r a=>(p _ (vZ a)).1,λm r a=>(Od (List.map_inj_left.mp t _ (vZ a))).keeps k,.mk _ ((Heap.Ns.of_isNs c.1).keeps k) (λb o a=> ?_) λb o a=> ?_,.mk _ ((Heap.Ns.of_isNs c.2.1).keeps k) λb o a=> ?_,(Heap.NoLimit.of_ok c.2.2.1).keeps k,v,λm a=>beq_iff_eq.mp (q m (vA a)),λd a=>⟨(n d (vA a)).1,beq_iff_eq.mp (n d (vA a)).2⟩,λy d h a=>beq_iff_eq.mp (s _ (EU a))⟩
 . exact O9 (c.2.2.2.1 _ (v0 a))
 . exact(Cr (c.2.2.2.2 _ (v0 a))).1
 . exact(Cr (c.2.2.2.2 _ (v0 a))).2
def Nv{b:Frag}(a:qI (f b)=true):aV (f b):=λe g d c=>by
 unfold qI at a;simp only [Bool.and_eq_true,List.all_eq_true] at a;have:=(a.1 _ (vZ d)).2;rw [c] at this;simpa using this
end
section
def wd:List Nat:=[2,35,37,38,50,51,62,63,81,83,84,102,104,105,125,126,343,350,378,385,413,415,416,435,442,449,463,477,484,491,500,501,562,576,583,590,597,604,633,640,647,661,663,664]
def uw(a:Shared):Bool×Bool×List (Option (Bool×FuncBody×Scope)):=(wi a.heap (f []),qI (f (ij a.heap wd)),f6.map λb=>vp a.heap b.1 b.2)
def uv:Bool×Bool×List (Option (Bool×FuncBody×Scope)):=(true,true,f6.map λa=>vn a.2)
def Rx(c:World)(b:OsState):(oM c b).map (λa=>(wi a.abs.heap (f []),qI (f (ij a.abs.heap wd))))=some (true,true):=by kernel_rfl
def Rw(d:World)(b:OsState):(oM d b).map (λc=>(f6.map λa=>vp c.abs.heap a.1 a.2))=some (f6.map λa=>vn a.2):=by kernel_rfl
end
section
def Ry(c:World)(a:OsState):(oM c a).map (λb=>(t4 hm ip [] (λd=>true) true b.abs,tw c a b.abs))=some (openGood hm ip,true):=by kernel_rfl
end
def sJ:Str:=k [116,111,111,108,115]
def sI:Str:=k [105,110,108,105,110,101]
def kI:Str:=k [108,105,109,105,116]
def jD:Str:=k [102,117,101,108]
def sD:Str:=k [100,101,112,116,104]
def kJ:Str:=k [115,112,101,110,116]
def sE:Str:=k [101,112,111,99,104]
def sH:Str:=k [102,114,97,109,101]
def sC:Str:=k [99,111,114,111,117,116,105,110,101]
def oi:Str:=k [118,97,114,115]
def sB:Str:=k [99,111,109,109,97,110,100,115]
def sG:Str:=k [102,105,114,115,116,115]
def v8:Str:=k [114,117,110]
def v7:Str:=k [101,120,112,114]
def ml:Str:=k [98,111,111,107]
def mn:Str:=k [116,101,115,116,115]
def mm:Str:=k [108,111,103]
def Ff:Str:=k [107,105,110,100]
def v9:Str:=k [118,97,108,117,101]
def Fk:Str:=k [116,114,97,99,101,115]
def Fc:Str:=k [105,115,95,98,117,115,121]
def Fd:Str:=k [105,115,95,101,108,101,109,101,110,116]
def Fl:Str:=k [119,114,105,116,101,115]
def Fj:Str:=k [115,99,97,108,97,114]
def eO:Str:=k [120]
def fv:Str:=k [121]
def hf:Str:=k [122]
def dF:Str:=k [119,104,105,108,101]
def c3:Str:=k [102,111,114]
def dD:Str:=k [102,111,114,101,97,99,104]
def dE:Str:=k [108,109,97,112]
def fs:Str:=k [98,114,101,97,107]
def ft:Str:=k [99,111,110,116,105,110,117,101]
def eM:Str:=k [103,114,111,119]
def iS:Str:=k [112,117,116]
def jF:Str:=k [115,97,121]
def ir:Str:=k [114,97,105,115,101]
def fu:Str:=k [103,111]
def ep:Str:=k [99,97,108,108]
def f':Str:=k [110,111,110,101]
def E9:Str:=k [99,111,100,101]
def E':Str:=k [101,114,114,111,114,99,111,100,101]
def Fg:Str:=k [108,101,118,101,108]
def Fi:Str:=k [114,101,116]
def Fb:Str:=k [105,110,102,111]
def Fe:Str:=k [105,115,95,110,111,116,101,100]
def Fh:Str:=k [108,105,110,101]
def Fa:Str:=k [101,120,116,114,97]
def bC:Str:=k [78,79,78,69]
def SD:Str:=k [119,104,121]
def H:Str:=k []
def mP:Str:=k [116,111,111,32,109,97,110,121,32,110,101,115,116,101,100,32,101,118,97,108,117,97,116,105,111,110,115,32,40,105,110,102,105,110,105,116,101,32,108,111,111,112,63,41]
def bJ:Str:=k [84,67,76]
def mN:Str:=k [76,73,77,73,84]
def mO:Str:=k [83,84,65,67,75]
def Bk:Str:=k [116,104,101,32,115,99,114,105,112,116,32,115,112,101,110,116,32,97,108,108,32,105,116,115,32,102,117,101,108]
def o4:Str:=k [105,110,118,97,108,105,100,32,99,111,109,109,97,110,100,32,110,97,109,101,32,34,110,111,110,101,34]
def oY:Str:=k [76,79,79,75,85,80]
def oV:Str:=k [67,79,77,77,65,78,68]
def jU:Str:=k [87,82,79,78,71,65,82,71,83]
def Bt:Str:=k [119,114,111,110,103,32,35,32,97,114,103,115,58,32,115,104,111,117,108,100,32,98,101,32,34,119,104,105,108,101,32,116,101,115,116,32,99,111,109,109,97,110,100,34]
def Bp:Str:=k [119,114,111,110,103,32,35,32,97,114,103,115,58,32,115,104,111,117,108,100,32,98,101,32,34,102,111,114,32,115,116,97,114,116,32,116,101,115,116,32,110,101,120,116,32,99,111,109,109,97,110,100,34]
def Bn:Str:=k [119,114,111,110,103,32,35,32,97,114,103,115,58,32,115,104,111,117,108,100,32,98,101,32,34,98,114,101,97,107,34]
def Bo:Str:=k [119,114,111,110,103,32,35,32,97,114,103,115,58,32,115,104,111,117,108,100,32,98,101,32,34,99,111,110,116,105,110,117,101,34]
def Bq:Str:=k [119,114,111,110,103,32,35,32,97,114,103,115,58,32,115,104,111,117,108,100,32,98,101,32,34,102,111,114,101,97,99,104,32,118,97,114,76,105,115,116,32,108,105,115,116,32,63,118,97,114,76,105,115,116,32,108,105,115,116,32,46,46,46,63,32,99,111,109,109,97,110,100,34]
def Br:Str:=k [119,114,111,110,103,32,35,32,97,114,103,115,58,32,115,104,111,117,108,100,32,98,101,32,34,108,109,97,112,32,118,97,114,76,105,115,116,32,108,105,115,116,32,63,118,97,114,76,105,115,116,32,108,105,115,116,32,46,46,46,63,32,99,111,109,109,97,110,100,34]
def Bj:Str:=k [98,97,100]
def Bh:Str:=k [65]
def xy:Str:=k [98]
def k3:Str:=k [118,32,119]
def qU:Str:=k [118]
def k2:Str:=k [117]
def c4:Str:=k [48]
def d7:Str:=k [49]
def mT:Str:=k [105,110,118,111,107,101,100,32,34,98,114,101,97,107,34,32,111,117,116,115,105,100,101,32,111,102,32,97,32,108,111,111,112]
def mU:Str:=k [105,110,118,111,107,101,100,32,34,99,111,110,116,105,110,117,101,34,32,111,117,116,115,105,100,101,32,111,102,32,97,32,108,111,111,112]
def tJ:Str:=k [82,69,83,85,76,84]
def tK:Str:=k [85,78,69,88,80,69,67,84,69,68]
def mQ:Str:=k [101,120,112,101,99,116,101,100,32,98,111,111,108,101,97,110,32,118,97,108,117,101,32,98,117,116,32,103,111,116,32,34]
def tP:Str:=k [34]
def kZ:Str:=k [86,65,76,85,69]
def oU:Str:=k [66,79,79,76,69,65,78]
def tT:Str:=k [102,111,114,101,97,99,104,32,118,97,114,108,105,115,116,32,105,115,32,101,109,112,116,121]
def tU:Str:=k [108,109,97,112,32,118,97,114,108,105,115,116,32,105,115,32,101,109,112,116,121]
def qT:Str:=k [79,80,69,82,65,84,73,79,78]
def oW:Str:=k [70,79,82,69,65,67,72]
def oX:Str:=k [76,77,65,80]
def qS:Str:=k [78,69,69,68,86,65,82,83]
def Bs:Str:=k [117,110,109,97,116,99,104,101,100,32,111,112,101,110,32,98,114,97,99,101,32,105,110,32,108,105,115,116]
def HF:Str:=k [76,73,83,84]
def HE:Str:=k [66,82,65,67,69]
def o5:Str:=k [123,120]
def oZ:Str:=k [97,32,123,98]
def o0:Str:=k [123,97,32,98,125,32,123,125,32,99,32,100]
def o3:Str:=k [48,32,49,32,123,48,32,49,125]
def hR:Str:=k [97,32,98]
def tL:Str:=k [99]
def xz:Str:=k [100]
def Bf:Str:=k [48,32,49]
def iB:Str:=k [46]
def tV:Str:=k [121,101,115]
def tI:Str:=k [32,50,32]
def tQ:Str:=k [116,114]
def tO:Str:=k [111,102,102]
def tH:Str:=k [48,120,48]
def Xy:Str:=k [112]
def k0:Str:=k [97]
structure np where
 val:Str
 wr:Nat
structure o where
 S:Nat
 x:np
 y:np
 z:np
 U:List Y
set_option genCtorIdx true in
inductive Vn where
 |x|y|z
set_option genCtorIdx true in
inductive Nm where
 |z|y|zx|t5|empty|rB
set_option genCtorIdx true in
inductive J where
 |rq|empty|br|dx|dy|lw|ly
set_option genCtorIdx true in
inductive Tx where
 |ai|dx|dy|dz|bc|zero
inductive Wr where
 |jS (a:Nat)|eK (a:Nat)|kB|kG|ke|kh
inductive aI where
 |kW (c s:Nat)|eK (a c f b:Nat)|f3 (m:Bool) (d:List (Nm×J)) (s:Nat)|brk|cont|n1 (v:Vn)|iv (v:Vn) (c:Tx)|dc (c:Tx)|raise (e:Nat)|go (s:Nat)|call (s:Nat)|gb (c:Tx)|e' (g:Wr)
inductive x7 where
 |size (v:Vn)|iY (a:Nat)|mJ (a:Nat)|raise (a:Nat)
structure d8 where
 te:x7
 oe:Nat
 n6:Bool
set_option genCtorIdx true in
inductive g where
 |ok (v:Str)|M (code:Nat) (v:Str) (a:List Str) (n' ret:Nat)|C
def Vn.str:Vn->Str
 | .x=>eO| .y=>fv| .z=>hf
def Nm.str:Nm->Str
 | .z=>hf| .y=>fv| .zx=>⟨#[122,32,120]⟩| .t5=>⟨#[122,32,121,32,122]⟩| .empty=>H| .rB=>o5
noncomputable def Nm.names:Nm->Option (List Vn)
 | .z=>some [.z]| .y=>some [.y]| .zx=>some [.z,.x]| .t5=>some [.z,.y,.z]| .empty=>some []| .rB=>none
def J.str:J->Str
 | .rq=>⟨#[97,32,98,32,99]⟩| .empty=>H| .br=>o0| .dx=>⟨#[36,120]⟩| .dy=>⟨#[36,121]⟩| .lw=>oZ| .ly=>o3
def J.res(r:o):J->Str
 | .dx=>r.x.val| .dy=>r.y.val|l=>l.str
def J.aN(r:o):J->Option (List Str)
 | .rq=>some [k0,xy,tL]| .empty=>some []| .br=>some [hR,H,tL,xz]| .dx=>some (Txt.words r.x.val)| .dy=>some (Txt.words r.y.val)| .lw=>none| .ly=>some [c4,d7,Bf]
def Tx.str:Tx->Str
 | .ai=>k0| .dx=>⟨#[36,120]⟩| .dy=>⟨#[36,121]⟩| .dz=>⟨#[36,122]⟩| .bc=>⟨#[98,32,99]⟩| .zero=>c4
def Tx.res(r:o):Tx->Str
 | .dx=>r.x.val| .dy=>r.y.val| .dz=>r.z.val|a=>a.str
noncomputable def E(a:Nat):Str:=⟨#[115,48+a]⟩
noncomputable def n(a:Nat):Str:=⟨#[116,48+a]⟩
noncomputable def dN(a:Nat):Str:=⟨#[48+a]⟩
def cn:Nat->Str
 |0=>d7|1=>c4|2=>tV|3=>tO|4=>⟨#[109,97,121,98,101]⟩|5=>H|6=>tI|7=>tH|8=>tQ|_=>⟨#[111]⟩
def dG(a:J->Str):List (Nm×J)->List Str
 |[]=>[]
 |b::c=>b.1.str::a b.2::dG a c
def Wr.words:Wr->List Str
 | .jS a=>[dF,n a]| .eK a=>[c3,E 0,n a,E 1]| .kB=>[dD,eO,k0]| .kG=>[dE,eO,hR,fv,E 0]| .ke=>[fs,eO]| .kh=>[ft,H]
def aI.Hy(c:J->Str)(b:Tx->Str):aI->List Str
 | .kW a s=>[dF,n a,E s]
 | .eK ai a f ah=>[c3,E ai,n a,E f,E ah]
 | .f3 m d s=>(match m with|true=>dE|false=>dD)::(dG c d++[E s])
 | .brk=>[fs]| .cont=>[ft]
 | .n1 aj=>[eM,aj.str]| .iv aj a=>[iS,aj.str,b a]| .dc a=>[jF,b a]| .raise e=>[ir,dN e]| .go s=>[fu,E s]| .call s=>[ep,E s]| .gb a=>[f',b a]
 | .e' g=>g.words
def aI.words:aI->List Str:=aI.Hy J.str Tx.str
def aI.res(r:o):aI->List Str:=aI.Hy (J.res r) (Tx.res r)
noncomputable def o.get(r:o):Vn->np
 | .x=>r.x| .y=>r.y| .z=>r.z
noncomputable def o.iv(r:o)(c:Vn)(b:np):o:=match c with
 | .x=>{r with x:=b}| .y=>{r with y:=b}| .z=>{r with z:=b}
def o.bG(r:o)(b:Vn)(c:Str):o:=r.iv b ⟨c,(r.get b).wr+1⟩
noncomputable def o.dc(r:o)(b:Y):o:={r with U:=r.U++[b]}
noncomputable def o.a(r:o):o:={r with S:=r.S+1}
structure B where
 L:Nat
 F:Nat
 aW:Nat->List aI
 a6:Nat->d8
def nM:g:= .M 1 mP [bJ,mN,mO] 0 0
def yT:g:= .M 1 o4 [bJ,oY,oV,f'] 0 0
def yU(a:Wr):g:= .M 1 (match a with| .jS _=>Bt| .eK _=>Bp| .kB=>Bq| .kG=>Br| .ke=>Bn| .kh=>Bo) [bJ,jU] 0 0
def iO(m:Bool):g:= .M 1 (match m with|true=>tU|false=>tT) [bJ,qT,(match m with|true=>oX|false=>oW),qS] 0 0
def gr:g:= .M 1 Bs [bJ,kZ,HF,HE] 0 0
def pR(a:Str):g:= .M 1 (mQ++a++tP) [bJ,kZ,oU] 0 0
def ends:Nat->g
 |0=> .M 1 Bj [Bh,xy] 0 0
 |1=> .M 2 k3 [bC] 1 0
 |2=> .M 2 k3 [bC] 1 3
 |3=> .M 2 qU [bC] 1 4
 |4=> .M 5 k2 [bC] 0 0
 |5=> .M 2 c4 [bC] 2 0
 |6=> .M 3 k2 [bC] 0 0
 |_=> .M 4 k2 [bC] 0 0
def hg:g->g
 | .M 2 aj a 0 ret=>(match ret with|0=> .ok aj|r=> .M r aj a 0 0)
 | .M 2 aj a 1 ret=>(match ret with|0=> .ok aj|r=> .M r aj a 0 0)
 | .M 2 aj a (c+2) ret=> .M 2 aj a (c+1) ret
 | .M 3 _ _ _ _=> .M 1 mT [bJ,tJ,tK] 0 0
 | .M 4 _ _ _ _=> .M 1 mU [bJ,tJ,tK] 0 0
 |b=>b
section
def e8(a:Str):Option Bool:=
 cond (Fast.sEq d7 a) (some true)<|cond (Fast.sEq tV a) (some true)<|cond (Fast.sEq tI a) (some true)<|cond (Fast.sEq tQ a) (some true)<|
 cond (Fast.sEq c4 a) (some false)<|cond (Fast.sEq tO a) (some false)<|cond (Fast.sEq tH a) (some false) none
noncomputable def Eh(b:Str):Bool:=b.cps.toList.any (λa=>a==32)
def cJ(a:Str):Str:=match a.cps.toList with
 |[]=>⟨#[123,125]⟩
 |al::r=>cond (Eh a||Nat.beq al 123) (⟨#[123]⟩++a++⟨#[125]⟩) a
def mb(a:List Str):Str:=Txt.join ⟨#[32]⟩ (a.map cJ)
abbrev bH:=List Vn×List Str
noncomputable def nY(b:bH):Except g (List bH)->Except g (List bH)
 | .error a=> .error a
 | .ok c=> .ok (b::c)
def lQ(m:Bool)(b:Option (List Vn))(c:Option (List Str))(e:Except g (List bH)):Except g (List bH):=
 b.elim (.error gr) λa=>a.casesOn (.error (iO m)) λf f=>c.elim (.error gr) λd=>nY (a,d) e
def bQ(m:Bool)(r:o):List (Nm×J)->Except g (List bH)
 |[]=> .ok []
 |a::b=>lQ m a.1.names (a.2.aN r) (bQ m r b)
section
variable{m:Bool}{r:o}{a:Nm}{b:J}{c:List (Nm×J)}
def r9(d:a.names=none):bQ m r ((a,b)::c)= .error gr:=by refine(?_:lQ m a.names (b.aN r) (bQ m r c)=_);rw [d];rfl
def vz(d:a.names=some []):bQ m r ((a,b)::c)= .error (iO m):=by refine(?_:lQ m a.names (b.aN r) (bQ m r c)=_);rw [d];rfl
def vy{g:Vn}{f:List Vn}(d:a.names=some (g::f))(e:b.aN r=none):bQ m r ((a,b)::c)= .error gr:=by refine(?_:lQ m a.names (b.aN r) (bQ m r c)=_);rw [d,e];rfl
def r'{f:Vn}{e:List Vn}{d:List Str}(g:a.names=some (f::e))(h:b.aN r=some d):bQ m r ((a,b)::c)=nY (f::e,d) (bQ m r c):=by refine(?_:lQ m a.names (b.aN r) (bQ m r c)=_);rw [g,h];rfl
def OT{c:bH}{b:Except g (List bH)}{e:List bH}(d:nY c b= .ok e):∃a,b= .ok a/\e=c::a:=by
 rcases b with _|a
 . cases d
 . cases d;exact⟨a,rfl,rfl⟩
def OS{d:bH}{a:Except g (List bH)}{b:g}(c:nY d a= .error b):a= .error b:=by
 rcases a with _|e
 . cases c;rfl
 . cases c
end
def d5:List Vn->List Str->o->List Str×o
 |[],its,r=>(its,r)
 |aj::a,[],r=>d5 a [] (r.bG aj H)
 |aj::a,b::is,r=>d5 a is (r.bG aj b)
def cg:List bH->o->List bH×o
 |[],r=>([],r)
 |a::b,r=>match d5 a.1 a.2 r with
  |(its,d)=>match cg b d with
   |(c,e)=>((a.1,its)::c,e)
noncomputable def fI:List bH->Bool
 |[]=>true
 |a::b=>match a.2 with|[]=>fI b|_=>false
def gs(m:Bool)(a:List Str):g:= .ok (match m with|true=>mb a|false=>H)
def dM(b a:Nat):Y:= .l [.str (E b),.int (Int.ofNat a)]
abbrev dU:=Option (g×o)
abbrev N:=Nat->Nat->o->dU
def gC:g->Except g Bool
 | .ok aj=>(match e8 aj with|some ah=> .ok ah|none=> .error (pR aj))
 |a=> .error a
def y7{b:Str}{a:Bool}(c:e8 b=some a):gC (.ok b)= .ok a:=by refine(?_:(match e8 b with|some a=>(.ok a:Except g Bool)|none=> .error (pR b))=_);rw [c]
def y6{a:Str}(b:e8 a=none):gC (.ok a)= .error (pR a):=by refine(?_:(match e8 a with|some ah=>(.ok ah:Except g Bool)|none=> .error (pR a))=_);rw [b]
def er(f:N)(a:B)(c e:Nat)(r:o):Option (Except g Bool×o):=match(a.a6 c).te with
 | .raise b=>some (.error (ends b),r)
 | .mJ s=>(f s e r).map λd=>(gC d.1,d.2)
 | .iY b=>some (gC (.ok (cn b)),r)
 | .size aj=>some (gC (.ok (match(decide ((r.get aj).val.length<(a.a6 c).oe)) !=(a.a6 c).n6 with|true=>d7|false=>c4)),r)
noncomputable def fF{b:Type}(d:Option (b×o))(c:b->o->dU):dU:=match d with
 |none=>none
 |some a=>c a.1 a.2
inductive BC{b:Type}(c:Option (b×o))(f:b->o->dU)(d:g×o):Prop
 |mk (a:b) (r:o):c=some (a,r)->f a r=some d->BC c f d
def fe{f:Type}{a:Option (f×o)}{b:f->o->dU}{e:g×o}(c:fF a b=some e):BC a b e:=by
 induction a using Option.casesOn with
 |none=>cases c
 |some d=>exact⟨d.1,d.2,rfl,c⟩
def nr{e:Type}{b:Option (e×o)}{f:e->o->dU}(g:∃a,b=some a) (k:∀d r,b=some (d,r)->∃c,f d r=some c):∃c,fF b f=some c:=by obtain⟨a,rfl⟩:=g;exact k a.1 a.2 rfl
def hN(a:B)(r:o)(b:o->dU):dU:=cond (decide (a.F<r.S+1)) (some (.C,r.a)) (b r.a)
abbrev aw(k j:Nat):Bool:=Int.beq' (Int.ofNat k) (Int.ofNat j)
def ma{a b:Nat}(c:a≠b):aw a b=false:=Bool.eq_false_iff.mpr λd=>c (dR d)
def n5{a b:Nat}(c:aw a b=true):a=b:=dR c
def cz:g->Bool
 | .ok _=>true
 | .M k _ _ _ _=>aw k 4
 | .C=>false
def dw(d:g):g->g
 | .ok aj=> .ok aj
 | .M k aj a b c=>cond (aw k 3) d (.M k aj a b c)
 | .C=> .C
def cF:g->Bool
 | .ok _=>true
 |_=>false
def gq(c:N)(d:Option Nat)(b:Nat)(a:g)(r:o):dU:=cond (cz a) (match d with
 |none=>some (.ok H,r)
 |some e=>c e b r) (some (a,r))
def g6:Except g Bool->g
 | .ok _=> .ok H
 | .error a=>a
noncomputable def iy:Except g Bool->Bool
 | .ok ah=>ah
 | .error _=>false
def fO(c:N)(d:B)(h e:Nat)(f:Option Nat)(a:Nat):Nat->o->dU
 |0,_=>none
 |i+1,r=>fF (er c d h a r) λg r=>cond (iy g) (hN d r λr=>fF (c e a r) λb r=>fF (gq c f a b r) λb r=>cond (cF b) (fO c d h e f a i r) (some (dw (.ok H) b,r))) (some (g6 g,r))
def f9(a:List Str):g->List Str
 | .ok aj=>a++[aj]
 |_=>a
def fP(f:N)(d:B)(m:Bool)(h e:Nat):Nat->List bH->List Str->o->dU
 |0,_,_,_=>none
 |i+1,b,c,r=>cond (fI b) (some (gs m c,r)) (hN d r λr=>fF (f h e (cg b r).2) λa g=>
   cond (cz a) (fP f d m h e i (cg b r).1 (f9 c a) g) (some (dw (gs m c) a,g)))
def hM(c:N)(f:B)(g:Nat)(d i h e a:Nat)(r:o):dU:=fF (c d a r) λb r=>cond (cF b) (fO c f i e (some h) a g r) (some (b,r))
def s2(d:N)(e:B)(g:Nat)(h:aI)(c:Nat)(b r:o):dU:=match h with
 | .gb _=>none
 | .kW a s=>fO d e a s none c g r
 | .eK ai a k ah=>hM d e g ai a k ah c r
 | .f3 m i s=>(match bQ m b i with
  | .error f=>some (f,r)
  | .ok l=>fP d e m s c g l [] r)
 | .brk=>some (.M 3 H [bC] 0 0,r)
 | .cont=>some (.M 4 H [bC] 0 0,r)
 | .n1 aj=>some (.ok ((b.get aj).val++iB),r.bG aj ((b.get aj).val++iB))
 | .iv aj a=>some (.ok (a.res b),r.bG aj (a.res b))
 | .dc a=>some (.ok (a.res b),r.dc (.str (a.res b)))
 | .raise j=>some (ends j,r)
 | .go s=>d s c r
 | .call s=>fF (d s c r) λf r=>some (hg f,r)
 | .e' n=>some (yU n,r)
def isNone:aI->Bool
 | .gb _=>true
 |_=>false
def hK(e:N)(a:B)(d:Nat)(b:aI)(c:Nat)(r:o):dU:=cond (isNone b) (some (yT,r)) (hN a r λf=>s2 e a d b c r f)
def yt{f:N}{a:B}{e:Nat}{b:aI}{d:Nat}{r:o}{g:dU}(i:isNone b=false)(h:decide (a.F<r.S+1)=false)(c:hK f a e b d r=g):s2 f a e b d r r.a=g:=by unfold hK hN at c;rw [i,h] at c;exact c
def ys{g:N}{b:B}{f:Nat}{c:aI}{e:Nat}{r:o}{d:dU}(i:isNone c=false)(h:decide (b.F<r.S+1)=true)(a:hK g b f c e r=d):some (.C,r.a)=d:=by unfold hK hN at a;rw [i,h] at a;exact a
def jO:g->Str
 | .ok aj=>aj
 |_=>H
def hL(e:N)(b:B)(d:Nat)(c:Nat):List aI->Str->o->dU
 |[],aj,r=>some (.ok aj,r)
 |f::g,_,r=>fF (hK e b d f c r) λa r=>cond (cF a) (hL e b d c g (jO a) r) (some (a,r))
def dP(a:B)(b:Nat):Nat->N
 |0,_,_,_=>none
 |d+1,c,ap,r=>match Nat.beq ap a.L with
  |true=>some (nM,r)
  |false=>hL (dP a b d) a b (ap+1) (a.aW c) H (r.dc (dM c (ap+1)))
end
noncomputable abbrev q(a:Nat):Y:= .int (Int.ofNat a)
structure M where
 L:Nat
 F:Nat
 D:Nat
 r:o
 aW:List (Str×Y)
 a6:List (Str×Y)
def PK(a:M):ae:= .dict [(sJ,.obj 2),(sI,.obj 3),(kI,q a.L),(jD,q a.F),(sD,q a.D),(kJ,q a.r.S),(sE,q 0),(sH,.none),(sC,.none),(oi,.obj 4),(sB,.obj 5),(sG,.obj 6)]
def Wl:ae:= .dict [(v8,.d 718),(v7,.d 732),(ml,.obj 8),(mn,.obj 9),(mm,.obj 7)]
def J1:ae:= .dict [(dF,.l [.d 343,.none]),(c3,.l [.d 350,.none]),(dD,.l [.d 371,.str dD]),(dE,.l [.d 371,.str dE]),(fs,.l [.d 378,.none]),(ft,.l [.d 385,.none]),
 (eM,.l [.d 739,.obj 7]),(iS,.l [.d 739,.obj 7]),(jF,.l [.d 739,.obj 7]),(ir,.l [.d 739,.obj 7]),(fu,.l [.d 739,.obj 7]),(ep,.l [.d 739,.obj 7])]
def N':ae:= .dict [(dF,.bool true),(c3,.bool true),(dD,.bool true),(dE,.bool true),(fs,.bool true),(ft,.bool true)]
def qL(a:np)(b:Nat):ae:= .dict [(Ff,.str Fj),(v9,.str a.val),(Fk,.obj b),(Fc,.bool false),(Fd,.bool false),(Fl,q a.wr)]
def e(a:M):List ae:=[.bj 664 1,PK a,Wl,.dict [],.dict [(eO,.obj 10),(fv,.obj 13),(hf,.obj 16)],J1,N',.c a.r.U,.dict a.aW,.dict a.a6,
 .bj 416 11,qL a.r.x 12,.c [],.bj 416 14,qL a.r.y 15,.c [],.bj 416 17,qL a.r.z 18,.c []]
def rm{n a:Nat}(c:n+1<=a):∃b,a=b+n+1:=⟨a-(n+1),(hT c).symm⟩
def z{P Q:Prop}(b:P)(a:P=Q):Q:=a▸b
def sO{a:Type}{c:Option a}{v:a}{b:a->Prop}{e:Unit->Prop}(d:c=some v)(k:b v):ab.v.match_1 (λf=>Prop) c b e:=by subst d;exact k
def sT{b:Bool}{a c:Prop}(d:b=true)(k:a):cond b a c:=by subst d;exact k
def sF{b:Bool}{c a:Prop}(d:b=false)(k:a):cond b c a:=by subst d;exact k
abbrev cu{a:Type}(c:Option a)(b:a->Prop):Prop:=ab.v.match_1 (λd=>Prop) c b λd=>False
def oP{a:Type}{b:Option a}{v:a}{f:a->Prop}(c:b=some v)(k:f v):cu b f:=c▸k
def av(r:O)(e:Option Y)(d:aL)(c:List Y)(f:St)(a b:af):Prop:=(lz r e d c f).A a b
def aU(r:O)(c:I)(b:af)(d:List Stmt)(e:St)(a:Q):Prop:=(cU r c d e).A a b
def A(r:O)(d:I)(e:Nat)(c:List Stmt)(f:St)(a:Q)(b:af):Prop:=match t c e with
 |some s=>(r.S d s f).A a b
 |none=>False
def We(r:O)(c:I)(d:List Stmt)(a:bg)(b:St):ab bg:=match a with
 | .next=>cU r c d b
 |a=> .ret a b
def eT(r:O)(d:I)(b:af)(c:List Stmt)(f:Nat)(a:Q):Q:=λe g=>(We r d (aT f c) e g).A a b
def bm{r:O}{f:I}{e:af}(a:Nat){body:List Stmt}{j:St}{g:Q}(c:A r f a body j (eT r f e body (a+1) g) e):aU r f e (aT a body) j g:=by
 have d:∀(a:Nat)(b:List Stmt),match t b a with|some s=>aT a b=s::aT (a+1) b|none=>True:=by
  intro a;induction a with
  |zero=>intro b;cases b with
   |nil=>trivial
   |cons s b=>rcases b with _|⟨_,_⟩<;>rfl
  |succ a k=>intro b;cases b with
   |nil=>trivial
   |cons s b=>exact k b
 have d:=d a body;unfold A at c;induction i:t body a using Option.casesOn with
 |none=>rw [i] at c;exact c.elim
 |some s=>rw [i] at c d;refine h (d ..) ?_;exact c
structure Go(P:Prop):Prop where
 go:P
def j{r:O}{c:I}{b:af}(a:Nat){body:List Stmt}{e:St}{d:Q}(f:Go (A r c a body e (eT r c b body (a+1) d) b)):Go (aU r c b (aT a body) e d):=⟨bm a f.go⟩
def aB{r:O}{d:I}{b:af}{e:Nat}{c:List Stmt}{f:St}{a:Q}(g:Go (aU r d b (aT e c) f a)):Go (eT r d b c e a .next f):=g
def e4{r:O}{f:I}{d:af}{h:Nat}{e:List Stmt}{b:St}{a:Q}{c:Y}(g:Go (a (.ret c) b)):Go (eT r f d e h a (.ret c) b):=g
def a9{a b:Prop}(d:Go a)(c:a=b):Go b:=c▸d
def aY{b:Bool}{a Q:Prop}(d:b=true)(c:a):cond b a Q:=d▸c
def dX{b:Bool}{c a:Prop}(e:b=false)(d:a):cond b c a:=e▸d
def fG{a:Bool}{b c:Prop}(e:a=true->b)(d:a=false->c):cond a b c:=by
 rcases a with _|_
 . exact d rfl
 . exact e rfl
def qp{a:Bool}(b:a=false):(!a)=true:=b▸rfl
def fK(c:List (Str×Y))(a:af):Q:=λb d=>a (mD b) ⟨d.objs,c⟩
def fX(c:List (Str×Y))(b:af):af:=λa d=>iX a d λe=>b a ⟨e.objs,c⟩
def y9{r:O}{a:aL}{f:List Y}{b md:List (Str×Y)}{c ms:List ae}{cx:I}{d e:af}(o:kf none a ⟨c,b⟩=cx)
  (n:∀h m,(ab.v (gQ a.names f a.jj) λi=>kb cx i ⟨iJ a.scope.names c,[]⟩:ab Unit).A h m=h () ⟨ms,md⟩)
  (l:Go (aU r cx (fX b e) (aT 0 a.body) ⟨ms,md⟩ (fK b d))):av r none a f ⟨c,b⟩ d e:=by
 subst o;have g:=(n (λk p=>(uI r (kf none a ⟨c,b⟩) a.body b p).A d e) λk k=>False).symm▸(show(uI r (kf none a ⟨c,b⟩) a.body b ⟨ms,md⟩).A d e from l.go);refine(?_:(lz r none a f ⟨c,b⟩).A d e);unfold lz;induction j:gQ a.names f a.jj using Option.casesOn with
 |none=>rw [j] at g;exact g
 |some i=>rw [j] at g;exact g
def qa{a:g}(c:cF a=true):∃b,a= .ok b:=by
 induction a using g.casesOn with
 |ok b=>exact⟨b,rfl⟩
 |_=>cases c
def AI{b:B}{r:o}{d:o->dU}{c:g×o}(a:hN b r d=some c):(decide (b.F<r.S+1)=true/\c=(.C,r.a))\/(decide (b.F<r.S+1)=false/\d r.a=some c):=by
 unfold hN at a;induction e:decide (b.F<r.S+1) using Bool.casesOn with
 |true=>rw [e] at a;cases a;exact .inl ⟨rfl,rfl⟩
 |false=>rw [e] at a;exact .inr ⟨rfl,a⟩
def C1{e:Type}{a d b:e}(c:cond true a d=b):a=b:=c
def Kb{e:Type}{d a b:e}(c:cond false d a=b):a=b:=c
inductive rg(go:N)(c:B)(e b:Nat)(f:Option Nat)(d i:Nat)(r:o):g->o->Prop
 |ti (m:Except g Bool) (a:o):er go c e d r=some (m,a)->iy m=false->rg go c e b f d i r (g6 m) a
 |C (a:o):er go c e d r=some (.ok true,a)->decide (c.F<a.S+1)=true->rg go c e b f d i r .C a.a
 |fM (a:o) (h:g) (j:o) (l:g) (k:o):er go c e d r=some (.ok true,a)->decide (c.F<a.S+1)=false->go b d a.a=some (h,j)->gq go f d h j=some (l,k)->cF l=false->rg go c e b f d i r (dw (.ok H) l) k
 |next (a:o) (h:g) (j:o) (v:Str) (k:o) (n:g) (p:o):er go c e d r=some (.ok true,a)->decide (c.F<a.S+1)=false->go b d a.a=some (h,j)->gq go f d h j=some (.ok v,k)->fO go c e b f d i k=some (n,p)->rg go c e b f d i r n p
def v1{q:N}{k:B}{x c:Nat}{u:Option Nat}{l p:Nat}{r v:o}{m:g}(a:fO q k x c u l (p+1) r=some (m,v)):rg q k x c u l p r m v:=by
 obtain⟨h,j,f,a⟩:=fe a;cases b:iy h with
 |false=>rw [b] at a;cases a;exact .ti h _ f b
 |true=>
  rw [b] at a;obtain rfl:h= .ok true:=by
   induction h using Except.casesOn with
   |error i=>cases b
   |ok c=>cases c with
    |true=>rfl
    |false=>cases b
  rcases AI (C1 a) with⟨d,y⟩|⟨d,a⟩
  . cases y;exact .C j f d
  . obtain⟨i,w,t,a⟩:=fe a;obtain⟨n,z,s,a⟩:=fe a;cases e:cF n with
    |false=>rw [e] at a;cases a;exact .fM j i w n _ f d t s e
    |true=>
     rw [e] at a;obtain⟨A,rfl⟩:=qa e;exact .next j i w A z _ _ f d t s a
inductive rk(go:N)(c:B)(m:Bool)(s d f:Nat)(a:List bH)(e:List Str)(r:o):g->o->Prop
 |done:fI a=true->rk go c m s d f a e r (gs m e) r
 |C:fI a=false->decide (c.F<r.S+1)=true->rk go c m s d f a e r .C r.a
 |fM (b:g) (h:o):fI a=false->decide (c.F<r.S+1)=false->go s d (cg a r.a).2=some (b,h)->cz b=false->rk go c m s d f a e r (dw (gs m e) b) h
 |next (b:g) (h:o) (i:g) (j:o):fI a=false->decide (c.F<r.S+1)=false->go s d (cg a r.a).2=some (b,h)->cz b=true->fP go c m s d f (cg a r.a).1 (f9 e b) h=some (i,j)->rk go c m s d f a e r i j
def Gg{p:N}{f:B}{m:Bool}{s l n:Nat}{c:List bH}{j:List Str}{r k:o}{i:g}(a:fP p f m s l (n+1) c j r=some (i,k)):rk p f m s l n c j r i k:=by
 replace a:cond (fI c) (some (gs m j,r)) (hN f r _)=some (i,k):=a;induction b:fI c using Bool.casesOn with
 |true=>rw [b] at a;cases a;exact .done b
 |false=>
  rw [b] at a;rcases AI (Kb a) with⟨d,t⟩|⟨d,a⟩
  . cases t;exact .C b d
  . obtain⟨h,u,q,a⟩:=fe a;cases e:cz h with
    |false=>rw [e] at a;cases a;exact .fM h _ b d q e
    |true=>rw [e] at a;exact .next h u _ _ b d q e a
def c2{r:O}{a:aL}{g:List Y}{c cr:List (Str×Y)}{b:List ae}{d f:af}(l:kf none a ⟨b,c⟩=⟨a.scope,none,[]⟩)(k:∀e i,(ab.v (gQ a.names g a.jj) λj=>kb ⟨a.scope,none,[]⟩ j ⟨iJ a.scope.names b,[]⟩:ab Unit).A e i=e () ⟨b,cr⟩)
  (h:Go (aU r ⟨a.scope,none,[]⟩ (fX c f) (aT 0 a.body) ⟨b,cr⟩ (fK c d))):av r none a g ⟨b,c⟩ d f:=y9 l k h
def nx{r:O}{d:I}{b:af}{i:Nat}{c:List Stmt}{e:St}{a:Q}(f:aU r d b (aT i c) e a):eT r d b c i a .next e:=f
def rt{r:O}{cx:I}{X:af}{i:Nat}{body:List Stmt}{st:St}{a:af}{b:List (Str×Y)}{c:Y}(d:a c ⟨st.objs,b⟩):eT r cx X body i (fK b a) (.ret c) st:=d
structure hu where
 code:Nat
 aj:Str
 ec:List Str
 n':Nat
 ret:Nat
 PX:Str
 Td:Bool
 yE:Bool
inductive cj where
 |a7 (b:hu)|C (a:Bool)
def el(a:hu)(b:Y):List (Str×Y):=[(E9,q a.code),(v9,.str a.aj),(E',.l (y a.ec)),(Fg,q a.n'),(Fi,q a.ret),(Fb,.str a.PX),(Fe,.bool a.Td),(Fh,q 0),(Fa,b)]
def D9:List (Str×Y):=[(SD,.str Bk)]
def cj.objs(b:Nat):cj->List ae
 | .a7 a=>[.dict (el a (.c [])),.ar 84 (some b) [.str a.aj] true a.yE]
 | .C c=>[.dict D9,.ar 63 (some b) [.str Bk] true c]
def dh(k:Nat)(c:List ae)(f:Y):cj->Prop
 | .a7 d=>∃b a e,f= .obj b/\k<=b/\k<=a/\b≠a/\t c b=some (.ar 84 (some a) [.str d.aj] true d.yE)/\t c a=some (.dict (el d e))/\
   (e= .c []\/∃j,e= .obj j/\k<=j/\j≠b/\j≠a/\t c j=some (.c []))
 | .C g=>∃b a,f= .obj b/\k<=b/\k<=a/\b≠a/\t c b=some (.ar 63 (some a) [.str Bk] true g)/\t c a=some (.dict D9)
theorem b5{k:Nat}:∀(a:List Str),aH k (y a)
 |[]=>trivial
 |_::a=>⟨u,b5 a⟩
def qs{k b a:Nat}{c:List Nat}(d:k<=a):cm (List.range k) b c a=hh c a b:=by unfold cm;rw [aZ,List.length_range,show Nat.blt a k=false from Bool.eq_false_iff.mpr λe=>absurd (c8 e) (Nat.not_lt.mpr d)];rfl
def hj{a b:Nat}{c:List Nat}:hh (a::c) a b=some b:=by refine(?_:cond (Nat.beq a a) _ _=_);rw [Nat.beq_refl];rfl
def oA{b a d:Nat}{c:List Nat}(e:b≠a):hh (b::c) a d=hh c a (d+1):=by refine(?_:cond (Nat.beq b a) _ _=_);rw [show Nat.beq b a=false from Bool.eq_false_iff.mpr λf=>e (Nat.eq_of_beq_eq_true f)];rfl
def Ag{k:Nat}{c:Nat->Option Nat}{d P' J:List ae}(b:P'.length=k)(a:dn k P'):hw k c d (es (C (List.range k)) (P'++J)) P':=by rw [kP,aZ,List.length_range,List.take_left' b];exact .same a
def DD{k n:Nat}{P' J:List ae}{lc:List (Str×Y)}{i:Y}{o:cj}(w:P'.length=k)(v:dn k P')(r:dh k (P'++J) i o):
  ∃s,ht k (List.range k) n s ⟨P'++J,lc⟩ P' (o.objs n)/\bL k (cm (List.range k) n s) (P'++J) i (.obj (n+1)):=by
 have q:∀{a b:Nat}{p:List ae},k<=a->k<=b->a≠b->i= .obj a->dT k (cm (List.range k) n [b,a]) (P'++J) (P'++J) [b,a] p->ht k (List.range k) n [b,a] ⟨P'++J,lc⟩ P' p/\bL k (cm (List.range k) n [b,a]) (P'++J) i (.obj (n+1)):=λd c e f x=>
  ⟨⟨Ag w v,x,λj m=>by refine h (List.length_range ..) ?_;exact(List.mem_cons.mp m).elim (λg=>g▸c) λg=>List.mem_singleton.mp g▸d,List.nodup_cons.mpr ⟨λg=>e (List.mem_singleton.mp g).symm,List.nodup_cons.mpr ⟨cB,q2⟩⟩⟩,f▸.obj ((qs d).trans ((oA (i7 e)).trans hj))⟩
 rcases o with C|B
 . obtain⟨a,b,D,f,d,c,e,l,e2,y⟩:=r;refine⟨[b,a],q d c e f (.cons e2 (.dict ?_) (.cons l (.ar ((qs c).trans hj) (.cons (.same u) .nil)) .nil))⟩;refine .cons (.same u) (.cons (.same u) (.cons (.same (show aH k _ from b5 _)) (.cons (.same u) (.cons (.same u) (.cons (.same u) (.cons (.same u) (.cons (.same u) (.cons ?_ .nil))))))));rcases y with rfl|⟨j,rfl,m,z,A,t⟩
   . exact .same u
   . exact .fr ((qs m).trans ((oA (i7 A)).trans (oA (i7 z)))) t .nil
 . obtain⟨a,b,f,d,c,e,l,e2⟩:=r;exact⟨[b,a],q d c e f (.cons e2 (.dict (.cons (.same u) .nil)) (.cons l (.ar ((qs c).trans hj) (.cons (.same u) .nil)) .nil))⟩
structure M.Ok(w:M):Prop where
 U:aH 19 w.r.U
 aW:bB 19 w.aW
 a6:bB 19 w.a6
def M.Ok.cL{b:M}(a:b.Ok):dn 19 (e b):=by
 refine⟨(a' rfl:1<19),?_,?_,u,?_,?_,?_,a.U,a.aW,a.a6,(a' rfl:11<19),?_,u,(a' rfl:14<19),?_,u,(a' rfl:17<19),?_,u,u⟩;all_goals
  repeat' first|exact u|exact a' rfl|refine And.intro ?_ ?_
abbrev NM:aL:=c (db 54 2) []
abbrev NL:aL:=c (db 61 5) []
abbrev NN:aL:=c (db 61 6) []
noncomputable abbrev M.st(w:M)(r:o):M:={w with r:=r}
def Vi(m:Frag)(a:M)(k n:Nat)(d g:af)(h:decide (a.F<a.r.S+1)=false->∀b c,d .none ⟨e (a.st a.r.a)++b,c⟩)
  (i:decide (a.F<a.r.S+1)=true->∀b c l,dh 19 (e (a.st a.r.a)++b) l (.C false)->g l ⟨e (a.st a.r.a)++b,c⟩):av (x (f m) [] (k+100) (n+3)) none NM [.obj 0] ⟨e a,[]⟩ d g:=by
 have o:decide (Int.ofNat a.F<Int.ofNat a.r.S+1)=decide (a.F<a.r.S+1):=by apply decide_eq_decide.mpr;refine(?_:(a.F:Int)<(a.r.S:Int)+1↔_);exact Int.ofNat_lt
 conv=>whnf
 rw [<-o] at h i;rcases j:decide ((Int.ofNat a.F)<Int.ofNat a.r.S+1) with _|_
 . conv=>whnf
   exact h j [] _
 . conv=>whnf
   refine i j [_,_] _ _ ⟨19,20,rfl,by decide,by decide,by decide,rfl,rfl⟩
def Ug(g:Frag)(b:M)(a:Vn)(k i:Nat)(c h:af)(j:∀d l,c (.str (b.r.get a).val) ⟨e b++d,l⟩):av (x (f g) [] (k+100) (i+6)) none NL [.obj 0,.str a.str] ⟨e b,[]⟩ c h:=by
 rcases a with _|_|_;all_goals
  apply z (j [] []);kernel_rfl
def Xu(h:Frag)(c:M)(a:Vn)(b:Str)(k j:Nat)(d i:af)(l:∀g m,d (.str b) ⟨e (c.st (c.r.bG a b))++g,m⟩):av (x (f h) [] (k+100) (j+6)) none NN [.obj 0,.str a.str,.str b] ⟨e c,[]⟩ d i:=by
 rcases a with _|_|_;all_goals
  apply z (l [] []);kernel_rfl
def lW{g:au}{p:Program}{m:ay}{n:Nat}{r:O}{v:aL}{t:Nat}{k:List Y}{b:M}{G:List ae}{lc:List (Str×Y)}{i j:af}(x:aC g.hb m)(C:b1 ⟨g,p,m,n,r⟩)(I:fc g.hb t v)(T:b.Ok)(D:aH 19 k)
  (z:∀q s:af,(∀a J f c h,M.Ok a->bL 19 (cm (List.range 19) (19+G.length) []) (e a++J) c h->i h ⟨e a++G,lc⟩->q c ⟨e a++J,f⟩)->
    (∀a J f c l,M.Ok a->dh 19 (e a++J) c l->j (.obj (19+G.length+1)) ⟨e a++(G++l.objs (19+G.length)),lc⟩->s c ⟨e a++J,f⟩)->Mine.Internal.av r none v k ⟨e b,[]⟩ q s):Made g p t (n+1) k ⟨e b++G,lc⟩ i j:=by
 rintro X Z ⟨XF,XH,XE,XC⟩ XG rfl K L E R V y w Q F;have u:(e b++G).length=19+G.length:=eV;refine d.rC (k:=⟨g,p,m,n,r⟩) (n:=19) (ix:=List.range 19) x C I K L E R V i j (.mk (e b) k xG (λXD N=>tX N) (Aj (ob:=e b++G) rfl T.cL) (.same D) (z _ _ (λa J f c h o S P=> ?_) λa J f c l o H U=> ?_)) y w Q F
 . refine .mk [] (e a) [] lc h (pU rfl o.cL) rfl (u.symm▸S) ?_;refine(?_:i h ⟨fx (List.range 19) (e a) (e b++G)++[],lc⟩);rw [List.append_nil,qv (k:=19) (P':=e a) (P:=e b) (G:=G) rfl rfl];exact P
 . obtain⟨W,A,B⟩:=DD (k:=19) (P':=e a) (J:=J) (n:=(e b++G).length) (lc:=f) rfl o.cL H;refine .mk W (e a) _ lc _ A rfl B ?_;refine(?_:j (.obj ((e b++G).length+1)) ⟨fx (List.range 19) (e a) (e b++G)++l.objs (e b++G).length,lc⟩);rw [qv (k:=19) (P':=e a) (P:=e b) (G:=G) rfl rfl,u,List.append_assoc];exact U
inductive hW(d:Nat)(args:List Y)(st:St)(K X:af):Prop
 |mk (a b c):M.Ok a->args=[.obj 0]->st=⟨e a++b,c⟩->4<=d->(decide (a.F<a.r.S+1)=false->K .none ⟨e (a.st a.r.a)++b,c⟩)->(decide (a.F<a.r.S+1)=true->X (.obj (19+b.length+1)) ⟨e (a.st a.r.a)++(b++(cj.C false).objs (19+b.length)),c⟩)->hW d args st K X
inductive m3(d:Nat)(args:List Y)(st:St)(K X:af):Prop
 |mk (a b c f):M.Ok a->args=[.obj 0,.str (Vn.str f)]->st=⟨e a++b,c⟩->7<=d->K (.str (a.r.get f).val) ⟨e a++b,c⟩->m3 d args st K X
inductive lb(d:Nat)(args:List Y)(st:St)(K X:af):Prop
 |mk (a c f g b):M.Ok a->args=[.obj 0,.str (Vn.str g),.str b]->st=⟨e a++c,f⟩->7<=d->K (.str b) ⟨e (a.st (a.r.bG g b))++c,f⟩->lb d args st K X
section
variable{C:au}{p:Program}{a:Frag}
def M.Ok.bG{b:M}(a:b.Ok)(c:Vn)(d:Str):(b.st (b.r.bG c d)).Ok:=by rcases c with _|_|_<;>exact⟨a.U,a.aW,a.a6⟩
def bt{ct:List (Nat×bF)}(d:aC C.hb (f a))(e:aV (f a))(g:∀b,dS (C.more b) p ct) (k c:Nat):b1 ⟨C,p,f a,c,x (f a) ct k c⟩:=λb=>DH d e g k c b
def tf(e:aC C.hb (f a))(i:aV (f a)):az C p 449 hW:=by
 rintro c y z w x ⟨t,v,d,b,rfl,rfl,m,n,hX⟩;obtain⟨c,rfl⟩:∃l,c=l+3+1:=⟨c-4,(hT m).symm⟩;exact lW e (bt (ct:=[]) e i (λA=>trivial) 100 (c+3)) (e.fn 449 _ rfl) b (show aH 19 [.obj 0] from⟨(a' rfl:0<19),u⟩) λj k q r=>
  Vi a t 0 c j k (λh g d=>q _ g d _ _ ⟨b.U,b.aW,b.a6⟩ (.same u) (n h)) λh g d s o=>r _ g d s _ ⟨b.U,b.aW,b.a6⟩ o (hX h)
def At(c:aC C.hb (f a))(h:aV (f a)):az C p 597 m3:=by
 rintro b v x s t ⟨q,r,e,g,d,rfl,rfl,m,n⟩;obtain⟨b,rfl⟩:∃l,b=l+6+1:=⟨b-7,(hT m).symm⟩;exact lW c (bt (ct:=[]) c h (λy=>trivial) 100 (b+6)) (c.fn 597 _ rfl) d (show aH 19 [.obj 0,.str (Vn.str g)] from⟨(a' rfl:0<19),u,u⟩) λj k o w=>
  Ug a q g 0 b j k λi e=>o _ i e _ _ d (.same u) n
def HD(c:aC C.hb (f a))(i:aV (f a)):az C p 604 lb:=by
 rintro b w y t v ⟨r,s,h,d,e,g,rfl,rfl,n,o⟩;obtain⟨b,rfl⟩:∃m,b=m+6+1:=⟨b-7,(hT n).symm⟩;exact lW c (bt (ct:=[]) c i (λz=>trivial) 100 (b+6)) (c.fn 604 _ rfl) g (show aH 19 [.obj 0,.str (Vn.str d),.str e] from⟨(a' rfl:0<19),u,u,u⟩) λk l q x=>
  Xu a r d e 0 b k l λj h=>q _ j h _ _ (g.bG d e) (.same u) o
end
def fw{e:au}{p:Program}{i:ay}{n:Nat}{r:O}{s:aL}{q:Nat}{h:List Y}{a:St}{g j:af}(v:aC e.hb i)(A:b1 ⟨e,p,i,n,r⟩)(F:fc e.hb q s)(B:aH 0 h)
  (x:∀l o:af,(∀J c b f,bL 0 (cm [] a.objs.length []) J b f->g f a->l b ⟨J,c⟩)->(∀J c b k,dh 0 J b k->j (.obj (a.objs.length+1)) ⟨a.objs++k.objs a.objs.length,a.d⟩->o b ⟨J,c⟩)->Mine.Internal.av r none s h ⟨[],[]⟩ l o):Made e p q (n+1) h a g j:=by
 rintro S T m V rfl G H C M Q w t L D;refine d.rC (k:=⟨e,p,i,n,r⟩) (n:=0) (ix:=[]) v A F G H C M Q g j (.mk [] h .nil (λU I=>absurd I (eu _)) .nil (.same B) (x _ _ (λJ c b f N K=> ?_) λJ c b k E P=> ?_)) w t L D
 . refine .mk [] [] [] m.st.d f (pU (k:=0) (P':=[]) rfl u) rfl N ?_;refine(?_:g f ⟨m.st.objs++[],m.st.d⟩);rw [List.append_nil];exact K
 . obtain⟨R,y,z⟩:=DD (k:=0) (P':=[]) (J:=J) (n:=m.st.objs.length) (lc:=c) rfl u E;exact .mk R [] _ m.st.d _ y rfl z P
def qC(a b:Nat):Fast.sEq ⟨#[a]⟩ ⟨#[b]⟩=Nat.beq a b:=by rw [Bool.eq_iff_iff,Fast.sEq_iff,Nat.beq_eq];simp
def e0(a:Nat):Bool:=dI ⟨#[a]⟩ [⟨#[32]⟩,⟨#[9]⟩,⟨#[10]⟩,⟨#[11]⟩,⟨#[12]⟩,⟨#[13]⟩]
noncomputable def l0(c b:Int)(a:Nat):Bool:=decide (c<=Int.ofNat a)&&decide (Int.ofNat a<=b)
def pO(a:Nat):Int:=cond (l0 48 57 a) (Int.ofNat a-48) (cond (l0 97 122 a) (Int.ofNat a-87) (cond (l0 65 90 a) (Int.ofNat a-55) (-1)))
def dg{a b:Bool}{d c:Prop}(f:(a&&b)=true->d)(e:(a&&b)=false->c):cond a (cond b d c) c:=by
 induction a using Bool.casesOn with
 |false=>exact e rfl
 |true=>induction b using Bool.casesOn with
  |false=>exact e rfl
  |true=>exact f rfl
abbrev NE:aL:=c (m 15) []
abbrev NJ:aL:=c (m 16) []
def I2(d:Frag)(b:Nat)(k g:Nat)(c:List ae)(a e:af)(h:∀i,a (.bool (e0 b)) ⟨c,i⟩):av (x (f d) [] (k+100) g) none NE [.str ⟨#[b]⟩] ⟨c,[]⟩ a e:=by apply z (h []);kernel_rfl
def Lo(o:Frag)(a:Nat)(k q:Nat)(d:List ae)(b p:af)(r:∀s,b (.int (pO a)) ⟨d,s⟩):av (x (f o) [] (k+100) q) none NJ [.str ⟨#[a]⟩] ⟨d,[]⟩ b p:=by have l:∀(h g:Int){n:Y}{j:Prop},(l0 h g a=true->b n ⟨d,[]⟩)->(l0 h g a=false->j)->cond (decide (h<=Int.ofNat a)) (cond (decide (Int.ofNat a<=g)) (b n ⟨d,[]⟩) j) j:=λh g=>dg;have c:b (.int (cond (l0 48 57 a) (Int.ofNat a-48) (cond (l0 97 122 a) (Int.ofNat a-87) (cond (l0 65 90 a) (Int.ofNat a-55) (-1))))) ⟨d,[]⟩:=r [];apply z (l 48 57 (λe=>(by rw [e] at c;exact c:b (.int (Int.ofNat a-48)) _)) λe=>l 97 122 (λi=>(by rw [e,i] at c;exact c:b (.int (Int.ofNat a-87)) _)) λi=>l 65 90 (λm=>(by rw [e,i,m] at c;exact c:b (.int (Int.ofNat a-55)) _)) λm=>(by rw [e,i,m] at c;exact c:b (.int (-1)) ⟨d,[]⟩));kernel_rfl
abbrev pe(a:Frag):Prop:=∀b c,da b (f a).cls=some c->c.ar=true->v6 (f a).K b=true
inductive j6(d:Nat)(args:List Y)(st:St)(K X:af):Prop
 |mk (c):args=[.str ⟨#[c]⟩]->1<=d->K (.bool (e0 c)) st->j6 d args st K X
inductive q6(d:Nat)(args:List Y)(st:St)(K X:af):Prop
 |mk (c):args=[.str ⟨#[c]⟩]->1<=d->K (.int (pO c)) st->q6 d args st K X
def rz{d:au}{p:Program}{c:Frag}(b:aC d.hb (f c))(g:pe c):az d p 181 j6:=by
 rintro a s v q r ⟨e,k,l,m⟩;subst k;obtain⟨a,rfl⟩:∃j,a=j+1:=⟨a-1,(hT l).symm⟩;exact fw b (bt (ct:=[]) b g (λw=>trivial) 100 a) (b.fn 181 _ rfl) (show aH 0 [.str ⟨#[e]⟩] from⟨u,u⟩) λh i n t=>
  I2 c e 0 a [] h i λo=>n _ o _ _ (.same u) m
def yO{d:au}{p:Program}{c:Frag}(b:aC d.hb (f c))(g:pe c):az d p 188 q6:=by
 rintro a s v q r ⟨e,k,l,m⟩;subst k;obtain⟨a,rfl⟩:∃j,a=j+1:=⟨a-1,(hT l).symm⟩;exact fw b (bt (ct:=[]) b g (λw=>trivial) 100 a) (b.fn 188 _ rfl) (show aH 0 [.str ⟨#[e]⟩] from⟨u,u⟩) λh i n t=>
  Lo c e 0 a [] h i λo=>n _ o _ _ (.same u) m
noncomputable def yw:List (Nat×bF):=[(181,j6),(188,q6)]
def Kg{a:au}{p:Program}{d:Frag}(b:aC a.hb (f d))(c:pe d):dS a p yw:=⟨rz b c,yO b c,u⟩
abbrev fl:aL:=c (m 19) []
abbrev g9:aL:=c (m 21) []
noncomputable def a(b:List Nat):Str:=⟨⟨b⟩⟩
def gd{a:Bool}(b:(!a)=true):a=false:=by rcases a with _|_<;>first|rfl|cases b
def p4{p:Nat->Bool}{a:Nat}{l:List Nat}(b:cA a l=true)(c:l.all p=true):p a=true:=by
 induction l with
 |nil=>cases b
 |cons d l f=>
  have b:cond (Nat.beq d a) true (cA a l)=true:=b;have c:=Bool.and_eq_true_iff.mp (show(p d&&l.all p)=true from c);cases e:Nat.beq d a with
  |true=>exact dR e▸c.1
  |false=>rw [e] at b;exact f b c.2
def lR{p:Nat->Bool}{b:Nat}{c:List Nat}(d:cA b c=true)(e:c.all (λa=> !p a)=true):p b=false:=gd (p4 (p:=λa=> !p a) d e)
def tC{b c a:Nat}(d:cA a [b,c]=true):a=b\/a=c:=by
 have d:cond (Nat.beq b a) true (cond (Nat.beq c a) true false)=true:=d;induction e:Nat.beq b a using Bool.casesOn with
 |true=>exact .inl (dR e).symm
 |false=>induction f:Nat.beq c a using Bool.casesOn with
  |true=>exact .inr (dR f).symm
  |false=>rw [e,f] at d;cases d
noncomputable abbrev A7:List Nat:=[97,98,99,100,46,123,118]
def AA:List Nat->Bool
 |[]=>false
 |al::_=>cA al [46,32]
def p6(a:Nat)(b:List Nat):Bool:=cA a A7||(cA a [48,49]&&AA b)
def fJ{i a:Nat}(b:i<a)(c:a<9223372036854775808):ck (Int.ofNat i) a=some i:=by refine(?_:cond (Nat.blt a 9223372036854775808) (cond (Nat.blt i a) (some i) none) none=some i);rw [Nat.blt_eq.mpr c,Nat.blt_eq.mpr b];rfl
def wL(b:Nat)(d:List Nat):Fast.sEq (a (b::d)) H=false:=by rw [Bool.eq_false_iff];intro c;have:=Fast.sEq_iff.mp c;cases this
def UT(b:Nat)(d:List Nat):Fast.sEq H (a (b::d))=false:=by rw [Bool.eq_false_iff];intro c;have:=Fast.sEq_iff.mp c;cases this
abbrev DQ:aL:=c (m 17) []
def ja(a:Nat):Bool:=decide (pO a<0)||decide ((10:Int)<=pO a)
def Lp(j:Frag)(b:Nat)(g:List Nat)(k m:Nat)(d l:af)(e:∀i o,d .none ⟨i,o⟩)
  (c:ja b=true):av (x (f j) yw (k+100) (m+10)) none DQ [.str (a (b::g)),.int 10] ⟨[],[]⟩ d l:=by
 conv=>whnf
 refine h (show Fast.sEq (a (b::g)) (Str.ofString "")=false from wL _ _) ?_;conv=>whnf
 conv=>whnf
 refine⟨b,rfl,by exact(aD _ _),?_⟩;conv=>whnf
 unfold ja at c;rcases n:decide (pO b<0) with _|_
 . rw [n,Bool.false_or] at c;conv=>whnf
   refine h (c ..) ?_;conv=>whnf
   exact e _ _
 . conv=>whnf
   exact e _ _
def Lq(l:Frag)(c b:Nat)(i:List Nat)(k n:Nat)(e m:af)(g:∀j q,e .none ⟨j,q⟩) (p:c=48\/c=49)
  (d:ja b=true):av (x (f l) yw (k+100) (n+10)) none DQ [.str (a (c::b::i)),.int 10] ⟨[],[]⟩ e m:=by
 unfold ja at d;rcases p with rfl|rfl;all_goals
  conv=>whnf
  refine h (show Fast.sEq (a (_::b::i)) (Str.ofString "")=false from wL _ _) ?_;conv=>whnf
  conv=>whnf
  refine⟨_,rfl,by exact(aD _ _),?_⟩;conv=>whnf
  conv=>whnf
  refine⟨_,rfl,by exact(aD _ _),?_⟩;conv=>whnf
  rcases o:decide (pO b<0) with _|_
  . rw [o,Bool.false_or] at d;conv=>whnf
    refine h (d ..) ?_;conv=>whnf
    exact g _ _
  . conv=>whnf
    exact g _ _
inductive t9(d:Nat)(args:List Y)(st:St)(K X:af):Prop
 |mk (c bn):args=[.str (a (c::bn)),.int 10]->11<=d->(ja c=true\/(c=48\/c=49)/\∃b e,bn=b::e/\ja b=true)->K .none st->t9 d args st K X
def Dk{i:au}{p:Program}{d:Frag}(c:aC i.hb (f d))(j:pe d):az i p 195 t9:=by
 rintro e A C x y ⟨g,o,s,t,b,m⟩;subst s;obtain⟨e,rfl⟩:=rm (n:=10) t;refine fw c (bt c j (λz=>(Kg c j)) 100 (e+10)) (c.fn 195 _ rfl) (show aH 0 [.str (a (g::o)),.int 10] from⟨u,u,u⟩) λk l n B=> ?_;rcases b with b|⟨v,r,w,rfl,b⟩
 . exact Lp d g o 0 e k l (λq h=>n _ h _ _ (.same u) m) b
 . exact Lq d g r w 0 e k l (λq h=>n _ h _ _ (.same u) m) v b
noncomputable def iM:List (Nat×bF):=[(181,j6),(188,q6),(195,t9)]
def Kh{c:au}{p:Program}{d:Frag}(a:aC c.hb (f d))(b:pe d):dS c p iM:=⟨rz a b,yO a b,Dk a b,u⟩
def Kx(a:Str):ds a (some 0) (some (Int.ofNat a.length))=a:=by unfold ds;refine h (show Builtin.Str.strSliceIndices (some 0) (some (Int.ofNat a.length)) 1 a.length=(List.range (a.length-0)).map (λk=>0+k) from PySem.StrLaws.strSliceIndices_plain (bU _) (cb _)) ?_;simp
structure lr(a:Str)(c:Nat):Prop where
 aE:Nat.blt a.length 9223372036854775808=true
 sz:Nat.ble a.length sizeLine=true
 pos:decide ((0:Int)<Int.ofNat a.length)=true
 i0:ck (0:Int) a.length=some 0
 n0:t a.cps.toList 0=some c
 vX:∃j b,ck (Int.ofNat a.length-1) a.length=some j/\t a.cps.toList j=some b/\e0 b=false
 bl:e0 c=false
 sg:dI ⟨#[c]⟩ [Str.ofString "+",Str.ofString "-"]=false
 d6:Fast.sEq ⟨#[c]⟩ (Str.ofString "0")=false\/c=48/\ck (1:Int) a.length=some 1/\(t a.cps.toList 1=some 46\/t a.cps.toList 1=some 32)
def Xx{c:Nat}{b:List Nat}(j:b.length<100000)(s:e0 c=false)(u:dI ⟨#[c]⟩ [Str.ofString "+",Str.ofString "-"]=false)(o:∃e,t (c::b) b.length=some e/\e0 e=false)
  (p:Fast.sEq ⟨#[c]⟩ (Str.ofString "0")=false\/c=48/\∃d k,b=d::k/\(d=46\/d=32)):lr (a (c::b)) c:=by
 have m:(a (c::b)).length=b.length+1:=rfl;have f:b.length+1<9223372036854775808:=eW j (by decide);obtain⟨e,q,r⟩:=o;refine⟨Nat.blt_eq.mpr f,Nat.ble_eq.mpr (L j (by decide)),iD (Int.ofNat_lt.mpr (gI _)),fJ (i:=0) (gI _) f,rfl,⟨b.length,e,?_,q,r⟩,s,u,p.imp id λ⟨l,d,k,i,n⟩=>⟨l,fJ (i:=1) ?_ f,?_⟩⟩
 . refine h (m ..) ?_;refine h (show Int.ofNat (b.length+1)-1=Int.ofNat b.length from by refine(?_:((b.length+1:Nat):Int)-1=(b.length:Int));simp) ?_;exact fJ (hV _) f
 . subst i;exact Nat.succ_lt_succ (gI _)
 . subst i;exact n.imp (λg=>by subst g;rfl) λg=>by subst g;rfl
section
variable{ao:Frag}{k d:Nat}{c:Q}{X:af}{b:Str}{e:Nat}
abbrev kX:I:=⟨fl.scope,none,[]⟩
noncomputable abbrev oS(b:Str):List (Str×Y):=[("text",.str b),("behind",.int (Int.ofNat b.length)),("first",.int 0)]
noncomputable abbrev xu(b:Str):List (Str×Y):=[("text",.str b),("behind",.int (Int.ofNat b.length)),("first",.int 0),("is_minus",.bool false)]
noncomputable abbrev xv(b:Str):List (Str×Y):=[("text",.str b),("behind",.int (Int.ofNat b.length)),("first",.int 0),("is_minus",.bool false),("base",.int 0)]
noncomputable abbrev A'(b:Str):List (Str×Y):=[("text",.str b),("behind",.int (Int.ofNat b.length)),("first",.int 0),("is_minus",.bool false),("base",.int 0),("value",.none)]
def W8(a:lr b e)(g:c .next ⟨[],oS b⟩):A (x (f ao) iM (k+100) (d+11)) kX 0 fl.body ⟨[],[("text",.str b)]⟩ c X:=z (aY a.aE g) (by kernel_rfl:cond (Nat.blt b.length 9223372036854775808) (c .next ⟨[],oS b⟩) False=_)
def W9(a:lr b e)(g:c .next ⟨[],oS b⟩):A (x (f ao) iM (k+100) (d+11)) kX 1 fl.body ⟨[],oS b⟩ c X:=by
 conv=>whnf
 refine h (a.pos ..) ?_;conv=>whnf
 refine h (a.i0 ..) ?_;conv=>whnf
 refine h (a.n0 ..) ?_;conv=>whnf
 refine⟨e,rfl,aD _ _,?_⟩;conv=>whnf
 refine h (a.bl ..) ?_;exact g
def W'(a:lr b e)(i:c .next ⟨[],oS b⟩):A (x (f ao) iM (k+100) (d+11)) kX 2 fl.body ⟨[],oS b⟩ c X:=by
 obtain⟨j,g,l,m,n⟩:=a.vX;conv=>whnf
 refine h (a.pos ..) ?_;conv=>whnf
 refine h (l ..) ?_;conv=>whnf
 refine h (m ..) ?_;conv=>whnf
 refine⟨g,rfl,aD _ _,?_⟩;conv=>whnf
 refine h (n ..) ?_;exact i
def Xa:c .next ⟨[],xu b⟩=A (x (f ao) iM (k+100) (d+11)) kX 3 fl.body ⟨[],oS b⟩ c X:=by kernel_rfl
def Xb(a:lr b e)(i:c .next ⟨[],xu b⟩):A (x (f ao) iM (k+100) (d+11)) kX 4 fl.body ⟨[],xu b⟩ c X:=by
 conv=>whnf
 refine h (a.pos ..) ?_;conv=>whnf
 refine h (a.i0 ..) ?_;conv=>whnf
 refine h (a.n0 ..) ?_;conv=>whnf
 refine h (show dI ⟨#[e]⟩ ((λg=>Str.ofString "+"::g) ((λg=>Str.ofString "-"::g) []))=false from a.sg) ?_;exact i
def Xc:c .next ⟨[],xv b⟩=A (x (f ao) iM (k+100) (d+11)) kX 5 fl.body ⟨[],xu b⟩ c X:=by kernel_rfl
def Xd(g:lr b e)(i:c .next ⟨[],xv b⟩):A (x (f ao) iM (k+100) (d+11)) kX 6 fl.body ⟨[],xv b⟩ c X:=by
 conv=>whnf
 rcases decide ((2:Int)<Int.ofNat b.length-0) with _|_
 . exact i
 . conv=>whnf
   refine h (g.i0 ..) ?_;conv=>whnf
   refine h (g.n0 ..) ?_;conv=>whnf
   rcases g.d6 with l|⟨rfl,j,a⟩
   . refine h (l ..) ?_;exact i
   . conv=>whnf
     refine h (show ck (0+1:Int) b.length=some 1 from j) ?_;conv=>whnf
     refine Or.elim (a) (λa=> ?_) λa=> ?_;all_goals
      refine h (a ..) ?_;apply z i;kernel_rfl
def Xe(l:lr b e)(i:∃g r,b=a (g::r)/\(ja g=true\/(g=48\/g=49)/\∃j n,r=j::n/\ja j=true)) (m:c .next ⟨[],A' b⟩):A (x (f ao) iM (k+100) (d+11)) kX 7 fl.body ⟨[],xv b⟩ c X:=by
 conv=>whnf
 refine h (Kx ..) ?_;refine h (l.sz ..) ?_;conv=>whnf
 obtain⟨g,r,rfl,i⟩:=i;exact⟨g,r,rfl,aD _ _,i,z m (by kernel_rfl)⟩
def Xf:c (.ret .none) ⟨[],A' b⟩=A (x (f ao) iM (k+100) (d+11)) kX 8 fl.body ⟨[],A' b⟩ c X:=by kernel_rfl
def W6{c:af}(g:lr b e)(n:∃h r,b=a (h::r)/\(ja h=true\/(h=48\/h=49)/\∃i p,r=i::p/\ja i=true)) (m:∀l o,c .none ⟨l,o⟩):av (x (f ao) iM (k+100) (d+11)) none fl [.str b] ⟨[],[]⟩ c X:=
 c2 (cr:=[("text",.str b)]) (by kernel_rfl) (λq q=>by kernel_rfl) (j 0 ⟨W8 g (bm 1 (W9 g (bm (body:=fl.body) 2 (W' g (bm (body:=fl.body) 3 (z (nx (bm (body:=fl.body) 4 (Xb g (bm (body:=fl.body) 5 (z (nx (bm (body:=fl.body) 6 (Xd g (bm (body:=fl.body) 7 (Xe g n (bm (body:=fl.body) 8 (z (rt (m [] [])) Xf))))))) Xc))))) Xa))))))⟩)
end
structure gP(d:Str):Prop where
 M:∃c bn,d=a (c::bn)/\p6 c bn=true/\
  (∃b,t (c::bn) bn.length=some b/\e0 b=false)/\(∀e∈c::bn,e<128)/\bn.length<100000
inductive ug(d:Nat)(args:List Y)(st:St)(K X:af):Prop
 |mk (a):args=[.str a]->12<=d->gP a->K .none st->ug d args st K X
def W7{j:au}{p:Program}{ao:Frag}(g:aC j.hb (f ao))(k:pe ao):az j p 209 ug:=by
 rintro d F H C X ⟨I,q,s,⟨c,i,z,b,x,_,y⟩,t⟩;subst q;subst z;obtain⟨d,rfl⟩:=rm (n:=11) s;refine fw g (bt g k (λE=>(Kh g k)) 100 (d+11)) (g.fn 209 _ rfl) (show aH 0 [.str (a (c::i))] from⟨u,u⟩) λD o w G=> ?_;have m:∀(b:e0 c=false)(e:dI ⟨#[c]⟩ [Str.ofString "+",Str.ofString "-"]=false),_->_->_:=λb e r v=>W6 (ao:=ao) (X:=o) (k:=0) (d:=d) (Xx y b e x r) ⟨c,i,rfl,v⟩ λB A=>w _ A _ _ (.same u) t;rcases Bool.or_eq_true_iff.mp b with b|b
 . exact m (lR b (by kernel_rfl)) (lR (p:=λc=>dI ⟨#[c]⟩ [Str.ofString "+",Str.ofString "-"]) b (by kernel_rfl)) (.inl (lR (p:=λc=>Fast.sEq ⟨#[c]⟩ (Str.ofString "0")) b (by kernel_rfl))) (.inl (p4 b (by kernel_rfl)))
 . refine And.elim (λh e=> ?_) (Bool.and_eq_true_iff.mp b);rcases i with _|⟨l,n⟩
   . cases e
   . refine m (lR h (by kernel_rfl)) (lR (p:=λc=>dI ⟨#[c]⟩ [Str.ofString "+",Str.ofString "-"]) h (by kernel_rfl)) ?_ (.inr ⟨tC h,l,n,rfl,p4 (l:=[46,32]) e (by kernel_rfl)⟩);rcases tC h with rfl|rfl
     . exact .inr ⟨rfl,l,n,rfl,tC e⟩
     . exact .inl (by kernel_rfl)
def sx(b:ay)(r:O)(f:Option Y)(e:Nat)(d:List Y)(g:St)(a c:af):Prop:=(sw b r f e d g).A a c
def d2(a:Nat)(e:Str)(b:List Str)(c d:Nat):hu:=⟨a,e,b,c,d,H,false,false⟩
def T6(c:Frag)(d g h j:Nat)(a:Str)(e:List Str)(b i:af):
  sx (f c) (x (f c) [] 100 (j+5)) none 84 [q d,.str a,.l (y e),q g,q h] ⟨[],[]⟩ b i=b (.obj 0) ⟨[.ar 84 (some 1) [.str a] false false,.dict (el (d2 d a e g h) (.obj 2)),.c []],[]⟩:=by kernel_rfl
def T5(c:Frag)(d h:Nat)(a:Str)(e:List Str)(b g:af):
  sx (f c) (x (f c) [] 100 (h+5)) none 84 [q d,.str a,.l (y e)] ⟨[],[]⟩ b g=b (.obj 0) ⟨[.ar 84 (some 1) [.str a] false false,.dict (el (d2 d a e 0 0) (.obj 2)),.c []],[]⟩:=by kernel_rfl
def T4(c:Frag)(d g:Nat)(a:Str)(b e:af):
  sx (f c) (x (f c) [] 100 (g+5)) none 84 [q d,.str a] ⟨[],[]⟩ b e=b (.obj 0) ⟨[.ar 84 (some 1) [.str a] false false,.dict (el (d2 d a [bC] 0 0) (.obj 2)),.c []],[]⟩:=by kernel_rfl
inductive fA(d:Nat)(args:List Y)(st:St)(K X:af):Prop
 |mk (code v a n' ret):(args=[q code,.str v,.l (y a),q n',q ret]\/(args=[q code,.str v,.l (y a)]/\n'=0/\ret=0)\/(args=[q code,.str v]/\a=[bC]/\n'=0/\ret=0))->6<=d->K (.obj st.objs.length) ⟨st.objs++[.ar 84 (some (st.objs.length+1)) [.str v] false false,.dict (el (d2 code v a n' ret) (.c []))],st.d⟩->fA d args st K X
def T7(b:Nat)(c e f:Nat)(a:Str)(d:List Str)(h:List (Str×Y)):
  ht 0 [] b [0,1] ⟨[.ar 84 (some 1) [.str a] false false,.dict (el (d2 c a d e f) (.obj 2)),.c []],h⟩ [] [.ar 84 (some (b+1)) [.str a] false false,.dict (el (d2 c a d e f) (.c []))]/\
  bL 0 (cm [] b [0,1]) [.ar 84 (some 1) [.str a] false false,.dict (el (d2 c a d e f) (.obj 2)),.c []] (.obj 0) (.obj b):=by refine⟨⟨.nil,.cons rfl (.ar rfl (.cons (.same u) .nil)) (.cons rfl (.dict ?_) .nil),λg i=>bU g,by decide⟩,.obj rfl⟩;exact .cons (.same u) (.cons (.same u) (.cons (.same (show aH 0 _ from b5 _)) (.cons (.same u) (.cons (.same u) (.cons (.same u) (.cons (.same u) (.cons (.same u) (.cons (.fr rfl rfl .nil) .nil))))))))
def R5{c:au}{p:Program}{a:ay}{n:Nat}{r:O}{h:Nat}{e:List Y}{b:St}{f g:af}(j:aC c.hb a)(k:aV a)(q:b1 ⟨c,p,a,n,r⟩)(s:aH 0 e)(o:sx a r none h e ⟨[],[]⟩ (fb bL (some b.d) 0 [] b.objs f) (fb bL (some b.d) 0 [] b.objs g)):Made c p h (n+1) e b f g:=by rintro B C m E rfl v w t z A l i y u;exact d.R3 (k:=⟨c,p,a,n,r⟩) (n:=0) (ix:=[]) j k q v w t z A f g (.mk [] e .nil (λD x=>absurd x (eu _)) .nil (.same s) o) l i y u
def iU{d:au}{p:Program}{c:Frag}(j:aC d.hb (f c))(k:aV (f c)):az d p 84 fA:=by
 rintro b g a e l ⟨m,i,n,q,r,t,v,w⟩;obtain⟨b,rfl⟩:∃s,b=s+5+1:=⟨b-6,(hT v).symm⟩;have o:=T7 a.objs.length m q r i n [];have h:aH 0 g->fb bL (some a.d) 0 [] a.objs e (.obj 0) ⟨[.ar 84 (some 1) [.str i] false false,.dict (el (d2 m i n q r) (.obj 2)),.c []],[]⟩=sx (f c) (x (f c) [] 100 (b+5)) none 84 g ⟨[],[]⟩ (fb bL (some a.d) 0 [] a.objs e) (fb bL (some a.d) 0 [] a.objs l)->Made d p 84 (b+5+1) g a e l:=λy z=>by
  refine R5 j k (bt (ct:=[]) j k (λA=>trivial) 100 (b+5)) y ?_;refine ba (z ..) ?_;exact .mk [0,1] [] _ a.d _ o.1 rfl o.2 w
 rcases t with rfl|⟨rfl,rfl,rfl⟩|⟨rfl,rfl,rfl,rfl⟩
 . exact h ⟨u,u,b5 _,u,u,u⟩ (T6 ..).symm
 . exact h ⟨u,u,b5 _,u⟩ (T5 ..).symm
 . exact h ⟨u,u,u⟩ (T4 ..).symm
noncomputable def pG:List (Nat×bF):=[(181,j6),(188,q6),(195,t9),(209,ug),(84,fA)]
def Ki{c:au}{p:Program}{d:Frag}(a:aC c.hb (f d))(b:aV (f d)):dS c p pG:=⟨rz a b,yO a b,Dk a b,W7 a b,iU a b,u⟩
abbrev rV:aL:=c (m 20) []
noncomputable abbrev qn(a:Str):List (Str×Y):=[("text",.str a)]
noncomputable abbrev SG(a:Str):List (Str×Y):=[("text",.str a),("value",.none)]
section
variable{h:Frag}{k e:Nat}{a:Str}{b:List (Str×Y)}{g:Q}{c d:af}
def I3(c:ug (e+12) [.str a] ⟨[],qn a⟩ (λi b=>g .next ⟨b.objs,aO "value" i b.d⟩) d):A (x (f h) pG (k+97) (e+12)) ⟨rV.scope,none,[]⟩ 0 rV.body ⟨[],qn a⟩ g d:=by apply z c;kernel_rfl
def I4(i:a.length.ble 5592405=true)(g:cond (dI (Txt.lower a) [Str.ofString "",Str.ofString "o"]) (c .none ⟨[],b⟩) (cond (Txt.startswith "true" (Txt.lower a)) (c (.bool true) ⟨[],b⟩) (cond (Txt.startswith "yes" (Txt.lower a)) (c (.bool true) ⟨[],b⟩) (cond (Txt.startswith "on" (Txt.lower a)) (c (.bool true) ⟨[],b⟩)
  (cond (Txt.startswith "false" (Txt.lower a)) (c (.bool false) ⟨[],b⟩) (cond (Txt.startswith "no" (Txt.lower a)) (c (.bool false) ⟨[],b⟩) (cond (Txt.startswith "off" (Txt.lower a)) (c (.bool false) ⟨[],b⟩) (c .none ⟨[],b⟩)))))))):aU (x (f h) pG (k+97) (e+12)) ⟨rV.scope,none,[]⟩ (fX b d) (aT 1 rV.body) ⟨[],SG a⟩ (fK b c):=by apply z (aY (Q:=False) i g);kernel_rfl
def SH(c:av (x (f h) pG (k+97) (e+12)) none rV [.str a] ⟨[],qn a⟩ (λi b=>g .next ⟨b.objs,aO "value" i b.d⟩) d):A (x (f h) pG (k+100) (e+13)) ⟨g9.scope,none,[]⟩ 0 g9.body ⟨[],qn a⟩ g d:=by apply z c;kernel_rfl
end
def SI(i:Frag)(a b:Str)(k l:Nat)(h e:af)(u:gP a)(w:a.length.ble 5592405=true)(v:Txt.lower a=b)
 (t:dI b [Str.ofString "",Str.ofString "o"]=false)(m:Txt.startswith "true" b=false)(n:Txt.startswith "yes" b=false)(o:Txt.startswith "on" b=false)(p:Txt.startswith "false" b=false)(q:Txt.startswith "no" b=false)(r:Txt.startswith "off" b=false)
 (y:(mQ.length+a.length).ble sizeLine=true)(z:((mQ++a).length+1).ble sizeLine=true)
 (s:∀d A g,dh 0 d g (.a7 ⟨1,mQ++a++tP,[bJ,kZ,oU],0,0,H,false,false⟩)->e g ⟨d,A⟩):
  av (x (f i) pG (k+100) (l+13)) none g9 [.str a] ⟨[],[]⟩ h e:=by
 subst v;refine c2 (cr:=qn a) (by kernel_rfl) (λc c=>by kernel_rfl) (j 0 ⟨SH ?_⟩);refine c2 (cr:=qn a) (by kernel_rfl) (λc c=>by kernel_rfl) (j 0 ⟨I3 ⟨a,rfl,aD _ _,u,nx ?_⟩⟩);refine I4 w (dX t (dX m (dX n (dX o (dX p (dX q (dX r (nx (bm 1 ?_)))))))));conv=>whnf
 refine sT y ?_;conv=>whnf
 refine sT z ?_;refine⟨1,_,[bJ,kZ,oU],0,0,.inr (.inl ⟨rfl,rfl,rfl⟩),aD _ _,?_⟩;conv=>whnf
 exact s _ _ _ ⟨0,1,.c [],rfl,by decide,by decide,by decide,rfl,rfl,.inl rfl⟩
noncomputable def h7:List (Nat×bF):=[(84,fA)]
def Kl{a:au}{p:Program}{b:Frag}(c:aC a.hb (f b))(d:aV (f b)):dS a p h7:=⟨iU c d,u⟩
def h5(a:Str):hu:=d2 1 (mQ++a++tP) [bJ,kZ,oU] 0 0
def SK(c:Frag)(k e:Nat)(a d:af)(g:∀b h,a (.bool true) ⟨b,h⟩):av (x (f c) h7 (k+100) (e+13)) none g9 [.str (cn 0)] ⟨[],[]⟩ a d:=by apply z (g [] []);kernel_rfl
def SM(c:Frag)(k e:Nat)(a d:af)(g:∀b h,a (.bool false) ⟨b,h⟩):av (x (f c) h7 (k+100) (e+13)) none g9 [.str (cn 1)] ⟨[],[]⟩ a d:=by apply z (g [] []);kernel_rfl
def SN(c:Frag)(k e:Nat)(a d:af)(g:∀b h,a (.bool true) ⟨b,h⟩):av (x (f c) h7 (k+100) (e+13)) none g9 [.str (cn 2)] ⟨[],[]⟩ a d:=by apply z (g [] []);kernel_rfl
def SO(c:Frag)(k e:Nat)(a d:af)(g:∀b h,a (.bool false) ⟨b,h⟩):av (x (f c) h7 (k+100) (e+13)) none g9 [.str (cn 3)] ⟨[],[]⟩ a d:=by apply z (g [] []);kernel_rfl
def SP(e:Frag)(k g:Nat)(d b:af)(h:∀a i c,dh 0 a c (.a7 (h5 (cn 4)))->b c ⟨a,i⟩):av (x (f e) h7 (k+100) (g+13)) none g9 [.str (cn 4)] ⟨[],[]⟩ d b:=
 ⟨1,_,[bJ,kZ,oU],0,0,.inr (.inl ⟨rfl,rfl,rfl⟩),(aD _ _),z (h [.ar 84 (some 1) [.str (h5 (cn 4)).aj] true false,.dict (el (h5 (cn 4)) (.c []))] [] (.obj 0) ⟨0,1,.c [],rfl,by decide,by decide,by decide,rfl,rfl,.inl rfl⟩) (by kernel_rfl)⟩
def SQ(e:Frag)(k g:Nat)(d b:af)(h:∀a i c,dh 0 a c (.a7 (h5 (cn 5)))->b c ⟨a,i⟩):av (x (f e) h7 (k+100) (g+13)) none g9 [.str (cn 5)] ⟨[],[]⟩ d b:=
 ⟨1,_,[bJ,kZ,oU],0,0,.inr (.inl ⟨rfl,rfl,rfl⟩),(aD _ _),z (h [.ar 84 (some 1) [.str (h5 (cn 5)).aj] true false,.dict (el (h5 (cn 5)) (.c []))] [] (.obj 0) ⟨0,1,.c [],rfl,by decide,by decide,by decide,rfl,rfl,.inl rfl⟩) (by kernel_rfl)⟩
def SR(c:Frag)(k e:Nat)(a d:af)(g:∀b h,a (.bool true) ⟨b,h⟩):av (x (f c) h7 (k+100) (e+13)) none g9 [.str (cn 6)] ⟨[],[]⟩ a d:=by apply z (g [] []);kernel_rfl
def SS(c:Frag)(k e:Nat)(a d:af)(g:∀b h,a (.bool false) ⟨b,h⟩):av (x (f c) h7 (k+100) (e+13)) none g9 [.str (cn 7)] ⟨[],[]⟩ a d:=by apply z (g [] []);kernel_rfl
def SU(c:Frag)(k e:Nat)(a d:af)(g:∀b h,a (.bool true) ⟨b,h⟩):av (x (f c) h7 (k+100) (e+13)) none g9 [.str (cn 8)] ⟨[],[]⟩ a d:=by apply z (g [] []);kernel_rfl
def SV(e:Frag)(k g:Nat)(d b:af)(h:∀a i c,dh 0 a c (.a7 (h5 (cn 9)))->b c ⟨a,i⟩):av (x (f e) h7 (k+100) (g+13)) none g9 [.str (cn 9)] ⟨[],[]⟩ d b:=
 ⟨1,_,[bJ,kZ,oU],0,0,.inr (.inl ⟨rfl,rfl,rfl⟩),(aD _ _),z (h [.ar 84 (some 1) [.str (h5 (cn 9)).aj] true false,.dict (el (h5 (cn 9)) (.c []))] [] (.obj 0) ⟨0,1,.c [],rfl,by decide,by decide,by decide,rfl,rfl,.inl rfl⟩) (by kernel_rfl)⟩
def SW(c:Frag)(k d:Nat)(a b:af)(g:Nat)(e:∀l,e8 (cn g)=some l->∀h j,a (.bool l) ⟨h,j⟩) (i:e8 (cn g)=none->∀h j m,dh 0 h m (.a7 (h5 (cn g)))->b m ⟨h,j⟩):
  av (x (f c) h7 (k+100) (d+13)) none g9 [.str (cn g)] ⟨[],[]⟩ a b:=by
 rcases g with _|_|_|_|_|_|_|_|_|g
 . exact SK c k d a b (e true (by kernel_rfl))
 . exact SM c k d a b (e false (by kernel_rfl))
 . exact SN c k d a b (e true (by kernel_rfl))
 . exact SO c k d a b (e false (by kernel_rfl))
 . exact SP c k d a b (i (by kernel_rfl))
 . exact SQ c k d a b (i (by kernel_rfl))
 . exact SR c k d a b (e true (by kernel_rfl))
 . exact SS c k d a b (e false (by kernel_rfl))
 . exact SU c k d a b (e true (by kernel_rfl))
 . exact SV c k d a b (i (by kernel_rfl))
def wK{x y:Str}(a:x.cps.toList≠y.cps.toList):Fast.sEq x y=false:=by rw [Bool.eq_false_iff];intro b;exact a (by rw [Fast.sEq_iff.mp b])
def VQ{d b:Nat}{e c:List Nat}(f:d≠b):Txt.startswith (a (d::e)) (a (b::c))=false:=by unfold Txt.startswith;rw [StrLaws.subAt_eq];rw [show(((a (d::e)).cps.toList.drop 0).take (a (b::c)).length==(a (b::c)).cps.toList)=false from ?_,Bool.and_false];rw [beq_eq_false_iff_ne];intro g;have:(d::e).take (c.length+1)=b::c:=g;rw [List.take_succ_cons] at this;exact f (List.cons.inj this).1
noncomputable abbrev A9:List Nat:=[97,98,99,100,46,123,118,48,49]
def Ec{f:Str}(j:gP f):∃b c,f=a (b::c)/\cA b A9=true/\p6 b c=true/\(∀l∈b::c,l<128)/\c.length<100000:=by
 refine aS λm k=> ?_;obtain⟨b,c,g,e,n,h,i⟩:=j;refine k ?_;refine⟨b,c,g,?_,e,h,i⟩;rcases Bool.or_eq_true_iff.mp e with d|d
 . exact p4 (p:=λb=>cA b A9) d (by kernel_rfl)
 . exact p4 (p:=λb=>cA b A9) (Bool.and_eq_true_iff.mp d).1 (by kernel_rfl)
def Gq{b c:Nat}{l r:List Nat}(d:Nat.beq b c=false):Fast.sEq (a (b::l)) (a (c::r))=false:=wK λe=>by
 rw [(List.cons.inj (show b::l=c::r from e)).1,Nat.beq_refl] at d;cases d
def Pr{a:Nat}{b:List Nat}(c:p6 a b=true)(d:cA a A7=false):AA b=true:=(Bool.and_eq_true_iff.mp ((Bool.or_eq_true_iff.mp c).resolve_left λe=>aA (e.symm.trans d))).2
def Ay{b c:Nat}{l d:List Nat}(e:p6 c d=true)(h:cA b A7=false)(i:AA l=false):Fast.sEq (a (b::l)) (a (c::d))=false:=wK λj=>by
 refine And.elim (λf g=> ?_) (List.cons.inj (show b::l=c::d from j));have:=Pr e (f▸h);rw [<-g,i] at this;cases this
def Pe{g:Str}(j:gP g):e8 g=none:=by
 obtain⟨b,c,rfl,i,f,_⟩:=Ec j;have e:∀d{l:List Nat},(A9.all λk=> !Nat.beq d k)=true->Fast.sEq (a (d::l)) (a (b::c))=false:=λd{l} h=>Gq (lR (p:=Nat.beq d) i h);unfold e8;rw [show Fast.sEq d7 (a (b::c))=false from Ay (l:=[]) f rfl rfl,show Fast.sEq tV (a (b::c))=false from e 121 (by kernel_rfl),show Fast.sEq tI (a (b::c))=false from e 32 (by kernel_rfl),show Fast.sEq tQ (a (b::c))=false from e 116 (by kernel_rfl),
  show Fast.sEq c4 (a (b::c))=false from Ay (l:=[]) f rfl rfl,show Fast.sEq tO (a (b::c))=false from e 111 (by kernel_rfl),show Fast.sEq tH (a (b::c))=false from Ay (l:=[120,48]) f rfl rfl]
 rfl
def Pd{b:Nat}{c:List Nat}(d:∀x∈b::c,x<128) (e:cA b A9=true):Txt.lower (a (b::c))=a (b::c.map lo1):=by refine h (lower_ascii (x:=a (b::c)) d ..) ?_;refine(?_:(⟨(⟨b::c⟩:Array Nat).map lo1⟩:Str)=_);refine h (show(⟨b::c⟩:Array Nat).map lo1=⟨(b::c).map lo1⟩ from by simp) ?_;refine h (List.map_cons ..) ?_;refine h (show lo1 b=b from dR (p4 (p:=λb=>Nat.beq (lo1 b) b) e (by kernel_rfl))) ?_;rfl
inductive q7(d:Nat)(args:List Y)(st:St)(K X:af):Prop
 |mk (a):args=[.str a]->14<=d->(gP a\/∃c,a=cn c)->(∀b,e8 a=some b->K (.bool b) st)->(e8 a=none->X (.obj (st.objs.length+1)) ⟨st.objs++(cj.a7 (h5 a)).objs st.objs.length,st.d⟩)->q7 d args st K X
def SJ{y:au}{p:Program}{k:Frag}(b:aC y.hb (f k))(j:aV (f k)):az y p 223 q7:=by
 rintro e P S N O ⟨K,g,F,h,I,hX⟩;subst g;obtain⟨e,rfl⟩:=rm (n:=13) F;rcases h with v|⟨B,rfl⟩
 . refine fw b (bt b j (λC=>(Ki b j)) 100 (e+13)) (b.fn 223 _ rfl) (show aH 0 [.str K] from⟨u,u⟩) λq r A w=> ?_;have J:=Pe v;obtain⟨n,c,rfl,g,Q,G,s⟩:=Ec v;have R:(a (n::c)).length=c.length+1:=rfl;have d:∀m{o l:List Nat},(A9.all λo=> !Nat.beq m o)=true->Txt.startswith (a (m::o)) (a (n::l))=false:=λm{o l} E=>VQ λM=>by
    have:=lR (p:=Nat.beq m) g E;rw [M,Nat.beq_refl] at this;cases this
   refine SI k _ _ 0 e q r v (Nat.ble_eq.mpr (L s (by decide))) (Pd G g) ?_ ?_ ?_ ?_ ?_ ?_ ?_ (Nat.ble_eq.mpr ?_) (Nat.ble_eq.mpr ?_) λz i x t=>w _ i x _ t (hX J)
   . refine(?_:cond (Fast.sEq H (a _)) true (cond (Fast.sEq ⟨#[111]⟩ (a _)) true false)=false);rw [UT,show Fast.sEq ⟨#[111]⟩ (a (n::c.map lo1))=false from Gq (l:=[]) (lR (p:=Nat.beq 111) g (by kernel_rfl))];rfl
   . exact d 116 (by kernel_rfl)
   . exact d 121 (by kernel_rfl)
   . exact d 111 (by kernel_rfl)
   . exact d 102 (by kernel_rfl)
   . exact d 110 (by kernel_rfl)
   . exact d 111 (by kernel_rfl)
   . refine(?_:32+(c.length+1)<=16777216);exact(bV s (by simp+arith only))
   . refine(?_:((#[101,120,112,101,99,116,101,100,32,98,111,111,108,101,97,110,32,118,97,108,117,101,32,98,117,116,32,103,111,116,32,34]:Array Nat)++(⟨n::c⟩:Array Nat)).size+1<=16777216);rw [Array.size_append];refine(?_:32+(c.length+1)+1<=16777216);exact(bV s (by simp+arith only))
 . exact fw b (bt b j (λC=>(Kl b j)) 100 (e+13)) (b.fn 223 _ rfl) (show aH 0 [.str (cn B)] from⟨u,u⟩) λq r A w=>
    SW k 0 e q r B (λD h z i=>A _ i _ _ (.same u) (I D h)) λh z i x t=>w _ i x _ t (hX h)
noncomputable def gY:List (Nat×bF):=[(181,j6),(84,fA)]
def Km{a:au}{p:Program}{d:Frag}(b:aC a.hb (f d))(c:aV (f d)):dS a p gY:=⟨rz b c,iU b c,u⟩
def hp(a:Option Stmt):Expr:=eR a 0
def jP(a:Option Stmt):List Stmt:=gR a
abbrev nS:aL:=c (m 32) []
abbrev g8:aL:=c (m 33) []
abbrev rY:aL:=c (m 34) []
def ou(b:List Nat):List Y:=y (b.map λa=>⟨#[a]⟩)
def jJ(a:Nat):Prop:=e0 a=false/\Nat.beq a 92=false/\Nat.beq a 123=false/\Nat.beq a 34=false
def pm:List Y->List Nat->List Y
 |ak,[]=>ak
 |ak,al::a=>pm (aJ ak (.str ⟨#[al]⟩)) a
def s8{b a:Nat}(c:Nat.beq b a=false):Fast.sEq ⟨#[b]⟩ ⟨#[a]⟩=false:=(qC b a).trans c
def qr{c e:List Nat}{a:Nat}{b:Nat}(d:b=c.length):t (c++a::e) b=some a:=by rw [cW,d,List.getElem?_append_right (Nat.le_refl _),Nat.sub_self];rfl
def mg{a:Str}{b:List Nat}(c:a.cps.toList=b):a.length=b.length:=by refine(?_:a.cps.size=_);refine ba (c ..) ?_;simp
noncomputable def cT:Option Nat->List (Str×Y)
 |none=>[]
 |some al=>[("c",.str ⟨#[al]⟩)]
abbrev ei(c:Str)(b:Nat)(a:Option Nat):List (Str×Y):=("text",.str c)::("at",q b)::("out",.obj 0)::cT a
abbrev h4:I:=⟨nS.scope,none,[]⟩
abbrev ry:Expr:=hp (t nS.body 1)
abbrev nA:List Stmt:=jP (t nS.body 1)
section
variable{n:Frag}{a:Str}{k l c h:Nat}{i:Option Nat}{e:List Y}{d:Q}{g:af}
abbrev IU(a:Str)(l c:Nat)(i:Option Nat)(e:List Y)(d:Bool->St->Prop)(g:af):Prop:=cond (Nat.blt a.length 9223372036854775808) (cond (decide (Int.ofNat c<Int.ofNat a.length)) (cu (ck c a.length) λj=>cu (t a.cps.toList j) λh=>j6 (l+3) [.str ⟨#[h]⟩] ⟨[.c e],ei a c i⟩ (λk b=>(oQ k b).A (λf b=>(wq .And (!f) (.ret true b) (.ret (!f) b):ab Bool).A d g) g) g) (d (decide (Int.ofNat c<Int.ofNat a.length)) ⟨[.c e],ei a c i⟩)) False
def Cp{d:Bool->St->Prop}:IU a l c i e d g=((x (f n) gY (k+90) (l+3)).B h4 ry ⟨[.c e],ei a c i⟩).A d g:=by kernel_rfl
def Co{d:Bool->St->Prop}{b:Bool}(o:a.length<9223372036854775808)(m:c<a.length)(q:t a.cps.toList c=some h)(p:e0 h=b)(j:d (!b) ⟨[.c e],ei a c i⟩):((x (f n) gY (k+90) (l+3)).B h4 ry ⟨[.c e],ei a c i⟩).A d g:=
 Cp▸aY (Nat.blt_eq.mpr o) (aY (iD (Int.ofNat_lt.mpr m)) (oP (fJ m o) (oP q (.mk h rfl (aD ..) (by subst p;generalize e0 h=b at j⊢;rcases b with _|_<;>exact j)))))
def IY{d:Bool->St->Prop}(m:a.length<9223372036854775808)(j:a.length=c)(h:d false ⟨[.c e],ei a c i⟩):((x (f n) gY (k+90) (l+3)).B h4 ry ⟨[.c e],ei a c i⟩).A d g:=
 have b:decide (Int.ofNat c<Int.ofNat a.length)=false:=k7 (Int.not_lt.mpr (Int.ofNat_le.mpr (ed j)))
 Cp▸aY (Nat.blt_eq.mpr m) (dX b (b▸h))
def IV:cu (ck c a.length) (λj=>cu (t a.cps.toList j) λh=>d .next ⟨[.c e],ei a c (some h)⟩)=A (x (f n) gY (k+90) (l+3)) h4 0 nA ⟨[.c e],ei a c i⟩ d g:=by rcases i with _|h<;>kernel_rfl
def IW:cond (Fast.sEq ⟨#[h]⟩ ⟨#[92]⟩) ((cU (x (f n) gY (k+89) (l+3)) h4 (gR (t nA 1)) ⟨[.c e],ei a c (some h)⟩).A d g) (d .next ⟨[.c e],ei a (c+1) (some h)⟩)=A (x (f n) gY (k+90) (l+3)) h4 1 nA ⟨[.c e],ei a c (some h)⟩ d g:=by kernel_rfl
def IX:cond (Nat.ble (C e) sizeLine) (d .next ⟨[.c (aJ e (.str ⟨#[h]⟩))],ei a c (some h)⟩) False=A (x (f n) gY (k+90) (l+3)) h4 2 nA ⟨[.c e],ei a c (some h)⟩ d g:=by kernel_rfl
def IZ:d .next ⟨[.c []],ei a c none⟩=A (x (f n) gY (k+100) (l+3)) h4 0 nS.body ⟨[],[("text",.str a),("at",q c)]⟩ d g:=by kernel_rfl
def I0:(∃m,cv none (x (f n) gY (k+99) (l+3)) h4 ry nA [] d g m ⟨[.c e],ei a c i⟩)=A (x (f n) gY (k+100) (l+3)) h4 1 nS.body ⟨[.c e],ei a c i⟩ d g:=by kernel_rfl
def I1:cu (iz e) (λb=>cond (JoinOk (Str.ofString "") b) (d (.ret (.l [.str (Txt.join (Str.ofString "") b),q c])) ⟨[.c e],ei a c i⟩) False)=A (x (f n) gY (k+100) (l+3)) h4 2 nS.body ⟨[.c e],ei a c i⟩ d g:=by kernel_rfl
end
def Im(C:Frag)(o:Str)(k F:Nat)(y:List Nat)(s:o.length<9223372036854775808)(G:y=[]\/∃r,y=32::r) (z:Q) (D:af) (c:List Nat):
  ∀(g:List Nat)(d:List Y)(b:Nat)(e:Option Nat)(m:Nat),o.cps.toList=g++(c++y)->b=g.length->(∀a∈c,jJ a)->c.length<m->d.length+c.length<=16777216->
   (∀e,z .next ⟨[.c (pm d c)],ei o (b+c.length) e⟩)->
   cv none (x (f C) gY (k+90) (F+3)) h4 ry nA [] z D m ⟨[.c d],ei o b e⟩:=by
 induction c using List.rec with
 |nil=>
  intro g d b e m i l w u v q;induction m using Nat.casesAuxOn with
  |zero=>exact absurd u (eu _)
  |succ m=>
   have n:=mg i;rw [List.length_append,<-l] at n;rcases G with rfl|⟨r,rfl⟩
   . exact IY s n (q e)
   . exact Co s (n▸o8 (gI _)) (i▸qr l) (b:=true) (by rfl) (q e)
 |cons a c I=>
  intro g d b e m i l w u v q;induction m using Nat.casesAuxOn with
  |zero=>exact absurd u (eu _)
  |succ m=>
   have n:=mg i;rw [List.length_append,<-l] at n;have A:b<o.length:=n▸o8 (gI _);have B:t o.cps.toList b=some a:=i▸qr l;have p:=w a (.head _);refine Co s A B p.1 (j 0 (body:=nA) (a9 ⟨oP (fJ A s) (oP B (aB (j 1 (a9 ⟨dX (s8 p.2.1) (aB (j 2 (a9 ⟨aY (Nat.ble_eq.mpr (aZ d▸L (c5 _ _) v)) ?_⟩ IX))).go⟩ IW))).go)⟩ IV)).go;exact I (g++[a]) (aJ d (.str ⟨#[a]⟩)) (b+1) (some a) m (i.trans (jX g [a] _).symm) (l▸(eV (as:=g) (bs:=[a])).symm) (λJ H=>w J (.tail _ H)) (hq u) (by refine h (c0 ..) ?_;refine h (eV ..) ?_;exact L (ed (mX ..)) v) λE=>mX b c.length 1▸q E
theorem B8:∀(b:List Nat)(a:List Nat),pm (ou a) b=ou (a++b)
 |[],a=>by refine h (et ..) ?_;rfl
 |al::b,a=>by
  refine(?_:pm (aJ (ou a) (.str ⟨#[al]⟩)) b=_);have:aJ (ou a) (.str ⟨#[al]⟩)=ou (a++[al]):=by
   refine h (c0 ..) ?_;induction a with
   |nil=>rfl
   |cons ai a c=>exact T (Y.str ⟨#[ai]⟩::·) c
  rw [this,B8 b (a++[al])];simp
theorem GS:∀(a:List Nat),iz (ou a)=some (a.map λb=>⟨#[b]⟩)
 |[]=>rfl
 |b::a=>by
  refine(?_:(iz (ou a)).map (⟨#[b]⟩::·)=_);rw [GS a];rfl
theorem FJ:∀(b:List Nat),((b.map λa=>(⟨#[a]⟩:Str)).map (·.length)).sum=b.length
 |[]=>rfl
 |a::b=>by
  refine(?_:(⟨#[a]⟩:Str).length+((b.map λa=>(⟨#[a]⟩:Str)).map (·.length)).sum=b.length+1);rw [FJ b,show(⟨#[a]⟩:Str).length=1 from rfl];exact(by simp+arith only)
def QC:∀(b:List Nat),Txt.join H (b.map λc=>⟨#[c]⟩)=a b:=by
 intro b;unfold Txt.join;refine h (StrLaws.glued_eq_join ..) ?_;induction b with
 |nil=>rfl
 |cons c b e=>
  induction b using List.casesOn with
  |nil=>rfl
  |cons d b=>
   refine(?_:⟨#[c]⟩++H++Str.join H (List.map (λc=>(⟨#[c]⟩:Str)) (d::b))=_);refine h (e ..) ?_;apply Str.ext';refine(?_:(#[c]++ #[]++(⟨d::b⟩:Array Nat))=⟨c::d::b⟩);apply Array.toList_inj.mp;simp
def Il(l:Frag)(e:Str)(k m:Nat)(h b g:List Nat)(c d:Nat)(y:Nat.blt e.length 9223372036854775808=true)(z:g=[]\/∃r,g=32::r) (i s:af) (t:e.cps.toList=h++(c::b++g)) (w:d=h.length)
  (A:∀C∈c::b,jJ C) (o:b.length<100000) (v:∀p B,i (.l [.str (a (c::b)),q (d+1+b.length)]) ⟨p,B⟩):
  av (x (f l) gY (k+100) (m+3)) none nS [.str e,q d] ⟨[],[]⟩ i s:=by
 refine c2 (cr:=[("text",.str e),("at",q d)]) (by kernel_rfl) (λD D=>by kernel_rfl) (j 0 (a9 (aB (j 1 (a9 ⟨⟨b.length+2,Im l e (k+9) m g (Nat.blt_eq.mp y) z _ _ (c::b) h [] d none _ t w A (hV _) (by refine(?_:0+(b.length+1)<=_);exact t3 _▸L o (by decide)) λE=>(aB (j 2 (a9 ⟨?_⟩ I1))).go⟩⟩ I0))) IZ));have u:iz (pm [] (c::b))=some ((c::b).map λc=>⟨#[c]⟩):=GS (c::b)▸T iz (B8 (c::b) []);refine oP u (aY (joinOk_of (FJ (c::b)▸(?_:(b.length+1)+_*0<=_))) (e4 ⟨?_⟩).go)
 . exact L o (by decide)
 . have n:=v [.c (pm [] (c::b))] [];rw [<-QC,Nat.add_assoc,Nat.add_comm 1] at n;exact n
inductive t6(d:Nat)(args:List Y)(st:St)(K X:af):Prop
 |mk (e pre c b bn):args=[.str e,q pre.length]->4<=d->Nat.blt e.length 9223372036854775808=true->(bn=[]\/∃r,bn=32::r)->e.cps.toList=pre++(c::b++bn)->(∀f∈c::b,jJ f)->b.length<100000->K (.l [.str (a (c::b)),q (pre.length+1+b.length)]) st->t6 d args st K X
def Io{d:au}{p:Program}{b:Frag}(a:aC d.hb (f b))(e:aV (f b)):az d p 279 t6:=by
 rintro c B D y z ⟨h,g,m,w,v,n,o,a1,a2,a3,k,l,r⟩;subst n;obtain⟨c,rfl⟩:=rm (n:=3) o;exact fw a (bt a e (λA=>(Km a e)) 100 (c+3)) (a.fn 279 _ rfl) (show aH 0 [.str h,q g.length] from⟨u,u,u⟩) λi j s C=>
  Il b h 0 c g w v m _ a1 a2 i j a3 rfl k l λx t=>s _ t _ _ (.same ⟨u,u,u⟩) r
noncomputable def fi:List (Nat×bF):=[(181,j6),(84,fA),(279,t6)]
def Kn{c:au}{p:Program}{d:Frag}(a:aC c.hb (f d))(b:aV (f d)):dS c p fi:=⟨rz a b,iU a b,Io a b,u⟩
abbrev dH(b:Str)(a:Nat):St:=⟨[],[("text",.str b),("at",q a)]⟩
abbrev hn:I:=⟨g8.scope,none,[]⟩
abbrev td:Expr:=hp (t g8.body 0)
abbrev wT:List Stmt:=jP (t g8.body 0)
section
variable{h:Frag}{a:Str}{k g c i:Nat}{d:Q}{e:af}
def GD{d:Bool->St->Prop}:cond (Nat.blt a.length 9223372036854775808) (cond (decide (Int.ofNat c<Int.ofNat a.length)) (cu (ck c a.length) λj=>cu (t a.cps.toList j) λi=>j6 (g+3) [.str ⟨#[i]⟩] (dH a c) (λm b=>(oQ m b).A (λl b=>(wq .And l (.ret true b) (.ret l b):ab Bool).A d e) e) e) (d (decide (Int.ofNat c<Int.ofNat a.length)) (dH a c))) False=((x (f h) fi (k+90) (g+3)).B hn td (dH a c)).A d e:=by kernel_rfl
def GC{d:Bool->St->Prop}{b:Bool}(m:a.length<9223372036854775808)(l:c<a.length)(o:t a.cps.toList c=some i)(n:e0 i=b)(j:d b (dH a c)):((x (f h) fi (k+90) (g+3)).B hn td (dH a c)).A d e:=
 GD▸aY (Nat.blt_eq.mpr m) (aY (iD (Int.ofNat_lt.mpr l)) (oP (fJ l m) (oP o (.mk i rfl (aD ..) (by subst n;generalize e0 i=b at j⊢;rcases b with _|_<;>exact j)))))
def Vc{d:Bool->St->Prop}(l:a.length<9223372036854775808)(j:a.length=c)(i:d false (dH a c)):((x (f h) fi (k+90) (g+3)).B hn td (dH a c)).A d e:=
 have b:decide (Int.ofNat c<Int.ofNat a.length)=false:=k7 (Int.not_lt.mpr (Int.ofNat_le.mpr (ed j)))
 GD▸aY (Nat.blt_eq.mpr l) (dX b (b▸i))
def Vb:d .next (dH a (c+1))=A (x (f h) fi (k+90) (g+3)) hn 0 wT (dH a c) d e:=by kernel_rfl
def NT:(∃m,cv none (x (f h) fi (k+99) (g+5)) hn td wT [] d e m (dH a c))=A (x (f h) fi (k+100) (g+5)) hn 0 g8.body (dH a c) d e:=by kernel_rfl
def DR:cond (Nat.blt a.length 9223372036854775808) (cond (decide (Int.ofNat a.length<=Int.ofNat c)) (d (.ret .none) (dH a c)) (d .next (dH a c))) False=A (x (f h) fi (k+100) (g+5)) hn 1 g8.body (dH a c) d e:=by kernel_rfl
def NU:cu (ck c a.length) (λj=>cu (t a.cps.toList j) λi=>cond (Fast.sEq ⟨#[i]⟩ ⟨#[123]⟩) ((cU (x (f h) fi (k+99) (g+5)) hn (gR (t g8.body 2)) (dH a c)).A d e) (d .next (dH a c)))=A (x (f h) fi (k+100) (g+5)) hn 2 g8.body (dH a c) d e:=by kernel_rfl
def NV:cu (ck c a.length) (λj=>cu (t a.cps.toList j) λi=>cond (Fast.sEq ⟨#[i]⟩ ⟨#[34]⟩) ((cU (x (f h) fi (k+99) (g+5)) hn (gR (t g8.body 3)) (dH a c)).A d e) (d .next (dH a c)))=A (x (f h) fi (k+100) (g+5)) hn 3 g8.body (dH a c) d e:=by kernel_rfl
def NW:t6 (g+5) [.str a,q c] (dH a c) (λi b=>d (.ret i) b) e=A (x (f h) fi (k+100) (g+5)) hn 4 g8.body (dH a c) d e:=by kernel_rfl
end
def Vd(t:Frag)(h:Str)(k v:Nat)(n:List Nat)(q:h.length<9223372036854775808)(w:n=[]\/∃o r,n=o::r/\jJ o) (s:Q) (u:af) (d:Nat):
  ∀(b:List Nat)(c:Nat)(m:Nat),h.cps.toList=b++(List.replicate d 32++n)->c=b.length->d<m->s .next (dH h (c+d))->
   cv none (x (f t) fi (k+90) (v+3)) hn td wT [] s u m (dH h c):=by
 induction d using Nat.rec with
 |zero=>
  intro b c m a e l i;induction m using Nat.casesAuxOn with
  |zero=>exact absurd l (eu _)
  |succ m=>
   have g:=mg a;rw [List.length_append,<-e] at g;rcases w with rfl|⟨o,r,rfl,p⟩
   . exact Vc q g i
   . exact GC q (g▸o8 (gI _)) (a▸qr e) p.1 i
 |succ d y=>
  intro b c m a e l i;induction m using Nat.casesAuxOn with
  |zero=>exact absurd l (eu _)
  |succ m=>
   have g:=mg a;rw [List.length_append,<-e] at g;have a:h.cps.toList=b++(32::(List.replicate d 32++n)):=a;refine GC q (g▸o8 (gI _)) (a▸qr e) (b:=true) (by rfl) (j 0 (body:=wT) (a9 ⟨?_⟩ Vb)).go;exact y (b++[32]) (c+1) m (a.trans (jX b [32] _).symm) (e▸(eV (as:=b) (bs:=[32])).symm) (hq l) (mX c d 1▸i)
def DU(e:Frag)(b:Str)(k g:Nat)(h d:List Nat)(a c:Nat)(s:b.length<9223372036854775808)(t:d=[]\/∃m r,d=m::r/\jJ m) (i l:af) (n:b.cps.toList=h++(List.replicate a 32++d)) (p:c=h.length)
  (o:Go (aU (x (f e) fi (k+100) (g+5)) hn (fX [] l) (aT 1 g8.body) (dH b (c+a)) (fK [] i))):av (x (f e) fi (k+100) (g+5)) none g8 [.str b,q c] ⟨[],[]⟩ i l:=
 c2 (cr:=[("text",.str b),("at",q c)]) (by kernel_rfl) (λu u=>by kernel_rfl) (j 0 (a9 ⟨⟨a+1,Vd e b (k+9) (g+2) d s t _ _ a h c (a+1) n p (hV a) (aB o).go⟩⟩ NT))
def N7(e:Frag)(a:Str)(k h:Nat)(d:List Nat)(o c:Nat)(n:Nat.blt a.length 9223372036854775808=true)(b g:af)(i:a.cps.toList=d++(List.replicate o 32++[]))(l:c=d.length)
  (r:∀p s,b .none ⟨p,s⟩):av (x (f e) fi (k+100) (h+5)) none g8 [.str a,q c] ⟨[],[]⟩ b g:=by have m:=mg i;rw [List.length_append,List.length_append,List.length_replicate,<-l] at m;exact DU e a k h d [] o c (Nat.blt_eq.mp n) (.inl rfl) b g i l (j 1 (a9 ⟨aY n (aY (iD (Int.ofNat_le.mpr (ed m))) (e4 ⟨r [] []⟩).go)⟩ DR))
def N8(u:Frag)(d:Str)(k w:Nat)(h e i:List Nat)(c g b:Nat)(o:Nat.blt d.length 9223372036854775808=true)(F:i=[]\/∃r,i=32::r) (m v:af) (y:d.cps.toList=h++(List.replicate c 32++(b::e++i))) (z:g=h.length)
  (C:∀I∈b::e,jJ I) (G:e.length<100000) (E:∀D H,m (.l [.str (a (b::e)),q (g+c+1+e.length)]) ⟨D,H⟩):av (x (f u) fi (k+100) (w+5)) none g8 [.str d,q g] ⟨[],[]⟩ m v:=by
 have s:=Nat.blt_eq.mp o;have p:=C b (.head _);have e2:d.cps.toList=(h++List.replicate c 32)++(b::e++i):=y.trans (jX ..).symm;have l:g+c=(h++List.replicate c 32).length:=by rw [List.length_append,List.length_replicate,z]
 have A:=mg e2;rw [List.length_append,<-l] at A;have n:g+c<d.length:=A▸o8 (gI _);have B:t d.cps.toList (g+c)=some b:=e2▸qr l;refine DU u d k w h (b::e++i) c g s (.inr ⟨b,_,rfl,p⟩) m v y z (j 1 (a9 ⟨aY o (dX (k7 (Int.not_le.mpr (Int.ofNat_lt.mpr n))) (aB (j 2 (a9 ⟨oP (fJ n s) (oP B (dX (s8 p.2.2.1) (aB (j 3 (a9 ⟨oP (fJ n s) (oP B (dX (s8 p.2.2.2) (aB (j 4 (a9 ⟨?_⟩ NW))).go))⟩ NV))).go))⟩ NU))).go)⟩ DR));exact .mk d (h++List.replicate c 32) b e i (l▸rfl) (aD _ _) o F e2 C G (l▸(e4 ⟨E [] []⟩).go)
inductive xO(d:Nat)(args:List Y)(st:St)(K X:af):Prop
 |mk (e pre f):args=[.str e,q (List.length pre)]->6<=d->Nat.blt e.length 9223372036854775808=true->((e.cps.toList=pre++(List.replicate f 32++[])/\K .none st)\/(∃c b bn,e.cps.toList=pre++(List.replicate f 32++(c::b++bn))/\(bn=[]\/∃r,bn=32::r)/\(∀g∈c::b,jJ g)/\b.length<100000/\K (.l [.str (a (c::b)),q (pre.length+f+1+b.length)]) st))->xO d args st K X
def N9{i:au}{p:Program}{b:Frag}(a:aC i.hb (f b))(j:aV (f b)):az i p 286 xO:=by
 rintro c C E z A ⟨h,g,n,w,x,a1,v⟩;subst w;obtain⟨c,rfl⟩:=rm (n:=5) x;refine fw a (bt a j (λB=>(Kn a j)) 100 (c+5)) (a.fn 286 _ rfl) (show aH 0 [.str h,q g.length] from⟨u,u,u⟩) λk l m D=> ?_;rcases v with⟨a2,d⟩|⟨t,y,bn,a2,a3,r,s,d⟩
 . exact N7 b h 0 c g n _ a1 k l a2 rfl λo e=>m _ e _ _ (.same u) d
 . exact N8 b h 0 c g y bn n _ t a1 a3 k l a2 rfl r s λo e=>m _ e _ _ (.same ⟨u,u,u⟩) d
noncomputable def yy:List (Nat×bF):=[(286,xO)]
def Ko{a:au}{p:Program}{b:Frag}(c:aC a.hb (f b))(d:aV (f b)):dS a p yy:=⟨N9 c d,u⟩
inductive fD:List Nat->List (List Nat)->Prop
 |nil (b:Nat):fD (List.replicate b 32++[]) []
 |cons (b c:Nat) (a bn:List Nat) (d:List (List Nat)):(∀e∈c::a,jJ e)->(bn=[]\/∃r,bn=32::r)->a.length<100000->fD bn d->fD (List.replicate b 32++(c::a++bn)) ((c::a)::d)
def pn:List Y->List (List Nat)->List Y
 |ak,[]=>ak
 |ak,p::b=>pn (aJ ak (.str (a p))) b
theorem GI(w:Frag)(e:Str)(k z:Nat)(s:Nat.blt e.length 9223372036854775808=true)(o:Q)(y:af):
  ∀(c:List (List Nat))(d l:List Nat)(b:List Y)(g:Str)(j m:Nat),fD l c->e.cps.toList=d++l->j=d.length->c.length+1<m->b.length+c.length<16777216->
   (∀H,o .next ⟨[.c (pn (aJ b (.str g)) c)],[("text",.str e),("items",.obj 0),("found",H)]⟩)->
   cv none (x (f w) yy (k+90) (z+6)) ⟨rY.scope,none,[]⟩ (hp (t rY.body 2)) (jP (t rY.body 2)) [] o y m ⟨[.c b],[("text",.str e),("items",.obj 0),("found",.l [.str g,q j])]⟩
 |c,d,l,b,g,j,0,_,_,_,i,_,_=>absurd i (eu _)
 |c,d,l,b,g,j,m+1,u,p,B,i,r,A=>by
  conv=>whnf
  refine h (show(C b).ble sizeLine=true from Nat.ble_eq.mpr (by refine h (aZ ..) ?_;refine(?_:b.length<=16777216);exact(bV r (by simp+arith only)))) ?_;conv=>whnf
  subst B;cases u with
  |nil n=>
   refine⟨e,d,n,rfl,by exact(aD _ _),s,.inl ⟨p,?_⟩⟩;obtain⟨m,rfl⟩:∃G,m=G+1:=⟨m-1,by simp at i;omega⟩;conv=>whnf
   exact A _
  |cons n al v bn c F D E u=>
   refine⟨e,d,n,rfl,by exact(aD _ _),s,.inr ⟨al,v,bn,p,D,F,E,?_⟩⟩;conv=>whnf
   refine GI w e k z s o y c (d++(List.replicate n 32++al::v)) bn (aJ b (.str g)) (a (al::v)) _ m u ?_ ?_ (by simp at i;omega) ?_ A
   . rw [p];simp
   . simp;exact(by simp+arith only)
   . rw [c0];simp at r⊢;exact(bV r (by simp+arith only))
def Vp(l:Frag)(b:Str)(k m:Nat)(c:List (List Nat))(h:Nat.blt b.length 9223372036854775808=true)(j p:af)(d:fD b.cps.toList c)(o:c.length<1000000)
  (n:∀s,j (.obj 0) ⟨[.c (pn [] c)],s⟩):av (x (f l) yy (k+100) (m+6)) none rY [.str b] ⟨[],[]⟩ j p:=by
 conv=>whnf
 generalize g:b.cps.toList=t at d;cases d with
 |nil e=>
  refine⟨b,[],e,rfl,by exact(aD _ _),h,.inl ⟨g,?_⟩⟩;conv=>whnf
  refine⟨1,?_⟩;conv=>whnf
  exact n _
 |cons e al i bn c r q hz d=>
  refine⟨b,[],e,rfl,by exact(aD _ _),h,.inr ⟨al,i,bn,g,q,r,hz,?_⟩⟩;conv=>whnf
  refine⟨c.length+2,?_⟩;refine GI l b (k+9) m h _ _ c (List.replicate e 32++al::i) bn [] (a (al::i)) _ _ d ?_ ?_ (cb _) ?_ ?_
  . rw [g];simp
  . simp;exact(by simp+arith only)
  . simp at o⊢;exact(bV o (by simp+arith only))
  . intro u;conv=>whnf
    exact n _
theorem B9:∀(c:List (List Nat))(b:List Str),pn (y b) c=y (b++c.map a)
 |[],b=>by refine h (List.map_nil ..) ?_;refine h (et ..) ?_;rfl
 |p::c,b=>by
  have:aJ (y b) (.str (a p))=y (b++[a p]):=by
   refine h (c0 ..) ?_;induction b with
   |nil=>rfl
   |cons ai b d=>exact T (Y.str ai::·) d
  refine(?_:pn (aJ (y b) _) c=_);rw [this,B9 c (b++[a p])];simp
def je:hu:=d2 1 Bs [bJ,kZ,HF,HE] 0 0
def TW(a:Frag):ay:={f a with xt:=List.range 900}
def FW{c:Heap}{b:Frag}(a:aC c (f b)):aC c (TW b):=
 ⟨a.K,a.cls,a.fn,(match a.g with| .mk e ai ah al=> .mk e ai ah al),(match a.ah with| .mk d ai ah=> .mk d ai ah),a.ET,a.vX,a.lP,a.lX,a.qf⟩
def wW{C:au}{p:Program}{a:Frag}(c:aC C.hb (f a))(d:aV (f a))(b:Nat):b1 ⟨C,p,TW a,b,x (TW a) [] 100 b⟩:=λe=>DH (C:=C) (ct:=[]) (FW c) d (λg=>trivial) 100 b e
abbrev wY(b:Frag)(d:Nat)(e:Str)(a c:af):Prop:=av (x (TW b) [] 100 (d+13)) none rY [.str e] ⟨[],[]⟩ a c
section
variable{ao:Frag}{d:Nat}{K X:af}
def Vm:K (.obj 0) ⟨[.c (y [hR,H,tL,xz]),.c [.str tL],.c [.str xz]],[]⟩=wY ao d o0 K X:=by kernel_rfl
def Vo:K (.obj 0) ⟨[.c (y [c4,d7,Bf]),.c [.str c4],.c [.str d7]],[]⟩=wY ao d o3 K X:=by kernel_rfl
abbrev Cw(a:Nat):List ae:=[.ar 84 (some (a+1)) [.str Bs] true false,.dict (el je (.obj (a+2))),.c []]
def Vs:X (.obj 1) ⟨.c []::Cw 1,[]⟩=wY ao d o5 K X:=by kernel_rfl
def Vl:X (.obj 2) ⟨.c [.str k0]:: .c [.str k0]::Cw 2,[]⟩=wY ao d oZ K X:=by kernel_rfl
end
inductive ez:Str->Option (List Str)->Prop
 |mx (b:Str) (ps:List (List Nat)):Nat.blt b.length 9223372036854775808=true->fD b.cps.toList ps->ps.length<1000000->ez b (some (ps.map a))
 |Cv:ez o0 (some [hR,H,tL,xz])
 |ly:ez o3 (some [c4,d7,Bf])
 |ox:ez o5 none
 |lw:ez oZ none
inductive xU(d:Nat)(args:List Y)(st:St)(K X:af):Prop
 |mk (b r):args=[.str b]->14<=d->ez b r->(∀a,r=some a->K (.c (y a)) st)->(r=none->X (.obj (st.objs.length+1)) ⟨st.objs++(cj.a7 je).objs st.objs.length,st.d⟩)->xU d args st K X
theorem bM.strs{k:Nat}{b:Nat->Option Nat}{c:List ae}:∀(a:List Str),bM k b c (y a) (y a)
 |[]=> .nil
 |_::a=> .cons (.same u) (bM.strs a)
def Vq{o:au}{p:Program}{ao:Frag}(b:aC o.hb (f ao))(i:aV (f ao)):az o p 293 xU:=by
 rintro d C D K X ⟨t,r,v,w,x,n,hX⟩;subst v;obtain⟨d,rfl⟩:=rm (n:=13) w;have m:∀{s:Nat}{q:List ae}{k:List Str},bL 0 (cm [] s []) (.c (y k)::q) (.obj 0) (.c (y k)):=λ{s q k}=> .fr rfl rfl (bM.strs k);cases x with
 |mx _ l a1 a2 a3=>
  refine fw b (bt b i (λB=>(Ko b i)) 100 (d+13)) (b.fn 293 _ rfl) (show aH 0 [.str t] from⟨u,u⟩) λc e g j=> ?_;refine Vp ao t 0 (d+7) l a1 c e a2 a3 λA=> ?_;refine h (show pn [] l=y (l.map a) from B9 l []) ?_;exact g _ A _ _ m (n _ rfl)
 |Cv=>
  refine fw (FW b) (wW b i (d+13)) (b.fn 293 _ rfl) (show aH 0 [.str o0] from⟨u,u⟩) λc e g j=> ?_;refine z ?_ (Vm (ao:=ao) (d:=d) (K:=c) (X:=e));exact g _ [] _ _ m (n _ rfl)
 |ly=>
  refine fw (FW b) (wW b i (d+13)) (b.fn 293 _ rfl) (show aH 0 [.str o3] from⟨u,u⟩) λc e g j=> ?_;refine z ?_ (Vo (ao:=ao) (d:=d) (K:=c) (X:=e));exact g _ [] _ _ m (n _ rfl)
 |ox=>
  refine fw (FW b) (wW b i (d+13)) (b.fn 293 _ rfl) (show aH 0 [.str o5] from⟨u,u⟩) λc e g j=> ?_;refine z ?_ (Vs (ao:=ao) (d:=d) (K:=c) (X:=e));exact j _ [] (.obj 1) (.a7 je) ⟨1,2,.obj 3,rfl,bU _,bU _,by decide,rfl,rfl,.inr ⟨3,rfl,bU _,by decide,by decide,rfl⟩⟩ (hX rfl)
 |lw=>
  refine fw (FW b) (wW b i (d+13)) (b.fn 293 _ rfl) (show aH 0 [.str oZ] from⟨u,u⟩) λc e g j=> ?_;refine z ?_ (Vl (ao:=ao) (d:=d) (K:=c) (X:=e));exact j _ [] (.obj 2) (.a7 je) ⟨2,3,.obj 4,rfl,bU _,bU _,by decide,rfl,rfl,.inr ⟨4,rfl,bU _,by decide,by decide,rfl⟩⟩ (hX rfl)
abbrev rX:aL:=c (m 35) []
abbrev ky:aL:=c (m 37) [.bool false]
abbrev vg:aL:=c (m 38) []
noncomputable def dJ:Nat->List Nat->Bool
 |ap,[]=>Nat.beq ap 0
 |ap,al::a=>cond (Nat.beq al 123) (dJ (ap+1) a) (cond (Nat.beq al 125) (match ap with|0=>false|ap+1=>dJ ap a) (dJ ap a))
def CG(a:Nat):Prop:=e0 a=false/\Nat.beq a 123=false/\Nat.beq a 125=false/\Nat.beq a 93=false/\Nat.beq a 34=false/\Nat.beq a 91=false/\Nat.beq a 36=false/\Nat.beq a 59=false/\Nat.beq a 92=false/\Nat.beq a 35=false
def ha(a:Nat):Prop:=a=123\/a=125\/a=32\/CG a
def yb{b a:Nat}{c:List Nat}(d:Nat.beq a 123=false)(e:Nat.beq a 125=false):dJ b (a::c)=dJ b c:=by refine(?_:cond (Nat.beq a 123) _ (cond (Nat.beq a 125) _ _)=_);rw [d,e];rfl
def yd(a b:Nat):Nat.beq a b=Nat.beq b a:=by rw [Bool.eq_iff_iff,Nat.beq_eq,Nat.beq_eq];exact eq_comm
noncomputable abbrev yh(a:Str):List (Str×Y):=[("c",.str a)]
abbrev jC(g:Str)(e:Bool)(c:Str)(a b:Bool)(d f:Nat):List (Str×Y):=[("element",.str g),("is_hash",.bool e),("begins",.str c),("is_bound",.bool a),("is_hashed",.bool false),("wants_brace",.bool b),("wants_escape",.bool false),("depth",q d),("at",q f)]
noncomputable def DA(b:Stmt):List Stmt:=by
 induction b using Stmt.casesOn with
 |If _ _ a _=>exact a
 |_=>exact []
def gu(a:Option Stmt):Option Stmt:=t (a.toList.flatMap DA) 0
abbrev mB:List Stmt:=jP (t rX.body 7)
abbrev eo:I:=⟨rX.scope,none,[]⟩
abbrev mR(a:Frag)(k b:Nat):O:=x (f a) [] (k+90) (b+3)
abbrev mW(b:Frag)(k d:Nat)(a:Q)(c:af):Nat->St->Prop:=cv none (mR b k d) eo (hp (t rX.body 7)) mB [] a c
section
variable{u:Frag}{o s:Str}{k v d i m b:Nat}{c n e:Bool}{g:Q}{w:af}{y:List (Str×Y)}
def E7:cond (Nat.blt o.length 9223372036854775808) (cond (decide (Int.ofNat d<Int.ofNat o.length)) (aU (mR u k v) eo (bT w) (aT 0 mB) ⟨[],jC o c s n e i d++y⟩ (eU (mW u k v g w m) g)) (g .next ⟨[],jC o c s n e i d++y⟩)) False=mW u k v g w (m+1) ⟨[],jC o c s n e i d++y⟩:=by kernel_rfl
def Sd:cu (ck (Int.ofNat d) o.length) (λj=>cu (t o.cps.toList j) λb=>g .next ⟨[],aO "c" (.str ⟨#[b]⟩) (jC o c s n e i d++y)⟩)=A (mR u k v) eo 0 mB ⟨[],jC o c s n e i d++y⟩ g w:=by kernel_rfl
abbrev mS(o:Str)(c:Bool)(s:Str)(n e:Bool)(i d b:Nat):St:=⟨[],jC o c s n e i d++yh ⟨#[b]⟩⟩
def Sn:g .next (mS o c s n e (i+1) (d+1) 123)=aU (mR u k v) eo w (aT 1 mB) (mS o c s n e i d 123) g:=by kernel_rfl
def Sf:cond (decide (Int.ofNat i-1<0)) (g (.ret (.str "escape")) ⟨[],aO "depth" (.int (Int.ofNat i-1)) (mS o c s n e 0 (d+1) 125).d⟩) (g .next ⟨[],aO "depth" (.int (Int.ofNat i-1)) (mS o c s n e 0 (d+1) 125).d⟩)=aU (mR u k v) eo w (aT 1 mB) (mS o c s n e i d 125) g:=by kernel_rfl
def Se:g .next (mS o c s true true i (d+1) 32)=aU (mR u k v) eo w (aT 1 mB) (mS o c s n e i d 32) g:=by kernel_rfl
abbrev mI:Option Stmt:=t mB 2
abbrev mA(u:Frag)(k v:Nat)(a:Option Stmt)(b:St)(g:Q)(w:af):Prop:=aU (x (f u) [] (k+89) (v+3)) eo w (gR a) b g
abbrev pT(a:Option Stmt):List Stmt:=a.toList.flatMap DA
def Si:cond (Fast.sEq ⟨#[b]⟩ ⟨#[123]⟩) (mA u k v mI (mS o c s n e i (d+1) b) g w) (aU (mR u k v) eo w (pT mI) (mS o c s n e i (d+1) b) g)=aU (mR u k v) eo w (aT 1 mB) (mS o c s n e i d b) g:=by kernel_rfl
def Sj:cond (Fast.sEq ⟨#[b]⟩ ⟨#[125]⟩) (mA u k v (gu mI) (mS o c s n e i d b) g w) (aU (mR u k v) eo w (pT (gu mI)) (mS o c s n e i d b) g)=aU (mR u k v) eo w (pT mI) (mS o c s n e i d b) g:=by kernel_rfl
def Sk:cond (dI ⟨#[b]⟩ [⟨#[93]⟩,⟨#[34]⟩]) (mA u k v (gu (gu mI)) (mS o c s n e i d b) g w) (aU (mR u k v) eo w (pT (gu (gu mI))) (mS o c s n e i d b) g)=aU (mR u k v) eo w (pT (gu mI)) (mS o c s n e i d b) g:=by kernel_rfl
noncomputable abbrev bN:List Str:=[⟨#[91]⟩,⟨#[36]⟩,⟨#[59]⟩,⟨#[92]⟩]
noncomputable abbrev bW:List Str:=[⟨#[32]⟩,⟨#[9]⟩,⟨#[10]⟩,⟨#[11]⟩,⟨#[12]⟩,⟨#[13]⟩]
abbrev FL(b:Str)(a:List Str)(c d e:Prop):Prop:=cond (dI b a) (cond (dI b a) c d) e
def Sm:FL ⟨#[b]⟩ bN (mA u k v (gu (gu (gu mI))) (mS o c s n e i d b) g w) (g .next (mS o c s n e i d b)) (FL ⟨#[b]⟩ bW (mA u k v (gu (gu (gu mI))) (mS o c s n e i d b) g w) (g .next (mS o c s n e i d b)) (g .next (mS o c s n e i d b)))=
  A (mR u k v) eo 0 (pT (gu (gu mI))) (mS o c s n e i d b) g w:=by kernel_rfl
def B6{b:Nat}:∀{l:List Nat},(∀a∈l,Nat.beq b a=false)->dI ⟨#[b]⟩ (l.map λa=>⟨#[a]⟩)=false:=λ{l}=>by
 induction l with
 |nil=>exactλg=>rfl
 |cons a l e=>
  intro c;refine(?_:cond (Fast.sEq ⟨#[a]⟩ ⟨#[b]⟩) true _=false);refine h (qC ..) ?_;refine h (yd ..) ?_;refine h (c a (.head _) ..) ?_;exact e λf d=>c f (.tail _ d)
def Sg(y:CG b)(x:g .next (mS o c s n e i (d+1) b)):aU (mR u k v) eo w (aT 1 mB) (mS o c s n e i d b) g:=by refine aS λA z=> ?_;have a:=y;refine z ?_;have p:∀{l m:Nat},Nat.beq b l=false->Nat.beq b m=false->∀j∈[l,m],Nat.beq b j=false:=λq r j h=>(List.mem_cons.mp h).elim (λf=>f▸q) λf=>List.mem_singleton.mp f▸r;have t:dI ⟨#[b]⟩ bN=false:=B6 (l:=[91,36,59,92]) λj h=>(List.mem_cons.mp h).elim (λf=>f▸a.2.2.2.2.2.1) λh=>(List.mem_cons.mp h).elim (λf=>f▸a.2.2.2.2.2.2.1) (p a.2.2.2.2.2.2.2.1 a.2.2.2.2.2.2.2.2.1 j);exact Si▸sF (s8 a.2.1) (Sj▸sF (s8 a.2.2.1) (Sk▸sF (B6 (l:=[93,34]) (p a.2.2.2.1 a.2.2.2.2.1)) (bm 0 (Sm▸sF t (sF a.1 x)))))
def E8(A:Nat.blt o.length 9223372036854775808=true){l pre:List Nat}(G:y=[]\/∃C,y=yh C) (r:o.cps.toList=pre++b::l) (x:d=pre.length) (F:ha b) (a:dJ i (b::l)=true)
  (f:∀(q:Nat)(p B:Bool),dJ q l=true->(p||l.any (λb=>b==32))=(n||(b::l).any (λb=>b==32))->mW u k v g w m (mS o c s p B q (d+1) b)):
  mW u k v g w (m+1) ⟨[],jC o c s n e i d++y⟩:=by
 have H:=mg r;have z:d<o.length:=x▸H▸(by refine h (eV ..) ?_;exact o8 (gI _));have I:t o.cps.toList d=some b:=by refine h (r ..) ?_;exact qr x
 have J:aO "c" (.str ⟨#[b]⟩) (jC o c s n e i d++y)=jC o c s n e i d++yh ⟨#[b]⟩:=by rcases G with rfl|⟨_,rfl⟩<;>rfl
 refine E7▸sT A (sT (iD (Int.ofNat_lt.mpr z)) (bm 0 (Sd▸sO (fJ z (Nat.blt_eq.mp A)) (sO I (nx (J▸?_))))));rcases F with rfl|rfl|rfl|j
 . exact Sn▸f (i+1) n e a rfl
 . rcases i with _|i
   . exact aA (a)
   . have D:(Int.ofNat (i+1)-1)=Int.ofNat i:=Int.add_sub_cancel (i:Int) 1;refine Sf▸?_;refine h (D ..) ?_;exact sF (k7 (Int.not_lt.mpr (xA i))) (f i n e a rfl)
 . exact Se▸f i true true a (by refine h (Bool.true_or ..) ?_;refine h (t1 ..) ?_;exact(Bool.or_true n).symm)
 . refine Sg j (f i n e (yb j.2.1 j.2.2.1▸a) ?_);have E:(b==32)=false:=by rw [beq_eq_false_iff_ne];rintro rfl;exact aA (j.1)
   rw [List.any_cons,E,Bool.false_or]
def Sq(z:Nat.blt o.length 9223372036854775808=true){l:List Nat}:∀(f:List Nat)(d i m:Nat)(n e:Bool)(a:Nat),o.cps.toList=f++l->d=f.length->(∀b∈l,ha b)->dJ i l=true->l.length<m->
   (∀e d r,g .next (mS o c s (n||l.any (λb=>b==32)) e 0 d r))->mW u k v g w m (mS o c s n e i d a):=by
 induction l with
 |nil=>
  intro f d i m n e a j p y x q t;rcases m with _|m
  . exact absurd q (eu _)
  have E:i=0:=dR x;subst E;have G:o.length<=d:=ed (by rw [mg j,List.append_nil,p]);refine E7▸sT z (sF (k7 (Int.not_lt.mpr (Int.ofNat_le.mpr G))) ?_);have:=t e d a;rw [List.any_nil,Bool.or_false] at this;exact this
 |cons b l I=>
  intro f d i m n e a j p y x q t;rcases m with _|m
  . exact absurd q (eu _)
  exact E8 z (.inr ⟨⟨#[a]⟩,rfl⟩) j p (y b (.head _)) x λC A B D F=>
   I (f++[b]) (d+1) C m A B b (by refine h (j ..) ?_;refine h (jX ..) ?_;rfl) (by refine h (p ..) ?_;refine h (eV ..) ?_;rfl) (λJ H=>y J (.tail _ H)) D (hq q) λe d r=>F▸t e d r
def Ss{l:List Nat}(i:Nat.blt (a (b::l)).length 9223372036854775808=true)(j:∀h∈b::l,ha h) (r:dJ 0 (b::l)=true) (q:∀e d f,g .next (mS (a (b::l)) c s (n||(b::l).any (λb=>b==32)) e 0 d f)):
  mW u k v g w (l.length+1+1) ⟨[],jC (a (b::l)) c s n e 0 0++[]⟩:=
 E8 i (.inl rfl) (l:=l) (pre:=[]) rfl rfl (j b (.head _)) r λp m o t x=>
  Sq i (l:=l) [b] 1 p (l.length+1) m o b rfl rfl (λh y=>j h (.tail _ y)) t (cb _) λe d f=>x▸q e d f
section
variable{a:Str}
abbrev qk(u:Frag)(k v:Nat):O:=x (f u) [] (k+100) (v+3)
noncomputable abbrev sy(a:Str)(c:Bool):List (Str×Y):=[("element",.str a),("is_hash",.bool c)]
noncomputable abbrev E6(a:Str)(c:Bool)(b:Str):List (Str×Y):=[("element",.str a),("is_hash",.bool c),("begins",.str b)]
abbrev qj:List Stmt:=rX.body
def Su:cond (Fast.sEq a (Str.ofString "")) (g (.ret (.str "brace")) ⟨[],sy a c⟩) (g .next ⟨[],sy a c⟩)=A (qk u k v) eo 0 qj ⟨[],sy a c⟩ g w:=by kernel_rfl
def Sv:cu (ck 0 a.length) (λj=>cu (t a.cps.toList j) λb=>g .next ⟨[],E6 a c ⟨#[b]⟩⟩)=A (qk u k v) eo 1 qj ⟨[],sy a c⟩ g w:=by kernel_rfl
def vB(c:Bool)(a:Str):Bool:=match c with
 |true=>Fast.sEq a ⟨#[35]⟩|false=>false
abbrev z1(u:Frag)(k v:Nat)(a:Str)(c:Bool)(d:Str)(n b e:Bool)(g:Q)(w:af):Prop:=aU (qk u k v) eo w (aT 7 qj) ⟨[],[("element",.str a),("is_hash",.bool c),("begins",.str d),("is_bound",.bool n),("is_hashed",.bool b),("wants_brace",.bool e),("wants_escape",.bool false),("depth",q 0),("at",q 0)]⟩ g
def Sw{b:Str}:cond (dI b [⟨#[123]⟩,⟨#[34]⟩]) (z1 u k v a c b (dI b [⟨#[123]⟩,⟨#[34]⟩]) (vB c b) (dI b [⟨#[123]⟩,⟨#[34]⟩]) g w) (z1 u k v a c b (dI b [⟨#[123]⟩,⟨#[34]⟩]) (vB c b) (vB c b) g w)=aU (qk u k v) eo w (aT 2 qj) ⟨[],E6 a c b⟩ g:=by rcases c with _|_<;>kernel_rfl
def Sx{a:St}:(∃m,mW u (k+9) v g w m a)=A (qk u k v) eo 7 qj a g w:=by kernel_rfl
def Sy:cond n (g (.ret (.str "brace")) (mS o c s n e 0 d b)) (g (.ret (.str "none")) (mS o c s n e 0 d b))=aU (qk u k v) eo w (aT 8 qj) (mS o c s n e 0 d b) g:=by kernel_rfl
end
end
def k1:Str:=k [98,114,97,99,101]
def tM:Str:=k [110,111,110,101]
def Sp(o:Frag)(b:Nat)(c:List Nat)(k q:Nat)(d:Bool)(e p:af)(A:c.length<100000)(l:∀C∈b::c,ha C) (w:dJ 0 (b::c)=true)
  (t:∀B,e (.str (cond (Nat.beq b 123||(b::c).any (λb=>b==32)) k1 tM)) ⟨[],B⟩):av (x (f o) [] (k+100) (q+3)) none rX [.str (a (b::c)),.bool d] ⟨[],[]⟩ e p:=by
 have u:(a (b::c)).length<9223372036854775808:=eW A (by decide);have v:vB d ⟨#[b]⟩=false:=by
  rcases d with _|_
  . rfl
  . refine(qC b 35).trans ?_;rcases l b (.head _) with rfl|rfl|rfl|m;iterate 3 rfl
    exact m.2.2.2.2.2.2.2.2.2
 have y:dI ⟨#[b]⟩ [⟨#[123]⟩,⟨#[34]⟩]=Nat.beq b 123:=by
  refine(?_:cond (Fast.sEq ⟨#[123]⟩ ⟨#[b]⟩) true (cond (Fast.sEq ⟨#[34]⟩ ⟨#[b]⟩) true false)=_);have:Nat.beq b 34=false:=by
   rcases l b (.head _) with rfl|rfl|rfl|m;iterate 3 rfl
   exact m.2.2.2.2.1
  rw [qC,qC,yd 123,yd 34,this];rcases Nat.beq b 123 with _|_<;>rfl
 have s:∀g,z1 o k q (a (b::c)) d ⟨#[b]⟩ (Nat.beq b 123) false g (fK [] e) (fX [] p):=λg=>bm 7 (Sx▸⟨c.length+1+1,Ss (Nat.blt_eq.mpr u) l w λg i D=>nx (Sy▸by
  generalize (Nat.beq b 123||(b::c).any (λb=>b==32))=r at t;rcases r with _|_<;>exact t _)⟩)
 refine c2 (cr:=sy (a (b::c)) d) (by kernel_rfl) (λn n=>by kernel_rfl) (j 0 ⟨Su▸sF (wL _ _) (nx (bm 1 (Sv▸sO (fJ (i:=0) (gI _) u) (oP (v:=b) rfl (nx ?_)))))⟩);refine z (P:=cond _ _ _) ?_ Sw;refine h (y ..) ?_;refine h (v ..) ?_;exact fG (λn=>s _) λn=>s _
def So:List Nat->Str
 |[]=>k1
 |a::b=>cond (Nat.beq a 123||(a::b).any (λa=>a==32)) k1 tM
structure li(c:Str):Prop where
 M:∃b,c=a b/\b.length<100000/\(∀d∈b,ha d)/\dJ 0 b=true
inductive ud(d:Nat)(args:List Y)(st:St)(K X:af):Prop
 |mk (b c):args=[.str (a b),.bool c]->4<=d->b.length<100000->(∀e∈b,ha e)->dJ 0 b=true->K (.str (So b)) st->ud d args st K X
def Sr{g:au}{p:Program}{d:Frag}(c:aC g.hb (f d))(k:aV (f d)):az g p 300 ud:=by
 rintro e t w r s ⟨b,h,n,o,a1,a2,a3,i⟩;subst n;obtain⟨e,rfl⟩:=rm (n:=3) o;refine fw c (bt (ct:=[]) c k (λx=>trivial) 100 (e+3)) (c.fn 300 _ rfl) (show aH 0 [.str (a b),.bool h] from⟨u,u,u⟩) λl m j v=> ?_;cases b with
 |nil=>
  exact z (j [] [] (.str k1) (.str k1) (.same u) i) (by kernel_rfl)
 |cons al b=>exact Sp d al b 0 e h l m (by simp at a1;exact(ee a1)) a2 a3 λq=>j _ q _ _ (.same u) i
noncomputable def yz:List (Nat×bF):=[(300,ud)]
def Kq{a:au}{p:Program}{b:Frag}(c:aC a.hb (f b))(d:aV (f b)):dS a p yz:=⟨Sr c d,u⟩
section
variable{d:Frag}{k c:Nat}{h:Q}{g e:af}{a m:Str}{b:Bool}
abbrev oB:I:=⟨ky.scope,none,[]⟩
noncomputable abbrev An(a:Str)(b:Bool):List (Str×Y):=[("element",.str a),("is_hash",.bool b)]
noncomputable abbrev qx(a:Str)(b:Bool)(m:Str):List (Str×Y):=[("element",.str a),("is_hash",.bool b),("mode",.str m)]
abbrev oC(d:Frag)(k c:Nat):O:=x (f d) yz (k+100) (c+5)
def TY(g:ud (c+5) [.str a,.bool b] ⟨[],An a b⟩ (λi f=>h .next ⟨f.objs,aO "mode" i f.d⟩) e):A (oC d k c) oB 0 ky.body ⟨[],An a b⟩ h e:=by apply z g;kernel_rfl
def TZ(f:g (.str a) ⟨[],[]⟩):aU (oC d k c) oB e (aT 1 ky.body) ⟨[],qx a b tM⟩ (fK [] g):=by apply bm 1;apply z (rt (r:=oC d k c) (cx:=oB) (X:=e) (i:=2) (body:=ky.body) (st:=⟨[],qx a b tM⟩) f);kernel_rfl
def F4(i:((Str.ofString "{").length+a.length).ble sizeLine=true)(j:((Str.ofString "{"++a).length+(Str.ofString "}").length).ble sizeLine=true)(f:g (.str (Str.ofString "{"++a++Str.ofString "}")) ⟨[],[]⟩):aU (oC d k c) oB e (aT 1 ky.body) ⟨[],qx a b k1⟩ (fK [] g):=by
 apply bm 1;suffices h:aU (oC d k c) oB e (aT 2 ky.body) ⟨[],qx a b k1⟩ (fK [] g) by
  apply z (nx (i:=2) h);kernel_rfl
 apply bm 2;apply z (aY (Q:=False) i (aY (Q:=False) j (rt (r:=oC d k c) (cx:=oB) (X:=e) (i:=3) (body:=ky.body) (st:=⟨[],qx a b k1⟩) f)));kernel_rfl
end
def T0(i:Frag)(b:List Nat)(k m:Nat)(e:Bool)(g l:af)(h:b.length<100000)(r:∀t∈b,ha t) (q:dJ 0 b=true)
  (d:∀s,g (.str (cJ (a b))) ⟨[],s⟩):av (x (f i) yz (k+100) (m+5)) none ky [.str (a b),.bool e] ⟨[],[]⟩ g l:=by
 refine c2 (cr:=An (a b) e) (by kernel_rfl) (λu u=>by kernel_rfl) (j 0 ⟨TY ⟨b,e,rfl,aD ..,h,r,q,nx ?_⟩⟩);have n:((Str.ofString "{").length+(a b).length).ble sizeLine=true:=Nat.ble_eq.mpr (by refine(?_:1+b.length<=16777216);exact(bV h (by simp+arith only)));have o:((Str.ofString "{"++a b).length+(Str.ofString "}").length).ble sizeLine=true:=Nat.ble_eq.mpr (by
  refine(?_:((#[123]:Array Nat)++(⟨b⟩:Array Nat)).size+1<=16777216);rw [Array.size_append];refine(?_:1+b.length+1<=16777216);exact(bV h (by simp+arith only)))
 rcases b with _|⟨c,b⟩
 . exact F4 n o (d [])
 . have p:cJ (a (c::b))=cond (Nat.beq c 123||(c::b).any (λc=>c==32)) (Str.ofString "{"++a (c::b)++Str.ofString "}") (a (c::b)):=by refine(?_:cond ((c::b).any (λc=>c==32)||Nat.beq c 123) _ _=_);rw [Bool.or_comm];rfl
   have d:=d [];rw [p] at d;refine(?_:aU (oC i k m) oB (fX [] l) (aT 1 ky.body) ⟨[],qx (a (c::b)) e (cond (Nat.beq c 123||(c::b).any (λc=>c==32)) k1 tM)⟩ (fK [] g));generalize (Nat.beq c 123||(c::b).any (λc=>c==32))=ah at d⊢;rcases ah with _|_
   . exact TZ d
   . exact F4 n o d
inductive uf(d:Nat)(args:List Y)(st:St)(K X:af):Prop
 |mk (a b):args=[.str a,.bool b]->6<=d->li a->K (.str (cJ a)) st->uf d args st K X
def T1{e:au}{p:Program}{c:Frag}(b:aC e.hb (f c))(g:aV (f c)):az e p 315 uf:=by
 rintro d w y s t ⟨z,h,l,m,⟨i,q,a1,a2,a3⟩,n⟩;subst l;subst q;obtain⟨d,rfl⟩:=rm (n:=5) m;exact fw b (bt b g (λv=>(Kq b g)) 100 (d+5)) (b.fn 315 _ rfl) (show aH 0 [.str (a i),.bool h] from⟨u,u,u⟩) λj k o x=>
  T0 c i 0 d h j k a1 a2 a3 λr=>o _ r _ _ (.same u) n
noncomputable def yA:List (Nat×bF):=[(315,uf)]
def Kr{a:au}{p:Program}{b:Frag}(c:aC a.hb (f b))(d:aV (f b)):dS a p yA:=⟨T1 c d,u⟩
def cc(a:Option Stmt):Expr:=eR a 0
def bX(a:Option Stmt):List Stmt:=gR a
def rs:List Y->List Str->List Y
 |ak,[]=>ak
 |ak,a::b=>rs (aJ ak (.str (cJ a))) b
noncomputable abbrev qd:List (Str×Y):=[("items",.obj 0),("out",.obj 1)]
noncomputable abbrev sk(a:Str):List (Str×Y):=[("item",.str a)]
section
variable{g:Frag}{k h:Nat}{i:ae}{e:Q}{b:af}{l a:List Y}{d:Str}{n:Y}{c:List (Str×Y)}
abbrev sm(g:Frag)(k h:Nat)(e:Q)(b:af)(l:List Y)(a:St):Prop:=bO none (f g) (x (f g) yA (k+90) (h+6)) ⟨vg.scope,none,[]⟩ (cc (t vg.body 1)) (bX (t vg.body 1)) [] e b l a
def Qx(o:c=[]\/∃m,c=sk m) (j:cond (Nat.blt (C a) 9223372036854775808) (uf (h+6) [.str d,.bool (jH false ((Int.ofNat (C a)).beq' 0))] ⟨[.ro i,.c a],qd++sk d⟩ (λn f=>(uy (.obj 1) n f).A (λp f=>sm g k h e b l f) (bT b)) (bT b)) False):
  sm g k h e b (.str d::l) ⟨[.ro i,.c a],qd++c⟩:=by
 rcases o with rfl|⟨m,rfl⟩
 . apply z j;kernel_rfl
 . apply z j;kernel_rfl
def Qw(c:cond ((C a).ble sizeLine) (sm g k h e b l ⟨[.ro i,.c (aJ a n)],qd++sk d⟩) False):(uy (.obj 1) n ⟨[.ro i,.c a],qd++sk d⟩).A (λj f=>sm g k h e b l f) (bT b):=by apply z c;kernel_rfl
def QA(g:Frag)(k h:Nat)(i:ae)(e:Q)(b:af)(f:List Str)(a:List Y)(c:List (Str×Y))(o:c=[]\/∃r,c=sk r) (l:∀d∈f,li d) (m:a.length+f.length<100000)
  (j:∀c,e .next ⟨[.ro i,.c (rs a f)],qd++c⟩):sm g k h e b (y f) ⟨[.ro i,.c a],qd++c⟩:=by
 induction f generalizing a c with
 |nil=>exact j c
 |cons d f q=>
  have n:a.length<100000:=eW (c5 ..) m;exact Qx o (aY (Nat.blt_eq.mpr (aZ a▸j2 n (by decide))) ⟨d,_,rfl,aD ..,l d (.head _),
   Qw (aY (Nat.ble_eq.mpr (aZ a▸L (ee n) (by decide))) (q _ _ (.inr ⟨d,rfl⟩) (λs p=>l s (.tail _ p)) (c0 ..▸(by rw [List.length_append];exact(bV m (by simp+arith only [List.length_cons,List.length_nil])))) j))⟩)
end
theorem B':∀(b a:List Str),rs (y a) b=y (a++b.map cJ)
 |[],a=>by refine h (List.map_nil ..) ?_;refine h (et ..) ?_;rfl
 |c::b,a=>by
  have:aJ (y a) (.str (cJ c))=y (a++[cJ c]):=by
   refine h (c0 ..) ?_;induction a with
   |nil=>rfl
   |cons ai a d=>exact T (Y.str ai::·) d
  refine(?_:rs (aJ (y a) _) b=_);rw [this,B' b (a++[cJ c])];simp
theorem AR:∀a:List Str,iz (y a)=some a
 |[]=>rfl
 |b::a=>by
  refine(?_:(iz (y a)).map (b::·)=_);rw [AR a];rfl
def Qz(c:Frag)(a:List Str)(k d:Nat)(b e:af)(i:∀n∈a,li n) (l:a.length<100000) (j:JoinOk ⟨#[32]⟩ (a.map cJ)=true)
  (g:∀m,b (.str (mb a)) ⟨[.c (y a),.c (y (a.map cJ))],m⟩):av (x (f c) yA (k+100) (d+6)) none vg [.obj 0] ⟨[.c (y a)],[]⟩ b e:=by
 conv=>whnf
 conv=>whnf
 refine QA c (k+9) d (.c (y a)) _ _ a [] [] (.inl rfl) i (by simpa using l) λo=> ?_;refine h (show rs [] a=y (a.map cJ) from B' a []) ?_;conv=>whnf
 refine h (AR ..) ?_;conv=>whnf
 refine h (show JoinOk (Str.ofString " ") (a.map cJ)=true from j) ?_;conv=>whnf
 exact g _
inductive ub(d:Nat)(args:List Y)(st:St)(K X:af):Prop
 |mk (a aN):args=[.obj a]->t st.objs a=some (.c (y aN))->7<=d->(∀b∈aN,li b)->aN.length<100000->JoinOk ⟨#[32]⟩ (aN.map cJ)=true->K (.str (mb aN)) st->ub d args st K X
def mK{b:au}{p:Program}{f:ay}{n:Nat}{r:O}{l:aL}{j:Nat}{k h:List Y}{a:St}{c g:af}{ix:List Nat}{e:List ae}(q:aC b.hb f)(u:b1 ⟨b,p,f,n,r⟩)(x:fc b.hb j l)(D:ix.Nodup)(i:dT 0 (cN ix) [] a.objs ix e)(C:bM 0 (cN ix) [] k h)
  (t:av r none l h ⟨e,[]⟩ (fb bL (some a.d) 0 ix a.objs c) (fb bL (some a.d) 0 ix a.objs g)):Made b p j (n+1) k a c g:=by rintro F G m I rfl y z v B E s o A w;exact d.rC (k:=⟨b,p,f,n,r⟩) (n:=0) (ix:=ix) q u x y z v B E c g (.mk e h D (λH i=>absurd i (eu _)) i C t) s o A w
def QB{i:au}{p:Program}{c:Frag}(a:aC i.hb (f c))(j:aV (f c)):az i p 322 ub:=by rintro d v g l s ⟨b,e,n,k,o,a1,a2,a3,q⟩;subst n;obtain⟨d,rfl⟩:=rm (n:=6) o;have r:cN [b] b=some 0:=hj;refine mK a (bt a j (λt=>(Kr a j)) 100 (d+6)) (a.fn 322 _ rfl) (ix:=[b]) (List.nodup_cons.mpr ⟨cB,.nil⟩) (.cons k (.c (bM.strs _)) .nil) (.cons (.obj r) .nil) ?_;refine Qz c e 0 d _ _ a1 a2 a3 λw=> .mk [] [.c (y e)] [] g.d _ ⟨.cons (.c (bM.strs _)) .nil,.nil,λx m=>absurd m cB,.nil⟩ rfl (.same u) ?_;refine(?_:l _ ⟨aQ g.objs b (.c (y e))++[],g.d⟩);refine h (et ..) ?_;refine h (jM k ..) ?_;exact q
def iu(a:List Vn):List Y:=y (a.map Vn.str)
def zp(a:List Vn×List Str):Y:= .l [.c (iu a.1),.c (y a.2)]
def gE:List (List Vn×List Str)->List Y
 |[]=>[]
 |a::b=>zp a::gE b
def kD:List Vn->List Str->Nat->o->o
 |[],_,_,r=>r
 |c::d,b,a,r=>kD d b (a+1) (r.bG c ((b[a]?).getD H))
def fq:List (List Vn×List Str)->Nat->o->o
 |[],_,r=>r
 |a::b,turn,r=>fq b turn (kD a.1 a.2 (turn*a.1.length) r)
noncomputable def rI:List (Nat×bF):=[(604,lb)]
def Ks{a:au}{p:Program}{b:Frag}(c:aC a.hb (f b))(d:aV (f b)):dS a p rI:=⟨HD c d,u⟩
abbrev vi:aL:=c (m 45) []
def M.Ok.st{w:M}{r:o}(a:w.Ok)(b:aH 19 r.U):(w.st r).Ok:=⟨b,a.aW,a.a6⟩
def oT(r:o)(a:Vn)(b:Str):(r.bG a b).U=r.U:=by rcases a with _|_|_<;>rfl
theorem zr:∀(b:List Vn)(c:List Str)(a:Nat)(r:o),(kD b c a r).U=r.U
 |[],_,_,_=>rfl
 |d::b,c,a,r=>(zr b c (a+1) _).trans (oT _ _ _)
theorem zs:∀(b:List (List Vn×List Str))(a:Nat)(r:o),(fq b a r).U=r.U
 |[],_,_=>rfl
 |c::b,a,r=>(zs b a _).trans (zr _ _ _ _)
theorem w5:∀(b:List Str)(a:Nat),t (y b) a=(b[a]?).map Y.str
 |[],a=>by rcases a with _|_<;>rfl
 |c::b,0=>rfl
 |c::b,a+1=>by
  refine(?_:t (y b) a=_);rw [w5 b a];simp
theorem ho:∀(a:List Str),C (y a)=a.length
 |[]=>rfl
 |b::a=>by
  refine(?_:Nat.succ (C (y a))=_);rw [ho a];simp
abbrev mF(a:Y)(b:Nat):List (Str×Y):=[("host",.obj 0),("groups",a),("turn",q b)]
abbrev Gc(b:List Vn)(c:List Str)(a:Nat):List (Str×Y):=[("names",.c (iu b)),("values",.c (y c)),("at",q a)]
noncomputable abbrev UA(a b:Y):List (Str×Y):=[("name",a),("value",b)]
abbrev Ao:Option Stmt:=t vi.body 0
abbrev F5:Option Stmt:=t (bX Ao) 1
def As:Option (Y×Y)->List (Str×Y)
 |none=>[]
 |some p=>UA p.1 p.2
abbrev jK:I:=⟨vi.scope,none,[]⟩
section
variable{h:Frag}{w:M}{d v:Y}{g k i b:Nat}{N s:List Vn}{n:Vn}{a:List Str}{q:Str}{l:Option (Y×Y)}{c:Q}{X:af}{u:List Y}
abbrev gi(d:Y)(g:Nat)(N:List Vn)(a:List Str)(b:Nat)(l:Option (Y×Y)):List (Str×Y):=mF d g++Gc N a b++As l
abbrev qz(h:Frag)(k i:Nat):O:=x (f h) rI (k+88) (i+7)
abbrev qy:List Stmt:=bX F5
abbrev s6(h:Frag)(k i:Nat)(c:Q)(X:af)(u:List Y)(a:St):Prop:=bO none (f h) (qz h k i) jK (cc F5) qy [] c X u a
def Ur:aU (qz h k i) jK (bT X) (aT 1 qy) ⟨e w++[],gi d g N a b (some (v,.str H))⟩ (eU (s6 h k i c X u) c)=s6 h k i c X (v::u) ⟨e w++[],gi d g N a b l⟩:=by rcases l with _|_<;>kernel_rfl
def Uo:cond (Nat.blt (C (y a)) 9223372036854775808) (cond (decide (Int.ofNat b<Int.ofNat (C (y a)))) (cu (ck b (C (y a))) λj=>cu (t (y a) j) λf=>c .next ⟨e w++[],gi d g N a b (some (v,f))⟩) (c .next ⟨e w++[],gi d g N a b (some (v,.str H))⟩)) False=A (qz h k i) jK 1 qy ⟨e w++[],gi d g N a b (some (v,.str H))⟩ c X:=by kernel_rfl
def Up:lb (i+7) [.obj 0,.str n.str,.str q] ⟨e w++[],gi d g N a b (some (.str n.str,.str q))⟩ (λj f=>c .next f) X=A (qz h k i) jK 2 qy ⟨e w++[],gi d g N a b (some (.str n.str,.str q))⟩ c X:=by kernel_rfl
def Uq:c .next ⟨e w++[],gi d g N a (b+1) (some (v,.str q))⟩=A (qz h k i) jK 3 qy ⟨e w++[],gi d g N a b (some (v,.str q))⟩ c X:=by kernel_rfl
def Ga(l:w.Ok)(f:c .next ⟨e (w.st (w.r.bG n q))++[],gi d g N a (b+1) (some (.str n.str,.str q))⟩):Go (aU (qz h k i) jK X (aT 2 qy) ⟨e w++[],gi d g N a b (some (.str n.str,.str q))⟩ c):=
 j 2 (a9 ⟨.mk w [] _ n q l rfl rfl (aD _ _) (aB (j 3 (a9 ⟨f⟩ (Uq (w:=w.st (w.r.bG n q)))))).go⟩ Up)
def UI(x:a.length<100000)(v:w.Ok)(s:List Vn):
  ∀(b:Nat)(r:o)(l:Option (Y×Y)),aH 19 r.U->(∀l,c .next ⟨e (w.st (kD s a b r))++[],gi d g N a (b+s.length) l⟩)->s6 h k i c X (iu s) ⟨e (w.st r)++[],gi d g N a b l⟩:=by
 induction s with
 |nil=>exactλb r l D m=>m l
 |cons n s A=>
  intro b r l p m;have q:s6 h k i c X (iu s) ⟨e (w.st (r.bG n ((a[b]?).getD H)))++[],gi d g N a (b+1) (some (.str n.str,.str ((a[b]?).getD H)))⟩:=
   A (b+1) _ _ ((oT ..).symm▸p) λl=>mX b s.length 1▸m l
  have u:C (y a)<9223372036854775808:=(ho a).symm▸j2 x (by decide);refine z ?_ (Ur (w:=w.st r) (v:= .str n.str));refine(j 1 (a9 ⟨?_⟩ (Uo (w:=w.st r)))).go;refine aY (Nat.blt_eq.mpr u) ?_;by_cases f:b<a.length
  . have t:b<C (y a):=(ho a).symm▸f;refine aY (iD (Int.ofNat_lt.mpr t)) (oP (fJ t u) (oP (v:= .str ((a[b]?).getD H)) ?_ ?_))
    . rw [w5,List.getElem?_eq_getElem f];rfl
    . refine(aB ?_).go;exact Ga (w:=w.st r) (v.st p) q
  . rw [List.getElem?_eq_none (Nat.le_of_not_lt f)] at q;refine dX (k7 λB=>f (ho a▸Int.ofNat_lt.mp B)) ?_;refine(aB ?_).go;exact Ga (w:=w.st r) (v.st p) q
end
def SA{a:Nat}(b:a<1000000):Nat.ble (Builtin.Int.intBits (Int.ofNat a)) 64=true:=Nat.ble_eq.mpr (by
 unfold Builtin.Int.intBits;split
 . exact(by decide)
 . refine(?_:a.log2+1<=64);have:a.log2<64:=by
    rcases Nat.eq_zero_or_pos a with rfl|c
    . decide
    . exact(Nat.log2_lt (mZ c)).mpr (L b (by decide))
   exact this)
def z6(a:List Vn):C (iu a)=a.length:=by unfold iu;rw [ho,List.length_map]
abbrev RO:=Option (List Vn×List Str×Nat×Option (Y×Y))
def wH:RO->List (Str×Y)
 |none=>[]
 |some a=>Gc a.1 a.2.1 a.2.2.1++As a.2.2.2
section
variable{c:Frag}{w:M}{q:Y}{b k d t:Nat}{l:RO}{s:Option (Y×Y)}{g:Q}{i:af}{a:List Vn×List Str}{n:List Y}
abbrev Av(c:Frag)(k d:Nat):O:=x (f c) rI (k+89) (d+7)
abbrev wF:List Stmt:=bX Ao
abbrev wG(c:Frag)(k d:Nat)(g:Q)(i:af)(n:List Y)(a:St):Prop:=bO none (f c) (Av c k d) jK (cc Ao) wF [] g i n a
noncomputable def Gd:RO->Option (Y×Y)
 |none=>none
 |some a=>a.2.2.2
def UC:cond (Nat.blt (C (iu a.1)) 9223372036854775808) (cond (z3 (Int.ofNat b) (Int.ofNat (C (iu a.1)))) (aU (Av c k d) jK (bT i) (aT 1 wF) ⟨e w++[],mF q b++([("names",.c (iu a.1)),("values",.c (y a.2)),("at",.int (Int.ofNat b*Int.ofNat (C (iu a.1))))]:List (Str×Y))++As (Gd l)⟩ (eU (wG c k d g i n) g)) False) False=wG c k d g i (zp a::n) ⟨e w++[],mF q b++wH l⟩:=by rcases l with _|⟨_,_,_,_|_⟩<;>kernel_rfl
def UB:s6 c k d g i (iu a.1) ⟨e w++[],gi q b a.1 a.2 t s⟩=A (Av c k d) jK 1 wF ⟨e w++[],gi q b a.1 a.2 t s⟩ g i:=by kernel_rfl
def UK(v:b<1000000)(x:w.Ok)(f:List (List Vn×List Str)):
  ∀(r:o)(l:RO),aH 19 r.U->(∀a∈f,a.2.length<100000/\a.1.length<1000)->(∀l,g .next ⟨e (w.st (fq f b r))++[],mF q b++wH l⟩)->wG c k d g i (gE f) ⟨e (w.st r)++[],mF q b++wH l⟩:=by
 induction f with
 |nil=>exactλr l D D m=>m l
 |cons a f A=>
  intro r l t n m;have p:=n a (.head _);refine z ?_ (UC (w:=w.st r));refine aY (Nat.blt_eq.mpr (z6 a.1▸j2 p.2 (by decide))) (aY (Bool.or_eq_true_iff.mpr (.inl (SA v))) ?_);have u:Int.ofNat b*Int.ofNat (C (iu a.1))=Int.ofNat (b*a.1.length):=z6 a.1▸rfl;refine h u ?_;refine(j 1 (body:=wF) (a9 ⟨UI (N:=a.1) (X:=bT i) p.1 x a.1 (b*a.1.length) r (Gd l) t λs=> ?_⟩ (UB (w:=w.st r)))).go;exact A _ (some (a.1,a.2,_,s)) ((zr ..).symm▸t) (λB y=>n B (.tail _ y)) m
def UD:wG c (k+10) d g i n ⟨e w++[],mF (.c n) b++wH none⟩=A (x (f c) rI (k+100) (d+7)) jK 0 vi.body ⟨e w,mF (.c n) b⟩ g i:=by kernel_rfl
end
def UH(l:Frag)(b:M)(a:List (List Vn×List Str))(c k n:Nat)(r:c<1000000)(d m:af)(h:b.Ok)(p:∀g∈a,g.2.length<100000/\g.1.length<1000)
  (o:∀i s,d .none ⟨e (b.st (fq a c b.r))++i,s⟩):av (x (f l) rI (k+100) (n+7)) none vi [.obj 0,.c (gE a),q c] ⟨e b,[]⟩ d m:=
 c2 (cr:=mF (.c (gE a)) c) (by kernel_rfl) (λt t=>by kernel_rfl) (j 0 (a9 ⟨UK r h a b.r none h.U p λu=>o [] []⟩ UD))
inductive xT(d:Nat)(args:List Y)(st:St)(K X:af):Prop
 |mk (a c g b turn):M.Ok a->args=[.obj 0,.c (gE b),q turn]->st=⟨e a++c,g⟩->8<=d->turn<1000000->(∀f∈b,f.2.length<100000/\f.1.length<1000)->K .none ⟨e (a.st (fq b turn a.r))++c,g⟩->xT d args st K X
theorem CI{k:Nat}:∀(a:List (List Vn×List Str)),aH k (gE a)
 |[]=>trivial
 |b::a=>⟨⟨b5 _,b5 _,u⟩,CI a⟩
def UJ{g:au}{p:Program}{c:Frag}(a:aC g.hb (f c))(i:aV (f c)):az g p 364 xT:=by
 rintro d B D y z ⟨w,x,j,e,k,b,o,r,s,a1,a2,t⟩;subst o;subst r;obtain⟨d,rfl⟩:=rm (n:=7) s;exact lW a (bt a i (λA=>(Ks a i)) 100 (d+7)) (a.fn 364 _ rfl) b (show aH 19 [.obj 0,.c (gE e),q k] from⟨(a' rfl:0<19),CI e,u,u⟩) λm n v C=>
  UH c w e k 0 d a1 m n b a2 λl j=>v _ l j _ _ (b.st (by refine h (zs ..) ?_;exact b.U)) (.same u) t
noncomputable def dL(b a:Nat):Nat:=(b+a-1)/a
def fy:List (List Vn×List Str)->Nat->Nat
 |[],ai=>ai
 |a::b,ai=>fy b (cond (decide (ai<dL a.2.length a.1.length)) (dL a.2.length a.1.length) ai)
abbrev jq:aL:=c (m 44) []
noncomputable def fj:List (Nat×bF):=[(293,xU),(84,fA)]
def Kt{a:au}{p:Program}{d:Frag}(b:aC a.hb (f d))(c:aV (f d)):dS a p fj:=⟨Vq b c,iU b c,u⟩
def bo:Bool->Str
 |true=>dE|false=>dD
def nO(m:Bool):hu:=d2 1 (match m with|true=>tU|false=>tT) [bJ,qT,(match m with|true=>oX|false=>oW),qS] 0 0
def oz{a:Nat}(b:(!(e0 a)&& !(Nat.beq a 92)&& !(Nat.beq a 123)&& !(Nat.beq a 34))=true):jJ a:=by refine And.elim (λb f=> ?_) (Bool.and_eq_true_iff.mp b);refine And.elim (λb e=> ?_) (Bool.and_eq_true_iff.mp b);refine And.elim (λc d=> ?_) (Bool.and_eq_true_iff.mp b);exact⟨gd c,gd d,gd e,gd f⟩
def Vk(c:Nm):ez c.str (c.names.map (λd=>d.map Vn.str)):=by
 induction c using Nm.casesOn with
 |z=>exact .mx _ [[122]] (by decide) (.cons 0 122 [] [] [] (by intro b a;simp at a;subst a;exact oz (by decide)) (.inl rfl) (by decide) (.nil 0)) (by decide)
 |y=>exact .mx _ [[121]] (by decide) (.cons 0 121 [] [] [] (by intro b a;simp at a;subst a;exact oz (by decide)) (.inl rfl) (by decide) (.nil 0)) (by decide)
 |zx=>exact .mx _ [[122],[120]] (by decide) (.cons 0 122 [] [32,120] [[120]] (by intro b a;simp at a;subst a;exact oz (by decide)) (.inr ⟨_,rfl⟩) (by decide) (.cons 1 120 [] [] [] (by intro b a;simp at a;subst a;exact oz (by decide)) (.inl rfl) (by decide) (.nil 0))) (by decide)
 |t5=>exact .mx _ [[122],[121],[122]] (by decide) (.cons 0 122 [] [32,121,32,122] _ (by intro b a;simp at a;subst a;exact oz (by decide)) (.inr ⟨_,rfl⟩) (by decide) (.cons 1 121 [] [32,122] _ (by intro b a;simp at a;subst a;exact oz (by decide)) (.inr ⟨_,rfl⟩) (by decide)
   (.cons 1 122 [] [] [] (by intro b a;simp at a;subst a;exact oz (by decide)) (.inl rfl) (by decide) (.nil 0)))) (by decide)
 |empty=>exact .mx _ [] (by decide) (.nil 0) (by decide)
 |rB=>exact .ox
def ya:Nat->List (Nm×J)->List Y
 |_,[]=>[]
 |a,_::b=>q a::ya (a+2) b
abbrev cM(a:List Str)(m:Bool)(b:Nat):List (Str×Y):=[("words",.c (y a)),("kind",.str (bo m)),("groups",.obj 0),("rounds",q b)]
noncomputable abbrev g'(a b c d:Y):List (Str×Y):=[("at",a),("names",b),("values",c),("needed",d)]
abbrev r4:Option Stmt:=t jq.body 2
def Fo{a:Nm}{d:Vn}{b:List Vn}(c:a.names=some (d::b)):b.length<3:=by rcases a with _|_|_|_|_|_<;>cases c<;>decide
def Hi:Txt.upper dD=oW:=by decide+kernel
def Hj:Txt.upper dE=oX:=by decide+kernel
def SX(b a:Nat)(c:0<a):(Int.ofNat b+Int.ofNat a-1).fdiv (Int.ofNat a)=Int.ofNat (dL b a):=by
 have:Int.ofNat b+Int.ofNat a-1=((b+a-1:Nat):Int):=by refine(?_:(b:Int)+(a:Int)-1=_);omega
 refine h (this ..) ?_;unfold dL;refine(?_:Int.fdiv ((b+a-1:Nat):Int) ((a:Nat):Int)=(((b+a-1)/a:Nat):Int));refine h (Int.fdiv_eq_ediv_of_nonneg _ (by simp)) ?_;rfl
def tv{k:Nat}{a:List ae}{e:List (Str×Y)}{i:Y}{j:cj}{d:St->Prop}(f:dh k a i j)(g:d ⟨a,e⟩):iX i ⟨a,e⟩ d:=by
 rcases j with n|m
 . obtain⟨c,l,o,rfl,_,_,_,b,_⟩:=f;refine(?_:(ab.v ((t a c).bind ae.oI) _:ab Unit).A _ _);refine h (b ..) ?_;refine(?_:d ⟨aQ a c _,e⟩);rw [jM b];exact g
 . obtain⟨c,l,rfl,_,_,_,b,_⟩:=f;refine(?_:(ab.v ((t a c).bind ae.oI) _:ab Unit).A _ _);refine h (b ..) ?_;refine(?_:d ⟨aQ a c _,e⟩);rw [jM b];exact g
section
variable{u:Frag}{m:Bool}{r:o}{a:List Str}{k w d b:Nat}{l:Q}{s:af}{e:List Y}{i:Option (Y×Y×Y)}{n v B:Y}
abbrev f7:I:=⟨jq.scope,none,[]⟩
abbrev gB:List Stmt:=bX r4
def zi(b:Y)(i:Option (Y×Y×Y)):List (Str×Y):=match i with
 |none=>[]
 |some a=>g' b a.1 a.2.1 a.2.2
def gA(b:Y)(i:Option (Y×Y×Y)):List (Str×Y):=match i with
 |none=>[("at",b)]
 |some a=>g' b a.1 a.2.1 a.2.2
def gN(a n:Y)(i:Option (Y×Y×Y)):List (Str×Y):=match i with
 |none=>[("at",a),("names",n)]
 |some b=>g' a n b.2.1 b.2.2
def gV(a n v:Y)(i:Option (Y×Y×Y)):List (Str×Y):=match i with
 |none=>[("at",a),("names",n),("values",v)]
 |some b=>g' a n v b.2.2
def O1{h:Y}{g:List Y}(c:aU (x (f u) fj (k+90) (w+16)) f7 (bT s) (aT 0 gB) ⟨[.c e],cM a m b++gA (q d) i⟩ (eU (bO none (f u) (x (f u) fj (k+90) (w+16)) f7 (cc r4) gB [] l s g) l)):
  bO none (f u) (x (f u) fj (k+90) (w+16)) f7 (cc r4) gB [] l s (q d::g) ⟨[.c e],cM a m b++zi h i⟩:=by
 rcases i with _|_
 . exact z c (by kernel_rfl)
 . exact z c (by kernel_rfl)
def OU{c:Nm}(D:ck (Int.ofNat d) (C (y a))=some d)(E:t (y a) d=some (.str c.str))(p:∀j,c.names=some j->l .next ⟨[.c e],cM a m b++gN (q d) (.c (y (j.map Vn.str))) i⟩) (r:c.names=none->∀n z o,dh 0 n o (.a7 je)->s o ⟨n,z⟩):
  A (x (f u) fj (k+90) (w+16)) f7 0 gB ⟨[.c e],cM a m b++gA (q d) i⟩ l s:=by
 rcases i with _|_;all_goals
  conv=>whnf
  refine h (D ..) ?_;conv=>whnf
  refine h (E ..) ?_;refine⟨_,_,rfl,aD _ _,Vk c,λj g=> ?_,λg=>r (Option.map_eq_none_iff.mp g) _ _ _ ⟨2,1,.c [],rfl,by decide,by decide,by decide,rfl,rfl,.inl rfl⟩⟩;obtain⟨B,v,rfl⟩:=Option.map_eq_some_iff.mp g;exact p B v
def OV{g:Vn}{c:List Vn}(j:Nat.blt (C (y ((g::c).map Vn.str))) 9223372036854775808=true)(n:l .next ⟨[.c e],cM a m b++gN (q d) (.c (y ((g::c).map Vn.str))) i⟩):
  A (x (f u) fj (k+90) (w+16)) f7 1 gB ⟨[.c e],cM a m b++gN (q d) (.c (y ((g::c).map Vn.str))) i⟩ l s:=by
 rcases i with _|_;all_goals
  conv=>whnf
  refine h (j ..) ?_;exact n
def OW(o:∀n g p,dh 0 n p (.a7 (nO m))->s p ⟨n,g⟩):A (x (f u) fj (k+90) (w+16)) f7 1 gB ⟨[.c e],cM a m b++gN (q d) (.c (y [])) i⟩ l (bT s):=by
 rcases m with _|_
 . have c:=λg=>o [.c e,.ar 84 (some 2) [.str tT] true false,.dict (el (nO false) (.c []))] g (.obj 1) ⟨1,2,.c [],rfl,by decide,by decide,by decide,rfl,rfl,.inl rfl⟩;rcases i with _|j
   . conv=>whnf
     refine h (show Txt.upper (bo false)=oW from Hi) ?_;exact⟨1,tT,[bJ,qT,oW,qS],0,0,.inr (.inl ⟨rfl,rfl,rfl⟩),aD _ _,z (c (cM a false b++gN (q d) (.c (y [])) none)) (by kernel_rfl)⟩
   . conv=>whnf
     refine h (show Txt.upper (bo false)=oW from Hi) ?_;exact⟨1,tT,[bJ,qT,oW,qS],0,0,.inr (.inl ⟨rfl,rfl,rfl⟩),aD _ _,z (c (cM a false b++gN (q d) (.c (y [])) (some j))) (by kernel_rfl)⟩
 . have c:=λg=>o [.c e,.ar 84 (some 2) [.str tU] true false,.dict (el (nO true) (.c []))] g (.obj 1) ⟨1,2,.c [],rfl,by decide,by decide,by decide,rfl,rfl,.inl rfl⟩;rcases i with _|j
   . conv=>whnf
     refine h (show Txt.upper (bo true)=oX from Hj) ?_;exact⟨1,tU,[bJ,qT,oX,qS],0,0,.inr (.inl ⟨rfl,rfl,rfl⟩),aD _ _,z (c (cM a true b++gN (q d) (.c (y [])) none)) (by kernel_rfl)⟩
   . conv=>whnf
     refine h (show Txt.upper (bo true)=oX from Hj) ?_;exact⟨1,tU,[bJ,qT,oX,qS],0,0,.inr (.inl ⟨rfl,rfl,rfl⟩),aD _ _,z (c (cM a true b++gN (q d) (.c (y [])) (some j))) (by kernel_rfl)⟩
def OX{c:J}(E:ck (Int.ofNat d+1) (C (y a))=some (d+1))(F:t (y a) (d+1)=some (.str (c.res r)))(B:ez (J.res r c) (J.aN r c))(p:∀j,c.aN r=some j->l .next ⟨[.c e],cM a m b++gV (q d) n (.c (y j)) i⟩)
  (v:c.aN r=none->∀g D o,dh 0 g o (.a7 je)->s o ⟨g,D⟩):A (x (f u) fj (k+90) (w+16)) f7 2 gB ⟨[.c e],cM a m b++gN (q d) n i⟩ l s:=by
 rcases i with _|_;all_goals
  conv=>whnf
  refine h (E ..) ?_;conv=>whnf
  refine h (F ..) ?_;exact⟨_,_,rfl,aD _ _,B,p,λz=>v z _ _ _ ⟨2,1,.c [],rfl,by decide,by decide,by decide,rfl,rfl,.inl rfl⟩⟩
def OY{g h:List Y}{c:Nat}(n:Nat.blt (C g) 9223372036854775808=true)(o:Nat.blt (C h) 9223372036854775808=true)(p:Int.beq' (Int.ofNat (C g)) 0=false)(r:Nat.blt (Int.ofNat (C g)).natAbs 1073741824=true)(t:(Int.ofNat (C h)+Int.ofNat (C g)-1).fdiv (Int.ofNat (C g))=Int.ofNat c)
  (j:l .next ⟨[.c e],cM a m b++g' (q d) (.c g) (.c h) (q c)⟩):A (x (f u) fj (k+90) (w+16)) f7 3 gB ⟨[.c e],cM a m b++gV (q d) (.c g) (.c h) i⟩ l s:=by
 have j:l .next ⟨[.c e],cM a m b++g' (q d) (.c g) (.c h) (.int ((Int.ofNat (C h)+Int.ofNat (C g)-1).fdiv (Int.ofNat (C g))))⟩:=by rw [t];exact j
 suffices hz:cond (Nat.blt (C h) 9223372036854775808) (cond (Nat.blt (C g) 9223372036854775808) (cond (Nat.blt (C g) 9223372036854775808) (cond (Int.beq' (Int.ofNat (C g)) 0) False (cond (Nat.blt (Int.ofNat (C g)).natAbs 1073741824)
   (l .next ⟨[.c e],cM a m b++g' (q d) (.c g) (.c h) (.int ((Int.ofNat (C h)+Int.ofNat (C g)-1).fdiv (Int.ofNat (C g))))⟩) False)) False) False) False by
  rcases i with _|_
  . exact z hz (by kernel_rfl)
  . exact z hz (by kernel_rfl)
 exact aY o (aY n (aY n (dX p (aY r j))))
def OZ{c:Nat}(g:l .next ⟨[.c e],cM a m (cond (decide (b<c)) c b)++g' (q d) n v (q c)⟩):A (x (f u) fj (k+90) (w+16)) f7 4 gB ⟨[.c e],cM a m b++g' (q d) n v (q c)⟩ l s:=by
 have i:decide (Int.ofNat b<Int.ofNat c)=decide (b<c):=decide_eq_decide.mpr Int.ofNat_lt;suffices hz:cond (decide (Int.ofNat b<Int.ofNat c)) (l .next ⟨[.c e],cM a m c++g' (q d) n v (q c)⟩) (l .next ⟨[.c e],cM a m b++g' (q d) n v (q c)⟩) from z hz (by kernel_rfl)
 refine h (i ..) ?_;rcases j:decide (b<c) with _|_<;>(rw [j] at g;exact g)
def O0(c:Nat.ble (C e) sizeLine=true)(g:l .next ⟨[.c (aJ e (.l [n,v]))],cM a m b++g' (q d) n v B⟩):A (x (f u) fj (k+90) (w+16)) f7 5 gB ⟨[.c e],cM a m b++g' (q d) n v B⟩ l s:=
 z (aY c g) (by kernel_rfl:cond (Nat.ble (C e) sizeLine) (l .next ⟨[.c (aJ e (.l [n,v]))],cM a m b++g' (q d) n v B⟩) False=_)
def Ph(XF:a.length<1000)(XG:∀o,ez (J.res r o) (J.aN r o)) (XH:∀o j,J.aN r o=some j->j.length<100000) (n:List (Nm×J)):
  ∀(c I:List Str)(e:List Y)(d b:Nat)(O:Y)(i:Option (Y×Y×Y)),a=c++(dG (J.res r) n++I)->d=c.length->e.length+n.length<1000->
   (∀K i,bQ m r n= .ok K->l .next ⟨[.c (e++gE K)],cM a m (fy K b)++i⟩)->
   (bQ m r n= .error gr->∀v D z,dh 0 v z (.a7 je)->s z ⟨v,D⟩)->(bQ m r n= .error (iO m)->∀v D z,dh 0 v z (.a7 (nO m))->s z ⟨v,D⟩)->
   bO none (f u) (x (f u) fj (k+90) (w+16)) f7 (cc r4) gB [] l s (ya d n) ⟨[.c e],cM a m b++zi O i⟩:=by
 induction n with
 |nil=>
  intro c I e d b O i H XC R Q M P;have:=Q [] (zi O i) rfl;rw [show e++gE []=e from List.append_nil e] at this;exact this
 |cons p n XI=>
  obtain⟨S,o⟩:=p;intro c I e d b O i H XC R Q M P;subst XC;have XD:a.length=c.length+((dG (J.res r) n++I).length+1+1):=(T List.length H).trans eV;have XJ:c.length<a.length:=XD▸o8 (gI _);have XK:c.length+1<a.length:=XD▸Nat.add_lt_add_left (Nat.succ_lt_succ (gI _)) _;have X:C (y a)=a.length:=ho a;have Z:a.length<9223372036854775808:=j2 XF (by decide);have XM:ck (Int.ofNat c.length) (C (y a))=some c.length:=X▸fJ XJ Z;have XN:ck (Int.ofNat c.length+1) (C (y a))=some (c.length+1):=X▸fJ (i:=c.length+1) XK Z;have XO:t (y a) c.length=some (.str S.str):=by rw [w5,H,List.getElem?_append_right (Nat.le_refl _),Nat.sub_self];rfl
  have XQ:t (y a) (c.length+1)=some (.str (o.res r)):=by rw [w5,H,List.getElem?_append_right (Nat.le_add_right _ _),Nat.add_sub_cancel_left];rfl
  refine O1 (bm 0 (OU XM XO (λh A=> ?_) λA=>(λv D z F=>tv F (M (r9 A) v D z F))));cases h with
  |nil=>exact bm (body:=gB) 1 (OW (P (vz A)))
  |cons E h=>
   have XE:h.length+1<1000:=eW (Nat.succ_le_of_lt (Fo A)) (by decide);have N:C (y ((E::h).map Vn.str))=h.length+1:=z6 (E::h);have U:Nat.blt (C (y ((E::h).map Vn.str))) 9223372036854775808=true:=N▸Nat.blt_eq.mpr (j2 XE (by decide));refine bm (body:=gB) 1 (OV U (bm (body:=gB) 2 (OX XN XQ (XG o) (λj G=> ?_) λG v D z F=>tv F (M (vy A G) v D z F))));have W:∀{V:g},bQ m r n= .error V->bQ m r ((S,o)::n)= .error V:=λB=>(r' A G).trans (T (nY _) B);refine bm (body:=gB) 3 (OY (c:=dL j.length (h.length+1)) U (ho j▸Nat.blt_eq.mpr (j2 (XH o j G) (by decide))) (N▸rfl) (N▸Nat.blt_eq.mpr (j2 XE (by decide))) (by rw [N,ho];exact SX _ _ (gI _)) ?_);refine bm (body:=gB) 4 (OZ (bm (body:=gB) 5 (O0 (Nat.ble_eq.mpr (by rw [aZ];exact L (c5 _ _) (ee (j2 R (by decide))))) ?_)));refine XI (c++[S.str,o.res r]) I (aJ e (zp (E::h,j))) (c.length+2) (cond (decide (b<dL j.length (h.length+1))) (dL j.length (h.length+1)) b) (q c.length) (some (.c (y ((E::h).map Vn.str)),.c (y j),q (dL j.length (h.length+1)))) ?_ ?_ ?_ ?_ (λB=>M (W B)) λB=>P (W B)
   . rw [H,List.append_assoc];rfl
   . rw [List.length_append];rfl
   . rw [c0,List.length_append];exact(bV R (by simp+arith only [List.length_cons,List.length_nil]))
   . intro K i B;have:=Q ((E::h,j)::K) i ((r' A G).trans (T (nY _) B));rw [c0,List.append_assoc];exact this
end
def jx{e:Type}:∀{d:List e},d.length=2->∃b c,d=[b,c]
 |[b,c],_=>⟨b,c,rfl⟩
 |[],a=>by simp at a
 |[_],a=>by simp at a
 |_::_::_::_,a=>by simp at a
section
variable{c:Frag}{m:Bool}{r:o}{e:List Str}{k d:Nat}{a:Q}{b:af}
def O2:a .next ⟨[.c []],[("words",.c (y e)),("kind",.str (bo m)),("groups",.obj 0)]⟩=A (x (f c) fj (k+100) (d+16)) f7 0 jq.body ⟨[],[("words",.c (y e)),("kind",.str (bo m))]⟩ a b:=by kernel_rfl
def O3:a .next ⟨[.c []],cM e m 0⟩=A (x (f c) fj (k+100) (d+16)) f7 1 jq.body ⟨[.c []],[("words",.c (y e)),("kind",.str (bo m)),("groups",.obj 0)]⟩ a b:=by kernel_rfl
abbrev gW(m:Bool)(r:o)(a:List (Nm×J))(b:Str):List Str:=bo m::(dG (J.res r) a++[b])
def O4{e:List (Nm×J)}{l:Str}(h:e.length=1\/e.length=2)(j:bO none (f c) (x (f c) fj (k+99) (d+16)) f7 (cc r4) gB [] a b (ya 1 e) ⟨[.c []],cM (gW m r e l) m 0⟩):
  A (x (f c) fj (k+100) (d+16)) f7 2 jq.body ⟨[.c []],cM (gW m r e l) m 0⟩ a b:=by
 rcases h with h|h
 . obtain⟨g,rfl⟩:∃g,e=[g]:=List.length_eq_one_iff.mp h;apply z j;kernel_rfl
 . obtain⟨g,i,rfl⟩:∃g i,e=[g,i]:=jx h;apply z j;kernel_rfl
def O5{h:List Y}{g:Nat}{i:List (Str×Y)}:a (.ret (.l [.obj 0,q g])) ⟨[.c h],cM e m g++i⟩=A (x (f c) fj (k+100) (d+16)) f7 3 jq.body ⟨[.c h],cM e m g++i⟩ a b:=by kernel_rfl
def Pf{s:Str}{h:List (Nm×J)}{a b:af}(j:h.length=1\/h.length=2)(I:∀p,ez (J.res r p) (J.aN r p)) (K:∀p A,J.aN r p=some A->A.length<100000)
  (G:∀o,bQ m r h= .ok o->∀i,a (.l [.obj 0,q (fy o 0)]) ⟨[.c (gE o)],i⟩)
  (E:bQ m r h= .error gr->∀e i g,dh 0 e g (.a7 je)->b g ⟨e,i⟩) (F:bQ m r h= .error (iO m)->∀e i g,dh 0 e g (.a7 (nO m))->b g ⟨e,i⟩):
  av (x (f c) fj (k+100) (d+16)) none jq [.c (y (bo m::(dG (J.res r) h++[s]))),.str (bo m)] ⟨[],[]⟩ a b:=by
 have H:(gW m r h s).length<1000:=by
  rcases j with j|j
  . obtain⟨l,rfl⟩:∃l,h=[l]:=List.length_eq_one_iff.mp j;exact(by decide:4<1000)
  . obtain⟨l,v,rfl⟩:∃l v,h=[l,v]:=jx j;exact(by decide:6<1000)
 have D:([]:List Y).length+h.length<1000:=by rcases j with t|t<;>rw [t]<;>decide
 have u:∀{B:cj},(∀e i g,dh 0 e g B->b g ⟨e,i⟩)->∀e i g,dh 0 e g B->fX [] b g ⟨e,i⟩:=λC e i g w=>tv w (C e [] g w);refine c2 (cr:=[("words",.c (y (bo m::(dG (J.res r) h++[s])))),("kind",.str (bo m))]) (by kernel_rfl) (λL L=>by kernel_rfl) ⟨bm 0 (z (nx (bm (body:=jq.body) 1 (z (nx (bm (body:=jq.body) 2 (O4 j ?_))) O3))) O2)⟩;exact Ph (k:=k+9) H I K h [bo m] [s] [] 1 0 .none none rfl rfl D (λo M n=>nx (bm (body:=jq.body) 3 (z (rt (G o n [])) O5))) (λn=>u (E n)) λn=>u (F n)
end
inductive xR(d:Nat)(args:List Y)(st:St)(K X:af):Prop
 |mk (m r e a):args=[.c (y (bo m::(dG (J.res r) a++[e]))),.str (bo m)]->17<=d->(a.length=1\/a.length=2)->(∀b,ez (J.res r b) (J.aN r b))->(∀b its,J.aN r b=some its->its.length<100000)->(∀c,bQ m r a= .ok c->K (.l [.c (gE c),q (fy c 0)]) st)->(bQ m r a= .error gr->X (.obj (st.objs.length+1)) ⟨st.objs++(cj.a7 je).objs st.objs.length,st.d⟩)->(bQ m r a= .error (iO m)->X (.obj (st.objs.length+1)) ⟨st.objs++(cj.a7 (nO m)).objs st.objs.length,st.d⟩)->xR d args st K X
theorem bM.Ed{k:Nat}{b:Nat->Option Nat}{c:List ae}:∀(a:List (List Vn×List Str)),bM k b c (gE a) (gE a)
 |[]=> .nil
 |d::a=> .cons (.l (.cons (.c (bM.strs _)) (.cons (.c (bM.strs _)) .nil))) (bM.Ed a)
def Pj{h:au}{p:Program}{j:Frag}(c:aC h.hb (f j))(i:aV (f j)):az h p 357 xR:=by rintro d F G A C ⟨m,r,z,o,q,s,a1,a2,a3,w,t,v⟩;subst q;obtain⟨d,rfl⟩:=rm (n:=16) s;refine fw c (bt c i (λE=>(Kt c i)) 100 (d+16)) (c.fn 357 _ rfl) (show aH 0 [.c (y (bo m::(dG (J.res r) o++[z]))),.str (bo m)] from⟨b5 _,u,u⟩) λB D x k=> ?_;refine Pf (k:=0) (d:=d) a1 a2 a3 (λl a b=>x _ b _ _ (.l (.cons (.fr rfl rfl (bM.Ed l)) (.cons (.same u) .nil))) (w l a)) (λa n b g e=>k _ b g _ e (t a)) λa n b g e=>k _ b g _ e (v a)
def cS:List aI->List Y
 |[]=>[]
 |al::a=> .c (y al.words)::cS a
def hP(a:d8):Y:=match a.te with
 | .size aj=> .l [q 0,.str aj.str,q a.oe,.bool a.n6]
 | .iY b=> .l [q 1,.str (cn b),q a.oe,.bool a.n6]
 | .mJ b=> .l [q 2,.str (E b),q a.oe,.bool a.n6]
 | .raise b=> .l [q 3,q b,q a.oe,.bool a.n6]
def aI.Ok:aI->Prop
 | .kW a s=>a<4/\s<6
 | .eK ai a d ah=>ai<6/\a<4/\d<6/\ah<6
 | .f3 _ b s=>(b.length=1\/b.length=2)/\s<6
 | .raise c=>c<8
 | .go s=>s<6
 | .call s=>s<6
 | .e' (.jS a)=>a<4
 | .e' (.eK a)=>a<4
 |_=>True
def d8.Ok(b:d8):Prop:=match b.te with
 | .size _=>True
 | .iY a=>a<10
 | .mJ a=>a<6
 | .raise a=>a<8
structure B.Ok(c:B):Prop where
 L:c.L<=6
 F:c.F<80
 aW:∀a,a<6->(c.aW a).length<=3/\∀d∈c.aW a,d.Ok
 a6:∀b,b<4->(c.a6 b).Ok
def bz(c:Nat)(d:Str):Prop:=∃b k,b∈([[],[97,32,98],[49],[97],[98],[99],[100],[98,32,99],[48],[48,32,49]]:List (List Nat))/\k<=c/\d=a (b++List.replicate k 46)
theorem B2{d:Y}{a:Y->Bool}(e:a d=true):∀{c:List Y},h3 a c=true->h3 a (c++[d])=true
 |[],_=>by refine(?_:cond (a d) true false=true);refine h (e ..) ?_;rfl
 |ai::c,b=>by
  refine(?_:cond (a ai) (h3 a (c++[d])) false=true);have b:cond (a ai) (h3 a c) false=true:=b;induction f:a ai using Bool.casesOn with
  |false=>rw [f] at b;cases b
  |true=>rw [f] at b;exact B2 e b
structure aR(c:B)(r:o):Prop where
 i4:∀v,bz r.S (r.get v).val
 bu:r.S<=c.F+1
 U:aH 0 r.U
 plain:h3 (gg 19) r.U=true
structure gp(b:Nat)(a:Str):Prop where
 tF:gP a\/a=H\/a=c4\/a=d7
 item:li a
 aE:a.length<=100*b
def ci:g->Prop
 | .M k aj b _ a=>aj.length<=9000/\1<=k/\k<=5/\(k=2->b=[bC]/\(a=0\/a=3\/a=4)/\(aj=k3\/aj=qU\/aj=c4))
 |_=>True
def ci.M{c:g}(a:ci c)(k:Nat)(f:Str)(d:List Str)(h b:Nat)(i:c= .M k f d h b):f.length<=9000/\1<=k/\k<=5/\(k=2->d=[bC]/\(b=0\/b=3\/b=4)):=by subst i;exact⟨a.1,a.2.1,a.2.2.1,λe=>⟨(a.2.2.2 e).1,(a.2.2.2 e).2.1⟩⟩
structure cC(c:B)(k:Nat)(r:o)(b:g)(a:o):Prop where
 V:aR c a
 le:r.S<=a.S
 C:b≠.C->a.S<=c.F
 ok:∀v,b= .ok v->gp (a.S-r.S) v
 U:a.U.length+3*r.S<=r.U.length+k+3*a.S
 hC:ci b
abbrev hs(a:B)(r:o)(b:g)(c:o):Prop:=cC a 1 r b c
def cC.M{e:B}{k:Nat}{r i:o}{b:g}(f:cC e k r b i):∀k d c h a,b= .M k d c h a->d.length<=9000/\1<=k/\k<=5/\(k=2->c=[bC]/\(a=0\/a=3\/a=4)):=f.hC.M
def bb(a:B)(f:N):Prop:=∀c e r b d,c<6->aR a r->r.S<=a.F->f c e r=some (b,d)->hs a r b d
structure HS(c:B)(w:M):Prop where
 L:w.L=c.L
 F:w.F=c.F
 aW:∀a,a<6->U (E a) w.aW=some (.c (cS (c.aW a)))
 a6:∀b,b<4->U (n b) w.a6=some (hP (c.a6 b))
 ok:w.Ok
 D:w.D<=c.L
 b3:c.Ok
 V:aR c w.r
 bu:w.r.S<=c.F
 mi:w.r.U.length<=3*w.r.S+10+3*w.D
noncomputable def aK(b:B)(a c:Nat):Nat:=12*(b.L-a)+40+c
noncomputable def a5(b:B)(a:Nat):Nat:=10000+100*(b.L-a)
def iE(c:Nat):g->cj->Prop
 | .M k aj d e i,.a7 h=>∃b f a,h=⟨k,aj,d,e,i,b,f,a⟩/\b.length<=c/\(a=true->k=1)
 | .C,.C _=>True
 |_,_=>False
def dm(h:Nat)(d:M)(a:List ae)(b:List (Str×Y))(i j:af)(c:o)(k:g):Option Y->Prop
 |some aj=>i aj ⟨e (d.st c)++a,b⟩
 |none=>∀f,iE h k f->j (.obj (19+a.length+1)) ⟨e (d.st c)++(a++f.objs (19+a.length)),b⟩
def Hx(h:Nat)(d:M)(i:af)(b:o)(j:g):Prop:=∀a k c f,iE h j f->dh 19 (e (d.st b)++a) c f->i c ⟨e (d.st b)++a,k⟩
def hZ(c:Nat)(b:M)(f h:af)(a:o)(i:g):Option Y->Prop
 |some aj=>∀d j,f aj ⟨e (b.st a)++d,j⟩
 |none=>Hx c b h a i
def kO:g->Option Y
 | .ok aj=>some (.str aj)
 |_=>none
def c1:g->Option Y
 | .ok aj=>some (.l [q 0,.str aj])
 | .M k _ _ _ _=>cond (aw k 3) (some (.l [q k,.str H])) (cond (aw k 4) (some (.l [q k,.str H])) none)
 | .C=>none
def jG:g->Option Y
 | .ok _=>some (.bool true)
 | .M k _ _ _ _=>cond (aw k 3) (some (.bool false)) none
 | .C=>none
noncomputable def qV:Except g Bool->Option Y
 | .ok ah=>some (.bool ah)
 | .error _=>none
inductive cp(c:B)(go:N)(d:Nat)(args:List Y)(st:St)(K X:af):Prop
 |mk (a g h f b i):HS c a->f<6->args=[.obj 0,.str (E f)]->st=⟨e a++g,h⟩->aK c a.D 0<=d->go f a.D a.r=some (b,i)->dm (a5 c a.D) a g h K X i b (kO b)->cp c go d args st K X
inductive q9(c:B)(go:N)(d:Nat)(args:List Y)(st:St)(K X:af):Prop
 |mk (a g h f b i):HS c a->f<4->args=[.obj 0,.str (n f)]->st=⟨e a++g,h⟩->aK c a.D 3<=d->er go c f a.D a.r=some (b,i)->dm (a5 c a.D) a g h K X i (g6 b) (qV b)->q9 c go d args st K X
inductive t7(c:B)(go:N)(d:Nat)(args:List Y)(st:St)(K X:af):Prop
 |mk (a g h f b i):HS c a->f<6->args=[.obj 0,.str (E f)]->st=⟨e a++g,h⟩->aK c a.D 1<=d->go f a.D a.r=some (b,i)->dm (a5 c a.D) a g h K X i b (c1 b)->t7 c go d args st K X
inductive ue(c:B)(go:N)(d:Nat)(args:List Y)(st:St)(K X:af):Prop
 |mk (a g h f b i):HS c a->f<6->args=[.obj 0,.str (E f)]->st=⟨e a++g,h⟩->aK c a.D 1<=d->go f a.D a.r=some (b,i)->dm (a5 c a.D) a g h K X i b (jG b)->ue c go d args st K X
def DL(b:M)(a:hu):dh 19 (e b++(cj.a7 a).objs 19) (.obj 20) (.a7 a):=⟨20,19,.c [],rfl,by decide,by decide,by decide,rfl,rfl,.inl rfl⟩
def DJ(b:M)(a:Bool):dh 19 (e b++(cj.C a).objs 19) (.obj 20) (.C a):=⟨20,19,rfl,by decide,by decide,by decide,rfl,rfl⟩
def rT(g:M)(c:hu)(d:List ae)(a:Nat)(f:Nat.ble 19 a=true)(b:Nat.beq (C (e g++d)) a=true):dh 19 (e g++(d++[.ar 84 (some (a+1)) [.str c.aj] true c.yE,.dict (el c (.c []))])) (.obj a) (.a7 c):=by
 have b:=dR b;refine⟨a,a+1,.c [],rfl,a' f,k6 (a' f),gl (hV a),?_,?_,.inl rfl⟩;all_goals rw [cW,<-List.append_assoc,List.getElem?_append_right (by refine ba (aZ ..) ?_;refine h (b ..) ?_;omega),<-aZ,b]
 . rw [Nat.sub_self];rfl
 . rw [Nat.add_sub_cancel_left];rfl
def Hx.at{d:Nat}{k:M}{f:af}{j:o}{h:g}(i:Hx d k f j h)(c:List (Str×Y)):∀a,iE d h a->f (.obj 20) ⟨e (k.st j)++a.objs 19,c⟩
 | .a7 a,b=>i _ c _ _ b (DL _ a)
 | .C a,b=>i _ c _ _ b (DJ _ a)
def pY(d:M)(a:List ae)(b:cj):dh 19 (e d++(a++b.objs (19+a.length))) (.obj (19+a.length+1)) b:=by
 have c:∀(f:List ae)(j:Nat),t (e d++(a++f)) (19+a.length+j)=f[j]?:=λf j=>by
  rw [cW,<-List.append_assoc,List.getElem?_append_right (by refine h (List.length_append ..) ?_;refine h (show(e d).length=19 from rfl) ?_;exact(Nat.le_add_right _ _)),List.length_append,show(e d).length=19 from rfl,Nat.add_sub_cancel_left]
 induction b using cj.casesOn with
 |a7 b=>exact⟨19+a.length+1,19+a.length,.c [],rfl,by exact(by simp+arith only),by exact(c5 _ _),by exact(by simp),c _ 1,c _ 0,.inl rfl⟩
 |C b=>exact⟨19+a.length+1,19+a.length,rfl,by exact(by simp+arith only),by exact(c5 _ _),by exact(by simp),c _ 1,c _ 0⟩
def dm.z0{h:Nat}{f:M}{c:List ae}{l:List (Str×Y)}{i j:af}{d:o}{k:g}{a:Option Y}(p:∀b,a=some b->i b ⟨e (f.st d)++c,l⟩) (q:a=none->Hx h f j d k):dm h f c l i j d k a:=by
 induction a using Option.casesOn with
 |some b=>exact p b rfl
 |none=>exactλm n=>q rfl _ _ _ m n (pY _ c m)
def Hx.tb{a:Nat}{f:M}{b:af}{e:o}{c:g}(i:Hx a f b e c):Hx a f (bT b) e c:=λh k l x j d=>tv d (i h k l x j d)
def Hx.fX{a:Nat}{h:M}{b:af}{f:o}{c:g}(j:Hx a h b f c)(e:List (Str×Y)):Hx a h (Mine.Internal.fX e b) f c:=λi n l m k d=>tv d (j i e l m k d)
def dm.mj{h:Nat}{f:M}{c:List (Str×Y)}{i j:af}{d:o}{k:g}{a:Option Y}(l:∀b,a=some b->i b ⟨e (f.st d)++[],c⟩) (m:a=none->Hx h f j d k):dm h f [] c i j d k a:=by
 induction a using Option.casesOn with
 |some b=>exact l b rfl
 |none=>exact(m rfl).at c
def hZ.t{a:Nat}{i:M}{b c:af}{h:o}{e:g}{d:Bool}{j l:Option Y}(f:hZ a i b c h e (cond d j l))(k:d=true):hZ a i b c h e j:=by rw [k] at f;exact f
def hZ.cf{a:Nat}{i:M}{b c:af}{h:o}{e:g}{d:Bool}{l j:Option Y}(f:hZ a i b c h e (cond d l j))(k:d=false):hZ a i b c h e j:=by rw [k] at f;exact f
def n2{C:au}{p:Program}{n:ay}{x:Nat}{r:O}{u:aL}{s k:Nat}{h:List Y}{b:M}{l:List ae}{w:List (Str×Y)}{m q:af}{j:o}{t:g}{kv:Option Y}(A:aC C.hb n)(D:b1 ⟨C,p,n,x,r⟩)(G:fc C.hb s u)(J:b.Ok)(F:aH 19 h)(y:(b.st j).Ok)(I:∀a,kv=some a->dq 19 a) (v:dm k b l w m q j t kv)
  (B:∀c d:af,hZ k b c d j t kv->Mine.Internal.av r none u h ⟨e b,[]⟩ c d):Made C p s (x+1) h ⟨e b++l,w⟩ m q:=
 lW A D G J F λc d H K=>B c d (by
  induction kv using Option.casesOn with
  |some a=>exactλf i=>H _ f i _ _ y (.same (I a rfl)) v
  |none=>exactλf i a z L E=>K _ f i a z y E (v z L))
def ci.mj{k g h:Nat}{a:Str}{b:List Str}(c:a.length<=9000)(d:1<=k)(e:k<=5)(f:k≠2):ci (.M k a b g h):=⟨c,d,e,λi=>absurd i f⟩
noncomputable def Nj:g->Bool
 | .M k aj _ _ _=>aj.length.ble 9000&&(Nat.ble 1 k&&(k.ble 5&& !Nat.beq k 2))
 |_=>true
def ci.of{b:g}(a:Nj b=true):ci b:=by
 induction b using g.casesOn with
 |M k aj i j l=>
  refine And.elim (λc a=> ?_) (Bool.and_eq_true_iff.mp a);refine And.elim (λd a=> ?_) (Bool.and_eq_true_iff.mp a);refine And.elim (λe f=> ?_) (Bool.and_eq_true_iff.mp a);exact⟨a' c,a' d,a' e,λh=>by subst h;exact aA (f)⟩
 |_=>trivial
def ci.ok{a:Str}:ci (.ok a):=u
def ci.C:ci .C:=u
def ci.tA{g b:Nat}{c:Str}(f:b=0\/b=3\/b=4)(d:c=k3\/c=qU\/c=c4):ci (.M 2 c [bC] g b):=
 ⟨d.elim (λa=>a▸a' rfl) λe=>e.elim (λa=>a▸a' rfl) λa=>a▸a' rfl,a' rfl,a' rfl,λh=>⟨rfl,f,d⟩⟩
def gp.mono{b m:Nat}{c:Str}(a:gp b c)(d:b<=m):gp m c:=⟨a.tF,a.item,by have:=a.aE;exact(dC (iC 100 d) this (by simp+arith only))⟩
def wC(b:Nat):gp b H:=⟨.inr (.inl rfl),⟨[],rfl,by decide,λc a=>by simp at a,rfl⟩,bU _⟩
def cC.aE{c:B}{k:Nat}{r h:o}{d:g}(b:cC c k r d h)(e:c.F<80)(a:Str)(f:d= .ok a):a.length<=8900:=L (b.ok a f).aE (L (iC 100 (Nat.sub_le _ _)) (L (iC 100 (L b.V.bu e)) (by decide)))
def N1{a:g}(c:∀b,a≠.ok b):gC a= .error a:=by
 induction a using g.casesOn with
 |ok b=>exact absurd rfl (c b)
 |_=>rfl
def eQ{e f:Type}{P:e->f->Prop}{a b:e}{c d:f}(h:some (a,c)=some (b,d))(g:P a c):P b d:=by cases h;exact g
structure lq(c:B)(r:o)(d:Except g Bool)(a:o):Prop where
 V:aR c a
 le:r.S<=a.S
 C:d≠.error .C->a.S<=c.F
 U:a.U.length+3*r.S<=r.U.length+1+3*a.S
 M:∀b,d= .error b->ci b/\∀v,b≠.ok v
def Jc(a:Str):(mQ++a++tP).length=a.length+33:=by refine(?_:(mQ.cps++a.cps++tP.cps).size=a.cps.size+33);refine h (qZ ..) ?_;refine h (qZ ..) ?_;refine(?_:32+a.cps.size+1=_);exact(by simp+arith only)
def DT{c:g}(e:ci c)(i:∀b,c= .ok b->b.length<=8900):(∀d,gC c= .error d->ci d/\∀b,d≠.ok b)/\(gC c≠.error .C->c≠.C):=by
 induction c using g.casesOn with
 |ok b=>
  refine⟨λd a=> ?_,λj=>nofun⟩;cases f:e8 b with
  |none=>
   rw [y6 f] at a;cases a;exact⟨ci.mj (by refine h (Jc ..) ?_;have:=i b rfl;exact(bV this (by simp+arith only))) (by decide) (by decide) (by decide),nofun⟩
  |some ah=>rw [y7 f] at a;cases a
 |M k b m n o=>exact⟨λd a=>by cases a;exact⟨e,nofun⟩,λj=>nofun⟩
 |C=>exact⟨λd a=>by cases a;exact⟨e,nofun⟩,λl=>absurd rfl l⟩
def yX:∀a,ci (ends a)
 |0|4|6=> .of rfl
 |1=> .tA (.inl rfl) (.inl rfl)
 |2=> .tA (.inr (.inl rfl)) (.inl rfl)
 |3=> .tA (.inr (.inr rfl)) (.inr (.inl rfl))
 |5=> .tA (.inl rfl) (.inr (.inr rfl))
 |_+7=> .of rfl
def rR:∀a,ends a≠.C/\∀b,ends a≠.ok b
 |0=>⟨nofun,nofun⟩
 |1=>⟨nofun,nofun⟩
 |2=>⟨nofun,nofun⟩
 |3=>⟨nofun,nofun⟩
 |4=>⟨nofun,nofun⟩
 |5=>⟨nofun,nofun⟩
 |6=>⟨nofun,nofun⟩
 |_+7=>⟨nofun,nofun⟩
section
variable{a:B}{b:N}
def G2(a:Nat):(cn a).length<=8900:=by
 iterate 9 (induction a using Nat.casesAuxOn with|zero=>exact a' rfl|succ a=> ?_)
 exact a' rfl
def fS(s:a.Ok)(A:bb a b){f v:Nat}{r u:o}{t:Except g Bool}(z:f<4)(l:aR a r)(k:r.S<=a.F)(c:er b a f v r=some (t,u)):lq a r t u:=by
 have m:=s.a6 f z;have p:∀{i:g},ci i->(∀h,i= .ok h->h.length<=8900)->lq a r (gC i) r:=λw j=>⟨l,cb _,λC=>k,mV (fU _) _,(DT w j).1⟩;unfold er at c;unfold d8.Ok at m;generalize (a.a6 f).te=B at c m;generalize (a.a6 f).oe=G at c;generalize (a.a6 f).n6=F at c;induction B using x7.casesOn with
 |size h=>exact eQ (P:=lq a r) c (p .ok λh n=>by cases n;split<;>exact a' rfl)
 |iY e=>exact eQ (P:=lq a r) c (p .ok λh n=>by cases n;exact G2 e)
 |mJ e=>
  obtain⟨E,x,j⟩:=Option.map_eq_some_iff.mp c;have d:=A e _ _ _ _ m l k x;have q:=DT d.hC (d.aE s.F);exact eQ (P:=lq a r) (T some j) ⟨d.V,d.le,λD=>d.C (q.2 D),d.U,q.1⟩
 |raise e=>exact eQ (P:=lq a r) c ⟨l,cb _,λC=>k,mV (fU _) _,λi y=>xH y▸⟨yX e,(rR e).2⟩⟩
end
structure cZ(c:B)(k:Nat)(r b:o):Prop where
 V:aR c b
 le:r.S<=b.S
 U:b.U.length+3*r.S<=r.U.length+k+3*b.S
def cZ.trans{c:B}{j k m:Nat}{r mH e:o}(d:cZ c j r mH)(b:cZ c k mH e)(f:j+k<=m:=by decide):cZ c m r e:=⟨b.V,L d.le b.le,hD d.U b.U f (by simp+arith only)⟩
def cZ.sR{d:B}{k m:Nat}{r b:o}(c:cZ d k r.a b)(e:k<=m+3:=by decide):cZ d m r b:=⟨c.V,hU c.le,by have f:b.U.length+3*(r.S+1)<=r.U.length+k+3*b.S:=c.U;exact(dC e f (by simp+arith only))⟩
def cZ.refl{b:B}{k:Nat}{r:o}(c:aR b r):cZ b k r r:=⟨c,cb _,by exact(by simp+arith only)⟩
def cC.b2{b:B}{k:Nat}{r c:o}{d:g}(a:cC b k r d c):cZ b k r c:=⟨a.V,a.le,a.U⟩
def hs.b2{a:B}{r b:o}{c:g}(d:hs a r c b):cZ a 1 r b:=cC.b2 d
def lq.b2{b:B}{r c:o}{d:Except g Bool}(a:lq b r d c):cZ b 1 r c:=⟨a.V,a.le,a.U⟩
def cZ.gw{e:B}{k:Nat}{r c:o}{b:g}(d:cZ e k r c)(h:b≠.C->c.S<=e.F)(j:ci b)(i:∀f,b= .ok f->gp (c.S-r.S) f):cC e k r b c:=⟨d.V,d.le,h,i,d.U,j⟩
def dA{a:B}{r:o}(b:decide (a.F<r.S+1)=false):r.a.S<=a.F:=t0 (of_decide_eq_false b)
def lA{a:B}{r:o}(b:decide (a.F<r.S+1)=false):r.S<=a.F:=hU (dA b)
def bz.mono{a m:Nat}{b:Str}(c:bz a b)(g:a<=m):bz m b:=let⟨ah,k,d,e,f⟩:=c;⟨ah,k,d,L e g,f⟩
def aR.a{b:B}{r:o}(c:aR b r)(e:r.S<=b.F):aR b r.a:=
 ⟨λd=>(show bz (r.S+1) (r.get d).val from(c.i4 d).mono (fU _))|>λf=>by rcases d with _|_|_<;>exact f,q0 e,c.U,c.plain⟩
def aM(a k:Nat)(r:o):Prop:=r.U.length<=3*r.S+k+3*a
def aM.b2{f:B}{b j k m:Nat}{r d:o}(c:aM b j r)(e:cZ f k r d)(g:j+k<=m:=by decide):aM b m d:=by have:=e.U;unfold aM at c⊢;exact(hD c g this (by simp+arith only))
def aM.a{b k:Nat}{r:o}(c:aM b (k+3) r):aM b k r.a:=by have c:r.U.length<=3*r.S+(k+3)+3*b:=c;refine(?_:r.U.length<=3*(r.S+1)+k+3*b);exact(bV c (by simp+arith only))
def aM.A{e:B}{b k:Nat}{r c:o}{f:g}(h:aM b k r)(d:hs e r f c):aM b (k+1) c:=h.b2 d.b2 (cb _)
def aM.mono{b k d:Nat}{r:o}(c:aM b k r)(e:k<=d:=by decide):aM b d r:=by unfold aM at c⊢;exact(dC c e (by simp+arith only))
def e7{d:B}{b a c f:Nat}(e:aK d b a<=f)(g:c<=a:=by decide):aK d b c<=f:=by unfold aK at e⊢;exact(dC e g (by simp+arith only))
def fQ{c:B}{a b n:Nat}(e:aK c a b<=n):∃d,n=d+39+1:=rm (n:=39) (bV e (by simp+arith only [aK]))
def mG{d:B}{a c b e:Nat}(f:aK d a c<=e+39+1)(g:b+1<=c:=by decide):aK d a b<=e+39:=by unfold aK at f⊢;exact(dC f g (by simp+arith only))
def cZ.a{d:B}{k:Nat}{r b:o}(c:cZ d k r b)(e:b.S<=d.F):cZ d k r b.a:=⟨c.V.a e,k6 c.le,by have f:=c.U;refine(?_:b.U.length+3*r.S<=r.U.length+k+3*(b.S+1));exact(bV f (by simp+arith only))⟩
def cC.yc{b:B}{j k m:Nat}{r f e:o}{d:g}(c:cZ b j r f)(a:cC b k f d e)(h:j+k<=m:=by decide):cC b m r d e:=(c.trans a.b2 h).gw a.C a.hC λl i=>(a.ok l i).mono (xD c.le _)
def ci.brk{a b:g}(d:ci a)(e:ci b):ci (dw b a):=by
 induction a using g.casesOn with
 |ok aj=>exact .ok
 |C=>exact .C
 |M k aj c f h=>
  refine(?_:ci (cond (aw k 3) b (.M k aj c f h)));cases aw k 3
  . exact d
  . exact e
def Cy{a d:g}(b:dw d a≠.C):a≠.C:=λc=>by subst c;exact b rfl
def yg{c d:g}{b:Str}(h:cF c=false)(a:dw d c= .ok b):d= .ok b:=by
 induction c using g.casesOn with
 |ok b=>cases h
 |C=>cases a
 |M k l e i j=>
  have a:cond (aw k 3) d (.M k l e i j)= .ok b:=a;cases f:aw k 3<;>rw [f] at a
  . cases a
  . exact a
def Tb{a:g}(b:cz a=false):cF a=false:=by rcases a with _|⟨_,_,_,_,_⟩|_<;>first|rfl|cases b
def bz.aE{c:Nat}{d:Str}(e:bz c d):d.length<=3+c:=by
 obtain⟨a,k,b,f,rfl⟩:=e;have:a.length<=3:=by simp only [List.mem_cons,List.not_mem_nil,or_false] at b;rcases b with rfl|rfl|rfl|rfl|rfl|rfl|rfl|rfl|rfl|rfl<;>decide
 refine(?_:(a++List.replicate k 46).length<=_);simp;exact(dC f this (by simp+arith only))
def HS.Hl{d:B}{c:M}(a:HS d c)(b:Vn):(c.r.get b).val.length<=90:=by have:=(a.V.i4 b).aE;have e:=a.bu;have f:=a.b3.F;exact(hD this e f (by simp+arith only))
def JN:∀{c:Y}{k:Nat},dq 0 c->dq k c:=λ{c k}=>by
 refine Y.rec (motive_1:=λc=>dq 0 c->dq k c) (motive_2:=λe=>aH 0 e->aH k e) ?_ ?_ ?_ ?_ ?_ ?_ ?_ ?_ ?_ ?_ ?_ ?_ c
 . exactλa=>a
 . exactλb a=>a
 . exactλb a=>a
 . exactλb a=>a
 . exactλb a=>a
 . exactλb a=>absurd a (eu _)
 . exactλb a=>a
 . exactλb a=>a
 . exactλb d a=>d a
 . exactλb d a=>d a
 . exactλa=>a
 . exactλb b f g a=>⟨f a.1,g a.2⟩
theorem yn:∀{b:List Y}{k:Nat},aH 0 b->aH k b
 |[],_,_=>trivial
 |_::_,_,a=>⟨JN a.1,yn a.2⟩
def HS.cH{a:B}{d:M}{c:o}(b:HS a d)(e:aR a c):(d.st c).Ok:=⟨yn e.U,b.ok.aW,b.ok.a6⟩
abbrev vh:aL:=c (m 71) []
abbrev EY:I:=⟨vh.scope,none,[]⟩
noncomputable def uQ:List (Nat×bF):=[(84,fA)]
def u6:ae:= .c [.l [q 1,.str Bj,.l (y [Bh,xy]),q 0,q 0],.l [q 2,.str k3,.l (y [bC]),q 1,q 0],.l [q 2,.str k3,.l (y [bC]),q 1,q 3],.l [q 2,.str qU,.l (y [bC]),q 1,q 4],
 .l [q 5,.str k2,.l (y [bC]),q 0,q 0],.l [q 2,.str c4,.l (y [bC]),q 2,q 0],.l [q 3,.str k2,.l (y [bC]),q 0,q 0],.l [q 4,.str k2,.l (y [bC]),q 0,q 0]]
abbrev EZ(b k:Nat)(e:Str)(a:List Str)(c d:Nat):List (Str×Y):=[("which",q b),("code",q k),("value",.str e),("errorcode",.l (y a)),("level",q c),("ret",q d)]
section
variable{h:Frag}{i:B}{l:N}{a:M}{k c:Nat}{d:Q}{b:af}
def Rz(a:M)(d:Q)(c:Nat):g->Prop
 | .M k aj b f h=>d .next ⟨e a++[u6],EZ c k aj b f h⟩
 |_=>False
def RA{i:Nat}(j:i<8)(g:Rz a d i (ends i)):A (x (f h) uQ (k+100) (c+9)) EY 0 vh.body ⟨e a,[("which",q i)]⟩ d b:=by
 rcases i with _|_|_|_|_|_|_|_|i
 . exact z g (by kernel_rfl)
 . exact z g (by kernel_rfl)
 . exact z g (by kernel_rfl)
 . exact z g (by kernel_rfl)
 . exact z g (by kernel_rfl)
 . exact z g (by kernel_rfl)
 . exact z g (by kernel_rfl)
 . exact z g (by kernel_rfl)
 . exact absurd j (Nat.not_lt.mpr (aD _ _))
def RB{n q l j m:Nat}{g:Str}{i:List Str}(o:Hx n a b a.r (.M l g i j m)):A (x (f h) uQ (k+100) (c+9)) EY 1 vh.body ⟨e a++[u6],EZ q l g i j m⟩ d (fX [] b):=
 ⟨l,g,i,j,m,.inl rfl,aD 6 (c+3),z (o [u6,.ar 84 (some 21) [.str g] true false,.dict (el (d2 l g i j m) (.c []))] [] (.obj 20) (.a7 (d2 l g i j m)) ⟨_,_,_,rfl,bU _,(λp=>aA p)⟩ (rT a (d2 l g i j m) [u6] 20 rfl rfl)) (by kernel_rfl)⟩
def M3{n i:Nat}{d:af}(o:i<8)(m:Hx n a b a.r (ends i)):av (x (f h) uQ (k+100) (c+9)) none vh [q i] ⟨e a,[]⟩ d b:=by
 refine c2 (cr:=[("which",q i)]) (by kernel_rfl) (λp p=>by kernel_rfl) (j 0 ⟨RA o ?_⟩);induction l:ends i using g.casesOn with
 |M t aj r s u=>
  rw [l] at m;exact(aB (j 1 ⟨RB m⟩)).go
 |ok aj=>exact absurd l ((rR i).2 aj)
 |C=>exact absurd l (rR i).1
inductive xN(c:Nat)(args:List Y)(st:St)(b:af):Prop
 |mk (a f g d h):M.Ok a->d<8->args=[q d]->st=⟨e a++f,g⟩->10<=c->dm h a f g b b a.r (ends d) none->xN c args st b
def ua(c:Nat)(a:List Y)(d:St)(_ b:af):Prop:=xN c a d b
end
def DF{c:au}{p:Program}{e:Frag}(a:aC c.hb (f e))(d:aV (f e)):az c p 725 ua:=by rintro b A C v x ⟨D,t,B,r,s,g,m,j,k,l,n⟩;subst j;subst k;obtain⟨b,rfl⟩:∃h,b=h+9+1:=⟨b-10,(hT l).symm⟩;exact n2 (kv:=none) a (bt (ct:=uQ) a d (λz=>⟨iU a d,u⟩) 100 (b+9)) (a.fn 725 _ rfl) g (show aH 19 [q r] from⟨u,u⟩) g (λE o=>bh o) n λw y i=>M3 (k:=0) m i
abbrev vj:aL:=c (m 23) []
noncomputable def h9(a:B)(b:N):List (Nat×bF):=[(463,cp a b),(223,q7),(597,m3),(725,ua)]
abbrev ku:aL:=c (m 72) []
abbrev pX:I:=⟨ku.scope,none,[]⟩
abbrev jo(d:Nat)(a b m c:Y):List (Str×Y):=[("host",.obj 0),("text",.str (n d)),("sort",a),("about",b),("many",m),("is_not",c)]
section
variable{t:Frag}{c:B}{s:N}{a:M}{k d:Nat}{i:Q}{l:af}{b:Nat}{m v:Y}
def vb{g j:Y}(p:U (n b) a.a6=some (.l [g,j,m,v]))(o:i .next ⟨e a,jo b g j m v⟩):A (x (f t) (h9 c s) (k+90) (d+29)) pX 0 ku.body ⟨e a,[("host",.obj 0),("text",.str (n b))]⟩ i l:=by
 conv=>whnf
 refine h (p ..) ?_;exact o
abbrev rS(a:M)(d:Vn)(c:Nat)(b:Bool):Bool:= !(decide (Int.ofNat (a.r.get d).val.length<Int.ofNat c)==b)
def Nn{g:Vn}{j:Nat}{h:Bool}(o:a.Ok)(n:(a.r.get g).val.length<9223372036854775808)(m:cond (rS a g j h) (i (.ret (.str d7)) ⟨e a++[],jo b (q 0) (.str g.str) (q j) (.bool h)⟩) (i (.ret (.str c4)) ⟨e a++[],jo b (q 0) (.str g.str) (q j) (.bool h)⟩)):
  aU (x (f t) (h9 c s) (k+90) (d+29)) pX l (aT 1 ku.body) ⟨e a,jo b (q 0) (.str g.str) (q j) (.bool h)⟩ i:=
 ⟨a,[],_,g,o,rfl,rfl,aD 7 (d+22),z (aY (Q:=False) (Nat.blt_eq.mpr n) m) (by kernel_rfl)⟩
def Np{g:Nat}:i (.ret (.str (cn g))) ⟨e a,jo b (q 1) (.str (cn g)) m v⟩=aU (x (f t) (h9 c s) (k+90) (d+29)) pX l (aT 1 ku.body) ⟨e a,jo b (q 1) (.str (cn g)) m v⟩ i:=by kernel_rfl
def Nl{g:Y}:cp c s (d+29) [.obj 0,g] ⟨e a,jo b (q 2) g m v⟩ (λj h=>i (.ret j) h) l=aU (x (f t) (h9 c s) (k+90) (d+29)) pX l (aT 1 ku.body) ⟨e a,jo b (q 2) g m v⟩ i:=by kernel_rfl
def Nk{g:Y}:ua (d+29) [g] ⟨e a,jo b (q 3) g m v⟩ (λj h=>aU (x (f t) (h9 c s) (k+90) (d+29)) pX l (aT 2 ku.body) h i) l=aU (x (f t) (h9 c s) (k+90) (d+29)) pX l (aT 1 ku.body) ⟨e a,jo b (q 3) g m v⟩ i:=by kernel_rfl
abbrev A2(b:Nat):List (Str×Y):=[("host",.obj 0),("text",.str (n b)),("run",.d 732)]
abbrev G7:I:=⟨vj.scope,none,[]⟩
def Wp:i .next ⟨e a,A2 b⟩=A (x (f t) (h9 c s) (k+100) (d+39)) G7 0 vj.body ⟨e a,[("host",.obj 0),("text",.str (n b))]⟩ i l:=by kernel_rfl
def Wq:av (x (f t) (h9 c s) (k+96) (d+38)) none ku [.obj 0,.str (n b)] ⟨e a,A2 b⟩ (λj g=>q7 (d+39) [j] g (λh g=>i (.ret h) g) l) l=A (x (f t) (h9 c s) (k+100) (d+39)) G7 1 vj.body ⟨e a,A2 b⟩ i l:=by kernel_rfl
def G8{B:Nat}{k:Except g Bool}{m:o}{b:Str}{j:List (Str×Y)}{i l:af}(q:gP b\/∃r,b=cn r) (n:gC (.ok b)=k) (p:∀c,k= .ok c->i (.bool c) ⟨e (a.st m)++[],j⟩) (f:Hx B a l m (g6 k)):
  q7 (d+39) [.str b] ⟨e (a.st m)++[],j⟩ i l:=
 ⟨b,rfl,aD 14 (d+25),q,λc h=>p c (n▸y7 h),λh=>by
  rw [<-n,y6 h] at f;exact z (Hx.at f j (.a7 (h5 b)) ⟨_,_,_,rfl,bU _,(λf=>aA f)⟩) (by kernel_rfl)⟩
def Ul{v:Nat}{b:Str}(c:gp v b):gP b\/∃d,b=cn d:=by
 rcases c.tF with a|a|a|a
 . exact .inl a
 . exact .inr ⟨5,a⟩
 . exact .inr ⟨1,a⟩
 . exact .inr ⟨0,a⟩
def DI(a:M)(c:Vn)(b:Nat)(d:Bool):rS a c b d=((decide ((a.r.get c).val.length<b)) !=d):=by unfold rS;refine h (show decide (Int.ofNat (a.r.get c).val.length<Int.ofNat b)=decide ((a.r.get c).val.length<b) from decide_eq_decide.mpr Int.ofNat_lt) ?_;rfl
def ND{i l:af}(M:bb c s)(r:HS c a)(F:b<4)(K:aK c a.D 0<=d+29){A:Except g Bool}{D:o}{G:List (Str×Y)}(m:er s c b a.D a.r=some (A,D))
  (y:∀p,(gP p\/∃u,p=cn u)->gC (.ok p)=A->i (.str p) ⟨e (a.st D)++[],G⟩) (C:qV A=none->Hx (a5 c a.D) a l D (g6 A)):
  av (x (f t) (h9 c s) (k+90) (d+29)) none ku [.obj 0,.str (n b)] ⟨e a,G⟩ i l:=by
 have v:=r.a6 b F;have w:=r.b3.a6 b F;have L:=λp=>eW (r.Hl p) (by decide:90<9223372036854775808);unfold er at m;unfold d8.Ok at w;unfold hP at v;generalize c.a6 b=I at m w v;obtain⟨O,R,Q⟩:=I;refine c2 (cr:=[("host",.obj 0),("text",.str (n b))]) (by kernel_rfl) (λP P=>by kernel_rfl) (j 0 ?_);cases O with
 |size p=>
  injection m with m;injection m with h q;subst q;dsimp only at h;rw [<-DI] at h;refine⟨vb v (Nn r.ok (L p) (fG (λB=> ?_) λB=> ?_))⟩
  . rw [B] at h;exact y d7 (.inr ⟨0,rfl⟩) h
  . rw [B] at h;exact y c4 (.inr ⟨1,rfl⟩) h
 |iY u=>
  injection m with m;injection m with h q;subst q;refine⟨vb v (z ?_ Np)⟩;exact y _ (.inr ⟨u,rfl⟩) h
 |mJ u=>
  obtain⟨⟨E,N⟩,h,q⟩:=Option.map_eq_some_iff.mp m;injection q with q J;subst J;subst q;have H:=M u _ _ _ _ w r.V r.bu h;refine⟨vb v (z ⟨a,[],_,u,E,N,r,w,rfl,rfl,K,h,?_⟩ Nl)⟩;cases E with
  |ok p=>exact y p (Ul (H.ok p rfl)) rfl
  |C=>exact((C rfl).fX _).at _
  |M=>exact((C rfl).fX _).at _
 |raise u=>
  injection m with m;injection m with h q;subst h;subst q;exact⟨vb v (z ⟨a,[],_,u,_,r.ok,w,rfl,rfl,aD 10 (d+19),((C rfl).fX _).at _⟩ Nk)⟩
def Wu{i l:af}(E:bb c s)(B:HS c a)(C:b<4)(y:aK c a.D 0<=d+38){h:Except g Bool}{v:o}(A:er s c b a.D a.r=some (h,v))(m:hZ (a5 c a.D) a i l v (g6 h) (qV h)):
  av (x (f t) (h9 c s) (k+100) (d+39)) none vj [.obj 0,.str (n b)] ⟨e a,[]⟩ i l:=by
 refine c2 (cr:=[("host",.obj 0),("text",.str (n b))]) (by kernel_rfl) (λG G=>by kernel_rfl) (j 0 (a9 (aB (j 1 (a9 ⟨?_⟩ (Wq (d:=d))))) (Wp (d:=d))));refine ND (k:=k+6) (d:=d+9) E B C y A (λF u r=> ?_) (λz=> ?_)
 . induction h using Except.casesOn with
   |ok q=>exact G8 (B:=a5 c a.D) (d:=d) u r (λI p=>by cases p;exact m _ _) (λH J F K D=>nomatch D)
   |error w=>exact G8 (B:=a5 c a.D) (d:=d) u r (λq p=>nomatch p) (Hx.fX m [])
 . induction h using Except.casesOn with
   |ok q=>cases z
   |error w=>exact m.fX _
def Ww{j:au}{p:Program}(e:aC j.hb (f t))(h:aV (f t))(r:bb c s)(y:∀k,az (j.more k) p 463 (cp c s)):az j p 230 (q9 c s):=by
 rintro d F I i l ⟨a,C,G,b,B,H,g,q,w,x,m,o,z⟩;subst w;subst x;obtain⟨d,rfl⟩:=fQ m;exact n2 e (bt (ct:=h9 c s) e h (λk=>⟨y k,SJ e h,At e h,DF e h,u⟩) 100 (d+39)) (e.fn 230 _ rfl) g.ok (show aH 19 [.obj 0,.str (n b)] from⟨(a' rfl:0<19),u,u⟩)
  (g.cH (fS g.b3 r q g.V g.bu o).V) (by rcases B with _|_<;>intro J A<;>cases A;trivial) z λD E v=>Wu (k:=0) r g q (k5 (mG (b:=1) m)) o v
end
abbrev NF:aL:=c (m 40) []
abbrev NK:aL:=c (m 41) []
noncomputable def yC(a:B)(b:N):List (Nat×bF):=[(463,cp a b)]
section
variable{t:Frag}{h:B}{s:N}{a:M}{c k n:Nat}{b:g}{d:o}{i l:af}
def I'(G:HS h a)(D:c<6)(C:aK h a.D 0<=n+39)(F:s c a.D a.r=some (b,d))(o:hZ (a5 h a.D) a i l d b (c1 b)):
  av (x (f t) (yC h s) (k+100) (n+39)) none NF [.obj 0,.str (E c)] ⟨e a,[]⟩ i l:=by
 refine c2 (cr:=[("host",.obj 0),("body",.str (E c))]) (by kernel_rfl) (λI I=>by kernel_rfl) (j 0 ⟨?_⟩);refine⟨a,[],_,c,b,d,G,D,rfl,rfl,C,F,?_⟩;induction b using g.casesOn with
 |ok aj=>exact z (o [] []) (by kernel_rfl)
 |C=>
  intro w r;cases w with
  |a7 m=>exact r.elim
  |C A=>exact z (Hx.at o [] _ r) (by kernel_rfl)
 |M M aj J L O=>
  intro w r;cases w with
  |C=>exact r.elim
  |a7 m=>
   let y:=i (.l [q m.code,.str H]) ⟨e (a.st d)++(cj.a7 m).objs 19,[]⟩;let v:=l (.obj 20) ⟨e (a.st d)++(cj.a7 m).objs 19,[]⟩;refine z (P:=cond (aw m.code 3) (cond (aw m.code 3) y v) (cond (aw m.code 4) (cond (aw m.code 4) y v) v)) ?_ (by kernel_rfl);obtain⟨K,N,A,rfl,B⟩:=r;refine fG (λp=>aY p (o.t p _ _)) λp=>fG (λu=>aY u ((o.cf p).t u _ _)) λu=>Hx.at ((o.cf p).cf u) [] (.a7 _) ⟨_,_,_,rfl,B⟩
def S5(B:HS h a)(y:c<6)(w:aK h a.D 0<=n+39)(A:s c a.D a.r=some (b,d))(o:hZ (a5 h a.D) a i l d b (jG b)):
  av (x (f t) (yC h s) (k+100) (n+39)) none NK [.obj 0,.str (E c)] ⟨e a,[]⟩ i l:=by
 refine c2 (cr:=[("host",.obj 0),("script",.str (E c))]) (by kernel_rfl) (λC C=>by kernel_rfl) (j 0 ⟨?_⟩);refine⟨a,[],_,c,b,d,B,y,rfl,rfl,w,A,?_⟩;induction b using g.casesOn with
 |ok aj=>exact z (o [] []) (by kernel_rfl)
 |C=>
  intro r m;cases r with
  |a7 p=>exact m.elim
  |C u=>exact z (Hx.at o [] _ m) (by kernel_rfl)
 |M H aj D G J=>
  intro r m;cases r with
  |C=>exact m.elim
  |a7 p=>
   refine z (P:=cond (aw p.code 3) (i (.bool false) ⟨e (a.st d)++(cj.a7 p).objs 19,[]⟩) (l (.obj 20) ⟨e (a.st d)++(cj.a7 p).objs 19,[]⟩)) ?_ (by kernel_rfl);obtain⟨F,I,u,rfl,v⟩:=m;refine fG (λq=>o.t q _ _) λq=>Hx.at (o.cf q) [] (.a7 _) ⟨_,_,_,rfl,v⟩
end
section
variable{a:au}{p:Program}{d:Frag}{b:B}{c:N}
def I6{c:g}{b:Y}(a:c1 c=some b):dq 19 b:=by
 induction c using g.casesOn with
 |ok f=>cases a;exact⟨u,u,u⟩
 |C=>cases a
 |M k f h i j=>
  have a:cond (aw k 3) (some (Y.l [q k,.str H])) (cond (aw k 4) (some (.l [q k,.str H])) none)=some b:=a;cases d:aw k 3<;>rw [d] at a
  . cases e:aw k 4<;>rw [e] at a<;>cases a;exact⟨u,u,u⟩
  . cases a;exact⟨u,u,u⟩
def S3{c:g}{b:Y}(a:jG c=some b):dq 19 b:=by
 induction c using g.casesOn with
 |ok e=>cases a;trivial
 |C=>cases a
 |M k e f h i=>
  have a:cond (aw k 3) (some (Y.bool false)) none=some b:=a;cases d:aw k 3<;>rw [d] at a<;>cases a;trivial
def C6(e:∀d,az (a.more d) p 463 (cp b c)) (d:List Addr):dS (a.more d) p (yC b c):=⟨e d,u⟩
def Ct(g:aC a.hb (f d))(n:aV (f d))(v:bb b c)(s:∀h,az (a.more h) p 463 (cp b c)):az a p 329 (t7 b c):=by
 rintro i B G x z ⟨I,w,D,m,C,F,e,k,q,r,j,l,t⟩;subst q;subst r;obtain⟨i,rfl⟩:=fQ j;exact n2 g (bt g n (λh=>(C6 s h)) 100 (i+39)) (g.fn 329 _ rfl) e.ok (show aH 19 [.obj 0,.str (E m)] from⟨(a' rfl:0<19),u,u⟩)
  (e.cH (v m _ _ _ _ k e.V e.bu l).V) (λH=>I6) t λy A o=>I' (k:=0) e k (mG j) l o
def S6(g:aC a.hb (f d))(n:aV (f d))(v:bb b c)(s:∀h,az (a.more h) p 463 (cp b c)):az a p 336 (ue b c):=by
 rintro i B G x z ⟨I,w,D,m,C,F,e,k,q,r,j,l,t⟩;subst q;subst r;obtain⟨i,rfl⟩:=fQ j;exact n2 g (bt g n (λh=>(C6 s h)) 100 (i+39)) (g.fn 336 _ rfl) e.ok (show aH 19 [.obj 0,.str (E m)] from⟨(a' rfl:0<19),u,u⟩)
  (e.cH (v m _ _ _ _ k e.V e.bu l).V) (λH=>S3) t λy A o=>S5 (k:=0) e k (mG j) l o
end
abbrev lN:aL:=c (m 42) []
abbrev kx:aL:=c (m 43) []
noncomputable def dr(a:B)(b:N):List (Nat×bF):=[(230,q9 a b),(329,t7 a b),(336,ue a b),(449,hW),(463,cp a b),(84,fA)]
abbrev fT(c b:Nat)(a:Nat):List (Str×Y):=[("host",.obj 0),("words",.c (y [dF,n c,E b])),("code",q a)]
abbrev jR:I:=⟨lN.scope,none,[]⟩
abbrev jQ:List Stmt:=jP (t lN.body 2)
abbrev xq:Expr:=hp (t lN.body 2)
def eA:g->Nat
 | .M k _ _ _ _=>k
 |_=>0
def Cs{c:g}{d:Y}(a:c1 c=some d):∃b,d= .l [q (eA c),.str b]:=by
 induction c using g.casesOn with
 |ok b=>cases a;exact⟨b,rfl⟩
 |C=>cases a
 |M k b h i j=>
  have a:cond (aw k 3) (some (Y.l [q k,.str H])) (cond (aw k 4) (some (.l [q k,.str H])) none)=some d:=a;cases e:aw k 3<;>rw [e] at a
  . cases f:aw k 4<;>rw [f] at a<;>cases a;exact⟨_,rfl⟩
  . cases a;exact⟨_,rfl⟩
def HS.st{c:B}{w:M}{b:o}(a:HS c w)(d:aR c b)(e:b.S<=c.F)(f:b.U.length<=3*b.S+10+3*w.D):HS c (w.st b):=⟨a.L,a.F,a.aW,a.a6,a.cH d,a.D,a.b3,d,e,f⟩
def HS.b2{b:B}{a:M}{j k:Nat}{c:o}(e:HS b a)(d:cZ b k a.r c)(h:aM a.D j a.r)(f:c.S<=b.F)(g:j+k<=10:=by decide):HS b (a.st c):=e.st d.V f (h.b2 d g)
section
variable{v:Frag}{a:B}{i:N}{w:M}{b c t k s:Nat}{C:o}{d:Q}{l:af}
def W1{m:Nat}:d .next ⟨e w++[],fT b c 3⟩=cv none (x (f v) (dr a i) (k+90) (s+39)) jR xq jQ [] d l (m+1) ⟨e w++[],fT b c 3⟩:=by kernel_rfl
def xr{d:Bool->St->Prop}{h:Except g Bool}(u:aw t 3=false)(A:HS a w)(B:b<4)(q:aK a w.D 3<=s+39)(y:er i a b w.D w.r=some (h,C))(r:qV h=some (.bool (iy h))->d (iy h) ⟨e (w.st C)++[],fT b c t⟩)(D:qV h=none->Hx (a5 a w.D) w l C (g6 h)):
  ((x (f v) (dr a i) (k+90) (s+39)).B jR xq ⟨e w++[],fT b c t⟩).A d l:=by
 refine z (P:=cond (!aw t 3) (q9 a i (s+39) [.obj 0,.str (n b)] ⟨e w++[],fT b c t⟩ (λp m=>(oQ p m).A (λj m=>cond j (d true m) (d j m)) l) l) (d (!aw t 3) ⟨e w++[],fT b c t⟩)) (aY (qp u) ⟨w,[],_,b,h,C,A,B,rfl,rfl,q,y,dm.mj (λp o=> ?_) D⟩) (by kernel_rfl);induction h using Except.casesOn with
 |error E=>cases o
 |ok j=>cases o;cases j<;>exact r rfl
def A8(j:w.Ok)(h:decide (w.F<w.r.S+1)=false->d .next ⟨e (w.st w.r.a)++[],fT b c t⟩)(m:decide (w.F<w.r.S+1)=true->Hx (a5 a w.D) w l w.r.a .C):
  A (x (f v) (dr a i) (k+90) (s+39)) jR 0 jQ ⟨e w++[],fT b c t⟩ d l:=
 ⟨w,[],_,j,rfl,rfl,aD 4 (s+35),h,λg=>Hx.at (m g) _ (.C false) u⟩
def Hq{h:g}(r:HS a w)(n:c<6)(m:aK a w.D 1<=s+39)(q:i c w.D w.r=some (h,C))(o:c1 h≠none->d .next ⟨e (w.st C)++[],fT b c (eA h)⟩)(u:c1 h=none->Hx (a5 a w.D) w l C h):
  A (x (f v) (dr a i) (k+90) (s+39)) jR 1 jQ ⟨e w++[],fT b c t⟩ d l:=by
 refine⟨w,[],_,c,h,C,r,n,rfl,rfl,m,q,dm.mj (λD j=> ?_) u⟩;have p:c1 h≠none:=λy=>by rw [y] at j;cases j
 obtain⟨B,rfl⟩:=Cs j;exact z (o p) (by kernel_rfl)
def nB{a:g}(c:c1 a=none):cz a=false/\cF a=false/\dw (.ok H) a=a/\∀d,dw d a=a:=by
 induction a using g.casesOn with
 |ok e=>cases c
 |C=>exact⟨rfl,rfl,rfl,λn=>rfl⟩
 |M k e f m b=>
  have c:cond (aw k 3) (some (Y.l [q k,.str H])) (cond (aw k 4) (some (.l [q k,.str H])) none)=none:=c;cases i:aw k 3<;>rw [i] at c
  . cases j:aw k 4<;>rw [j] at c
    . have l:∀d,dw d (.M k e f m b)= .M k e f m b:=λd=>by refine(?_:cond (aw k 3) _ _=_);refine h (i ..) ?_;rfl
      exact⟨j,rfl,l _,l⟩
    . cases c
  . cases c
def rA{a:g}(c:c1 a≠none)(d:cz a=false):eA a=3/\∀f,dw f a=f:=by
 induction a using g.casesOn with
 |ok i=>cases d
 |C=>exact absurd rfl c
 |M k i j l b=>
  have c:cond (aw k 3) (some (Y.l [q k,.str H])) (cond (aw k 4) (some (.l [q k,.str H])) none)≠none:=c;have d:aw k 4=false:=d;cases e:aw k 3 with
  |true=>exact⟨n5 e,λf=>by refine(?_:cond (aw k 3) _ _=_);refine h (e ..) ?_;rfl⟩
  |false=>rw [e,d] at c;exact absurd rfl c
def vx{a:g}(c:cz a=true):aw (eA a) 3=false/\a≠.C:=by
 induction a using g.casesOn with
 |ok d=>exact⟨rfl,nofun⟩
 |C=>cases c
 |M k d e f b=>exact⟨by refine(?_:aw k 3=false);refine h (n5 c ..) ?_;rfl,nofun⟩
def wc{a:g}(b:c1 a≠none):a≠.C:=λc=>by subst c;exact b rfl
def B1{i:N}{s:Nat}{a:g}{r:o}{c:g×o}(b:gq i none s a r=some c):(cz a=true/\c=(.ok H,r))\/(cz a=false/\c=(a,r)):=by
 unfold gq at b;rcases d:cz a with _|_<;>rw [d] at b<;>cases b
 . exact .inr ⟨rfl,rfl⟩
 . exact .inl ⟨rfl,rfl⟩
def H6{i:N}{s:Nat}{a b:g}{r d:o}(e:gq i none s a r=some (b,d))(h:cF b=false):cz a=false/\a=b/\r=d:=by
 rcases B1 e with⟨_,c⟩|⟨f,c⟩
 . cases c;cases h
 . cases c;exact⟨f,rfl,rfl⟩
def H5{i:N}{s:Nat}{c:g}{f:Str}{r d:o}(e:gq i none s c r=some (.ok f,d)):cz c=true/\r=d:=by
 rcases B1 e with⟨a,b⟩|⟨a,b⟩
 . cases b;exact⟨a,rfl⟩
 . cases b;cases a
def F3{a:Except g Bool}{c:Y}(b:qV a=some c):g6 a= .ok H:=by
 rcases a with _|_
 . exact bh b
 . rfl
abbrev WW(v:Frag)(a:B)(i:N)(k s:Nat)(d:Q)(l:af)(m:Nat)(b:St):Prop:=cv none (x (f v) (dr a i) (k+90) (s+39)) jR xq jQ [] d l m b
def x8(a:B)(w:M)(b c:Nat)(d:Q)(l:af)(h:o)(f:g):Prop:=(f= .ok H->∀t,d .next ⟨e (w.st h)++[],fT b c t⟩)/\Hx (a5 a w.D) w l h f
def x8.none{e:g}{f:o}(h:x8 a w b c d l f (dw (.ok H) e))(i:c1 e=Option.none):Hx (a5 a w.D) w l f e:=(nB i).2.2.1▸h.2
def W4(O:bb a i)(A:b<4)(U:c<6)(D:aK a w.D 3<=s+39):
  ∀(E m:Nat)(r:o)(t:Nat)(W:o)(Q:g),x8 a w b c d l W Q->HS a (w.st r)->aM w.D 8 r->aw t 3=false->fO i a b c none w.D E r=some (Q,W)->E<m->
   WW v a i k s d l m ⟨e (w.st r)++[],fT b c t⟩:=by
 intro E;induction E using Nat.rec with
 |zero=>exactλn n n n n n n n n B n=>bh B
 |succ E N=>
  intro m r t W Q C f Z J B S;induction m using Nat.casesAuxOn with
  |zero=>exact absurd S (eu _)
  |succ m=>
   have R:∀{q:o}{X:Bool},decide (a.F<q.S+1)=X->decide ((w.st q).F<q.S+1)=X:=λp=>by refine h (show w.F=a.F from f.F) ?_;exact p
   have XF:=v1 B;clear B;cases XF with
   |ti XM q u XH=>
    clear N;refine xr (w:=w.st r) J f A D u (λM=> ?_) λn=>C.2.tb;exact XH.symm▸C.1 (F3 M) t
   |C q u p=>
    clear N;have x:=fS f.b3 O A f.V f.bu u;refine xr (w:=w.st r) J f A D u (λM=> ?_) (λH=>aA (T Option.isSome H));exact(j 0 (body:=jQ) ⟨A8 (w:=w.st q) (f.cH x.V) (λI=>aA (I.symm.trans (R p))) λn=>(C.2.tb:Hx (a5 a w.D) w _ _ _)⟩).go
   |fM q XG XI XK XJ u p K F XC=>
    clear N;refine aS λXE V=> ?_;obtain⟨G,rfl,rfl⟩:=H6 F XC;refine V ?_;clear F XC;have x:=fS f.b3 O A f.V f.bu u;have L:=(Z.b2 x.b2 (m:=9)).a (k:=6);refine xr (w:=w.st r) J f A D u (λM=> ?_) (λH=>aA (T Option.isSome H));refine(j 0 (body:=jQ) ⟨A8 (w:=w.st q) (f.cH x.V) (λn=> ?_) λI=>aA (I.symm.trans (R p))⟩).go;refine(aB (j 1 (body:=jQ) ⟨Hq (w:=w.st q.a) (HS.st (w:=w.st r) f (x.V.a (lA p)) (dA p) L.mono) U (e7 D) K (λy=> ?_) λy=>(C.none y).tb⟩)).go;induction m using Nat.casesAuxOn with
    |zero=>exact absurd S (eu _∘hq)
    |succ m=>
     refine h (rA y G).1 ?_;exact z (C.1 ((rA y G).2 _) 3) W1
   |next q XG XI aj XJ _ _ u p K F B=>
    refine aS λXE V=> ?_;obtain⟨G,rfl⟩:=H5 F;refine V ?_;clear F;have x:=fS f.b3 O A f.V f.bu u;have XD:=x.V.a (lA p);have P:=O c _ _ _ _ U XD (dA p) K;have L:=(Z.b2 x.b2 (m:=9)).a (k:=6);have Y:=L.A P;refine xr (w:=w.st r) J f A D u (λM=> ?_) (λH=>aA (T Option.isSome H));refine(j 0 (body:=jQ) ⟨A8 (w:=w.st q) (f.cH x.V) (λn=> ?_) λI=>aA (I.symm.trans (R p))⟩).go;refine(aB (j 1 (body:=jQ) ⟨Hq (w:=w.st q.a) (HS.st (w:=w.st r) f XD (dA p) L.mono) U (e7 D) K (λy=> ?_) λy=>aA (G.symm.trans (nB y).1)⟩)).go;exact N m _ _ _ _ C (HS.st (w:=w.st r) f P.V (P.C (wc y)) Y.mono) Y.mono (vx G).1 B (hq S)
def WX:d .next ⟨e w,[("host",.obj 0),("words",.c (y [dF,n b,E c]))]⟩=A (x (f v) (dr a i) (k+100) (s+39)) jR 0 lN.body ⟨e w,[("host",.obj 0),("words",.c (y [dF,n b,E c]))]⟩ d l:=by kernel_rfl
def WY:d .next ⟨e w++[],fT b c 0⟩=A (x (f v) (dr a i) (k+100) (s+39)) jR 1 lN.body ⟨e w,[("host",.obj 0),("words",.c (y [dF,n b,E c]))]⟩ d l:=by kernel_rfl
def WZ:(∃m,cv none (x (f v) (dr a i) (k+99) (s+39)) jR xq jQ [] d l m ⟨e w++[],fT b c t⟩)=A (x (f v) (dr a i) (k+100) (s+39)) jR 2 lN.body ⟨e w++[],fT b c t⟩ d l:=by kernel_rfl
def W0:d (.ret (.str H)) ⟨e w++[],fT b c t⟩=A (x (f v) (dr a i) (k+100) (s+39)) jR 3 lN.body ⟨e w++[],fT b c t⟩ d l:=by kernel_rfl
def W3(G:bb a i)(F:b<4)(D:c<6){h:Nat}(B:HS a w)(u:aK a w.D 3<=s+39)(A:aM w.D 8 w.r){m:g}(p:fO i a b c none w.D h w.r=some (m,C)){d l:af}(q:m= .ok H->∀o I,d (.str H) ⟨e (w.st C)++o,I⟩) (r:Hx (a5 a w.D) w l C m):
  av (x (f v) (dr a i) (k+100) (s+39)) none lN [.obj 0,.c (y [dF,n b,E c])] ⟨e w,[]⟩ d l:=
 c2 (cr:=[("host",.obj 0),("words",.c (y [dF,n b,E c]))]) (by kernel_rfl) (λJ J=>by kernel_rfl) (j 0 (a9 (aB (j 1 (a9 (aB (j 2 (a9 ⟨⟨h+1,W4 (k:=k+9) G F D u h (h+1) w.r 0 _ _
  ⟨λz t=>(aB (j 3 (a9 (e4 ⟨q z [] []⟩) W0))).go,r.fX []⟩ B A rfl p (hV h)⟩⟩ WZ))) WY))) WX))
end
def hc{b:au}{Q:au->Prop}(d:∀a,Q (b.more a)) (a c:List Addr):Q ((b.more a).more c):=by refine h (oh ..) ?_;exact d _
inductive xW(c:B)(go:N)(d:Nat)(args:List Y)(st:St)(K X:af):Prop
 |mk (a f h i s j g b):HS c a->i<4->s<6->args=[.obj 0,.c (y [dF,n i,E s])]->st=⟨e a++f,h⟩->aK c a.D 4<=d->aM a.D 8 a.r->fO go c i s none a.D j a.r=some (g,b)->aR c b->(g= .ok H->K (.str H) ⟨e (a.st b)++f,h⟩)->dm (a5 c a.D) a f h K X b g none->xW c go d args st K X
section
variable{C:au}{p:Program}{c:Frag}{a:B}{b:N}
def yD(d:aC C.hb (f c))(e:aV (f c))(h:bb a b)(g:∀i,az (C.more i) p 463 (cp a b)):dS C p (dr a b):=by
 have j:az C p 463 (cp a b):=by have:=g [];rw [show C.more []=C from by rcases C with⟨_,_,_⟩;simp [au.more]] at this;exact this
 exact⟨Ww d e h g,Ct d e h g,S6 d e h g,tf d e,j,iU d e,u⟩
def W5(d:aC C.hb (f c))(j:aV (f c))(o:bb a b)(v:∀h,az (C.more h) p 463 (cp a b)):az C p 343 (xW a b):=by
 rintro k R V N P ⟨W,M,e,K,J,T,S,U,i,G,F,r,s,l,A,B,D,t,hX⟩;subst r;subst s;obtain⟨k,rfl⟩:=fQ l;have m:=i.cH D;exact lW d (bt d j (λh=>(yD d j o (hc (Q:=λC=>az C p 463 (cp a b)) v h))) 100 (k+39)) (d.fn 343 _ rfl) i.ok (show aH 19 [.obj 0,.c (y [dF,n K,E J])] from⟨(a' rfl:0<19),b5 _,u⟩) λO Q z H=>
  W3 (k:=0) o G F i (mG l) A B (λx g e=>z _ g e _ _ m (.same u) (t x)) λg e L q I w=>H _ g e L q m w (hX q I)
end
def NQ:Option Nat->List (Str×Y)
 |none=>[]
 |some a=>[("code",q a)]
abbrev dZ(a f e b:Nat)(d:Bool)(c:Option Nat):List (Str×Y):=([("host",.obj 0),("words",.c (y [c3,E a,n f,E e,E b])),("goes_on",.bool d)]:List (Str×Y))++NQ c
abbrev hE:I:=⟨kx.scope,none,[]⟩
abbrev gD:List Stmt:=jP (t kx.body 3)
abbrev vq:Expr:=hp (t kx.body 3)
section
variable{D:Frag}{b:B}{s:N}{w:M}{i d c a k t:Nat}{v:Option Nat}{C:Bool}{F:o}{l:Q}{q:af}
def Ov{m:Nat}:l .next ⟨e w++[],dZ i d c a false v⟩=cv none (x (f D) (dr b s) (k+90) (t+39)) hE vq gD [] l q (m+1) ⟨e w++[],dZ i d c a false v⟩:=by kernel_rfl
def vr{l:Bool->St->Prop}{h:Except g Bool}(y:HS b w)(A:d<4)(p:aK b w.D 3<=t+39)(u:er s b d w.D w.r=some (h,F))(r:qV h=some (.bool (iy h))->l (iy h) ⟨e (w.st F)++[],dZ i d c a true v⟩)(B:qV h=none->Hx (a5 b w.D) w q F (g6 h)):
  ((x (f D) (dr b s) (k+90) (t+39)).B hE vq ⟨e w++[],dZ i d c a true v⟩).A l q:=by
 refine z (P:=q9 b s (t+39) [.obj 0,.str (n d)] ⟨e w++[],dZ i d c a true v⟩ (λo j=>(oQ o j).A (λa j=>cond a (l true j) (l a j)) q) q) ⟨w,[],_,d,h,F,y,A,rfl,rfl,p,u,dm.mj (λo m=> ?_) B⟩ (by kernel_rfl);induction h using Except.casesOn with
 |error C=>cases m
 |ok a=>cases m;rcases a with _|_<;>exact r rfl
def y'(j:w.Ok)(h:decide (w.F<w.r.S+1)=false->l .next ⟨e (w.st w.r.a)++[],dZ i d c a true v⟩)(m:decide (w.F<w.r.S+1)=true->Hx (a5 b w.D) w q w.r.a .C):
  A (x (f D) (dr b s) (k+90) (t+39)) hE 0 gD ⟨e w++[],dZ i d c a true v⟩ l q:=
 ⟨w,[],_,j,rfl,rfl,aD 4 (t+35),h,λg=>Hx.at (m g) _ (.C false) u⟩
def DW{h:g}(u:HS b w)(n:a<6)(m:aK b w.D 1<=t+39)(r:s a w.D w.r=some (h,F))(o:c1 h≠none->l .next ⟨e (w.st F)++[],dZ i d c a true (some (eA h))⟩)(y:c1 h=none->Hx (a5 b w.D) w q F h):
  A (x (f D) (dr b s) (k+90) (t+39)) hE 1 gD ⟨e w++[],dZ i d c a true v⟩ l q:=by
 refine⟨w,[],_,a,h,F,u,n,rfl,rfl,m,r,dm.mj (λE j=> ?_) y⟩;have p:c1 h≠none:=λB=>by rw [B] at j;cases j
 obtain⟨C,rfl⟩:=Cs j;rcases v with _|_<;>exact z (o p) (by kernel_rfl)
def On:l .next ⟨e w++[],dZ i d c a false (some 3)⟩=A (x (f D) (dr b s) (k+90) (t+39)) hE 2 gD ⟨e w++[],dZ i d c a true (some 3)⟩ l q:=by kernel_rfl
def Fv{b:g}{c:Y}(a:jG b=some c):c= .bool (cF b)/\(cF b=false->∀e,dw e b=e):=by
 induction b using g.casesOn with
 |ok j=>cases a;exact⟨rfl,(λi=>aA i)⟩
 |C=>cases a
 |M k j l m d=>
  have a:cond (aw k 3) (some (Y.bool false)) none=some c:=a;cases f:aw k 3<;>rw [f] at a<;>cases a;exact⟨rfl,λn e=>by refine(?_:cond (aw k 3) _ _=_);refine h (f ..) ?_;rfl⟩
def S4{b:g}(a:jG b=none):∀e,dw e b=b:=by
 induction b using g.casesOn with
 |ok f=>cases a
 |C=>exactλl=>rfl
 |M k f i j d=>
  have a:cond (aw k 3) (some (Y.bool false)) none=none:=a;cases c:aw k 3<;>rw [c] at a
  . exactλe=>by refine(?_:cond (aw k 3) _ _=_);refine h (c ..) ?_;rfl
  . cases a
def DX{m:Nat}{h:g}(v:aw m 3=false)(C:HS b w)(r:c<6)(p:aK b w.D 1<=t+39)(B:s c w.D w.r=some (h,F))(u:jG h≠none->l .next ⟨e (w.st F)++[],dZ i d c a (cF h) (some m)⟩)(G:jG h=none->Hx (a5 b w.D) w q F h):
  A (x (f D) (dr b s) (k+90) (t+39)) hE 2 gD ⟨e w++[],dZ i d c a true (some m)⟩ l q:=by
 refine z (P:=cond (!aw m 3) (ue b s (t+39) [.obj 0,.str (E c)] ⟨e w++[],dZ i d c a true (some m)⟩ (λo n=>l .next ⟨n.objs,aO "goes_on" o n.d⟩) q) (l .next ⟨e w++[],dZ i d c a (!aw m 3) (some m)⟩)) (aY (qp v) ⟨w,[],_,c,h,F,C,r,rfl,rfl,p,B,dm.mj (λo j=> ?_) G⟩) (by kernel_rfl);have y:jG h≠none:=λH=>by rw [H] at j;cases j
 obtain⟨rfl,_⟩:=Fv j;exact z (u y) (by kernel_rfl)
def lh(b:B)(w:M)(i d c a:Nat)(l:Q)(q:af)(h:o)(f:g):Prop:=(f= .ok H->∀C v,l .next ⟨e (w.st h)++[],dZ i d c a C v⟩)/\Hx (a5 b w.D) w q h f
abbrev DV(D:Frag)(b:B)(s:N)(k t:Nat)(l:Q)(q:af)(m:Nat)(a:St):Prop:=cv none (x (f D) (dr b s) (k+90) (t+39)) hE vq gD [] l q m a
def lh.none{e:g}{f:o}(h:lh b w i d c a l q f (dw (.ok H) e))(j:c1 e=Option.none):Hx (a5 b w.D) w q f e:=(nB j).2.2.1▸h.2
def lh.nx{e:g}{f:o}(h:lh b w i d c a l q f (dw (.ok H) e))(j:jG e=Option.none):Hx (a5 b w.D) w q f e:=S4 j (.ok H)▸h.2
def ux{s:N}{c t:Nat}{a d:g}{r e:o}(b:gq s (some c) t a r=some (d,e)):(cz a=true/\s c t r=some (d,e))\/(cz a=false/\a=d/\r=e):=by
 have b:cond (cz a) (s c t r) (some (a,r))=some (d,e):=b;rcases f:cz a with _|_<;>rw [f] at b
 . cases b;exact .inr ⟨rfl,rfl,rfl⟩
 . exact .inl ⟨rfl,b⟩
def DY(f:lh b w i d c a l q F (.ok H)){m C:Nat}(g:C+1<m+1){v:Option Nat}:DV D b s k t l q m ⟨e (w.st F)++[],dZ i d c a false v⟩:=by
 rcases m with _|m
 . exact absurd g (eu _∘hq)
 . exact z (f.1 rfl false v) Ov
def OB(N:bb b s)(L:d<4)(Z:c<6)(S:a<6)(I:aK b w.D 3<=t+39):
  ∀(C m:Nat)(r:o)(v:Option Nat)(XE:o)(X:g),lh b w i d c a l q XE X->HS b (w.st r)->aM w.D 8 r->fO s b d a (some c) w.D C r=some (X,XE)->C<m->
   DV D b s k t l q m ⟨e (w.st r)++[],dZ i d c a true v⟩:=by
 intro C;induction C using Nat.rec with
 |zero=>exactλu u u u u u u u M u=>bh M
 |succ C V=>
  intro m r v XE X G f XJ M U;induction m using Nat.casesAuxOn with
  |zero=>exact absurd U (eu _)
  |succ m=>
   have Y:∀{p:o}{a:Bool},decide (b.F<p.S+1)=a->decide ((w.st p).F<p.S+1)=a:=λn=>by refine h (show w.F=b.F from f.F) ?_;exact n
   have XO:=v1 M;clear M;cases XO with
   |ti XT p A XS=>
    clear V;refine vr (w:=w.st r) f L I A (λE=> ?_) λu=>G.2.tb;exact XS.symm▸G.1 (F3 E) true v
   |C p A n=>
    clear V;have B:=fS f.b3 N L f.V f.bu A;refine vr (w:=w.st r) f L I A (λE=> ?_) (λF=>aA (T Option.isSome F));exact(j 0 (body:=gD) ⟨y' (w:=w.st p) (f.cH B.V) (λR=>aA (R.symm.trans (Y n))) λu=>(G.2.tb:Hx (a5 b w.D) w _ _ _)⟩).go
   |fM p XQ XF XR XN A n O y XK=>
    clear V;have B:=fS f.b3 N L f.V f.bu A;have Q:=B.V.a (lA n);have J:=N a _ _ _ _ S Q (dA n) O;have P:=(XJ.b2 B.b2 (m:=9)).a (k:=6);refine vr (w:=w.st r) f L I A (λE=> ?_) (λF=>aA (T Option.isSome F));refine(j 0 (body:=gD) ⟨y' (w:=w.st p) (f.cH B.V) (λu=> ?_) λR=>aA (R.symm.trans (Y n))⟩).go;refine(aB (j 1 (body:=gD) ⟨DW (w:=w.st p.a) (HS.st (w:=w.st r) f Q (dA n) P.mono) S (e7 I) O (λz=> ?_) λz=> ?_⟩)).go
    . rcases ux y with⟨x,y⟩|⟨x,K,XD⟩
      . refine(aB (j 2 (body:=gD) ⟨DX (w:=w.st XF) (vx x).1 (HS.st (w:=w.st r) f J.V (J.C (wc z)) (P.A J).mono) Z (e7 I) y (λE=> ?_) λE=>(G.nx E).tb⟩)).go;refine h XK ?_;induction XM:jG XR using Option.casesOn with
        |none=>exact absurd XM E
        |some aj=>exact DY ((Fv XM).2 XK (.ok H)▸G) U
      . have XG:=rA z x;refine h XG.1 ?_;exact(aB (j 2 (body:=gD) (a9 ⟨XD▸DY (XG.2 (.ok H)▸K▸G:lh b w i d c a l q _ (.ok H)) U⟩ On))).go
    . rcases ux y with⟨x,_⟩|⟨_,K,XD⟩
      . exact aA (x.symm.trans (nB z).1)
      . exact(lh.none (XD▸K▸G) z).tb
   |next p XQ XF aj XN _ _ A n O y M=>
    have B:=fS f.b3 N L f.V f.bu A;have Q:=B.V.a (lA n);have J:=N a _ _ _ _ S Q (dA n) O;have P:=(XJ.b2 B.b2 (m:=9)).a (k:=6);have XH:=P.A J;refine vr (w:=w.st r) f L I A (λE=> ?_) (λF=>aA (T Option.isSome F));refine(j 0 (body:=gD) ⟨y' (w:=w.st p) (f.cH B.V) (λu=> ?_) λR=>aA (R.symm.trans (Y n))⟩).go;refine(aB (j 1 (body:=gD) ⟨DW (w:=w.st p.a) (HS.st (w:=w.st r) f Q (dA n) P.mono) S (e7 I) O (λz=> ?_) λz=> ?_⟩)).go
    . rcases ux y with⟨x,y⟩|⟨x,K,_⟩
      . have XC:=HS.st (w:=w.st r) f J.V (J.C (wc z)) XH.mono;have W:=N c _ _ _ _ Z XC.V XC.bu y;have XI:=XH.A W;refine(aB (j 2 (body:=gD) ⟨DX (w:=w.st XF) (vx x).1 XC Z (e7 I) y (λE=> ?_) (λF=>aA (T Option.isSome F))⟩)).go;exact V m XN _ _ _ G (HS.st (w:=w.st r) f W.V (W.C (λF=>aA (T cF F))) XI.mono) XI.mono M (hq U)
      . exact aA (x.symm.trans (T cz K))
    . rcases ux y with⟨x,_⟩|⟨_,K,_⟩
      . exact aA (x.symm.trans (nB z).1)
      . exact aA (T Option.isSome (z.symm.trans (T c1 K)))
abbrev p2(i d c a:Nat):List (Str×Y):=[("host",.obj 0),("words",.c (y [c3,E i,n d,E c,E a]))]
def Oo:l .next ⟨e w,p2 i d c a⟩=A (x (f D) (dr b s) (k+100) (t+39)) hE 0 kx.body ⟨e w,p2 i d c a⟩ l q:=by kernel_rfl
def Op:cp b s (t+39) [.obj 0,.str (E i)] ⟨e w,p2 i d c a⟩ (λh g=>l .next g) q=A (x (f D) (dr b s) (k+100) (t+39)) hE 1 kx.body ⟨e w,p2 i d c a⟩ l q:=by kernel_rfl
def Oq:l .next ⟨e w++[],dZ i d c a true none⟩=A (x (f D) (dr b s) (k+100) (t+39)) hE 2 kx.body ⟨e w++[],p2 i d c a⟩ l q:=by kernel_rfl
def Ot{m:Nat}(g:cv none (x (f D) (dr b s) (k+99) (t+39)) hE vq gD [] l q m ⟨e w++[],dZ i d c a C v⟩):A (x (f D) (dr b s) (k+100) (t+39)) hE 3 kx.body ⟨e w++[],dZ i d c a C v⟩ l q:=⟨m,g⟩
def Ou:l (.ret (.str H)) ⟨e w++[],dZ i d c a C v⟩=A (x (f D) (dr b s) (k+100) (t+39)) hE 4 kx.body ⟨e w++[],dZ i d c a C v⟩ l q:=by kernel_rfl
def D1(J:bb b s)(B:i<6)(S:d<4)(Q:c<6)(O:a<6){C:Nat}(o:HS b w)(G:aK b w.D 3<=t+39)(I:aM w.D 7 w.r){r:g}(m:hM s b C i d c a w.D w.r=some (r,F)){l q:af}(N:r= .ok H->∀M V,l (.str H) ⟨e (w.st F)++M,V⟩) (z:Hx (a5 b w.D) w q F r):
  av (x (f D) (dr b s) (k+100) (t+39)) none kx [.obj 0,.c (y [c3,E i,n d,E c,E a])] ⟨e w,[]⟩ l q:=by
 obtain⟨h,K,A,m⟩:=fe m;have p:=J i _ _ _ _ B o.V o.bu A;refine c2 (cr:=p2 i d c a) (by kernel_rfl) (λW W=>by kernel_rfl) (j 0 (a9 (aB (j 1 (a9 ⟨⟨w,[],_,i,h,K,o,B,rfl,rfl,e7 G,A,dm.mj (λX u=> ?_) λu=> ?_⟩⟩ Op))) Oo))
 . obtain⟨L,rfl⟩:∃L,h= .ok L:=by rcases h with _|⟨_,_,_,_,_⟩|_<;>first|exact⟨_,rfl⟩|cases u
   exact(aB (j 2 (a9 (aB (j 3 ⟨Ot (OB (w:=w) (k:=k+9) J S Q O G C (C+1) K none _ _
    ⟨λP C v=>(aB (j 4 (a9 (e4 ⟨N P [] []⟩) Ou))).go,z.fX []⟩ (o.b2 p.b2 I (p.C (λU=>aA (T cF U)))) (I.A p) m (hV C))⟩)) Oq))).go
 . have R:cF h=false:=by cases h<;>first|rfl|cases u
   rw [R] at m;cases m;exact z.fX []
end
inductive xP(c:B)(go:N)(d:Nat)(args:List Y)(st:St)(K X:af):Prop
 |mk (f h j a l k b m i g):HS c f->a<6->l<4->k<6->b<6->args=[.obj 0,.c (y [c3,E a,n l,E k,E b])]->st=⟨e f++h,j⟩->aK c f.D 4<=d->aM f.D 7 f.r->hM go c m a l k b f.D f.r=some (i,g)->aR c g->(i= .ok H->K (.str H) ⟨e (f.st g)++h,j⟩)->dm (a5 c f.D) f h j K X g i none->xP c go d args st K X
def OC{a:au}{p:Program}{k:Frag}{c:B}{d:N}(b:aC a.hb (f k))(j:aV (f k))(q:bb c d)(z:∀h,az (a.more h) p 463 (cp c d)):az a p 350 (xP c d):=by
 rintro l X XD T V ⟨XE,S,e,s,Q,P,t,Z,Y,XC,i,A,L,I,D,v,w,m,H,J,K,x,hX⟩;subst v;subst w;obtain⟨l,rfl⟩:=fQ m;have o:=i.cH K;exact lW b (bt b j (λh=>(yD b j q (hc (Q:=λa=>az a p 463 (cp c d)) z h))) 100 (l+39)) (b.fn 350 _ rfl) i.ok (show aH 19 [.obj 0,.c (y [c3,E s,n Q,E P,E t])] from⟨(a' rfl:0<19),b5 _,u⟩) λU W G M=>
  D1 (k:=0) q A L I D i (mG m) H J (λF g e=>G _ g e _ _ o (.same u) (x F)) λg e R r O C=>M _ g e R r o C (hX r O)
noncomputable def g0(c:Nat)(b:List bH):List bH:=b.map λa=>(a.1,a.2.drop (c*a.1.length))
def VX(b:List Vn):∀(c:List Str)(a:Nat)(r:o),d5 b (c.drop a) r=(c.drop (a+b.length),kD b c a r):=by
 induction b with
 |nil=>exactλk k k=>rfl
 |cons d b j=>
  intro c a r;have i:a+(d::b).length=a+1+b.length:=(mX a b.length 1).trans rfl;by_cases e:a<c.length
  . refine h (List.drop_eq_getElem_cons e ..) ?_;refine h (i ..) ?_;exact(j c (a+1) _).trans (T (Prod.mk _) (T (λg=>kD b c (a+1) (r.bG d (g.getD H))) (fa e).symm))
  . have f:=t0 e;refine h (List.drop_eq_nil_of_le f ..) ?_;refine h (i ..) ?_;have:=j c (a+1) (r.bG d H);rw [List.drop_eq_nil_of_le (Nat.le_succ_of_le f)] at this;exact this.trans (T (Prod.mk _) (T (λg=>kD b c (a+1) (r.bG d (g.getD H))) (BB f).symm))
theorem AE:∀(c:List bH)(a:Nat)(r:o),cg (g0 a c) r=(g0 (a+1) c,fq c a r)
 |[],a,r=>rfl
 |b::c,a,r=>by
  refine(?_:(match d5 b.1 (b.2.drop (a*b.1.length)) r with|(its,e)=>match cg (g0 a c) e with|(d,f)=>((b.1,its)::d,f))=_);refine h (VX ..) ?_;dsimp only;refine h (AE c a ..) ?_;refine(?_:((b.1,b.2.drop (a*b.1.length+b.1.length))::g0 (a+1) c,_)=((b.1,b.2.drop ((a+1)*b.1.length))::g0 (a+1) c,_));rw [Nat.succ_mul];rfl
def Jy{v a t:Nat}(b:0<a):t<dL v a↔t*a<v:=by obtain⟨m,rfl⟩:=Nat.exists_eq_succ_of_ne_zero (mZ b);refine(Nat.lt_div_iff_mul_lt b).trans (?_:t*(m+1)<v+m-m↔_);rw [Nat.add_sub_cancel]
def RH{b c e:Nat}:e<max b c↔e<b\/e<c:=by
 refine Or.elim (Nat.le_total b c) (λa=> ?_) λa=> ?_
 . rw [Nat.max_eq_right a];exact⟨.inr,λd=>d.elim (λf=>hr f a) id⟩
 . rw [Nat.max_eq_left a];exact⟨.inl,λd=>d.elim id λf=>hr f a⟩
theorem Aw:∀(c:List bH)(a d:Nat),d<fy c a↔d<a\/d<fy c 0
 |[],a,d=>by refine(?_:d<a↔d<a\/d<0);exact(by simp)
 |b::c,a,d=>by
  have f:∀a,fy (b::c) a=fy c (max a (dL b.2.length b.1.length)):=λa=>by
   refine(?_:fy c (cond (decide (a<dL b.2.length b.1.length)) (dL b.2.length b.1.length) a)=_);by_cases e:a<dL b.2.length b.1.length
   . rw [decide_eq_true e,Nat.max_eq_right (Nat.le_of_lt e)];rfl
   . rw [decide_eq_false e,Nat.max_eq_left (Nat.le_of_not_lt e)];rfl
  rw [f,f,Aw c (max a _),Aw c (max 0 _),Nat.zero_max,RH,or_assoc]
theorem Dq:∀(b:List bH)(t:Nat),(∀a∈b,0<a.1.length)->fI (g0 t b)= !decide (t<fy b 0)
 |[],t,_=>by refine(?_:true= !decide (t<0));simp
 |a::b,t,d=>by
  have h:=Dq b t λi g=>d i (.tail _ g);have e:=Jy (v:=a.2.length) (t:=t) (d a (.head _));have f:t<fy (a::b) 0↔t<dL a.2.length a.1.length\/t<fy b 0:=by
   refine(?_:t<fy b (cond (decide (0<dL a.2.length a.1.length)) (dL a.2.length a.1.length) 0)↔_);by_cases c:0<dL a.2.length a.1.length
   . rw [decide_eq_true c];exact Aw b _ t
   . rw [decide_eq_false c];refine(?_:t<fy b 0↔_);omega
  refine(?_:(match a.2.drop (t*a.1.length) with|[]=>fI (g0 t b)|_=>false)=_);by_cases c:t*a.1.length<a.2.length
  . rw [List.drop_eq_getElem_cons c,decide_eq_true (f.mpr (.inl (e.mpr c)))];rfl
  . rw [List.drop_eq_nil_of_le (Nat.le_of_not_lt c)];dsimp only;rw [h]
    congr 1
    apply decide_eq_decide.mpr;rw [f,e];omega
def kY(r:o)(a:Vn)(b:Str):(r.bG a b).S=r.S:=by rcases a with _|_|_<;>rfl
def Xv(r:o)(b a:Vn)(c:Str):((r.bG b c).get a).val=c\/((r.bG b c).get a).val=(r.get a).val:=by rcases b with _|_|_<;>rcases a with _|_|_<;>first|exact .inl rfl|exact .inr rfl
def aR.bG{e:B}{r:o}(b:aR e r)(f:Vn){d:Str}(i:bz r.S d):aR e (r.bG f d):=
 ⟨λg=>by
  refine h (kY ..) ?_;refine Or.elim (Xv r f g d) (λc=> ?_) λc=> ?_
  . rw [c];exact i
  . rw [c];exact b.i4 g,by refine h (kY ..) ?_;exact b.bu,by refine h (oT ..) ?_;exact b.U,by refine h (oT ..) ?_;exact b.plain⟩
def Hm(a:Nat):bz a H:=⟨[],0,by decide,bU _,rfl⟩
theorem zq:∀(b:List Vn)(c:List Str)(a:Nat)(r:o),(kD b c a r).S=r.S
 |[],_,_,_=>rfl
 |d::b,c,a,r=>(zq b c (a+1) _).trans (kY _ _ _)
theorem sa:∀(b:List bH)(a:Nat)(r:o),(fq b a r).S=r.S
 |[],_,_=>rfl
 |c::b,a,r=>(sa b a _).trans (zq _ _ _ _)
theorem Ee{f:B}:∀(d:List Vn)(a:List Str)(b:Nat)(r:o),aR f r->(∀j∈a,bz r.S j)->aR f (kD d a b r)
 |[],_,_,_,c,_=>c
 |i::d,a,b,r,c,g=>by
  refine Ee d a (b+1) _ (c.bG i ?_) (by refine h (kY ..) ?_;exact g);by_cases e:b<a.length
  . rw [List.getElem?_eq_getElem e];exact g _ (List.getElem_mem e)
  . rw [List.getElem?_eq_none (Nat.le_of_not_lt e)];exact Hm _
theorem Ef{e:B}:∀(a:List bH)(b:Nat)(r:o),aR e r->(∀c∈a,∀i∈c.2,bz r.S i)->aR e (fq a b r)
 |[],_,_,d,_=>d
 |c::a,b,r,d,f=>by
  refine Ef a b _ (Ee _ _ _ _ d (f c (.head _))) (λj g=>by refine h (zq ..) ?_;exact f j (.tail _ g))
structure eY(n:Nat)(b:List Str):Prop where
 all:∀a∈b,(gP a\/a=H\/a=c4\/a=d7)/\li a
 sum:(b.map (·.length)).sum+3*b.length<=100*n
def eY.mono{c m:Nat}{b:List Str}(a:eY c b)(d:c<=m):eY m b:=⟨a.all,by have:=a.sum;exact(dC (iC 100 d) this (by simp+arith only))⟩
def eY.Vh{e m k:Nat}{d:List Str}{f:Str}(c:eY e d)(b:gp k f)(i:e+k+1<=m):eY m (d++[f]):=
 ⟨λj a=>by
  rcases List.mem_append.mp a with a|a
  . exact c.all j a
  . rw [List.mem_singleton.mp a];exact⟨b.tF,b.item⟩,by
  have g:=c.sum;have h:=b.aE;simp;exact(hD (iC 100 i) g h (by simp+arith only))⟩
def rr(a:List Str)(b:Str):aJ (y a) (.str b)=y (a++[b]):=by
 refine h (c0 ..) ?_;induction a with
 |nil=>rfl
 |cons ah a c=>exact T (Y.str ah::·) c
abbrev ih:aL:=c (m 46) []
noncomputable def d9(a:B)(b:N):List (Nat×bF):=[(329,t7 a b),(449,hW),(364,xT),(357,xR),(322,ub),(84,fA)]
def g5(k a b:Str)(d:Option (Str×Str))(c:Nat):List Str:=match d with
 |none=>[k,a,b,E c]
 |some p=>[k,a,b,p.1,p.2,E c]
def MY:Option (Nat×Str)->List (Str×Y)
 |none=>[]
 |some p=>[("code",q p.1),("value",.str p.2)]
abbrev cd(c:List Str)(m:Bool)(e:List bH)(a b:Nat)(d:Option (Nat×Str)):List (Str×Y):=([("host",.obj 0),("words",.c (y c)),("kind",.str (bo m)),("groups",.c (gE e)),("rounds",q a),("kept",.obj 19),("turn",q b)]:List (Str×Y))++MY d
abbrev b4(a:List Str):List ae:=[.c (y a)]
abbrev eF:I:=⟨ih.scope,none,[]⟩
abbrev hB:List Stmt:=jP (t ih.body 4)
abbrev u0:Expr:=hp (t ih.body 4)
def I8{b:g}{c:Y}(a:c1 b=some c):c= .l [q (eA b),.str (jO b)]:=by
 induction b using g.casesOn with
 |ok f=>cases a;rfl
 |C=>cases a
 |M k f h i j=>
  have a:cond (aw k 3) (some (Y.l [q k,.str H])) (cond (aw k 4) (some (.l [q k,.str H])) none)=some c:=a;cases d:aw k 3<;>rw [d] at a
  . cases e:aw k 4<;>rw [e] at a<;>cases a;rfl
  . cases a;rfl
def I7{a:g}(b:c1 a≠none):(∃f,a= .ok f)\/eA a=3\/eA a=4:=by
 induction a using g.casesOn with
 |ok e=>exact .inl ⟨e,rfl⟩
 |C=>exact absurd rfl b
 |M k e h i j=>
  have b:cond (aw k 3) (some (Y.l [q k,.str H])) (cond (aw k 4) (some (.l [q k,.str H])) none)≠none:=b;cases c:aw k 3 with
  |true=>exact .inr (.inl (n5 c))
  |false=>
   induction d:aw k 4 using Bool.casesOn with
   |true=>exact .inr (.inr (n5 d))
   |false=>rw [c,d] at b;exact absurd rfl b
section
variable{I:Frag}{l:B}{E:N}{w:M}{m:Bool}{d:List bH}{i a k D v n:Nat}{F c:List Str}{G:Option (Nat×Str)}{J:o}{s:Q}{t:af}{K:Str}
def u1{ab:Nat}:cond (decide (Int.ofNat a<Int.ofNat i)) (aU (x (f I) (d9 l E) (k+90) (D+39)) eF (bT t) hB ⟨e w++b4 c,cd F m d i a G⟩ (eU (cv none (x (f I) (d9 l E) (k+90) (D+39)) eF u0 hB [] s t ab) s)) (s .next ⟨e w++b4 c,cd F m d i a G⟩)=cv none (x (f I) (d9 l E) (k+90) (D+39)) eF u0 hB [] s t (ab+1) ⟨e w++b4 c,cd F m d i a G⟩:=by kernel_rfl
def Dz(h:w.Ok)(g:decide (w.F<w.r.S+1)=false->s .next ⟨e (w.st w.r.a)++b4 c,cd F m d i a G⟩)(j:decide (w.F<w.r.S+1)=true->Hx (a5 l w.D) w t w.r.a .C):
  A (x (f I) (d9 l E) (k+90) (D+39)) eF 0 hB ⟨e w++b4 c,cd F m d i a G⟩ s t:=
 ⟨w,b4 c,_,h,rfl,rfl,aD 4 (D+35),g,λb=>j b _ _ _ (.C false) u (pY _ (b4 c) (.C false))⟩
def MA(n:w.Ok)(g:a<1000000)(j:∀b∈d,b.2.length<100000/\b.1.length<1000) (h:s .next ⟨e (w.st (fq d a w.r))++b4 c,cd F m d i a G⟩):
  A (x (f I) (d9 l E) (k+90) (D+39)) eF 1 hB ⟨e w++b4 c,cd F m d i a G⟩ s t:=
 ⟨w,b4 c,_,d,a,n,rfl,rfl,aD 8 (D+31),g,j,h⟩
def MB{b:g}{u y M:Str}{o:Option (Str×Str)}(K:HS l w)(C:v<6)(B:aK l w.D 1<=D+39)(H:E v w.D w.r=some (b,J))(F:c1 b≠none->s .next ⟨e (w.st J)++b4 c,cd (g5 M u y o v) m d i a (some (eA b,jO b))⟩)(L:c1 b=none->Hx (a5 l w.D) w t J b):
  A (x (f I) (d9 l E) (k+90) (D+39)) eF 2 hB ⟨e w++b4 c,cd (g5 M u y o v) m d i a G⟩ s t:=by
 have r:∀j,c1 b=some j->c1 b≠none/\j= .l [q (eA b),.str (jO b)]:=λj h=>⟨λN=>by(rw [N] at h;cases h),I8 h⟩;induction o using Option.casesOn with
 |none=>
  refine⟨w,b4 c,_,v,b,J,K,C,rfl,rfl,B,H,dm.z0 (λj h=> ?_) L⟩;obtain⟨n,rfl⟩:=r j h;rcases G with _|_<;>exact z (F n) (by kernel_rfl)
 |some p=>
  refine⟨w,b4 c,_,v,b,J,K,C,rfl,rfl,B,H,dm.z0 (λj h=> ?_) L⟩;obtain⟨n,rfl⟩:=r j h;rcases G with _|_<;>exact z (F n) (by kernel_rfl)
def MC{j:g}(p:c1 j≠none)(q:c.length<=16777216)(o:s .next ⟨e w++b4 (f9 c j),cd F m d i a (some (eA j,jO j))⟩):
  A (x (f I) (d9 l E) (k+90) (D+39)) eF 3 hB ⟨e w++b4 c,cd F m d i a (some (eA j,jO j))⟩ s t:=by
 induction j using g.casesOn with
 |ok aj=>
  have o:s .next ⟨e w++[.c (y (c++[aj]))],cd F m d i a (some (0,aj))⟩:=o;rw [<-rr] at o;exact z (aY (b:=Nat.ble (C (y c)) sizeLine) (Q:=False) (Nat.ble_eq.mpr (by refine h (ho ..) ?_;exact q)) o) (by kernel_rfl)
 |C=>exact absurd rfl p
 |M n aj u v B=>
  have r:aw n 0=false:=by
   rcases I7 p with⟨_,b⟩|b|b
   . cases b
   . have b:n=3:=b;rw [b];rfl
   . have b:n=4:=b;rw [b];rfl
  refine z (P:=cond (aw n 0) (cond (Nat.ble (C (y c)) sizeLine) (s .next ⟨e w++[.c (aJ (y c) (.str H))],cd F m d i a (some (n,H))⟩) False) (s .next ⟨e w++b4 c,cd F m d i a (some (n,H))⟩)) (dX r o) (by kernel_rfl)
def MD:s .next ⟨e w++b4 c,cd F m d i (a+1) (some (n,K))⟩=A (x (f I) (d9 l E) (k+90) (D+39)) eF 4 hB ⟨e w++b4 c,cd F m d i a (some (n,K))⟩ s t:=by kernel_rfl
def ME:cond (aw n 3) (s .next ⟨e w++b4 c,cd F m d i i (some (n,K))⟩) (s .next ⟨e w++b4 c,cd F m d i a (some (n,K))⟩)=A (x (f I) (d9 l E) (k+90) (D+39)) eF 5 hB ⟨e w++b4 c,cd F m d i a (some (n,K))⟩ s t:=by kernel_rfl
def QE{c:List Str}(a:g):(f9 c a).length<=c.length+1:=by
 induction a using g.casesOn with
 |ok aj=>refine(?_:(c++[aj]).length<=_);refine h (eV ..) ?_;exact cb _
 |_=>exact fU _
def eY.of{n m k:Nat}{c:List Str}{b:g}(d:eY n c)(f:∀a,b= .ok a->gp k a) (e:n+k+1<=m):eY m (f9 c b):=by
 induction b using g.casesOn with
 |ok a=>exact d.Vh (f a rfl) e
 |_=>exact d.mono (by omega)
def MN{h n q:Str}{r:Option (Str×Str)}{b:g}(N:v<6)(C:aK l w.D 3<=D+39)(O:w.Ok)(F:decide (w.F<w.r.S+1)=false)(P:(w.st w.r.a).Ok)(M:HS l (w.st (fq d a w.r.a)))(A:a<1000000)(K:c.length<=16777216)(L:∀u∈d,u.2.length<100000/\u.1.length<1000) (H:E v w.D (fq d a w.r.a)=some (b,J))
  (y:c1 b≠none->aw (eA b) 3=true->s .next ⟨e (w.st J)++b4 (f9 c b),cd (g5 q h n r v) m d i i (some (eA b,jO b))⟩)
  (z:c1 b≠none->aw (eA b) 3=false->s .next ⟨e (w.st J)++b4 (f9 c b),cd (g5 q h n r v) m d i (a+1) (some (eA b,jO b))⟩)
  (B:c1 b=none->Hx (a5 l w.D) w t J b):Go (aU (x (f I) (d9 l E) (k+90) (D+39)) eF t (aT 0 hB) ⟨e w++b4 c,cd (g5 q h n r v) m d i a G⟩ s):=by
 refine j 0 ⟨Dz O (λR=> ?_) λQ=>aA (Q.symm.trans F)⟩;refine(aB (j 1 ⟨MA (w:=w.st w.r.a) P A L ?_⟩)).go;refine(aB (j 2 ⟨MB (w:=w.st (fq d a w.r.a)) M N (e7 C) H (λo=> ?_) B⟩)).go;refine(aB (j 3 ⟨MC (w:=w.st J) o K ?_⟩)).go;refine(aB (j 4 (a9 (aB (j 5 (a9 ⟨fG (λp=> ?_) λp=> ?_⟩ ME))) MD))).go
 . exact y o p
 . exact z o p
def HR(l:B)(w:M)(m:Bool)(v:Nat)(d:List bH)(i h:Nat)(F:List Str)(s:Q)(t:af)(b:o)(f:g):Prop:=
 (∀c,f=gs m c->eY (b.S-h) c->∀a G,s .next ⟨e (w.st b)++b4 c,cd F m d i a G⟩)/\Hx (a5 l w.D) w t b f
abbrev uZ(I:Frag)(l:B)(E:N)(k D:Nat)(s:Q)(t:af)(ab:Nat)(a:St):Prop:=cv none (x (f I) (d9 l E) (k+90) (D+39)) eF u0 hB [] s t ab a
def MP{K b N:Str}{O:Option (Str×Str)}(X0:bb l E)(XI:v<6)(XO:i=fy d 0)(S:aK l w.D 3<=D+39){nk:Nat}(XV:∀u∈d,∀Y∈u.2,bz nk Y) (XU:∀u∈d,0<u.1.length) (XW:∀u∈d,u.2.length<100000/\u.1.length<1000) (XQ:i<=100000):
  ∀(u ab:Nat)(r:o)(a:Nat)(c:List Str)(G:Option (Nat×Str))(X:o)(R:g),HR l w m v d i nk (g5 N K b O v) s t X R->HS l (w.st r)->aM w.D 8 r->nk<=r.S->c.length<=a->eY (r.S-nk) c->fP E l m v w.D u (g0 a d) c r=some (R,X)->u<ab->
   uZ I l E k D s t ab ⟨e (w.st r)++b4 c,cd (g5 N K b O v) m d i a G⟩:=by
 intro u;induction u using Nat.rec with
 |zero=>exactλq q q q q q q q q q q q q F q=>bh F
 |succ u Q=>
  intro ab r a c G X R M C XT XC XD T F V;induction ab using Nat.casesAuxOn with
  |zero=>exact absurd V (eu _)
  |succ ab=>
   have Z:∀{b:Bool},decide (l.F<r.S+1)=b->decide ((w.st r).F<r.S+1)=b:=λA=>by refine h (show w.F=l.F from C.F) ?_;exact A
   have P:∀{b:Bool},fI (g0 a d)=b->decide (Int.ofNat a<Int.ofNat i)= !b:=λ{b} x=>by
    have f:decide (Int.ofNat a<Int.ofNat i)=decide (a<i):=decide_eq_decide.mpr Int.ofNat_lt;rw [f,<-x,Dq d a XU,<-XO,Bool.not_not]
   have XR:fI (g0 a d)=false->a<i:=λS=>Int.ofNat_lt.mp (tY (P S));have XJ:∀{f:g}{n:o},fI (g0 a d)=false->decide (l.F<r.S+1)=false->E v w.D (cg (g0 a d) r.a).2=some (f,n)->
     (hs l (fq d a r.a) f n->c1 f≠none->aw (eA f) 3=true->uZ I l E k D s t ab ⟨e (w.st n)++b4 (f9 c f),cd (g5 N K b O v) m d i i (some (eA f,jO f))⟩)->
     (hs l (fq d a r.a) f n->aM w.D 6 n->c1 f≠none->aw (eA f) 3=false->uZ I l E k D s t ab ⟨e (w.st n)++b4 (f9 c f),cd (g5 N K b O v) m d i (a+1) (some (eA f,jO f))⟩)->
     (c1 f=none->Hx (a5 l w.D) w t n f)->uZ I l E k D s t (ab+1) ⟨e (w.st r)++b4 c,cd (g5 N K b O v) m d i a G⟩:=λ{f n} y A B XM XN XZ=>by
    have XE:=hr (XR y) XQ;have XH:=C.V.a C.bu;have XX:aR l (fq d a r.a):=Ef d a _ XH λu B Y XY=>(XV u B Y XY).mono (k6 XC);have XG:aM w.D 5 (fq d a r.a):=by unfold aM;refine h (sa ..) ?_;refine h (zs ..) ?_;exact aM.a XT
    have W:HS l (w.st (fq d a r.a)):=HS.st (w:=w.st r) C XX (by refine h (sa ..) ?_;exact dA A) XG.mono;rw [AE] at B;have p:=X0 v _ _ _ _ XI W.V W.bu B;refine z ?_ u1;exact aY (b:=decide (Int.ofNat a<Int.ofNat i)) (P y) (MN (w:=w.st r) XI S C.ok (Z A) (C.cH XH) W (j2 XE (by decide)) (L XD (L (ee XE) (by decide))) XW B (XM p) (XN p (XG.A p)) λx=>(XZ x).tb).go
   have U:∀{f:g}{n:o},hs l (fq d a r.a) f n->r.S+1<=n.S:=λp=>by have:=p.le;rw [sa] at this;exact this
   have XK:=Gg F;clear F;cases XK with
   |done y=>
    clear Q;refine z ?_ u1;exact dX (b:=decide (Int.ofNat a<Int.ofNat i)) (P y) (M.1 c rfl T a G)
   |C y A=>
    clear Q;refine z ?_ u1;refine aY (b:=decide (Int.ofNat a<Int.ofNat i)) (P y) ?_;exact(j 0 (body:=hB) ⟨Dz (w:=w.st r) C.ok (λX1=>aA (X1.symm.trans (Z A))) λq=>(M.2.tb:Hx (a5 l w.D) w _ _ _)⟩).go
   |fM f n y A B J=>
    clear Q;refine XJ y A B (λp x H=> ?_) (λp q x H=> ?_) λx=> ?_
    . have XS:f9 c f=c:=by cases f<;>first|rfl|cases J
      refine h (XS ..) ?_;induction ab using Nat.casesAuxOn with
      |zero=>exact absurd V (eu _∘hq)
      |succ ab=>
       refine z ?_ u1;exact dX (b:=decide (Int.ofNat i<Int.ofNat i)) (k7 (Int.lt_irrefl _)) (M.1 c ((rA x J).2 _) (T.mono (Nat.sub_le_sub_right (hU (U p)) _)) i _)
    . rw [(rA x J).1] at H;cases H
    . have hX:=M.2;rw [(nB x).2.2.2] at hX;exact hX
   |next f n _ _ y A B J F=>
    refine XJ y A B (λp x H=> ?_) (λp XF x H=> ?_) λx=> ?_
    . exact aA (H.symm.trans (vx J).1)
    . rw [AE] at F;exact Q ab n (a+1) (f9 c f) _ _ _ M (HS.st (w:=w.st r) C p.V (p.C (wc x)) XF.mono) XF.mono (L XC (hU (U p))) (L (QE f) (q0 XD))
       (T.of p.ok (by have:=U p;refine h (sa ..) ?_;refine(?_:r.S-nk+(n.S-(r.S+1))+1<=n.S-nk);omega)) F (hq V)
    . exact aA (J.symm.trans (nB x).1)
end
def zn{m:Bool}{r:o}:∀{g:List (Nm×J)}{d:List bH},(∀h f,J.aN r h=some f->f.length<100000/\∀k∈f,bz r.S k)->bQ m r g= .ok d->
  (∀b∈d,0<b.1.length)/\(∀b∈d,b.2.length<100000/\b.1.length<1000)/\(∀b∈d,∀k∈b.2,bz r.S k):=by
 intro g;induction g with
 |nil=>intro d i c;cases c;exact⟨λb a=>by simp at a,λb a=>by simp at a,λb a=>by simp at a⟩
 |cons u g q=>
  obtain⟨t,h⟩:=u;intro d i c;cases e:t.names with
  |none=>exact nomatch c.symm.trans (r9 e)
  |some l=>
   cases l with
   |nil=>exact nomatch c.symm.trans (vz e)
   |cons x l=>
    induction hi:J.aN r h using Option.casesOn with
    |none=>exact nomatch c.symm.trans (vy e hi)
    |some f=>
      refine aS λv s=> ?_;obtain⟨w,a,rfl⟩:=OT ((r' e hi).symm.trans c);have j:=q i a;have:=Fo e;refine And.elim (λn p=> ?_) (i h f hi);refine s ?_;refine⟨λb a=> ?_,λb a=> ?_,λb a=> ?_⟩
      . rcases List.mem_cons.mp a with rfl|a
        . simp
        . exact j.1 b a
      . rcases List.mem_cons.mp a with rfl|a
        . exact⟨n,by simp;exact(eW this (by decide))⟩
        . exact j.2.1 b a
      . rcases List.mem_cons.mp a with rfl|a
        . exact p
        . exact j.2.2 b a
def Jx(a b:Nat)(c:0<b):dL a b<=a:=by unfold dL;rw [Nat.div_le_iff_le_mul_add_pred c];have:a<=b*a:=BA a c;omega
theorem Gi:∀(c:List bH)(b:Nat),(∀a∈c,0<a.1.length/\a.2.length<100000)->fy c b<=max b 100000
 |[],b,_=>by refine(?_:b<=_);omega
 |a::c,b,d=>by
  have f:=Jx a.2.length a.1.length (d a (.head _)).1;have g:=(d a (.head _)).2;refine(?_:fy c (cond (decide (b<dL a.2.length a.1.length)) (dL a.2.length a.1.length) b)<=_);have:=Gi c (cond (decide (b<dL a.2.length a.1.length)) (dL a.2.length a.1.length) b) λi h=>d i (.tail _ h);generalize decide (b<dL a.2.length a.1.length)=e at this⊢;cases e
  . exact this
  . exact L this (Nat.max_le.mpr ⟨L (L f (ee g)) (Nat.le_max_right b _),Nat.le_max_right b _⟩)
theorem Ds:∀a:List bH,g0 0 a=a
 |[]=>rfl
 |b::a=>by
  refine(?_:(b.1,b.2.drop (0*b.1.length))::g0 0 a=b::a);rw [Nat.zero_mul,Ds a];rfl
def Xs(a:Str):(cJ a).length<=a.length+2:=by
 unfold cJ;induction b:a.cps.toList using List.casesOn with
 |nil=>refine(?_:2<=a.length+2);exact(aD _ _)
 |cons al r=>
  dsimp only;cases(Eh a||Nat.beq al 123)
  . refine(?_:a.length<=_);exact(c5 _ _)
  . refine(?_:((#[123]:Array Nat)++a.cps++ #[125]).size<=_);rw [Array.size_append,Array.size_append];refine(?_:1+a.length+1<=_);exact(by simp+arith only)
theorem HB:∀(a:List Str),((a.map cJ).map (·.length)).sum<=(a.map (·.length)).sum+2*a.length
 |[]=>cb _
 |b::a=>by
  have:=HB a;have c:=Xs b;refine(?_:(cJ b).length+((a.map cJ).map (·.length)).sum<=(b.length+(a.map (·.length)).sum)+2*(a.length+1));exact(dC this c (by simp+arith only))
def eY.EH{b:Nat}{a:List Str}(c:eY b a)(f:b<=1000):JoinOk ⟨#[32]⟩ (a.map cJ)=true:=by refine joinOk_of ?_;have d:=c.sum;have e:=HB a;refine h (List.length_map ..) ?_;refine(?_:_+a.length*1<=_);omega
abbrev pS(a:List Str)(m:Bool):List (Str×Y):=[("host",.obj 0),("words",.c (y a)),("kind",.str (bo m))]
noncomputable abbrev EL:List (Str×Y):=[("kept",.obj 19)]
abbrev uY(b:List Str)(m:Bool)(c:List bH)(a:Nat):List (Str×Y):=[("host",.obj 0),("words",.c (y b)),("kind",.str (bo m)),("groups",.c (gE c)),("rounds",q a)]
section
variable{u:Frag}{d:B}{q:N}{a:M}{m:Bool}{b:List bH}{t w k i s:Nat}{l v:List Str}{C:Option (Nat×Str)}{c:Q}{n:af}
def MF{j g h:Str}{b:Option (Str×Str)}(l:c .next ⟨e a,pS (g5 j g h b s) m⟩):A (x (f u) (d9 d q) (k+100) (i+39)) eF 0 ih.body ⟨e a,pS (g5 j g h b s) m⟩ c n:=by rcases b with _|_<;>exact z l (by kernel_rfl)
def MG{g:List (Nm×J)}(t:l=bo m::(dG (J.res a.r) g++[E s]))(v:g.length=1\/g.length=2)(y:∀o,ez (J.res a.r o) (J.aN a.r o)) (B:∀o r,J.aN a.r o=some r->r.length<100000)
  (w:∀b,bQ m a.r g= .ok b->c .next ⟨e a,uY l m b (fy b 0)⟩) (h:∀p,bQ m a.r g= .error p->Hx (a5 d a.D) a n a.r p):
  A (x (f u) (d9 d q) (k+100) (i+39)) eF 1 ih.body ⟨e a,pS l m⟩ c n:=by
 subst t;refine⟨m,a.r,E s,g,rfl,aD 17 (i+22),v,y,B,λb j=>w b j,λj=> ?_,λj=> ?_⟩
 . exact z (Hx.at (h _ j) (pS (bo m::(dG (J.res a.r) g++[E s])) m) (.a7 je) ⟨_,_,_,rfl,bU _,(λh=>aA h)⟩) (by kernel_rfl)
 . exact z (Hx.at (h _ j) (pS (bo m::(dG (J.res a.r) g++[E s])) m) (.a7 (nO m)) ⟨_,_,_,rfl,bU _,(λh=>aA h)⟩) (by kernel_rfl)
def MH:c .next ⟨e a++b4 [],uY l m b t++EL⟩=A (x (f u) (d9 d q) (k+100) (i+39)) eF 2 ih.body ⟨e a,uY l m b t⟩ c n:=by kernel_rfl
def MI:c .next ⟨e a++b4 [],cd l m b t 0 none⟩=A (x (f u) (d9 d q) (k+100) (i+39)) eF 3 ih.body ⟨e a++b4 [],uY l m b t++EL⟩ c n:=by kernel_rfl
def MJ{ab:Nat}(g:cv none (x (f u) (d9 d q) (k+99) (i+39)) eF u0 hB [] c n ab ⟨e a++b4 v,cd l m b t w C⟩):A (x (f u) (d9 d q) (k+100) (i+39)) eF 4 ih.body ⟨e a++b4 v,cd l m b t w C⟩ c n:=⟨ab,g⟩
def MK(g:c .next ⟨e a++b4 v,cd l false b t w C⟩):A (x (f u) (d9 d q) (k+100) (i+39)) eF 5 ih.body ⟨e a++b4 v,cd l false b t w C⟩ c n:=z g (by kernel_rfl)
def ML:ub (i+39) [.obj 19] ⟨e a++b4 v,cd l true b t w C⟩ (λh g=>c (.ret h) g) n=A (x (f u) (d9 d q) (k+100) (i+39)) eF 5 ih.body ⟨e a++b4 v,cd l true b t w C⟩ c n:=by kernel_rfl
def MM:c (.ret (.str H)) ⟨e a++b4 v,cd l m b t w C⟩=A (x (f u) (d9 d q) (k+100) (i+39)) eF 6 ih.body ⟨e a++b4 v,cd l m b t w C⟩ c n:=by kernel_rfl
abbrev nN(q:N)(d:B)(m:Bool)(s i c:Nat)(e:List (Nm×J))(f r:o):dU:=match bQ m f e with| .error a=>some (a,r)| .ok b=>fP q d m s i c b [] r
def MO{z:List (Nm×J)}{l:Nat}{K:g}{D:o}(XG:bb d q)(XE:s<6)(S:z.length=1\/z.length=2)(T:HS d a)(Y:aK d a.D 3<=i+39)
  (XF:∀t,ez (J.res a.r t) (J.aN a.r t)) (U:∀t A,J.aN a.r t=some A->A.length<100000/\∀G∈A,bz a.r.S G)
  (XC:aM a.D 8 a.r) (XD:aR d D) (p:nN q d m s a.D l z a.r a.r=some (K,D)) {c n:af} (O:∀G,K= .ok G->∀W XH,c (.str G) ⟨e (a.st D)++W,XH⟩) (Q:Hx (a5 d a.D) a n D K):
  av (x (f u) (d9 d q) (k+100) (i+39)) none ih [.obj 0,.c (y (bo m::(dG (J.res a.r) z++[E s]))),.str (bo m)] ⟨e a,[]⟩ c n:=by
 obtain⟨H,I,N,P⟩:∃H I N,bo m::(dG (J.res a.r) z++[E s])=g5 (bo m) H I N s:=by
  rcases S with r|r
  . obtain⟨XI,rfl⟩:=List.length_eq_one_iff.mp r;exact⟨_,_,none,rfl⟩
  . obtain⟨XI,XM,rfl⟩:=jx r;exact⟨_,_,some (_,_),rfl⟩
 refine h (P ..) ?_;refine c2 (cr:=pS (g5 (bo m) H I N s) m) (by kernel_rfl) (λXJ XJ=>by kernel_rfl) (j 0 ⟨MF (aB (j 1 ⟨MG P.symm S XF (λt A Z=>(U t A Z).1) (λb F=> ?_) λXK F=> ?_⟩)).go⟩)
 . unfold nN at p;rw [F] at p;have B:=zn U F;have X:D.S<=80:=by have:=XD.bu;have:=T.b3.F;omega
   refine(aB (j 2 (a9 (aB (j 3 (a9 (aB (j 4 ⟨MJ (MP (w:=a) (k:=k+9) (nk:=a.r.S) XG XE rfl Y B.2.2 B.1 B.2.1 (by have:=Gi b 0 (λl r=>⟨B.1 l r,(B.2.1 l r).1⟩);exact this) l (l+1) a.r 0 [] none _ _ ⟨λv R L w C=> ?_,Q.fX []⟩ T XC (cb _) (cb _) ⟨λV M=>by simp at M,by simp⟩ (by refine h (Ds ..) ?_;exact p) (hV l))⟩)) MI))) MH))).go;induction m using Bool.casesOn with
   |false=>exact(aB (j 5 ⟨MK (aB (j 6 (a9 (e4 ⟨O _ R _ []⟩) MM))).go⟩)).go
   |true=>
    refine(aB (j 5 (a9 ⟨⟨19,v,rfl,rfl,aD 7 (i+32),λV M=>(L.all V M).2,(by have:=L.sum;omega),L.EH (Nat.sub_le_of_le_add (bV X (by simp+arith only))),?_⟩⟩ ML))).go;exact(e4 ⟨O _ R _ []⟩).go
 . unfold nN at p;rw [F] at p;cases p;exact Q.fX []
end
inductive xM(c:B)(go:N)(d:Nat)(args:List Y)(st:St)(K X:af):Prop
 |mk (a h j m s b k i g):HS c a->s<6->(b.length=1\/b.length=2)->args=[.obj 0,.c (y (bo m::(dG (J.res a.r) b++[E s]))),.str (bo m)]->st=⟨e a++h,j⟩->aK c a.D 4<=d->aM a.D 8 a.r->
  (∀f,ez (J.res a.r f) (J.aN a.r f))->(∀f its,J.aN a.r f=some its->its.length<100000/\∀v∈its,bz a.r.S v)->
  nN go c m s a.D k b a.r a.r=some (i,g)->aR c g->(∀v,i= .ok v->K (.str v) ⟨e (a.st g)++h,j⟩)->dm (a5 c a.D) a h j K X g i none->xM c go d args st K X
section
variable{a:au}{p:Program}{d:Frag}{b:B}{c:N}
def Kv(e:aC a.hb (f d))(g:aV (f d))(j:bb b c)(i:∀h,az (a.more h) p 463 (cp b c)):dS a p (d9 b c):=
 ⟨Ct e g j i,tf e g,UJ e g,Pj e g,QB e g,iU e g,u⟩
def MQ(e:aC a.hb (f d))(l:aV (f d))(s:bb b c)(A:∀i,az (a.more i) p 463 (cp b c)):az a p 371 (xM b c):=by
 rintro n V Z R T ⟨P,Q,g,m,O,v,X,W,Y,j,I,D,w,x,o,G,K,N,H,r,z,hX⟩;subst w;subst x;obtain⟨n,rfl⟩:=fQ o;have q:=j.cH r;exact lW e (bt e l (λi=>(Kv e l s (hc (Q:=λa=>az a p 463 (cp b c)) A i))) 100 (n+39)) (e.fn 371 _ rfl) j.ok (show aH 19 [.obj 0,.c (y (bo m::(dG (J.res P.r) v++[E O]))),.str (bo m)] from⟨(a' rfl:0<19),b5 _,u,u⟩) λS U F L=>
  MO (k:=0) s I D j (mG o) K N G r H (λk C h g=>F _ h g _ _ q (.same u) (z k C)) λh g k t M B=>L _ h g k t q B (hX t M)
end
theorem D0:∀(d:List Nat)(c:List Str)(b:List Nat),(∀e∈d,Unicode.isSpace e=false)->d.foldl KWd.step (c,a b)=(c,a (b++d))
 |[],c,b,_=>by refine h (et ..) ?_;rfl
 |al::d,c,b,f=>by
  have g:KWd.step (c,a b) al=(c,a (b++[al])):=by unfold KWd.step;refine h (f al (.head _) ..) ?_;refine h (if_neg (by decide)) ?_;exact T (Prod.mk c) (Str.ext' (Array.toList_inj.mp (by refine(?_:((⟨b⟩:Array Nat)++ #[al]).toList=(⟨b++[al]⟩:Array Nat).toList);simp)))
  refine h (List.foldl_cons ..) ?_;refine h (g ..) ?_;refine h (D0 d c (b++[al]) λe i=>f e (.tail _ i) ..) ?_;simp
theorem zc:∀(c:Nat)(b:List Str),(List.replicate c 32).foldl KWd.step (b,a [])=(b,a [])
 |0,b=>rfl
 |c+1,b=>zc c b
set_option tactic.hygienic true in
def Ow{i:List Nat}{j:List (List Nat)}(l:fD i j):(∀d∈i,d≠32->Unicode.isSpace d=false)->∀c,KWd.fin (i.foldl KWd.step (c,a []))=c++j.map a:=by
 induction l with
 |nil p=>
  intro _ c;rw [List.append_nil,zc];simp [KWd.fin,a,Str.length]
 |cons p al b bn j o n q l f=>
  intro k c;refine h (List.foldl_append ..) ?_;refine h (zc ..) ?_;refine h (List.foldl_append ..) ?_;have m:∀d∈al::b,Unicode.isSpace d=false:=λd e=>k d (by simp at e⊢;rcases e with rfl|e<;>simp [*]) (λg=>by have:=(o d e).1;subst g;cases this);have g:=D0 (al::b) c [] m;rw [show([]++al::b)=al::b from rfl] at g;refine h (g ..) ?_;have f:=f (λd e=>k d (by simp [e])) (c++[a (al::b)]);rcases n with rfl|⟨r,rfl⟩
  . rw [show KWd.fin (([]:List Nat).foldl KWd.step (c++[a (al::b)],a []))=c++[a (al::b)] from rfl] at f;refine(?_:(if(b.length+1)=0 then _ else c++[a (al::b)])=_);rw [if_neg (by simp),f];simp
  . have e2:(32::r).foldl KWd.step (c,a (al::b))=(32::r).foldl KWd.step (c++[a (al::b)],a []):=rfl;rw [e2,f];simp
def xx{b:List Nat}{c:List (List Nat)}(f:fD b c)(e:∀d∈b,d≠32->Unicode.isSpace d=false):Txt.words (a b)=c.map a:=by refine h (KWd.words_scan ..) ?_;refine(?_:KWd.fin (b.foldl KWd.step ([],a []))=_);rw [Ow f e];rfl
noncomputable abbrev ek(k:Nat):List Nat:=List.replicate k 46
def e9(a:Nat):Prop:=a∈[97,98,99,100,48,49,46,122,120,121]
def e9.plain{a:Nat}(b:e9 a):jJ a:=
 (by decide+kernel:∀a∈[97,98,99,100,48,49,46,122,120,121],e0 a=false/\Nat.beq a 92=false/\Nat.beq a 123=false/\Nat.beq a 34=false) a b
def e9.ns{a:Nat}(b:e9 a):Unicode.isSpace a=false:=
 (by decide+kernel:∀a∈[97,98,99,100,48,49,46,122,120,121],Unicode.isSpace a=false) a b
def e9.ek{k:Nat}:∀a∈ek k,e9 a:=λa b=>(List.mem_replicate.mp b).2▸(by decide:46∈[97,98,99,100,48,49,46,122,120,121])
def FY{b:Nat}{a:List Nat}(d:∀c∈b::a,e9 c) (e:a.length<100000):fD (b::a) [b::a]:=by have:=fD.cons 0 b a [] [] (λc f=>(d c f).plain) (.inl rfl) e (.nil 0);rwa [show List.replicate 0 32++(b::a++[])=b::a from List.append_nil _] at this
def TL{b c:Nat}{a:List Nat}(i:e9 b)(f:∀d∈c::a,e9 d) (j:a.length<100000):fD (b::32::c::a) [[b],c::a]:=by have g:=fD.cons 1 c a [] [] (λd e=>(f d e).plain) (.inl rfl) j (.nil 0);have:=fD.cons 0 b [] _ _ (λd e=>by refine h (List.mem_singleton.mp e) ?_;exact i.plain) (.inr ⟨_,rfl⟩) (by decide) g;rw [List.append_nil] at this;exact this
def ez.sQ{l:List Nat}{ps:List (List Nat)}(c:fD l ps)(b:l.length<100000)(d:ps.length<1000):ez (a l) (some (ps.map a)):=
 .mx (a l) ps (Nat.blt_eq.mpr (by refine(?_:l.length<_);exact(L b (by decide)))) c (L d (by decide))
structure rn(b:Nat)(a:Str)(ws:List Str):Prop where
 split:ez a (some ws)
 words:Txt.words a=ws
 all:∀v∈ws,bz b v
 aE:ws.length<100000
def xo{c k:Nat}{b:List Nat}(d:b∈([[],[97,32,98],[49],[97],[98],[99],[100],[98,32,99],[48],[48,32,49]]:List (List Nat)))(e:k<=c):bz c (a (b++ek k)):=⟨b,k,d,e,rfl⟩
def V'{e k c:Nat}(d:k<=e)(g:e<=1000)(l:[c]∈([[],[97,32,98],[49],[97],[98],[99],[100],[98,32,99],[48],[48,32,49]]:List (List Nat)))(j:e9 c):rn e (a ([c]++ek k)) [a ([c]++ek k)]:=by
 have i:fD (c::ek k) [c::ek k]:=FY (λf b=>by rcases List.mem_cons.mp b with rfl|b;exact j;exact e9.ek f b) (by simp;exact(dC d g (by simp+arith only)));exact⟨.sQ i (by simp;exact(dC d g (by simp+arith only))) (by simp),xx i (λf b o=>by rcases List.mem_cons.mp b with rfl|b;exact j.ns;exact(e9.ek f b).ns),
  λn m=>by refine h (List.mem_singleton.mp m) ?_;exact xo l d,by simp⟩
def Wa{g k c d:Nat}(e:k<=g)(i:g<=1000)(o:[c]∈([[],[97,32,98],[49],[97],[98],[99],[100],[98,32,99],[48],[48,32,49]]:List (List Nat)))(p:[d]∈([[],[97,32,98],[49],[97],[98],[99],[100],[98,32,99],[48],[48,32,49]]:List (List Nat)))
  (m:e9 c)(l:e9 d):rn g (a ([c,32,d]++ek k)) [a [c],a ([d]++ek k)]:=by
 have j:fD (c::32::d::ek k) [[c],d::ek k]:=TL m (λh b=>by rcases List.mem_cons.mp b with rfl|b;exact l;exact e9.ek h b) (by simp;exact(dC e i (by simp+arith only)));refine⟨.sQ j (by simp;exact(dC e i (by simp+arith only))) (by simp),xx j (λh b n=> ?_),λq f=> ?_,by simp⟩
 . rcases List.mem_cons.mp b with rfl|b
   . exact m.ns
   . rcases List.mem_cons.mp b with rfl|b
     . exact absurd rfl n
     . rcases List.mem_cons.mp b with rfl|b
       . exact l.ns
       . exact(e9.ek h b).ns
 . rcases List.mem_cons.mp f with rfl|f
   . exact xo (k:=0) o (bU _)
   . rw [List.mem_singleton.mp f];exact xo p e
def bases:∀b∈([[],[97,32,98],[49],[97],[98],[99],[100],[98,32,99],[48],[48,32,49]]:List (List Nat)),b=[]\/(∃a,a∈[97,98,99,100,48,49,46,122,120,121]/\b=[a])\/
  (∃a,a∈[97,98,99,100,48,49,46,122,120,121]/\∃c,c∈[97,98,99,100,48,49,46,122,120,121]/\([a]∈([[],[97,32,98],[49],[97],[98],[99],[100],[98,32,99],[48],[48,32,49]]:List (List Nat))/\[c]∈([[],[97,32,98],[49],[97],[98],[99],[100],[98,32,99],[48],[48,32,49]]:List (List Nat)))/\b=[a,32,c]):=by decide+kernel
def Wb{f k:Nat}(d:k<=f)(g:f<=1000):∃l,rn f (a (ek k)) l:=by
 rcases k with _|k
 . exact⟨[],.mx _ [] (by decide) (.nil 0) (by decide),xx (.nil 0) (λc b=>nomatch b),(λj e=>nomatch e),by decide⟩
 . have i:fD (46::ek k) [46::ek k]:=FY (λc b=>e9.ek (k:=k+1) c b) (by simp;exact(dC g d (by simp+arith only)));exact⟨[a (46::ek k)],.sQ i (by simp;exact(dC g d (by simp+arith only))) (by simp),xx i (λc b m=>(e9.ek (k:=k+1) c b).ns),
    λj e=>by refine h (List.mem_singleton.mp e) ?_;exact xo (b:=[]) (k:=k+1) (by simp) d,by simp⟩
def bz.iY{d:Nat}{f:Str}(h:bz d f)(b:d<=1000):∃m,rn d f m:=by
 obtain⟨g,k,e,a,rfl⟩:=h;rcases bases g e with rfl|⟨n,c,rfl⟩|⟨n,c,o,l,⟨i,j⟩,rfl⟩
 . exact Wb a b
 . exact⟨_,V' a b e c⟩
 . exact⟨_,Wa a b i j c l⟩
def Qu{g:Nat}{r:o}(n:∀h,bz g (r.get h).val) (s:g<=1000) (l:J):ez (J.res r l) (J.aN r l)/\∀d,J.aN r l=some d->d.length<100000/\∀h∈d,bz g h:=by
 have q:∀{t:Str}{k:List Str},rn g t k->ez t (some k)/\∀d,some k=some d->d.length<100000/\∀h∈d,bz g h:=λc=>⟨c.split,λd e=>by cases e;exact⟨c.aE,c.all⟩⟩;have f:∀{b:List Nat},b∈([[],[97,32,98],[49],[97],[98],[99],[100],[98,32,99],[48],[48,32,49]]:List (List Nat))->bz g (a b):=λ{b} v=>⟨b,0,v,bU _,T a (et b).symm⟩;have p:∀{m:Nat},m∈[97,98,99,100,48,49,46,122,120,121]->e9 m:=λc=>c;induction l using J.casesOn with
 |rq=>
  refine⟨.sQ (l:=[97,32,98,32,99]) (ps:=[[97],[98],[99]]) (.cons 0 97 [] [32,98,32,99] _ (λm j=> ?_) (.inr ⟨_,rfl⟩) (by decide) (.cons 1 98 [] [32,99] _ (λm j=> ?_) (.inr ⟨_,rfl⟩) (by decide) (.cons 1 99 [] [] [] (λm j=> ?_) (.inl rfl) (by decide) (.nil 0)))) (by decide) (by decide),λd e=> ?_⟩
  . exact List.mem_singleton.mp j▸(p (by decide)).plain
  . exact List.mem_singleton.mp j▸(p (by decide)).plain
  . exact List.mem_singleton.mp j▸(p (by decide)).plain
  . cases e;exact⟨by decide,List.forall_mem_cons.mpr ⟨f (b:=[97]) (by decide),List.forall_mem_cons.mpr ⟨f (b:=[98]) (by decide),List.forall_mem_cons.mpr ⟨f (b:=[99]) (by decide),λu c=>nomatch c⟩⟩⟩⟩
 |empty=>exact⟨.sQ (l:=[]) (ps:=[]) (.nil 0) (by decide) (by decide),λd e=>by cases e;exact⟨by decide,λh n=>nomatch n⟩⟩
 |br=>
  refine⟨.Cv,λd e=> ?_⟩;cases e;exact⟨by decide,List.forall_mem_cons.mpr ⟨f (b:=[97,32,98]) (by decide),List.forall_mem_cons.mpr ⟨f (b:=[]) (by decide),List.forall_mem_cons.mpr ⟨f (b:=[99]) (by decide),List.forall_mem_cons.mpr ⟨f (b:=[100]) (by decide),λu c=>nomatch c⟩⟩⟩⟩⟩
 |dx=>exact((n .x).iY s).elim λk c=>by have i:=q c;rw [<-c.words] at i;exact i
 |dy=>exact((n .y).iY s).elim λk c=>by have i:=q c;rw [<-c.words] at i;exact i
 |lw=>exact⟨.lw,λd e=>by cases e⟩
 |ly=>
  refine⟨.ly,λd e=> ?_⟩;cases e;exact⟨by decide,List.forall_mem_cons.mpr ⟨f (b:=[48]) (by decide),List.forall_mem_cons.mpr ⟨f (b:=[49]) (by decide),List.forall_mem_cons.mpr ⟨f (b:=[48,32,49]) (by decide),λu c=>nomatch c⟩⟩⟩⟩
def aR.aN{d:B}{r:o}(e:aR d r)(f:d.Ok)(b:J):ez (J.res r b) (J.aN r b)/\∀c,J.aN r b=some c->c.length<100000/\∀g∈c,bz r.S g:=
 Qu e.i4 (by have:=e.bu;have:=f.F;omega) b
def UW:List Nat->Bool
 |[]=>true
 |al::_=>cA al [46,32]
def p7:List Nat->Bool
 |[]=>false
 |al::r=>cA al A7||(cA al [48,49]&&UW r)
abbrev Hd(a:List Nat):Prop:=p7 a=true
def Ps{b r:List Nat}(a:p7 b=true):p7 (b++32::r)=true:=by
 rcases b with _|⟨c,_|⟨d,e⟩⟩
 . cases a
 . exact a
 . exact a
def Pq{b:Nat}{r:List Nat}(a:p6 b r=true):p7 (b::r)=true:=by
 rcases r with _|⟨c,d⟩
 . refine Or.elim (Bool.or_eq_true_iff.mp a) (λa=> ?_) λa=> ?_
   . exact Bool.or_eq_true_iff.mpr (.inl a)
   . cases(Bool.and_eq_true_iff.mp a).2
 . exact a
def wt{a b:Bool}(c:(a||b)=true):a=true\/b=true:=Bool.or_eq_true_iff.mp c
def fE{a b:Bool}(c:(a&&b)=true):a=true/\b=true:=Bool.and_eq_true_iff.mp c
def yl(a:Nat):Bool:=(cA a [123,125,32]||(!e0 a&&(!Nat.beq a 123&&(!Nat.beq a 125&&(!Nat.beq a 93&&(!Nat.beq a 34&&(!Nat.beq a 91&&(!Nat.beq a 36&&(!Nat.beq a 59&&(!Nat.beq a 92&& !Nat.beq a 35))))))))))&&Nat.blt a 128
def JC{b:Nat}(a:yl b=true):ha b/\b<128:=by
 refine And.elim (λa k=> ?_) (fE a);refine⟨?_,Nat.blt_eq.mp k⟩;refine Or.elim (wt a) (λa=> ?_) λa=> ?_
 . have a:cond (Nat.beq 123 b) true (cA b [125,32])=true:=a;induction c:Nat.beq 123 b using Bool.casesOn with
   |true=>exact .inl (dR c).symm
   |false=>rw [c] at a;exact .inr ((tC a).imp id .inl)
 . refine And.elim (λa1 a=> ?_) (fE a);refine And.elim (λa2 a=> ?_) (fE a);refine And.elim (λa3 a=> ?_) (fE a);refine And.elim (λe a=> ?_) (fE a);refine And.elim (λf a=> ?_) (fE a);refine And.elim (λg a=> ?_) (fE a);refine And.elim (λh a=> ?_) (fE a);refine And.elim (λi a=> ?_) (fE a);refine And.elim (λj d=> ?_) (fE a);exact .inr (.inr (.inr ⟨gd a1,gd a2,gd a3,gd e,gd f,gd g,gd h,gd i,gd j,gd d⟩))
def ym{l:List Nat}(b:l.all yl=true):∀a∈l,ha a/\a<128:=λa c=>JC (List.all_eq_true.mp b a c)
def uq(c:List Nat):Prop:=∃b a,c=b++[a]/\e0 a=false
structure eZ(l:List Nat):Prop where
 hd:l=[]\/Hd l/\uq l
 ch:∀a∈l,ha a/\a<128
 bl:dJ 0 l=true
theorem pp:∀(c:List Nat)(k a:Nat)(b:List Nat),dJ k c=true->dJ (k+a) (c++b)=dJ a b
 |[],k,a,b,d=>by
  have:k=0:=dR d;subst this;refine h (t3 ..) ?_;rfl
 |al::c,k,a,b,d=>by
  by_cases f:al=123
  . subst f;refine(?_:dJ (k+a+1) (c++b)=_);rw [show k+a+1=(k+1)+a from by exact(by simp+arith only)];exact pp c (k+1) a b d
  . by_cases e2:al=125
    . subst e2;induction k using Nat.casesAuxOn with
      |zero=>cases d
      |succ k=>refine h (show k+1+a=(k+a)+1 from by exact(by simp+arith only)) ?_;exact pp c k a b d
    . have g:Nat.beq al 123=false:=Bool.eq_false_iff.mpr λe=>f (dR e);have i:Nat.beq al 125=false:=Bool.eq_false_iff.mpr λe=>e2 (dR e);rw [yb g i] at d;refine h (List.cons_append ..) ?_;refine h (yb g i ..) ?_;exact pp c k a b d
noncomputable def wl:List Nat->List Nat
 |[]=>[123,125]
 |a::r=>cond ((a::r).any (λa=>a==32)||Nat.beq a 123) (123::((a::r)++[125])) (a::r)
def Hu(a:Nat)(r:List Nat):wl (a::r)=cond ((a::r).any (λa=>a==32)||Nat.beq a 123) (123::((a::r)++[125])) (a::r):=rfl
noncomputable def jl:List (List Nat)->List Nat
 |[]=>[]
 |[a]=>a
 |a::c::b=>a++32::jl (c::b)
def tD(b c:List Nat):a b++a c=a (b++c):=Str.ext' (Array.toList_inj.mp (by refine(?_:((⟨b⟩:Array Nat)++(⟨c⟩:Array Nat)).toList=(⟨b++c⟩:Array Nat).toList);simp))
def Xt(c:List Nat):cJ (a c)=a (wl c):=by
 induction c using List.casesOn with
 |nil=>rfl
 |cons b r=>
  refine(?_:cond ((b::r).any (λb=>b==32)||Nat.beq b 123) (a [123]++a (b::r)++a [125]) (a (b::r))=a (cond _ _ _));rw [tD,tD];cases((b::r).any (λb=>b==32)||Nat.beq b 123)<;>rfl
theorem EI:∀e:List (List Nat),Str.join ⟨#[32]⟩ (e.map a)=a (jl e)
 |[]=>rfl
 |[c]=>rfl
 |c::d::b=>by
  refine(?_:a c++a [32]++Str.join ⟨#[32]⟩ ((d::b).map a)=_);rw [EI (d::b),tD,tD];refine(?_:_=a (c++32::jl (d::b)));simp
def Q6(b:List (List Nat)):mb (b.map a)=a (jl (b.map wl)):=by
 unfold mb Txt.join;refine h (StrLaws.glued_eq_join ..) ?_;refine ba (EI ..) ?_;refine h (List.map_map ..) ?_;refine h (List.map_map ..) ?_
 congr 1
 exact List.map_congr_left λc d=>Xt c
def Qq:ha 32:= .inr (.inr (.inl rfl))
def eZ.wl{l:List Nat}(c:eZ l):Hd (Mine.Internal.wl l)/\uq (Mine.Internal.wl l)/\(∀d∈Mine.Internal.wl l,ha d/\d<128)/\dJ 0 (Mine.Internal.wl l)=true:=by
 induction l using List.casesOn with
 |nil=>exact⟨rfl,⟨[123],125,rfl,rfl⟩,ym (l:=[123,125]) (by kernel_rfl),rfl⟩
 |cons b r=>
  refine h (Hu ..) ?_;cases(b::r).any (λb=>b==32)||Nat.beq b 123 with
  |false=>exact⟨(c.hd.resolve_left (by simp)).1,(c.hd.resolve_left (by simp)).2,c.ch,c.bl⟩
  |true=>
   refine⟨rfl,⟨123::(b::r),125,rfl,rfl⟩,λd a=> ?_,?_⟩
   . rw [_root_.cond_true] at a;rcases List.mem_cons.mp a with rfl|a
     . exact⟨.inl rfl,by decide⟩
     . rcases List.mem_append.mp a with a|a
       . exact c.ch d a
       . rw [List.mem_singleton.mp a];exact⟨.inr (.inl rfl),by decide⟩
   . refine(?_:dJ (0+1) ((b::r)++[125])=true);rw [pp _ 0 1 _ c.bl];rfl
theorem eZ.join:∀{ks:List (List Nat)},(∀c∈ks,eZ c)->ks≠[]->Hd (jl (ks.map Mine.Internal.wl))/\uq (jl (ks.map Mine.Internal.wl))/\(∀a∈jl (ks.map Mine.Internal.wl),ha a/\a<128)/\dJ 0 (jl (ks.map Mine.Internal.wl))=true
 |[],_,e=>absurd rfl e
 |[a],e,_=>(e a (.head _)).wl
 |a::f::c,e,_=>by
  refine aS λo m=> ?_;have g:=(e a (.head _)).wl;obtain⟨a1,⟨n,j,k,l⟩,a3,i⟩:=eZ.join (ks:=f::c) (λd b=>e d (.tail _ b)) (by simp);refine m ?_;refine(?_:Hd (Mine.Internal.wl a++32::jl ((f::c).map Mine.Internal.wl))/\uq (Mine.Internal.wl a++32::jl ((f::c).map Mine.Internal.wl))/\(∀d∈Mine.Internal.wl a++32::jl ((f::c).map Mine.Internal.wl),ha d/\d<128)/\dJ 0 (Mine.Internal.wl a++32::jl ((f::c).map Mine.Internal.wl))=true);refine⟨Ps g.1,⟨Mine.Internal.wl a++32::n,j,by refine h (k ..) ?_;simp,l⟩,λd b=> ?_,?_⟩
  . refine Or.elim (List.mem_append.mp b) (λb=> ?_) λb=> ?_
    . exact g.2.2.1 d b
    . rcases List.mem_cons.mp b with rfl|b
      . exact⟨Qq,by decide⟩
      . exact a3 d b
  . have:=pp (Mine.Internal.wl a) 0 0 (32::jl ((f::c).map Mine.Internal.wl)) g.2.2.2;rw [Nat.zero_add] at this;rw [this];exact i
def QU{a:List Nat}{b:Nat}:t (a++[b]) a.length=some b:=by refine h (cW ..) ?_;refine h (i5 (cb _) ..) ?_;refine h (pa ..) ?_;rfl
def eZ.tF{b:List Nat}(h:eZ b)(m:b.length<100000):gP (a b)\/a b=H\/a b=c4\/a b=d7:=by
 rcases h.hd with rfl|⟨d,⟨i,j,f,k⟩⟩
 . exact .inr (.inl rfl)
 . rcases b with _|⟨c,bn⟩
   . cases d
   have g:p6 c bn=true->gP (a (c::bn)):=λl=>by
    have n:bn.length=i.length:=Nat.succ.inj ((T List.length f).trans eV);refine⟨c,bn,rfl,l,⟨j,?_,k⟩,λp o=>(h.ch p o).2,tZ m⟩;rw [n,f];exact QU
   rcases bn with _|⟨q,r⟩
   . rcases wt d with e|e
     . exact .inl (g (Bool.or_eq_true_iff.mpr (.inl e)))
     . rcases tC (fE e).1 with rfl|rfl
       . exact .inr (.inr (.inl rfl))
       . exact .inr (.inr (.inr rfl))
   . exact .inl (g d)
def eZ.res{l:List Nat}(b:eZ l){c:Nat}(d:l.length<=100*c)(g:c<=500):gp c (a l):=
 ⟨b.tF (by omega),⟨l,rfl,by omega,λf e=>(b.ch f e).1,b.bl⟩,d⟩
def xk{c d:List Nat}(b:a c=a d):c=d:=by have b:(⟨⟨c⟩⟩:Str)=⟨⟨d⟩⟩:=b;injection b with b;injection b
def Uk{e:Str}(r:gP e\/e=H\/e=c4\/e=d7)(q:li e):∃d,e=a d/\eZ d:=by
 obtain⟨d,rfl,t,i,g⟩:=q;refine⟨d,rfl,?_⟩;rcases r with⟨j,bn,b,m,⟨k,l,o⟩,p,s⟩|b|b|b
 . have b:=xk b;subst b;refine⟨.inr ⟨Pq m,?_⟩,λf c=>⟨i f c,p f c⟩,g⟩;refine⟨(j::bn).dropLast,k,?_,o⟩;have n:(j::bn).getLast (by simp)=k:=by rw [cW] at l;refine h (List.getLast_eq_getElem ..) ?_;have:=(List.getElem?_eq_some_iff.mp l).2;simpa using this
   rw [<-n,List.dropLast_concat_getLast]
 . have b:d=[]:=xk b;subst b;exact⟨.inl rfl,λf c=>by simp at c,rfl⟩
 . have b:d=[48]:=xk b;subst b;exact⟨.inr ⟨rfl,⟨[],48,rfl,rfl⟩⟩,λf c=>by refine h (List.mem_singleton.mp c) ?_;exact⟨i 48 (.head _),by decide⟩,g⟩
 . have b:d=[49]:=xk b;subst b;exact⟨.inr ⟨rfl,⟨[],49,rfl,rfl⟩⟩,λf c=>by refine h (List.mem_singleton.mp c) ?_;exact⟨i 49 (.head _),by decide⟩,g⟩
theorem F8:∀{ts:List Str},(∀b∈ts,(gP b\/b=H\/b=c4\/b=d7)/\li b)->∃d:List (List Nat),ts=d.map a/\∀e∈d,eZ e
 |[],_=>⟨([]:List (List Nat)),rfl,λe g=>nomatch g⟩
 |b::ts,f=>by
  obtain⟨e,rfl,g⟩:=Uk (f b (.head _)).1 (f b (.head _)).2;obtain⟨d,rfl,i⟩:=F8 (ts:=ts) λh c=>f h (.tail _ c);exact⟨e::d,rfl,λh c=>by rcases List.mem_cons.mp c with rfl|c;exact g;exact i h c⟩
def Hv(b:List Nat):(wl b).length<=b.length+2:=by
 induction b using List.casesOn with
 |nil=>exact cb _
 |cons a r=>
  refine h (Hu ..) ?_;cases(a::r).any (λa=>a==32)||Nat.beq a 123
  . refine(?_:r.length+1<=_);simp
  . refine(?_:((a::r)++[125]).length+1<=_);simp
theorem EF:∀e:List (List Nat),(jl (e.map wl)).length<=((e.map a).map (·.length)).sum+3*e.length
 |[]=>cb _
 |[b]=>by
  have:=Hv b;refine(?_:(wl b).length<=b.length+0+3*1);exact(k6 this)
 |b::d::c=>by
  have f:=Hv b;have g:=EF (d::c);refine(?_:(wl b++32::jl ((d::c).map wl)).length<=b.length+(((d::c).map a).map (·.length)).sum+3*((d::c).length+1));refine h (eV ..) ?_;refine h (List.length_cons ..) ?_;exact(dC f g (by simp+arith only))
def eY.QW{b:Nat}{i:List Str}(d:eY b i)(f:b<=500):gp b (mb i):=by
 obtain⟨a,rfl,j⟩:=F8 d.all;refine h (Q6 ..) ?_;have g:=d.sum;have l:=EF a;have e:(jl (a.map wl)).length<=100*b:=by rw [List.length_map] at g;exact(L l g)
 cases a with
 |nil=>exact eZ.res ⟨.inl rfl,(λn m=>nomatch (show n∈[] from m)),rfl⟩ e f
 |cons k a=>
  have c:=eZ.join j (by simp);exact eZ.res ⟨.inr ⟨c.1,c.2.1⟩,c.2.2.1,c.2.2.2⟩ e f
section
variable{a:B}{b:N}
def pl(s:bb a b){p:Nat}{k:Option Nat}(q:∀e,k=some e->e<6) {r m l:o} {f i:g} (c:hs a r f m) (d:gq b k p f m=some (i,l)):cZ a 1 m l/\(i≠.C->l.S<=a.F)/\ci i:=by
 unfold gq at d;induction j:cz f using Bool.casesOn with
 |false=>rw [j] at d;cases d;exact⟨.refl c.V,c.C,c.hC⟩
 |true=>
  rw [j] at d;have n:f≠.C:=λt=>by subst t;cases j
  induction k using Option.casesOn with
  |none=>cases d;exact⟨.refl c.V,λu=>c.C n,.ok⟩
  |some e=>
   have h:=s e _ _ _ _ (q e rfl) c.V (c.C n) d;exact⟨h.b2,h.C,h.hC⟩
theorem zS(m:a.Ok)(d:bb a b){H k J:Nat}{D:Option Nat}(n:H<4)(y:k<6)(A:∀E,D=some E->E<6) {v:g} {F:o}:
  ∀(w:Nat)(r:o),aR a r->r.S<=a.F->fO b a H k D J w r=some (v,F)->cC a 1 r v F
 |0,r,_,_,l=>nomatch l
 |w+1,r,t,s,l=>by
  cases v1 l with
  |ti M C e Q=>
   have c:=fS m d n t s e;cases M with
   |ok k=>exact c.b2.gw (λR=>c.C nofun) .ok λj f=>by cases f;exact wC _
   |error v=>exact c.b2.gw (λp=>c.C λO=>p (by cases O;rfl)) (c.M _ rfl).1 λj f=>absurd f ((c.M _ rfl).2 j)
  |C C e i=>
   have c:=fS m d n t s e;exact(c.b2.a (c.C nofun)).gw (λp=>absurd rfl p) .C nofun
  |fM C K N P G e i z x L=>
   have c:=fS m d n t s e;have h:=d k _ _ _ _ y (c.V.a (lA i)) (dA i) z;have B:=pl d A h x;exact(c.b2.trans ((h.b2.trans B.1 (m:=2)).sR (m:=0))).gw (λp=>B.2.1 (Cy p)) (B.2.2.brk .ok) λj f=>by cases yg L f;exact wC _
  |next C K N j G _ _ e i z x l=>
   have c:=fS m d n t s e;have h:=d k _ _ _ _ y (c.V.a (lA i)) (dA i) z;have u:=pl d A h x;have q:=zS m d n y A w G u.1.V (u.2.1 nofun) l;have I:=c.b2.trans (((h.b2.trans u.1 (m:=2)).trans q.b2 (m:=3)).sR (m:=0)) (m:=1);exact I.gw q.C q.hC λj f=>(q.ok j f).mono (xD (c.b2.trans ((h.b2.trans u.1 (m:=2)).sR (m:=0)) (m:=1)).le _)
end
def m9(c:Nat)(b:List bH):Prop:=∀a∈b,∀d∈a.2,bz c d
theorem AX{c:B}{n:Nat}:∀(b:List Vn)(e:List Str)(r:o),(∀a∈e,bz n a)->n<=r.S->aR c r->
  (∀a∈(d5 b e r).1,bz n a)/\aR c (d5 b e r).2/\(d5 b e r).2.S=r.S/\(d5 b e r).2.U=r.U
 |[],e,r,d,f,g=>⟨d,g,rfl,rfl⟩
 |a::b,[],r,d,f,g=>by
  have:=AX (c:=c) (n:=n) b [] (r.bG a H) d (by refine h (kY ..) ?_;exact f) (g.bG a (Hm _));rw [kY,oT] at this;exact this
 |a::b,i::is,r,d,f,g=>by
  have:=AX (c:=c) (n:=n) b is (r.bG a i) (λk j=>d k (.tail _ j)) (by refine h (kY ..) ?_;exact f) (g.bG a ((d i (.head _)).mono f));rw [kY,oT] at this;exact this
theorem wQ{c:B}{n:Nat}:∀(a:List bH)(r:o),m9 n a->n<=r.S->aR c r->
  m9 n (cg a r).1/\aR c (cg a r).2/\(cg a r).2.S=r.S/\(cg a r).2.U=r.U
 |[],r,e,g,i=>⟨e,i,rfl,rfl⟩
 |b::a,r,e,g,i=>by
  refine aS λs q=> ?_;obtain⟨l,m,k,p⟩:=AX (c:=c) (n:=n) b.1 b.2 r (e b (.head _)) g i;have f:=wQ (c:=c) (n:=n) a (d5 b.1 b.2 r).2 (λj d=>e j (.tail _ d)) (by refine h (k ..) ?_;exact g) m;refine q ?_;refine⟨λj d=> ?_,f.2.1,f.2.2.1.trans k,f.2.2.2.trans p⟩;rcases List.mem_cons.mp d with rfl|d
  . exact l
  . exact f.1 j d
section
variable{c:B}{d:N}
def tu{a b c d:Nat}(g:b<=a)(h:d<=c)(f:a+1=d):(a-b)+(c-d)+1<=c-b:=by have e:=hT g;have e2:=hT h;generalize a-b=i at e⊢;generalize c-d=j at e2⊢;subst e f e2;exact Nat.le_sub_of_add_le (by simp+arith only)
theorem Gh(G:c.Ok)(N:bb c d){m:Bool}{x E n:Nat}(J:x<6){F:g}{O:o}(e:o)(I:n<=e.S):
  ∀(y:Nat)(a:List bH)(k:List Str)(r:o),cZ c 0 e r->r.S<=c.F->m9 n a->eY (r.S-e.S) k->fP d c m x E y a k r=some (F,O)->cC c 0 e F O
 |0,a,k,r,_,_,_,_,p=>nomatch p
 |y+1,a,k,r,ak,z,T,H,p=>by
  have M:∀{mH:o},cZ c 0 e mH->r.S<=mH.S->∀u,gs m k= .ok u->gp (mH.S-e.S) u:=λ{mH} Q R u w=>by
   induction m using Bool.casesOn with
   |true=>cases w;exact(H.mono (Nat.sub_le_sub_right R _)).QW (L (Nat.sub_le _ _) (L Q.V.bu (L G.F (by decide))))
   |false=>cases w;exact wC _
  have K:ci (gs m k):=by rcases m with _|_<;>exact .ok
  have P:∀{i:g}{f:o},decide (c.F<r.S+1)=false->d x E (cg a r.a).2=some (i,f)->hs c (cg a r.a).2 i f/\m9 n (cg a r.a).1/\cZ c 0 r f/\(cg a r.a).2.S=r.S+1:=λ{i f} j q=>by
   refine aS λD s=> ?_;have b:=wQ (c:=c) (n:=n) a r.a T (L I (k6 ak.le)) (ak.V.a z);refine s ?_;have C:=N x _ _ _ _ J b.2.1 (by refine h (b.2.2.1 ..) ?_;exact dA j) q;exact⟨C,b.1,(cZ.trans (k:=1) (m:=1) (j:=0) (mH:=(cg a r.a).2) ⟨b.2.1,ed b.2.2.1.symm,by refine h (b.2.2.1 ..) ?_;refine h (b.2.2.2 ..) ?_;exact cb _⟩ C.b2).sR,b.2.2.1⟩
  cases Gg p with
  |done A=>exact ak.gw (λU=>z) K (M ak (cb _))
  |C A j=>exact(ak.a z).gw (λv=>absurd rfl v) .C nofun
  |fM i f A j q B=>
   refine aS λD s=> ?_;have t:=P j q;refine s ?_;exact(ak.trans t.2.2.1).gw (λv=>t.1.C (Cy v)) (t.1.hC.brk K) λu w=>M (ak.trans t.2.2.1) t.2.2.1.le u (yg (Tb B) w)
  |next i f _ _ A j q B p=>
   refine aS λD s=> ?_;have l:=P j q;refine s ?_;have S:i≠.C:=λv=>by subst v;cases B
   exact Gh G N J e I y _ _ f (ak.trans l.2.2.1) (l.1.C S) l.2.1 (H.of l.1.ok (tu ak.le l.1.le l.2.2.2.symm)) p
def D2(u:c.Ok)(l:bb c d){e p m h q k:Nat}(s:e<6)(B:p<4)(y:m<6)(t:h<6){i:g}{r n:o}(A:aR c r)(v:r.S<=c.F)(b:hM d c k e p m h q r=some (i,n)):cC c 2 r i n:=by
 obtain⟨j,C,x,b⟩:=fe b;have a:=l e _ _ _ _ s A v x;cases f:cF j with
 |true=>
  rw [f] at b;have w:j≠.C:=λD=>by subst D;cases f
  exact(zS u l B t (λE z=>by cases z;exact y) k C a.V (a.C w) b).yc a.b2
 |false=>
  rw [f] at b;cases b;exact(a.b2.trans (.refl (k:=0) a.V) (m:=2)).gw a.C a.hC a.ok
def Pg{m:Bool}{r:o}{c:g}{d:List (Nm×J)}:bQ m r d= .error c->c=gr\/c=iO m:=by
 induction d with
 |nil=>exactλa=>by cases a
 |cons e d h=>
  intro a;induction b:e.1.names using Option.casesOn with
  |none=>exact .inl (xH (a.symm.trans (r9 b)))
  |some f=>
   cases f with
   |nil=>exact .inr (xH (a.symm.trans (vz b)))
   |cons aj f=>
    induction hi:J.aN r e.2 using Option.casesOn with
    |none=>exact .inl (xH (a.symm.trans (vy b hi)))
    |some its=>exact h (OS ((r' b hi).symm.trans a))
def QT:List Nat->Bool
 |[]=>false
 |a::_=> !e0 a
def Hw(a:List Nat):Bool:=a.all yl&&(dJ 0 a&&(a.isEmpty||(p7 a&&(p7 (a++[46])&&QT a.reverse))))
def wB{b:List Nat}{k:Nat}(a:Hw b=true):eZ (b++List.replicate k 46):=by
 refine And.elim (λm a=> ?_) (fE a);refine And.elim (λn i=> ?_) (fE a);have l:∀(j:Nat),dJ 0 (List.replicate j 46)=true:=λj=>by
  induction j with
  |zero=>rfl
  |succ j o=>exact o
 refine⟨?_,λf d=>(List.mem_append.mp d).elim (ym m f) λd=>(List.mem_replicate.mp d).2▸ym (l:=[46]) (by kernel_rfl) 46 (.head _),by
  have:=pp b 0 0 (List.replicate k 46) n;rw [Nat.zero_add] at this;rw [this];exact l k⟩
 induction k using Nat.casesAuxOn with
 |zero=>
  refine h (List.replicate_zero ..) ?_;refine h (et ..) ?_;rcases wt i with a|a
  . exact .inl (List.isEmpty_iff.mp a)
  . refine And.elim (λa1 a=> ?_) (fE a);refine .inr ⟨a1,?_⟩;have a:=(fE a).2;have g:b=b.reverse.reverse:=(List.reverse_reverse b).symm;generalize b.reverse=e at a g;rcases e with _|⟨f,e⟩
    . cases a
    . exact⟨e.reverse,f,g.trans xF,gd a⟩
 |succ k=>
  refine .inr ⟨?_,⟨b++List.replicate k 46,46,by rw [List.replicate_succ',List.append_assoc],by kernel_rfl⟩⟩;rcases wt i with a|a
  . rw [List.isEmpty_iff.mp a];rfl
  . have a:=(fE (fE a).2).1;rcases b with _|⟨c,_|⟨p,q⟩⟩
    . rfl
    . exact a
    . exact a
def bz.Uj{g:Nat}{c:Str}(e:bz g c):∃b,c=a b/\eZ b:=by obtain⟨d,k,f,h,rfl⟩:=e;exact⟨_,rfl,wB (List.all_eq_true.mp (by kernel_rfl:(([[],[97,32,98],[49],[97],[98],[99],[100],[98,32,99],[48],[48,32,49]]:List (List Nat)).all Hw)=true) d f)⟩
def bz.res{a:Nat}{c:Str}(b:bz a c)(f:a<=90):gp 1 c:=by have e:=b.aE;obtain⟨l,rfl,d⟩:=b.Uj;exact d.res (by have:l.length<=3+a:=e;exact(dC f this (by simp+arith only))) (by decide)
def bz.LV{c:Nat}{d:Str}(e:bz c d):bz (c+1) (d++iB):=by refine aS λi h=> ?_;obtain⟨b,k,f,g,rfl⟩:=e;refine h ?_;refine⟨b,k+1,f,by exact(Nat.lt_succ_of_le g),?_⟩;refine(?_:a (b++List.replicate k 46)++a [46]=_);rw [tD,List.replicate_succ'];simp
def Hf{d:Nat}{r:o}(c:∀h,bz d (r.get h).val) (f:Tx):bz d (f.res r):=by
 have e:∀{b:List Nat},b∈([[],[97,32,98],[49],[97],[98],[99],[100],[98,32,99],[48],[48,32,49]]:List (List Nat))->bz d (a b):=λ{b} g=>⟨b,0,g,bU _,by simp⟩;induction f using Tx.casesOn with
 |ai=>exact e (.tail _ (.tail _ (.tail _ (.head _))))
 |dx=>exact c .x
 |dy=>exact c .y
 |dz=>exact c .z
 |bc=>exact e (.tail _ (.tail _ (.tail _ (.tail _ (.tail _ (.tail _ (.tail _ (.head _))))))))
 |zero=>exact e (.tail _ (.tail _ (.tail _ (.tail _ (.tail _ (.tail _ (.tail _ (.tail _ (.head _)))))))))
end
section
variable{c:B}{a:N}
def cC.jy{k m:Nat}{r d:o}{b:g}(a:cC c k r b d)(e:k<=m):cC c m r b d:=⟨a.V,a.le,a.C,a.ok,dC e a.U (by simp+arith only),a.hC⟩
def cC.qH{k:Nat}{r d:o}{b:g}(a:cC c k r.a b d)(e:k<=3:=by decide):cC c 0 r b d:=(a.b2.sR e).gw a.C a.hC λh f=>(a.ok h f).mono (xD (fU _) _)
def Xw(a:Wr):ci (yU a):=by rcases a with _|_|_|_|_|_<;>exact .of rfl
def AM{r:o}{a:g}(h:aR c r)(f:r.S<=c.F)(d:ci a)(e:∀b,a≠.ok b):cC c 0 r a r:=⟨h,cb _,λj=>f,λb i=>absurd i (e b),cb _,d⟩
def WG{a:Str}(b:a=k3\/a=qU\/a=c4):gp 1 a:=by
 rcases b with rfl|rfl|rfl
 . exact eZ.res (l:=[118,32,119]) (wB (k:=0) (b:=[118,32,119]) (by kernel_rfl)) (by decide) (by decide)
 . exact eZ.res (l:=[118]) (wB (k:=0) (b:=[118]) (by kernel_rfl)) (by decide) (by decide)
 . exact eZ.res (l:=[48]) (wB (k:=0) (b:=[48]) (by kernel_rfl)) (by decide) (by decide)
def Tv{r f:o}{i:g}(l:cC c 1 r.a i f):cC c 0 r (hg i) f:=by
 have a:=l.qH;induction i using g.casesOn with
 |ok e=>exact a
 |C=>exact a
 |M k e y p z=>
  have d:∀{j:g},ci j->(∀e,j≠.ok e)->cC c 0 r j f:=λs t=>⟨a.V,a.le,λx=>a.C nofun,λe v=>absurd v (t e),a.U,s⟩;have h:=a.hC;have u:r.S+1<=f.S:=l.le;clear l;rcases k with _|_|_|_|_|k
  . exact a
  . exact a
  . obtain⟨q,m,n⟩:=h.2.2.2 rfl;rcases p with _|_|p;iterate 2
     refine m.elim (λb=> ?_) λb=>b.elim (λb=> ?_) λb=> ?_
     . subst b;exact⟨a.V,a.le,λx=>a.C nofun,λA w=>by cases w;exact(WG n).mono (Nat.le_sub_of_add_le (bV u (by simp+arith only))),a.U,.ok⟩
     . subst b;exact d ⟨h.1,a' rfl,a' rfl,nofun⟩ nofun
     . subst b;exact d ⟨h.1,a' rfl,a' rfl,nofun⟩ nofun
    subst q;exact d (.tA m n) nofun
  . exact d (.of rfl) nofun
  . exact d (.of rfl) nofun
  . exact a
def HC{r:o}(i:aR c r)(d:r.S+1<=c.F)(g:c.F<80)(e:Vn){b:Str}(f:bz (r.S+1) b):cC c 0 r (.ok b) (r.a.bG e b):=by
 have a:(r.a.bG e b).S=r.S+1:=kY ..;exact(cZ.mk ((i.a (ee d)).bG e f) (a▸fU _) (by refine h (oT ..) ?_;refine h (a ..) ?_;exact jW (iC 3 (fU _)) _)).gw (λl=>a▸d) .ok λk j=>by
  cases j;exact(f.res (dC d g (by simp+arith only))).mono (a▸ed (Bz ..).symm)
def Ge{r:o}(a:aR c r){v:Y}(g:dq 0 v)(f:gg 19 v=true):aR c (r.dc v):=by
 refine⟨λe=> ?_,a.bu,?_,B2 f a.plain⟩
 . have:=a.i4 e;cases e<;>exact this
 . have b:=a.U;refine(?_:aH 0 (r.U++[v]));generalize r.U=d at b;induction d with
   |nil=>exact⟨g,u⟩
   |cons ai d h=>exact⟨b.1,h b.2⟩
def u9{r:o}(b:aR c r)(d a:Nat):aR c (r.dc (dM d a)):=Ge b ⟨u,u,u⟩ rfl
def UU{r:o}(f:aR c r)(b:r.S+1<=c.F)(e:c.F<80){a:Str}(d:bz r.S a):cC c 0 r (.ok a) (r.a.dc (.str a)):=
 (cZ.mk (c:=c) (k:=0) (Ge (v:= .str a) (f.a (ee b)) u rfl) (fU _) (by refine(?_:(r.U++[Y.str a]).length+3*r.S<=_);refine h (eV ..) ?_;refine(?_:_+1+_<=r.U.length+0+3*(r.S+1));simp+arith only)).gw (λj=>b) .ok λi g=>by
   cases g;exact(d.res (dC b e (by simp+arith only))).mono (show 1<=r.S+1-r.S from ed (Bz ..).symm)
def TC(i:c.Ok)(t:bb c a){v y:Nat}{x:aI}{d:g}{r j:o}(h:aR c r)(e:r.S+1<=c.F)(f:x.Ok)(b:s2 a c v x y r r.a=some (d,j)):cC c 0 r d j:=by
 have k:aR c r.a:=h.a (hU e);have l:∀{u:g},some (u,r.a)=some (d,j)->ci u->(∀q,u≠.ok q)->cC c 0 r d j:=λb z A=>eQ b (AM k e z A).qH;induction x using aI.casesOn with
 |gb p=>have b:(none:dU)=some (d,j):=b;cases b
 |kW p s=>exact(zS i t f.1 f.2 (λM b=>by injection b) v _ k e b).qH
 |eK ai p n ah=>exact(D2 i t f.1 f.2.1 f.2.2.1 f.2.2.2 k e b).qH
 |f3 m C s=>
  have b:(match bQ m r C with| .error d=>some (d,r.a)| .ok B=>fP a c m s y v B [] r.a)=some (d,j):=b;cases w:bQ m r C with
  |error u=>
   rw [w] at b;refine(Pg w).elim (λE=>l b ?_ ?_) λE=>l b ?_ ?_;all_goals
    subst E
   . exact .of rfl
   . exact nofun
   . rcases m with _|_<;>exact .of rfl
   . exact nofun
  |ok B=>
   rw [w] at b;have G:=λI H F=>(h.aN i I).2 H F;exact(Gh i t f.2 r.a (n:=r.S) (fU _) v B [] r.a (.refl k) e (zn (m:=m) G w).2.2 ⟨nofun,bU _⟩ b).qH
 |brk=>exact l b (.of rfl) nofun
 |cont=>exact l b (.of rfl) nofun
 |n1 q=>exact eQ b (HC h e i.F q (h.i4 q).LV)
 |iv q p=>exact eQ b (HC h e i.F q ((Hf h.i4 p).mono (fU _)))
 |dc p=>exact eQ b (UU h e i.F (Hf h.i4 p))
 |raise D=>exact l b (yX D) (rR D).2
 |go s=>exact(t s _ _ _ _ f k e b).qH
 |call s=>
  have b:fF (a s y r.a) (λd r=>some (hg d,r))=some (d,j):=b;obtain⟨K,L,z,A⟩:=fe b;exact eQ A (Tv (t s _ _ _ _ f k e z))
 |e' J=>exact l b (Xw J) nofun
def lE(n:c.Ok)(q:bb c a){m l:Nat}{d:aI}(p:d.Ok){i:g}{r k:o}(h:aR c r)(j:r.S<=c.F)(b:hK a c m d l r=some (i,k)):cC c 0 r i k:=by
 induction f:isNone d using Bool.casesOn with
 |true=>
  unfold hK at b;rw [f] at b;exact eQ b (AM h j (.of rfl) nofun)
 |false=>
  induction e:decide (c.F<r.S+1) using Bool.casesOn with
  |true=>exact eQ (ys f e b) (((cZ.refl (k:=0) h).a j).gw (λs=>absurd rfl s) .C nofun)
  |false=>exact TC n q h (dA e) p (yt f e b)
def J2(x:c.Ok)(B:bb c a){w u:Nat}{m:o}{n:g}{s:o}(f:List aI):∀(h:Str)(r:o),(∀i∈f,i.Ok)->cZ c 0 m r->r.S<=c.F->gp (r.S-m.S) h->hL a c w u f h r=some (n,s)->cC c 0 m n s:=by
 induction f with
 |nil=>exactλh r E d j q b=>eQ b (d.gw (λE=>j) .ok λG z=>by cases z;exact q)
 |cons i f A=>
  intro h r p d j q b;obtain⟨v,C,y,b⟩:=fe b;have e:=lE x B (p i (.head _)) d.V j y;cases k:cF v with
  |true=>
   rw [k] at b;obtain⟨t,F⟩:=qa k;subst F;exact A t C (λD l=>p D (.tail _ l)) (d.trans e.b2) (e.C (λl=>aA (T cF l))) ((e.ok t rfl).mono (xD d.le _)) b
  |false=>rw [k] at b;exact eQ b (e.yc d)
def p'(i:c.Ok)(f:Nat)(e:Nat):bb c (dP c f e):=by
 induction e with
 |zero=>exactλd b r h n g g g a=>by cases a
 |succ e p=>
  intro d b r h n o l j a;have a:(match Nat.beq b c.L with|true=>some (nM,r)|false=>hL (dP c f e) c f (b+1) (c.aW d) H (r.dc (dM d (b+1))))=some (h,n):=a;have m:=u9 l d (b+1);cases k:Nat.beq b c.L with
  |true=>
   rw [k] at a;exact eQ a ((AM l j (.of rfl) (λg a=>by cases a)).jy (bU _))
  |false=>
   rw [k] at a;exact(J2 i p (c.aW d) H _ (i.aW d o).2 (.refl m) j (wC _) a).yc (r:=r) (j:=1) (m:=1) ⟨m,cb _,by
    refine(?_:(r.U++[dM d (b+1)]).length+3*r.S<=r.U.length+1+3*r.S);rw [List.length_append];exact cb _⟩
end
section
variable{c:B}{d:N}
def nl(c:B)(d:N)(b:Nat):Prop:=∀a r,a<6->aR c r->r.S<=c.F->∃e,d a b r=some e
def V9(j:c.Ok){e:Nat}(q:nl c d e){b:Nat}{r:o}(n:b<4)(m:aR c r)(k:r.S<=c.F):∃g,er d c b e r=some g:=by
 have f:=j.a6 b n;unfold er;unfold d8.Ok at f;generalize c.a6 b=i at f;obtain⟨p,t,s⟩:=i;cases p with
 |size aj=>exact⟨_,rfl⟩
 |iY a=>exact⟨_,rfl⟩
 |raise a=>exact⟨_,rfl⟩
 |mJ a=>
  obtain⟨g,l⟩:=q a r f m k;exact⟨_,by refine(?_:Option.map _ (d a e r)=_);refine h (l ..) ?_;rfl⟩
def iK{g:Type}{b:Bool}{c d:Option g}(f:b=true->∃a,c=some a) (e:b=false->∃a,d=some a):∃a,cond b c d=some a:=by
 rcases b with _|_
 . exact e rfl
 . exact f rfl
theorem zT(k:c.Ok)(g:bb c d){v:Nat}(h:nl c d v){C e:Nat}{p:Option Nat}(n:C<4)(j:e<6)(m:∀a,p=some a->a<6):
  ∀(f:Nat)(r:o),aR c r->r.S<=c.F->c.F<r.S+f->∃z,fO d c C e p v f r=some z
 |0,r,_,D,i=>absurd i (Nat.not_lt.mpr D)
 |f+1,r,x,w,L=>by
  refine nr (V9 k h n x w) λz A H=> ?_;have u:=fS k g n x w H;refine iK (λM=> ?_) λs=>⟨_,rfl⟩;refine iK (λs=>⟨_,rfl⟩) λl=> ?_;have y:=u.V.a (lA l);refine nr (h e A.a j y (dA l)) λJ B i=> ?_;have b:=g e _ _ _ _ j y (dA l) i;refine nr (iK (λF=> ?_) λs=>⟨_,rfl⟩) λK I E=> ?_
  . induction p using Option.casesOn with
    |none=>exact⟨_,rfl⟩
    |some a=>exact h a B (m a rfl) b.V (b.C λt=>by subst t;cases F)
  . have q:=pl g m b E;refine iK (λG=> ?_) λs=>⟨_,rfl⟩;exact zT k g h n j m f I q.1.V (q.2.1 λt=>by subst t;cases G) (by have:=u.le;have:A.S+1<=B.S:=b.le;have:=q.1.le;omega)
theorem Gj(y:c.Ok)(q:bb c d){k:Nat}(u:nl c d k){m:Bool}{f n:Nat}(h:f<6):
  ∀(e:Nat)(a:List bH)(i:List Str)(r:o),aR c r->r.S<=c.F->n<=r.S->m9 n a->c.F<r.S+e->∃F,fP d c m f k e a i r=some F
 |0,a,i,r,_,v,_,_,w=>absurd w (Nat.not_lt.mpr v)
 |e+1,a,i,r,E,z,l,B,C=>by
  refine iK (λj=>⟨_,rfl⟩) λj=>iK (λj=>⟨_,rfl⟩) λA=> ?_;have b:=wQ (c:=c) (n:=n) a r.a B (k6 l) (E.a z);have p:(cg a r.a).2.S<=c.F:=by rw [b.2.2.1];exact dA A
  refine nr (u f _ h b.2.1 p) λH s x=>iK (λD=> ?_) λj=>⟨_,rfl⟩;have g:=q f _ _ _ _ h b.2.1 p x;have t:r.S+1<=s.S:=by have:=g.le;rw [b.2.2.1] at this;exact this
  exact Gj y q u h e _ _ s g.V (g.C λG=>by subst G;cases D) (L l (hU t)) b.1 (dC C t (by simp+arith only))
def D3(s:c.Ok)(k:bb c d){f:Nat}(m:nl c d f){a t n b g:Nat}(h:a<6)(y:t<4)(v:n<6)(q:b<6){r:o}(j:aR c r)(i:r.S<=c.F)(u:c.F<g):∃l,hM d c g a t n b f r=some l:=
 nr (m a r h j i) λB z p=>iK (λw=>
  have e:=k a _ _ _ _ h j i p
  zT s k m y q (λl x=>by cases x;exact v) g z e.V (e.C λA=>by subst A;cases w) (hr u (aD _ _))) λC=>⟨_,rfl⟩
def J0(k:c.Ok)(q:bb c d){p:Nat}(h:nl c d p){e:Nat}{l:aI}(a:l.Ok){r:o}(w:aR c r)(z:r.S<=c.F)(u:c.F<e):∃b,hK d c e l p r=some b:=by
 refine iK (λi=>⟨_,rfl⟩) λC=>iK (λi=>⟨_,rfl⟩) λA=> ?_;have f:=dA A;have g:aR c r.a:=w.a z;have v:c.F<r.a.S+e:=hr u (aD _ _);induction l using aI.casesOn with
 |gb x=>cases C
 |kW x s=>exact zT k q h a.1 a.2 (λi y=>by injection y) e _ g f v
 |eK ai x n ah=>exact D3 k q h a.1 a.2.1 a.2.2.1 a.2.2.2 g f u
 |f3 m t s=>
  refine(?_:∃b,(match bQ m r t with| .error j=>some (j,r.a)| .ok b=>fP d c m s p e b [] r.a)=some b);cases D:bQ m r t with
  |error j=>exact⟨_,rfl⟩
  |ok b=>
   have E:=λG F B=>(w.aN k G).2 F B;exact Gj k q h a.2 (n:=r.S) e b [] r.a g f (fU _) (zn (m:=m) E D).2.2 v
 |go s=>exact h s _ a g f
 |call s=>exact nr (f:=λj r=>some (hg j,r)) (h s _ a g f) λi i i=>⟨_,rfl⟩
 |_=>exact⟨_,rfl⟩
theorem CQ(e:c.Ok)(g:bb c d){j:Nat}(p:nl c d j){k:Nat}(m:c.F<k):∀(b:List aI)(h:Str)(r:o),(∀a∈b,a.Ok)->aR c r->r.S<=c.F->∃u,hL d c k j b h r=some u
 |[],h,r,_,_,_=>⟨_,rfl⟩
 |a::b,h,r,f,n,l=>nr (J0 e g p (f a (.head _)) n l m) λy v q=>iK (λs=>
  have i:=lE e g (f a (.head _)) n l q
  CQ e g p m b _ v (λw t=>f w (.tail _ t)) i.V (i.C λx=>by subst x;cases s)) λz=>⟨_,rfl⟩
theorem G6(e:c.Ok){g:Nat}(j:c.F<g):∀b a,a<=c.L->c.L<a+b->nl c (dP c g b) a
 |0,a,f,h=>by omega
 |b+1,a,f,h=>λd r l m k=>by
  refine(?_:∃n,(match Nat.beq a c.L with|true=>some (nM,r)|false=>hL (dP c g b) c g (a+1) (c.aW d) H (r.dc (dM d (a+1))))=some n);induction i:Nat.beq a c.L using Bool.casesOn with
  |true=>exact⟨_,rfl⟩
  |false=>
   have p:a≠c.L:=λo=>by rw [o,Nat.beq_refl] at i;cases i
   exact CQ e (p' e g b) (G6 e j b (a+1) (Nat.lt_of_le_of_ne f (by assumption)) (bV h (by simp+arith only))) j (c.aW d) H _ (e.aW d l).2 (u9 m d (a+1)) k
end
def Qv(r:o)(a:J):J.aN r.a a=J.aN r a:=by rcases a with _|_|_|_|_|_|_<;>rfl
theorem zo(m:Bool)(r:o):∀a:List (Nm×J),bQ m r.a a=bQ m r a
 |[]=>rfl
 |d::a=>by
  obtain⟨c,b⟩:=d;refine(?_:lQ m c.names (J.aN r.a b) (bQ m r.a a)=lQ m c.names (J.aN r b) (bQ m r a));exact congr (T (lQ m c.names) (Qv r b)) (zo m r a)
abbrev eH:aL:=c (db 54 6) []
noncomputable def cy(a:B)(b:N):List (Nat×bF):=[(449,hW),(343,xW a b),(350,xP a b),(371,xM a b),(597,m3),(604,lb),(463,cp a b),(84,fA),(725,ua)]
noncomputable def h8:List (Nat×bF):=[(449,hW),(84,fA)]
abbrev gx:aL:=c (db 61 14) []
abbrev jb:I:=⟨gx.scope,none,[]⟩
abbrev cR(a:List Str):List (Str×Y):=[("self",.obj 0),("words",.c (y a))]
def j9(i:M)(d:g)(h:o)(c:af):Prop:=∀a,d= .ok a->∀b f,c (.str a) ⟨e (i.st h)++b,f⟩
def iE.up{c d:Nat}{a:g}{b:cj}(e:iE c a b)(i:c<=d):iE d a b:=by rcases a with _|⟨_,_,_,_,_⟩|_<;>rcases b with _|_<;>first|exact e.elim|trivial|exact let⟨j,l,k,h,f⟩:=e;⟨j,l,k,h,L f.1 i,f.2⟩
abbrev iG(c:B)(a:M)(d:g)(e:o)(b:af):Prop:=Hx (a5 c a.D+100) a b e d
def iG.jy{c:B}{a:M}{d:g}{e:o}{b:af}(h:iG c a d e b):Hx (a5 c a.D) a b e d:=λf k l m j i=>h f k l m (j.up (c5 _ _)) i
section
variable{q:Frag}{b:B}{t:N}{a:M}{k l:Nat}{h:Q}{i:af}{u:List Str}{d:g}{c:o}
abbrev Bg(b:List (Nat×bF))(q:Frag)(k l:Nat)(u:List Str)(a:M)(h:Q)(i:af):Prop:=aU (x (f q) b (k+90) (l+38)) jb i (aT 2 gx.body) ⟨e a++[],cR u⟩ h
noncomputable def Ey:aI->Bool
 | .e' _=>true|_=>false
def Ce{c:aI}(n:c.Ok)(j:isNone c=false)(o:Ey c=false)(d:hW (l+38) [.obj 0] ⟨e a,cR (c.res a.r)⟩ (λy r=>aU (x (f q) (cy b t) (k+90) (l+38)) jb i (aT 2 gx.body) r h) i):
  aU (x (f q) (cy b t) (k+90) (l+38)) jb i (aT 0 gx.body) ⟨e a,cR (c.res a.r)⟩ h:=by
 induction c using aI.casesOn with
 |gb w=>cases j
 |e' A=>exact aA (o)
 |f3 m u s=>
  rcases n.1 with g|g
  . obtain⟨p,rfl⟩:=List.length_eq_one_iff.mp g;cases m<;>exact z d (by kernel_rfl)
  . obtain⟨p,v,rfl⟩:=jx g;cases m<;>exact z d (by kernel_rfl)
 |_=>exact z d (by kernel_rfl)
def Cg{b:Wr}(c:hW (l+38) [.obj 0] ⟨e a,cR b.words⟩ (λg d=>aU (x (f q) h8 (k+90) (l+38)) jb i (aT 2 gx.body) d h) i):
  aU (x (f q) h8 (k+90) (l+38)) jb i (aT 0 gx.body) ⟨e a,cR b.words⟩ h:=by rcases b with _|_|_|_|_|_<;>exact z c (by kernel_rfl)
abbrev KS(h:Q)(a:M)(d:g)(c:o):Prop:=∀b,d= .ok b->∀f,h (.ret (.str b)) ⟨e (a.st c)++[],f⟩
def IJ{f e g:Nat}(v:HS b a)(x:f<4)(w:e<6)(p:aK b a.D 4<=l+37)(s:aM a.D 8 a.r)(u:aR b c)(j:fO t b f e none a.D g a.r=some (d,c))(m:KS h a d c)(o:Hx (a5 b a.D) a i c d):Bg (cy b t) q k l [dF,n f,E e] a h i:=
 ⟨a,[],_,f,e,g,d,c,v,x,w,rfl,rfl,p,s,j,u,λr=>m _ r _,(o.fX _).at _⟩
def Ix{e j g f m:Nat}(A:HS b a)(s:e<6)(B:j<4)(y:g<6)(u:f<6)(v:aK b a.D 4<=l+37)(x:aM a.D 7 a.r)(z:aR b c)(o:hM t b m e j g f a.D a.r=some (d,c))(p:KS h a d c)(r:Hx (a5 b a.D) a i c d):Bg (cy b t) q k l [c3,E e,n j,E g,E f] a h i:=
 ⟨a,[],_,e,j,g,f,m,d,c,A,s,B,y,u,rfl,rfl,v,x,o,z,λw=>p _ w _,(r.fX _).at _⟩
def Iw{m:Bool}{r:List (Nm×J)}{j o:Nat}(n:HS b a)(z:j<6)(D:r.length=1\/r.length=2)(w:aK b a.D 4<=l+37)(x:aM a.D 8 a.r)(y:aR b c)(s:nN t b m j a.D o r a.r a.r=some (d,c))(u:KS h a d c)(v:Hx (a5 b a.D) a i c d):
  Bg (cy b t) q k l (bo m::(dG (J.res a.r) r++[E j])) a h i:=by
 have f:=λe=>n.V.aN n.b3 e;rcases D with A|A
 . obtain⟨p,rfl⟩:=List.length_eq_one_iff.mp A;rcases m with _|_
   . exact⟨a,[],_,false,j,[p],o,d,c,n,z,.inl rfl,rfl,rfl,w,x,λe=>(f e).1,λe=>(f e).2,s,y,λB g=>u _ g _,(v.fX _).at _⟩
   . exact⟨a,[],_,true,j,[p],o,d,c,n,z,.inl rfl,rfl,rfl,w,x,λe=>(f e).1,λe=>(f e).2,s,y,λB g=>u _ g _,(v.fX _).at _⟩
 . obtain⟨p,C,rfl⟩:=jx A;rcases m with _|_
   . exact⟨a,[],_,false,j,[p,C],o,d,c,n,z,.inr rfl,rfl,rfl,w,x,λe=>(f e).1,λe=>(f e).2,s,y,λB g=>u _ g _,(v.fX _).at _⟩
   . exact⟨a,[],_,true,j,[p,C],o,d,c,n,z,.inr rfl,rfl,rfl,w,x,λe=>(f e).1,λe=>(f e).2,s,y,λB g=>u _ g _,(v.fX _).at _⟩
end
abbrev s7(d:Nat)(a:Str)(b:List Str)(c e:Nat):List ae:=[.ar 84 (some 20) [.str a] true false,.dict (el (d2 d a b c e) (.c []))]
abbrev vW(a:List Str):List (Str×Y):=[("host",.obj 0),("words",.c (y a)),("log",.obj 7)]
abbrev B0(a:List Str):List (Str×Y):=[("host",.obj 0),("words",.c (y a)),("action",.d 739),("data",.obj 7)]
abbrev nv(a:List Str):List (Str×Y):=[("self",.obj 0),("words",.c (y a)),("action",.d 739),("data",.obj 7)]
section
variable{c:Frag}{l:B}{n:N}{w:M}{k b:Nat}{d:Q}{a:af}{i:List Str}{t:g}{u:o}{s:List (Str×Y)}
abbrev wJ(c:Frag)(s:List (Str×Y))(a:af):af:=λd b=>(ab.v (rU (f c) d ⟨b.objs,s⟩) λe=>(ab.raise d ⟨b.objs,s⟩:ab bg)).A (λe e=>False) a
abbrev A6(i:List Str)(a:Nat)(b:Y):List (Str×Y):=cR i++([("action",.d a),("data",b)]:List (Str×Y))
abbrev WR(i:List Str)(a:Nat)(b:Y):List (Str×Y):=[("host",.obj 0),("words",.c (y i)),("action",.d a),("data",b)]
abbrev wX(i:List Str)(b:Nat)(c:Y)(a:af):af:=fX (WR i b c) (fX (A6 i b c) a)
abbrev qM(i:List Str):List (Str×Y):=[("host",.obj 0),("words",.c (y i))]
abbrev bP(c:Frag)(b:Nat)(w:M)(d:Str)(f j:Nat)(a:af):Prop:=fA (b+36) [q j,.str H] ⟨e w++[],qM [d]⟩ (wJ c (qM [d]) (wX [d] f .none a)) (wX [d] f .none a)
def Ip:bP c b w fs 378 3 a=Bg (cy l n) c k b [fs] w d a:=by kernel_rfl
def Ir:bP c b w ft 385 4 a=Bg (cy l n) c k b [ft] w d a:=by kernel_rfl
def Cd{e:Str}{d j:Nat}(f:Hx (a5 l w.D) w a w.r (.M j H [bC] 0 0))(g:j≠1):bP c b w e d j a:=
 .mk j H [bC] 0 0 (.inr (.inr ⟨rfl,rfl,rfl,rfl⟩)) (aD 6 (b+30)) (z (f (s7 j H [bC] 0 0) (A6 [e] d .none) (.obj 19) (.a7 (d2 j H [bC] 0 0)) ⟨_,_,_,rfl,bU _,nofun⟩ (rT w (d2 j H [bC] 0 0) [] 19 rfl rfl)) (by kernel_rfl))
def Iq(e:Hx (a5 l w.D) w a w.r (.M 3 H [bC] 0 0)):Bg (cy l n) c k b [fs] w d a:=z (Cd e (by decide)) Ip
def Iv(e:Hx (a5 l w.D) w a w.r (.M 4 H [bC] 0 0)):Bg (cy l n) c k b [ft] w d a:=z (Cd e (by decide)) Ir
abbrev aP(b:Nat)(w:M)(i:List Str)(g:Vn)(c:Str)(d:Q)(a:af):Prop:=lb (b+36) [.obj 0,.str g.str,.str c] ⟨e w++[],vW i⟩ (λc f=>d (.ret c) ⟨f.objs,nv i⟩) (fX (B0 i) (fX (nv i) a))
def IE{f:Vn}{e:Str}:aP b w [iS,f.str,e] f e d a=Bg (cy l n) c k b [iS,f.str,e] w d a:=by kernel_rfl
def IF{f:Vn}{e:Str}(h:w.Ok)(g:KS d w (.ok e) (w.r.bG f e)):Bg (cy l n) c k b [iS,f.str,e] w d a:=
 IE▸.mk w [] _ f e h rfl rfl (aD 7 (b+29)) (g _ rfl _)
abbrev aX(i:List Str)(a:af):af:=fX (B0 i) (fX (nv i) a)
def Iy{f:Vn}:m3 (b+36) [.obj 0,.str f.str] ⟨e w++[],vW [eM,f.str]⟩ (λh g=>(ny .Add h (.str iB) g).A (λi g=>lb (b+36) [.obj 0,.str f.str,i] g (λh g=>d (.ret h) ⟨g.objs,nv [eM,f.str]⟩) (aX [eM,f.str] a)) (aX [eM,f.str] a)) (aX [eM,f.str] a)=Bg (cy l n) c k b [eM,f.str] w d a:=by kernel_rfl
def Iz{c:Vn}{f:Str}:cond (Nat.ble (f.length+1) sizeLine) (aP b w [eM,c.str] c (f++iB) d a) False=(ny .Add (.str f) (.str iB) ⟨e w++[],vW [eM,c.str]⟩).A (λi g=>lb (b+36) [.obj 0,.str c.str,i] g (λh g=>d (.ret h) ⟨g.objs,nv [eM,c.str]⟩) (aX [eM,c.str] a)) (aX [eM,c.str] a):=by kernel_rfl
def IB{e:Vn}(f:w.Ok)(h:(w.r.get e).val.length<=1000)(g:KS d w (.ok ((w.r.get e).val++iB)) (w.r.bG e ((w.r.get e).val++iB))):Bg (cy l n) c k b [eM,e.str] w d a:=
 Iy▸.mk w [] _ e f rfl rfl (aD 7 (b+29)) (Iz▸sT (Nat.ble_eq.mpr (L (q0 h) (by decide))) (.mk w [] _ e _ f rfl rfl (aD 7 (b+29)) (g _ rfl _)))
def II{f:Str}(i:w.r.U.length<=1000)(g:KS d w (.ok f) (w.r.dc (.str f))):Bg (cy l n) c k b [jF,f] w d a:=by
 refine z (P:=cond (Nat.ble (C w.r.U) sizeLine) (d (.ret (.str f)) ⟨e (w.st {w.r with U:=aJ w.r.U (.str f)})++[],cR [jF,f]++([("action",.d 739),("data",.obj 7)]:List (Str×Y))⟩) False) (aY (Nat.ble_eq.mpr (by refine h (aZ ..) ?_;exact L i (by decide))) ?_) (by kernel_rfl);have t:w.r.dc (.str f)={w.r with U:=aJ w.r.U (.str f)}:=by refine h (c0 ..) ?_;rfl
 refine ba (t ..) ?_;exact g _ rfl _
def IG{f:Nat}(g:f<8):xN (b+36) [q f] ⟨e w++[],vW [ir,dN f]⟩ (aX [ir,dN f] a)=Bg (cy l n) c k b [ir,dN f] w d a:=by
 rcases f with _|_|_|_|_|_|_|_|f;iterate 8 kernel_rfl
 exact absurd g (Nat.not_lt.mpr (aD _ _))
def IH{e:Nat}(f:e<8)(h:w.Ok)(g:Hx (a5 l w.D) w a w.r (ends e)):Bg (cy l n) c k b [ir,dN e] w d a:=
 IG f▸.mk w [] _ e _ h f rfl rfl (aD 10 (b+26)) (((g.fX _).fX _).at _)
def cP(a:Nat)(p:Bool):List ae:=[.dict [("script",.str (E a)),("back",.none),("is_proc",.bool p),("label",.str Xy)],.bj 105 19]
def IA{f:Nat}:d (.ret (.obj 20)) ⟨e w++cP f false,nv [fu,E f]⟩=Bg (cy l n) c k b [fu,E f] w d a:=by kernel_rfl
abbrev wP(c:Frag)(b:Nat)(w:M)(i:List Str)(d:Nat)(f:Y)(h j:Str)(g:List (Str×Y))(a:af):Prop:=
 fA (b+34) [q 1,.str h,.l (y [bJ,jU])] ⟨e w++[],[("text",.str h),("errorcode",.l (y [bJ,jU]))]⟩ (wJ c g (wX i d f a)) (fX [("usage",.str j)] (fX g (wX i d f a)))
abbrev Hp(i:List Str)(a:Str):List (Str×Y):=[("host",.obj 0),("words",.c (y i)),("kind",.str a)]
def Xm{e:Nat}:wP c b w (Wr.jS e).words 343 .none Bt (dF++Str.ofString " test command") (qM (Wr.jS e).words) a=Bg h8 c k b (Wr.jS e).words w d a:=by kernel_rfl
def Xn{e:Nat}:wP c b w (Wr.eK e).words 350 .none Bp (c3++Str.ofString " start test next command") (qM (Wr.eK e).words) a=Bg h8 c k b (Wr.eK e).words w d a:=by kernel_rfl
def Xo:wP c b w Wr.kB.words 371 (.str dD) Bq (dD++Str.ofString " varList list ?varList list ...? command") (Hp Wr.kB.words dD) a=Bg h8 c k b Wr.kB.words w d a:=by kernel_rfl
def Xp:wP c b w Wr.kG.words 371 (.str dE) Br (dE++Str.ofString " varList list ?varList list ...? command") (Hp Wr.kG.words dE) a=Bg h8 c k b Wr.kG.words w d a:=by kernel_rfl
def Xq:wP c b w Wr.ke.words 378 .none Bn fs (qM Wr.ke.words) a=Bg h8 c k b Wr.ke.words w d a:=by kernel_rfl
def Xr:wP c b w Wr.kh.words 385 .none Bo ft (qM Wr.kh.words) a=Bg h8 c k b Wr.kh.words w d a:=by kernel_rfl
def qR{e:Nat}{f:Y}{d j:Str}{h:List (Str×Y)}{a:af}(g:Hx (a5 l w.D) w a w.r (.M 1 d [bJ,jU] 0 0)):wP c b w i e f d j h a:=
 .mk 1 d [bJ,jU] 0 0 (.inr (.inl ⟨rfl,rfl,rfl⟩)) (aD 6 (b+28)) (z (g (s7 1 d [bJ,jU] 0 0) (A6 i e f) (.obj 19) (.a7 (d2 1 d [bJ,jU] 0 0)) ⟨_,_,_,rfl,bU _,nofun⟩ (rT w (d2 1 d [bJ,jU] 0 0) [] 19 rfl rfl)) (by kernel_rfl))
def IK{f:Wr}(e:Hx (a5 l w.D) w a w.r (yU f)):Bg h8 c k b f.words w d a:=by
 induction f using Wr.casesOn with
 |jS g=>exact z (qR e) Xm
 |eK g=>exact z (qR e) Xn
 |kB=>exact z (qR e) Xo
 |kG=>exact z (qR e) Xp
 |ke=>exact z (qR e) Xq
 |kh=>exact z (qR e) Xr
def IC{g:Str}:fA (b+37) [q 1,.str o4,.l (y [bJ,oY,oV,f'])] ⟨e w,[("text",.str o4),("errorcode",.l (y [bJ,oY,oV,f']))]⟩ (wJ c (cR [f',g]) a) (fX (cR [f',g]) a)=aU (x (f c) (cy l n) (k+90) (b+38)) jb a (aT 0 gx.body) ⟨e w,cR [f',g]⟩ d:=by kernel_rfl
def ID{h:Str}(g:Hx (a5 l w.D) w a w.r yT):aU (x (f c) (cy l n) (k+90) (b+38)) jb (fX s a) (aT 0 gx.body) ⟨e w,cR [f',h]⟩ d:=
 IC▸.mk 1 o4 [bJ,oY,oV,f'] 0 0 (.inr (.inl ⟨rfl,rfl,rfl⟩)) (aD 6 (b+31)) (z (g (s7 1 o4 [bJ,oY,oV,f'] 0 0) s (.obj 19) (.a7 (d2 1 o4 [bJ,oY,oV,f'] 0 0)) ⟨_,_,_,rfl,bU _,nofun⟩ (rT w (d2 1 o4 [bJ,oY,oV,f'] 0 0) [] 19 rfl rfl)) (by kernel_rfl))
end
abbrev gS:I:=⟨eH.scope,none,[]⟩
abbrev jf(a:List Str)(b:Y):List (Str×Y):=[("self",.obj 0),("words",.c (y a)),("got",b)]
abbrev jp:aL:=c (db 54 7) []
section
variable{i:Frag}{l:B}{n:N}{a:M}{k h:Nat}{b:Q}{d:af}{c:List Str}{q:g}{t:o}{s:List (Str×Y)}{v:List (Nat×bF)}{u:List ae}
def Jh{g:Str}(l:Nat.blt (C (y (g::c))) 9223372036854775808=true)(j:b .next ⟨e a,cR (g::c)⟩):A (x (f i) v (k+100) (h+39)) gS 0 eH.body ⟨e a,cR (g::c)⟩ b d:=z (aY (Q:=False) l j) (by kernel_rfl)
def yi:av (x (f i) (cy l n) (k+97) (h+38)) none gx [.obj 0,.c (y c)] ⟨e a,cR c⟩ (λj g=>b .next ⟨g.objs,aO "got" j g.d⟩) d=A (x (f i) (cy l n) (k+100) (h+39)) gS 1 eH.body ⟨e a,cR c⟩ b d:=by kernel_rfl
def CD:av (x (f i) h8 (k+97) (h+38)) none gx [.obj 0,.c (y c)] ⟨e a,cR c⟩ (λj g=>b .next ⟨g.objs,aO "got" j g.d⟩) d=A (x (f i) h8 (k+100) (h+39)) gS 1 eH.body ⟨e a,cR c⟩ b d:=by kernel_rfl
def Jk{a:Str}:b (.ret (.str a)) ⟨u,jf c (.str a)⟩=aU (x (f i) (cy l n) (k+100) (h+39)) gS d (aT 2 eH.body) ⟨u,jf c (.str a)⟩ b:=by kernel_rfl
def Ji{g:Nat}{p:Bool}:av (x (f i) (cy l n) (k+96) (h+38)) none jp [.obj 0,.obj 20] ⟨e a++cP g p,jf c (.obj 20)⟩ (λm j=>b (.ret m) j) d=A (x (f i) (cy l n) (k+100) (h+39)) gS 2 eH.body ⟨e a++cP g p,jf c (.obj 20)⟩ b d:=by kernel_rfl
noncomputable abbrev lO:List (Str×Y):=[("self",.obj 0),("nest",.obj 20)]
def N4{c:Nat}{b:af}(y:HS l a)(A:c<6)(w:aK l a.D 0<=h+38)(u:n c a.D a.r=some (q,t))(v:j9 a q t b)(p:kO q=none->Hx (a5 l a.D) a d t q):
  av (x (f i) (cy l n) (k+90) (h+38)) none jp [.obj 0,.obj 20] ⟨e a++cP c false,s⟩ b d:=by
 refine c2 (cr:=lO) (by kernel_rfl) (λC C=>by kernel_rfl) (j 0 ⟨⟨a,cP c false,_,c,q,t,y,A,rfl,rfl,w,u,?_⟩⟩);induction q using g.casesOn with
 |ok aj=>exact z (v aj rfl (cP c false) s) (by kernel_rfl)
 |C=>
  intro o m;cases o with
  |a7 B=>exact m.elim
  |C r=>exact z (p rfl _ s _ _ m (pY _ (cP c false) _)) (by kernel_rfl)
 |M F aj D E G=>
  intro o m;cases o with
  |C r=>exact m.elim
  |a7 B=>exact z (p rfl _ s _ _ m (pY _ (cP c false) _)) (by kernel_rfl)
end
noncomputable def hy(a:B)(b:N):List (Nat×bF):=[(449,hW),(463,cp a b)]
noncomputable abbrev wf:Str:=Str.ofString "\n    "
def Bm:Str:=k [10,32,32,32,32,40,112,114,111,99,101,100,117,114,101,32,34,112,34,32,108,105,110,101,32,48,41]
def Bl:Str:=k [40,112,114,111,99,101,100,117,114,101,32,34,112,34,32,108,105,110,101,32,48,41]
def Rj(a:Str):(a++wf++Bl).length=a.length+27:=by refine(?_:(a.cps++ #[10,32,32,32,32]++Bl.cps).size=a.cps.size+27);rw [Array.size_append,Array.size_append];rfl
def Tp{a:Str}(b:a.length<=20000):Nat.ble (a.length+5) sizeLine=true:=Nat.ble_eq.mpr (L (mV b 5) (by decide))
def WF{a:Str}(b:a.length<=20000):Nat.ble ((a++wf).length+22) sizeLine=true:=Nat.ble_eq.mpr (by
 refine(?_:(a.cps++ #[10,32,32,32,32]).size+22<=16777216);refine h (qZ ..) ?_;exact L (mV (mV b 5) 22) (by decide))
def PY{a:B}{c b:Nat}(d:a.Ok)(e:b<=a5 a c):b<=20000:=by have:=d.L;unfold a5 at e;omega
def Eo{b:B}{a c:Nat}(d:c<=a5 b a):c+27<=a5 b a+100:=jZ d (by decide)
abbrev n4(a:Str):hu:=⟨1,a,[bJ,tJ,tK],0,0,a++Bm,true,true⟩
def DK(c:M)(b:Nat)(d:hu)(a:Str):dh 19 (e c++(cP b true++((cj.a7 d).objs 21++[.ar 84 (some 24) [.str a] true true,.dict (el (n4 a) (.obj 25)),.c []]))) (.obj 23) (.a7 (n4 a)):=
 ⟨23,24,.obj 25,rfl,by decide,by decide,by decide,rfl,rfl,.inr ⟨25,rfl,by decide,by decide,by decide,rfl⟩⟩
def P4{a:B}{b:M}(c:Nat):iE (a5 a b.D+100) (.M 1 mT [bJ,tJ,tK] 0 0) (.a7 (n4 mT)):=⟨_,_,_,rfl,L (by decide+kernel:(mT++Bm).length<=10000) (L (c5 _ _) (c5 _ _)),λd=>rfl⟩
def P5{a:B}{b:M}(c:Nat):iE (a5 a b.D+100) (.M 1 mU [bJ,tJ,tK] 0 0) (.a7 (n4 mU)):=⟨_,_,_,rfl,L (by decide+kernel:(mU++Bm).length<=10000) (L (c5 _ _) (c5 _ _)),λd=>rfl⟩
section
variable{v:Frag}{h:B}{n:N}{b:M}{k l c:Nat}{w d:af}{K:g}{G:o}{a:List (Str×Y)}{P s C:Nat}{i D:Str}{F:List Str}{J H:Bool}
abbrev rZ:I:=⟨jp.scope,none,[]⟩
noncomputable def tx(c:Option Stmt):List ExceptHandler×List Stmt:=c.elim ([],[]) λc=>by
 induction c using Stmt.casesOn with
 |Try _ a _ cf _=>exact(a,cf)
 |_=>exact([],[])
abbrev y5(v:Frag)(h:B)(n:N)(k l:Nat):O:=x (f v) (hy h n) (k+89) (l+38)
abbrev FS(v:Frag)(h:B)(n:N)(k l:Nat)(a:List (Str×Y))(w d:af):Q:=eT (x (f v) (hy h n) (k+90) (l+38)) rZ (fX a d) jp.body 1 (fK a w)
@[irreducible] def FK(v:Frag)(h:B)(n:N)(k l:Nat)(a:List (Str×Y))(w d:af):Q:=r0 (y5 v h n k l) rZ (tx (t jp.body 0)).2 (FS v h n k l a w d) (fX a d)
@[irreducible] def FX(v:Frag)(h:B)(n:N)(k l:Nat)(a:List (Str×Y))(w d:af):af:=bT λi b=>sd (f v) (y5 v h n k l) rZ i (FK v h n k l a w d) (r1 (y5 v h n k l) rZ (tx (t jp.body 0)).2 (fX a d)) (tx (t jp.body 0)).1 b
def Om:cp h n (l+38) [.obj 0,.str (E c)] ⟨e b++cP c true,lO⟩ (λi g=>FK v h n k l a w d (.ret i) g) (FX v h n k l a w d)=A (x (f v) (hy h n) (k+90) (l+38)) rZ 0 jp.body ⟨e b++cP c true,lO⟩ (FS v h n k l a w d) (fX a d):=by kernel_rfl
@[irreducible] def lg(v:Frag)(h:B)(n:N)(b:M)(k l c:Nat)(a:List (Str×Y))(w d:af)(f:cj):Prop:=FX v h n k l a w d (.obj 22) ⟨e b++(cP c true++f.objs 21),lO⟩
def D'{f:cj}:lg v h n b k l c a w d f=FX v h n k l a w d (.obj 22) ⟨e b++(cP c true++f.objs 21),lO⟩:=by kernel_rfl
abbrev FR(b:M)(c:Nat)(a:List (Str×Y))(d:af)(f:hu):Prop:=d (.obj 22) ⟨e b++(cP c true++(cj.a7 f).objs 21),a⟩
def OL:w (.str i) ⟨e b++cP c true,a⟩=FK v h n k l a w d (.ret (.str i)) ⟨e b++cP c true,lO⟩:=by kernel_rfl
def OK:d (.obj 22) ⟨e b++(cP c true++(cj.C H).objs 21),a⟩=lg v h n b k l c a w d (.C H):=by kernel_rfl
abbrev FN(b:M)(c:Nat)(a:List (Str×Y))(d:af)(i:Str)(F:List Str)(s C:Nat)(H:Bool)(e:Str):Prop:=cond (Nat.ble (e.length+5) sizeLine) (cond (Nat.ble ((e++wf).length+22) sizeLine) (FR b c a d ⟨1,i,F,s,C,e++wf++Bl,true,H⟩) False) False
def OE:cond (Fast.sEq D (Str.ofString "")) (FN b c a d i F s C H i) (FN b c a d i F s C H D)=lg v h n b k l c a w d (.a7 ⟨1,i,F,s,C,D,J,H⟩):=by kernel_rfl
def OG:cond (decide ((1:Int)<Int.ofNat s)) (d (.obj 22) ⟨e b++(cP c true++[.dict [(E9,q 2),(v9,.str i),(E',.l (y [bC])),(Fg,.int (Int.ofNat s-1)),(Fi,q C),(Fb,.str D),(Fe,.bool J),(Fh,q 0),(Fa,.c [])],.ar 84 (some 21) [.str i] true false]),a⟩)
  (cond (aw C 0) (w (.str i) ⟨e b++(cP c true++(cj.a7 ⟨2,i,[bC],s,C,D,J,false⟩).objs 21),a⟩) (cond (aw C 2) (FR b c a d ⟨C,i,[bC],1,0,D,true,false⟩) (FR b c a d ⟨C,i,[bC],0,0,D,true,false⟩)))=lg v h n b k l c a w d (.a7 ⟨2,i,[bC],s,C,D,J,false⟩):=by kernel_rfl
abbrev FI(b:M)(c:Nat)(a:List (Str×Y))(d:af)(g:hu)(f:Str):Prop:=d (.obj 23) ⟨e b++(cP c true++((cj.a7 g).objs 21++[.ar 84 (some 24) [.str f] true true,.dict (el (n4 f) (.obj 25)),.c []])),a⟩
def OH:FI b c a d ⟨3,i,F,s,C,D,J,false⟩ mT=lg v h n b k l c a w d (.a7 ⟨3,i,F,s,C,D,J,false⟩):=by kernel_rfl
def OI:FI b c a d ⟨4,i,F,s,C,D,J,false⟩ mU=lg v h n b k l c a w d (.a7 ⟨4,i,F,s,C,D,J,false⟩):=by kernel_rfl
def OJ:FR b c a d ⟨5,i,F,s,C,D,J,false⟩=lg v h n b k l c a w d (.a7 ⟨5,i,F,s,C,D,J,false⟩):=by kernel_rfl
def m8{K:g}{q:hu}(f:iG h b K G d)(e:iE (a5 h b.D+100) K (.a7 q)):FR (b.st G) c a d q:=f _ a _ _ e (pY _ (cP c true) (.a7 q))
def pf(v:Frag)(h:B)(n:N)(b:M)(k l c:Nat)(a:List (Str×Y))(w d:af)(G:o)(i:Str)(F:List Str)(s C:Nat)(P:Nat):Prop:=
 ∀D J H,ci (.M P i F s C)->j9 b (hg (.M P i F s C)) G w->iG h b (hg (.M P i F s C)) G d->D.length<=a5 h b.D->(H=true->P=1)->lg v h n (b.st G) k l c a w d (.a7 ⟨P,i,F,s,C,D,J,H⟩)
def Oe(r:h.Ok):pf v h n b k l c a w d G i F s C 1:=λD J H p f hX j f=>by
 have m:=(p.M _ _ _ _ _ rfl).1;have o:∀e:Str,e.length<=20000->e.length+27<=a5 h b.D+100->FN (b.st G) c a d i F s C H e:=λe g q=>aY (Tp g) (aY (WF g) (m8 hX ⟨_,_,_,rfl,(Rj e).symm▸q,λf=>rfl⟩));exact OE▸fG (λf=>o i (L m (by decide)) (Eo (L m (L (by decide) (c5 _ _))))) λf=>o D (PY r j) (Eo j)
def wb{P:Nat}{H:Bool}(a:H=true->P=1)(b:P≠1):H=false:=by
 rcases H with _|_
 . rfl
 . exact absurd (a rfl) b
def Of:pf v h n b k l c a w d G i F s C 2:=λD J H o j hX p g=>by
 obtain⟨rfl,m⟩:=(o.M _ _ _ _ _ rfl).2.2.2 rfl;obtain rfl:=wb g (by decide);have f:=L p (c5 _ 100);refine OG▸?_;rcases s with _|_|s
 . rcases m with rfl|rfl|rfl
   . exact j i rfl _ a
   . exact m8 hX ⟨_,_,_,rfl,f,(λe=>aA e)⟩
   . exact m8 hX ⟨_,_,_,rfl,f,(λe=>aA e)⟩
 . rcases m with rfl|rfl|rfl
   . exact j i rfl _ a
   . exact m8 hX ⟨_,_,_,rfl,f,(λe=>aA e)⟩
   . exact m8 hX ⟨_,_,_,rfl,f,(λe=>aA e)⟩
 . have K:Int.ofNat (s+2)-1=Int.ofNat (s+1):=by refine(?_:((s+2:Nat):Int)-1=((s+1:Nat):Int));simp+arith
   have g:FR (b.st G) c a d ⟨2,i,[bC],s+1,C,D,J,false⟩:=m8 hX ⟨_,_,_,rfl,f,(λe=>aA e)⟩;exact aY (iD (Int.ofNat_lt.mpr (Nat.succ_lt_succ (gI s)))) (K.symm▸g)
def Og:pf v h n b k l c a w d G i F s C 3:=λD J H f f hX f e=>by
 obtain rfl:=wb e (by decide);have e:FI (b.st G) c a d ⟨3,i,F,s,C,D,J,false⟩ mT:=hX _ a (.obj 23) (.a7 (n4 mT)) (P4 0) (DK (b.st G) c ⟨3,i,F,s,C,D,J,false⟩ mT);exact z e OH
def Oh:pf v h n b k l c a w d G i F s C 4:=λD J H f f hX f e=>by
 obtain rfl:=wb e (by decide);have e:FI (b.st G) c a d ⟨4,i,F,s,C,D,J,false⟩ mU:=hX _ a (.obj 23) (.a7 (n4 mU)) (P5 0) (DK (b.st G) c ⟨4,i,F,s,C,D,J,false⟩ mU);exact z e OI
def Oi:pf v h n b k l c a w d G i F s C 5:=λD J H j j hX f e=>by
 obtain rfl:=wb e (by decide);exact z (m8 (q:=⟨5,i,F,s,C,D,J,false⟩) hX ⟨_,_,_,rfl,L f (c5 _ _),(λg=>aA g)⟩) OJ
def Ol(g:h.Ok)(P:Nat):pf v h n b k l c a w d G i F s C P:=by
 rcases P with _|_|_|_|_|_|P
 . exactλe e e f=>absurd (f.M _ _ _ _ _ rfl).2.1 (by decide)
 . exact Oe g
 . exact Of
 . exact Og
 . exact Oh
 . exact Oi
 . exactλe e e f=>absurd (f.M _ _ _ _ _ rfl).2.2.1 (Nat.not_le.mpr (aD 6 P))
def HT(v:Frag)(h:B)(n:N)(b:M)(k l c:Nat)(a:List (Str×Y))(w d:af)(G:o)(K:g):Prop:=
 ci K->j9 b (hg K) G w->iG h b (hg K) G d->dm (a5 h b.D) b (cP c true) lO (λi e=>FK v h n k l a w d (.ret i) e) (FX v h n k l a w d) G K (kO K)
def N3(q:h.Ok)(K:g):HT v h n b k l c a w d G K:=by
 induction K using g.casesOn with
 |ok i=>exactλf j f=>z (j i rfl (cP c true) a) OL
 |C=>
  refineλf f hX m=> ?_;induction m using cj.casesOn with
  |a7 x=>exactλe=>e.elim
  |C H=>exactλf=>z (z (hX _ a _ (.C H) u (pY _ (cP c true) (.C H))) OK) D'
 |M P i F s C=>
  refineλo j hX m=> ?_;induction m using cj.casesOn with
  |C H=>exactλe=>e.elim
  |a7 x=>
   intro e;refine aS λy t=> ?_;obtain⟨D,J,H,rfl,r,p⟩:=e;refine t ?_;exact z (Ol q P D J H o j hX r p) D'
def N2(g:HS h b)(r:c<6)(q:aK h b.D 0<=l+38)(m:n c b.D b.r=some (K,G))(i:hs h b.r K G)(o:j9 b (hg K) G w)(p:iG h b (hg K) G d):
  av (x (f v) (hy h n) (k+90) (l+38)) none jp [.obj 0,.obj 20] ⟨e b++cP c true,a⟩ w d:=
 c2 (cr:=lO) (by kernel_rfl) (λs s=>by kernel_rfl) (j 0 (a9 ⟨.mk b (cP c true) _ c K G g r rfl rfl q m (N3 g.b3 K i.hC o p)⟩ Om))
end
section
variable{i:Frag}{b:B}{d:N}{a:M}{k c:Nat}{K:Q}{n:af}{l:List Str}{q:g}{t:o}{v:List (Str×Y)}{w:List ae}
def CC:av (x (f i) (hy b d) (k+97) (c+38)) none gx [.obj 0,.c (y l)] ⟨e a,cR l⟩ (λh g=>K .next ⟨g.objs,aO "got" h g.d⟩) n=A (x (f i) (hy b d) (k+100) (c+39)) gS 1 eH.body ⟨e a,cR l⟩ K n:=by kernel_rfl
def Jj{g:Nat}:av (x (f i) (hy b d) (k+96) (c+38)) none jp [.obj 0,.obj 20] ⟨e a++cP g true,jf l (.obj 20)⟩ (λj h=>K (.ret j) h) n=A (x (f i) (hy b d) (k+100) (c+39)) gS 2 eH.body ⟨e a++cP g true,jf l (.obj 20)⟩ K n:=by kernel_rfl
def Cf{g:Nat}:hW (c+38) [.obj 0] ⟨e a,cR [ep,E g]⟩ (λj h=>aU (x (f i) (hy b d) (k+90) (c+38)) jb n (aT 2 gx.body) h K) n=aU (x (f i) (hy b d) (k+90) (c+38)) jb n (aT 0 gx.body) ⟨e a,cR [ep,E g]⟩ K:=by kernel_rfl
def Iu{f:Nat}:K (.ret (.obj 20)) ⟨e a++cP f true,nv [ep,E f]⟩=Bg (hy b d) i k c [ep,E f] a K n:=by kernel_rfl
def s3{r:o}{a:aI}(d:a.Ok):∃c l,a.res r=c::l/\Nat.blt (C (y (c::l))) 9223372036854775808=true:=by
 induction a using aI.casesOn with
 |f3 m g s=>
  refine Or.elim (d.1) (λb=> ?_) λb=> ?_
  . obtain⟨e,rfl⟩:=List.length_eq_one_iff.mp b;exact⟨_,_,rfl,rfl⟩
  . obtain⟨e,h,rfl⟩:=jx b;exact⟨_,_,rfl,rfl⟩
 |e' f=>cases f<;>exact⟨_,_,rfl,rfl⟩
 |_=>exact⟨_,_,rfl,rfl⟩
def nC{b:List (Nat×bF)}{K n:af}(s:∃h Y,l=h::Y/\Nat.blt (C (y (h::Y))) 9223372036854775808=true)
  (q:∀{K:Q}{n:af},av (x (f i) b (k+97) (c+38)) none gx [.obj 0,.c (y l)] ⟨e a,cR l⟩ (λg d=>K .next ⟨d.objs,aO "got" g d.d⟩) n=A (x (f i) b (k+100) (c+39)) gS 1 eH.body ⟨e a,cR l⟩ K n)
  (p:aU (x (f i) b (k+97) (c+38)) jb (fX (cR l) (fX [] n)) (aT 0 gx.body) ⟨e a,cR l⟩ (fK (cR l) λg d=>eT (x (f i) b (k+100) (c+39)) gS (fX [] n) eH.body (1+1) (fK [] K) .next ⟨d.objs,aO "got" g d.d⟩)):
  av (x (f i) b (k+100) (c+39)) none eH [.obj 0,.c (y l)] ⟨e a,[]⟩ K n:=by refine c2 (cr:=cR l) (by kernel_rfl) (λm m=>by kernel_rfl) (j 0 ⟨?_⟩);have o:=(aB (j 1 (a9 ⟨c2 (cr:=cR l) (by kernel_rfl) (λm m=>by kernel_rfl) ⟨p⟩⟩ (q (K:=eT (x (f i) b (k+100) (c+39)) gS (fX [] n) eH.body (1+1) (fK [] K)))))).go;obtain⟨h,Y,rfl,r⟩:=s;exact Jh r o
def uR(b:B)(d:N):aI->List (Nat×bF)
 | .call _=>hy b d
 | .e' _=>h8
 |_=>cy b d
def Rt(c:HS b a):a.r.U.length<=1000:=L c.mi (L (jZ (jZ (iC 3 (L c.bu (ee c.b3.F))) (cb 10)) (iC 3 (L c.D c.b3.L))) (by decide))
abbrev CB(b:List (Nat×bF))(i:Frag)(k c:Nat)(l:List Str)(K n:af):Q:=fK (cR l) λd a=>eT (x (f i) b (k+100) (c+39)) gS (fX [] n) eH.body (1+1) (fK [] K) .next ⟨a.objs,aO "got" d a.d⟩
def AH{d:List (Str×Y)}{K n:af}(f:HS b a)(g:decide (b.F<a.r.S+1)=false)(h:K .none ⟨e (a.st a.r.a)++[],d⟩):hW (c+38) [.obj 0] ⟨e a,d⟩ K n:=
 ⟨a,[],_,f.ok,rfl,rfl,aD 4 (c+34),λj=>h,λi=>absurd (i.symm.trans (f.F▸g)) (by decide)⟩
def AG{f:List (Str×Y)}{K n:af}(d:HS b a)(g:decide (b.F<a.r.S+1)=true)(h:Hx (a5 b a.D) a n a.r.a .C):hW (c+38) [.obj 0] ⟨e a,f⟩ K n:=
 ⟨a,[],_,d.ok,rfl,rfl,aD 4 (c+34),λi=>absurd (i.symm.trans (d.F▸g)) (by decide),λj=>Hx.at h _ (.C false) u⟩
section
variable{B A:af}{u:aI}
def Js(h:HS b a)(m:u.Ok)(n:isNone u=false)(g:decide (b.F<a.r.S+1)=true)(j:Hx (a5 b a.D) a (fX (cR (u.res a.r)) (fX [] A)) a.r.a .C):
  av (x (f i) (uR b d u) (k+100) (c+39)) none eH [.obj 0,.c (y (u.res a.r))] ⟨e a,[]⟩ B A:=by
 have l:=s3 (r:=a.r) m;induction u using aI.casesOn with
 |call s=>exact nC l CC (z (AG h g j) (Cf (k:=k+7)))
 |e' o=>exact nC l CD (Cg (k:=k+7) (AG h g j))
 |_=>exact nC l yi (Ce (k:=k+7) m n rfl (AG h g j))
def jg(m:HS b a)(g:u.Ok)(l:isNone u=false)(n:Ey u=false)(j:decide (b.F<a.r.S+1)=false)(h:Bg (cy b d) i (k+7) c (u.res a.r) (a.st a.r.a) (CB (cy b d) i k c (u.res a.r) B A) (fX (cR (u.res a.r)) (fX [] A))):
  av (x (f i) (cy b d) (k+100) (c+39)) none eH [.obj 0,.c (y (u.res a.r))] ⟨e a,[]⟩ B A:=nC (s3 g) yi (Ce (k:=k+7) g l n (AH m j h))
def px{h:M}{q:g}{t:o}(m:∀a,q= .ok a->∀j v,B (.str a) ⟨e (h.st t)++j,v⟩):KS (CB (cy b d) i k c l B A) h q t:=λa n v=>
 z (Q:=aU (x (f i) (cy b d) (k+100) (c+39)) gS (fX [] A) (aT 2 eH.body) ⟨e (h.st t)++[],jf l (.str a)⟩ (fK [] B)) (P:=fK [] B (.ret (.str a)) ⟨e (h.st t)++[],jf l (.str a)⟩) (m a n [] []) Jk
def Ju{Q:Nat}(o:HS b a)(Y:bb b d)(n:decide (b.F<a.r.S+1)=false)(w:HS b (a.st a.r.a))(O:aM a.D 7 a.r.a)(W:a.r.U.length<=1000)(H:aK b a.D 4<=c+37)(P:aR b t)
  (G:∀C D,some (C,D)=some (q,t)->j9 a C D B) (T:∀C D,some (C,D)=some (q,t)->iG b a C D A) (g:u.Ok) (X:isNone u=false) (l:s2 d b Q u a.D a.r a.r.a=some (q,t)):
  av (x (f i) (uR b d u) (k+100) (c+39)) none eH [.obj 0,.c (y (u.res a.r))] ⟨e a,[]⟩ B A:=by
 have F:∀{C D},some (C,D)=some (q,t)->Hx (a5 b a.D) (a.st a.r.a) (fX [] A) D C:=λZ=>(T _ _ Z).jy.fX [];induction u using aI.casesOn with
 |gb I=>exact aA (X)
 |kW I s=>exact jg o g rfl rfl n (IJ w g.1 g.2 H O.mono P l (px (G _ _ rfl)) ((F rfl).fX _))
 |eK ai I XD ah=>exact jg o g rfl rfl n (Ix w g.1 g.2.1 g.2.2.1 g.2.2.2 H O P l (px (G _ _ rfl)) ((F rfl).fX _))
 |f3 m M s=>
  have U:(aI.f3 m M s).res a.r=bo m::(dG (J.res a.r) M++[E s]):=by rcases m with _|_<;>rfl
  have l:nN d b m s a.D Q M a.r.a a.r.a=some (q,t):=by unfold nN;refine h (zo ..) ?_;exact l
  refine jg o g rfl rfl n ?_;refine h (U ..) ?_;exact Iw w g.2 g.1 H O.mono P l (px (G _ _ rfl)) ((F rfl).fX _)
 |brk=>exact jg o g rfl rfl n (Iq ((F l).fX _))
 |cont=>exact jg o g rfl rfl n (Iv ((F l).fX _))
 |n1 p=>
  have V:(a.r.a.get p).val=(a.r.get p).val:=by rcases p with _|_|_<;>rfl
  refine jg o g rfl rfl n (IB (w:=a.st a.r.a) w.ok (L (w.Hl p) (by decide)) ?_);refine h (show((a.st a.r.a).r.get p).val=(a.r.get p).val from V) ?_;exact px (G _ _ l)
 |iv p I=>exact jg o g rfl rfl n (IF w.ok (px (G _ _ l)))
 |dc I=>exact jg o g rfl rfl n (II (w:=a.st a.r.a) W (px (G _ _ l)))
 |raise XC=>exact jg o g rfl rfl n (IH g w.ok ((F l).fX _))
 |go s=>
  refine jg o g rfl rfl n (z ?_ (IA (k:=k+7)));refine(?_:eT (x (f i) (cy b d) (k+100) (c+39)) gS (fX [] A) eH.body (1+1) (fK [] B) .next ⟨e (a.st a.r.a)++cP s false,jf [fu,E s] (.obj 20)⟩);exact(aB (j 2 (a9 ⟨N4 (k:=k+6) w g (e7 (L H (fU _))) l (λp N K v=>(e4 ⟨G _ _ rfl p N K []⟩).go) λXF=>F rfl⟩ Ji))).go
 |call s=>
  have l:fF (d s a.D a.r.a) (λq r=>some (hg q,r))=some (q,t):=l;obtain⟨C,D,R,S⟩:=fe l;refine nC (s3 g) CC (z (AH o n (z ?_ (Iu (k:=k+7)))) (Cf (k:=k+7)));refine(?_:eT (x (f i) (hy b d) (k+100) (c+39)) gS (fX [] A) eH.body (1+1) (fK [] B) .next ⟨e (a.st a.r.a)++cP s true,jf [ep,E s] (.obj 20)⟩);exact(aB (j 2 (a9 ⟨N2 (k:=k+6) w g (e7 (L H (fU _))) R (Y s _ _ _ _ g w.V (dA n) R) (λp N K v=>(e4 ⟨G _ _ S p N K []⟩).go) ((T _ _ S).fX [])⟩ Jj))).go
 |e' XE=>exact nC (s3 g) CD (Cg (k:=k+7) (AH o n (IK ((F l).fX _))))
def Jr{D:Nat}(g:HS b a)(z:bb b d)(o:u.Ok)(H:aK b a.D 4<=c+37)(n:hK d b D u a.D a.r=some (q,t))(F:j9 a q t B)(G:iG b a q t A):
  av (x (f i) (uR b d u) (k+100) (c+39)) none eH [.obj 0,.c (y (u.res a.r))] ⟨e a,[]⟩ B A:=by
 have C:=lE g.b3 z o g.V g.bu n;have E:∀h m,some (h,m)=some (q,t)->j9 a h m B:=λs s v=>eQ (P:=λq r=>j9 a q r B) v.symm F;have p:∀h m,some (h,m)=some (q,t)->iG b a h m A:=λs s v=>eQ (P:=λq r=>iG b a q r A) v.symm G;rcases l:isNone u with _|_
 . rcases j:decide (b.F<a.r.S+1) with _|_
   . have w:aM a.D 7 a.r.a:=aM.a (k:=7) g.mi;exact Ju g z j (g.st (g.V.a g.bu) (dA j) w.mono) w (Rt g) H C.V E p o l (yt l j n)
   . exact Js g o l j (((p _ _ (ys l j n)).jy.fX []).fX _)
 . induction u using aI.casesOn with
   |gb I=>exact nC (s3 o) yi (ID (k:=k+7) ((p _ _ n).jy.fX []))
   |_=>exact aA (l)
end
end
inductive t8(c:B)(go:N)(d:Nat)(args:List Y)(st:St)(K X:af):Prop
 |mk (a g h b j f i):HS c a->aI.Ok b->args=[.obj 0,.c (y (b.res a.r))]->st=⟨e a++g,h⟩->aK c a.D 7<=d->hK go c j b a.D a.r=some (f,i)->dm (a5 c a.D+100) a g h K X i f (kO f)->t8 c go d args st K X
section
variable{C:au}{p:Program}{c:Frag}{a:B}{b:N}
def wI{a:g}{c:Y}(d:kO a=some c):∃b,a= .ok b/\c= .str b:=by rcases a with _|⟨_,_,_,_,_⟩|_<;>cases d;exact⟨_,rfl,rfl⟩
def Kj(d:aC C.hb (f c))(e:aV (f c))(h:bb a b)(g:∀k,az (C.more k) p 463 (cp a b)) (i:aI):dS C p (uR a b i):=by
 have j:az C p 463 (cp a b):=by have:=g [];rw [show C.more []=C from by rcases C with⟨_,_,_⟩;simp [au.more]] at this;exact this
 have l:dS C p (cy a b):=⟨tf d e,W5 d e h g,OC d e h g,MQ d e h g,At d e,HD d e,j,iU d e,DF d e,u⟩;induction i using aI.casesOn with
 |call s=>exact⟨tf d e,j,u⟩
 |e' m=>exact⟨tf d e,iU d e,u⟩
 |_=>exact l
def Jt(e:aC C.hb (f c))(l:aV (f c))(k:bb a b)(z:∀h,az (C.more h) p 463 (cp a b)):az C p 477 (t8 a b):=by
 rintro n M Q I K ⟨F,H,O,m,N,v,P,d,o,w,x,j,q,B⟩;subst w;subst x;obtain⟨n,rfl⟩:=fQ j;have t:=lE d.b3 k o d.V d.bu q;exact n2 e (bt e l (λh=>(Kj (C:=C.more h) e l k (hc (Q:=λC=>az C p 463 (cp a b)) z h) m)) 100 (n+39)) (e.fn 477 _ rfl) d.ok (show aH 19 [.obj 0,.c (y (m.res F.r))] from⟨(a' rfl:0<19),b5 _,u⟩) (d.cH t.V) (λr D=>by obtain⟨R,_,rfl⟩:=wI D;trivial) B λJ L i=>
  Jr (k:=0) d k o (by unfold aK at j⊢;exact(bV j (by simp+arith only))) q (λr A=>by subst A;exact i) (by
   induction v using g.casesOn with
   |ok r=>exactλs s s G E=>by rcases G with _|_<;>exact E.elim
   |C=>exact i
   |M=>exact i)
end
structure i'(r:o)(a b:Str):Prop where
 aE:(ds a none (some 1)).length.ble sizeLine=true
 is:(Fast.sEq (ds a none (some 1)) (Str.ofString "$")=false/\b=a)\/(Fast.sEq (ds a none (some 1)) (Str.ofString "$")=true/\∃v:Vn,(ds a (some 1) none).length.ble sizeLine=true/\ds a (some 1) none=v.str/\b=(r.get v).val)
inductive nq(r:o):List Str->List Str->Prop
 |nil:nq r [] []
 |cons {a c:Str} {b us:List Str}:i' r a c->nq r b us->nq r (a::b) (c::us)
section
variable{r:o}
def bK{t:Str}(a:(ds t none (some 1)).length.ble sizeLine=true)(b:Fast.sEq (ds t none (some 1)) (Str.ofString "$")=false):i' r t t:=⟨a,.inl ⟨b,rfl⟩⟩
def tG(b:Vn){a:Str}(c:(ds a none (some 1)).length.ble sizeLine=true)(d:Fast.sEq (ds a none (some 1)) (Str.ofString "$")=true)(e:(ds a (some 1) none).length.ble sizeLine=true)(f:ds a (some 1) none=b.str):i' r a (r.get b).val:=⟨c,.inr ⟨d,b,e,f,rfl⟩⟩
def jT{a:Nat}(b:a<6):i' r (E a) (E a):=by
 rcases a with _|_|_|_|_|_|a
 . exact bK (by kernel_rfl) (by kernel_rfl)
 . exact bK (by kernel_rfl) (by kernel_rfl)
 . exact bK (by kernel_rfl) (by kernel_rfl)
 . exact bK (by kernel_rfl) (by kernel_rfl)
 . exact bK (by kernel_rfl) (by kernel_rfl)
 . exact bK (by kernel_rfl) (by kernel_rfl)
 . exact(absurd b (by simp+arith))
def xw{a:Nat}(b:a<4):i' r (n a) (n a):=by
 rcases a with _|_|_|_|a
 . exact bK (by kernel_rfl) (by kernel_rfl)
 . exact bK (by kernel_rfl) (by kernel_rfl)
 . exact bK (by kernel_rfl) (by kernel_rfl)
 . exact bK (by kernel_rfl) (by kernel_rfl)
 . exact(absurd b (by simp+arith))
def Xg{a:Nat}(b:a<8):i' r (dN a) (dN a):=by
 rcases a with _|_|_|_|_|_|_|_|a
 . exact bK (by kernel_rfl) (by kernel_rfl)
 . exact bK (by kernel_rfl) (by kernel_rfl)
 . exact bK (by kernel_rfl) (by kernel_rfl)
 . exact bK (by kernel_rfl) (by kernel_rfl)
 . exact bK (by kernel_rfl) (by kernel_rfl)
 . exact bK (by kernel_rfl) (by kernel_rfl)
 . exact bK (by kernel_rfl) (by kernel_rfl)
 . exact bK (by kernel_rfl) (by kernel_rfl)
 . exact(absurd b (by simp+arith))
def qQ(a:Vn):i' r a.str a.str:=by rcases a with _|_|_<;>exact bK (by kernel_rfl) (by kernel_rfl)
def Xi(a:Nm):i' r a.str a.str:=by rcases a with _|_|_|_|_|_<;>exact bK (by kernel_rfl) (by kernel_rfl)
def Xh(a:J):i' r a.str (a.res r):=by
 induction a using J.casesOn with
 |dx=>exact tG .x (by kernel_rfl) (by kernel_rfl) (by kernel_rfl) (by kernel_rfl)
 |dy=>exact tG .y (by kernel_rfl) (by kernel_rfl) (by kernel_rfl) (by kernel_rfl)
 |_=>exact bK (by kernel_rfl) (by kernel_rfl)
def Ba(a:Tx):i' r a.str (a.res r):=by
 induction a using Tx.casesOn with
 |dx=>exact tG .x (by kernel_rfl) (by kernel_rfl) (by kernel_rfl) (by kernel_rfl)
 |dy=>exact tG .y (by kernel_rfl) (by kernel_rfl) (by kernel_rfl) (by kernel_rfl)
 |dz=>exact tG .z (by kernel_rfl) (by kernel_rfl) (by kernel_rfl) (by kernel_rfl)
 |_=>exact bK (by kernel_rfl) (by kernel_rfl)
theorem Bb{b:Nat}(c:b<6):∀a:List (Nm×J),nq r (dG J.str a++[E b]) (dG (J.res r) a++[E b])
 |[]=> .cons (jT c) .nil
 |(e,d)::a=> .cons (Xi e) (.cons (Xh d) (Bb c a))
def Hz{b:aI}(a:b.Ok):nq r b.words (b.res r):=by
 induction b using aI.casesOn with
 |kW t s=>exact .cons (bK (by kernel_rfl) (by kernel_rfl)) (.cons (xw a.1) (.cons (jT a.2) .nil))
 |eK ai t f ah=>exact .cons (bK (by kernel_rfl) (by kernel_rfl)) (.cons (jT a.1) (.cons (xw a.2.1) (.cons (jT a.2.2.1) (.cons (jT a.2.2.2) .nil))))
 |f3 m c s=>
  cases m
  . exact .cons (bK (t:=dD) (by kernel_rfl) (by kernel_rfl)) (Bb a.2 c)
  . exact .cons (bK (t:=dE) (by kernel_rfl) (by kernel_rfl)) (Bb a.2 c)
 |brk=>exact .cons (bK (by kernel_rfl) (by kernel_rfl)) .nil
 |cont=>exact .cons (bK (by kernel_rfl) (by kernel_rfl)) .nil
 |n1 aj=>exact .cons (bK (by kernel_rfl) (by kernel_rfl)) (.cons (qQ aj) .nil)
 |iv aj t=>exact .cons (bK (by kernel_rfl) (by kernel_rfl)) (.cons (qQ aj) (.cons (Ba t) .nil))
 |dc t=>exact .cons (bK (by kernel_rfl) (by kernel_rfl)) (.cons (Ba t) .nil)
 |raise e=>exact .cons (bK (by kernel_rfl) (by kernel_rfl)) (.cons (Xg a) .nil)
 |go s=>exact .cons (bK (by kernel_rfl) (by kernel_rfl)) (.cons (jT a) .nil)
 |call s=>exact .cons (bK (by kernel_rfl) (by kernel_rfl)) (.cons (jT a) .nil)
 |gb t=>exact .cons (bK (by kernel_rfl) (by kernel_rfl)) (.cons (Ba t) .nil)
 |e' d=>
  cases d with
  |jS t=>exact .cons (bK (by kernel_rfl) (by kernel_rfl)) (.cons (xw a) .nil)
  |eK t=>exact .cons (bK (by kernel_rfl) (by kernel_rfl)) (.cons (jT (by decide)) (.cons (xw a) (.cons (jT (by decide)) .nil)))
  |kB=>exact .cons (bK (by kernel_rfl) (by kernel_rfl)) (.cons (qQ .x) (.cons (bK (by kernel_rfl) (by kernel_rfl)) .nil))
  |kG=>exact .cons (bK (by kernel_rfl) (by kernel_rfl)) (.cons (qQ .x) (.cons (bK (by kernel_rfl) (by kernel_rfl)) (.cons (qQ .y) (.cons (jT (by decide)) .nil))))
  |ke=>exact .cons (bK (by kernel_rfl) (by kernel_rfl)) (.cons (qQ .x) .nil)
  |kh=>exact .cons (bK (by kernel_rfl) (by kernel_rfl)) (.cons (bK (by kernel_rfl) (by kernel_rfl)) .nil)
end
def jA(f:Option Nat)(c:ay)(r:O)(a:I)(i:Expr)(g:List Expr)(e:Expr)(b:List Y->St->Prop)(j d:List Y)(h:St):Prop:=(lF c r a i g (u2 f r e a) j d h).A b λk k=>False
abbrev iQ:aL:=c (m 70) []
noncomputable def lH(a:B)(b:N):List (Nat×bF):=[(477,t8 a b),(597,m3)]
def Q9(a:Option Stmt):Expr:=eS 0 (eS 1 (eR a 0))
def Rb(a:Option Stmt):Expr:=eS 1 (eS 1 (eR a 0))
def Ra(a:Option Stmt):Scope:=qD (eS 1 (eR a 0))
abbrev zL:Option Stmt:=t iQ.body 2
abbrev zK:Option Stmt:=t (bX zL) 0
noncomputable abbrev bA:List ae:=[.cell (some (.obj 0))]
noncomputable abbrev iZ(a:Y):List (Str×Y):=[("text",a)]
def Bd:Option Y->List (Str×Y)
 |none=>[]
 |some a=>iZ a
section
variable{i:Frag}{n:B}{o:N}{w:M}{k l:Nat}{g:List Y->St->Prop}{d:Str}{b a:List Y}{c:Option Y}
abbrev qN(i:Frag)(n:B)(o:N)(k l:Nat)(g:List Y->St->Prop)(b a:List Y)(c:St):Prop:=jA none (f i) (x (f i) (lH n o) (k+90) (l+39)) ⟨e6 (Ra zK) iQ.scope,none,[("host",19)]⟩ (Rb zK) [] (Q9 zK) g b a c
def WT:cond (Nat.ble (C a) sizeLine) (cond (Nat.ble (ds d none (some 1)).length sizeLine) (cond (Fast.sEq (ds d none (some 1)) (Str.ofString "$")) (cond (Nat.ble (ds d (some 1) none).length sizeLine) (m3 (l+39) [.obj 0,.str (ds d (some 1) none)] ⟨e w++bA,iZ (.str d)⟩ (λh f=>qN i n o k l g b (aJ a h) f) λj j=>False) False) (qN i n o k l g b (aJ a (.str d)) ⟨e w++bA,iZ (.str d)⟩)) False) False=qN i n o k l g (.str d::b) a ⟨e w++bA,Bd c⟩:=by rcases c with _|_<;>kernel_rfl
def Ka(v:w.Ok){b j:List Str}(f:nq w.r b j):∀(a:List Str)(c:Option Y),a.length+b.length<=1000->(∀c,g (y (a++j)) ⟨e w++bA,Bd c⟩)->qN i n o k l g (y b) (y a) ⟨e w++bA,Bd c⟩:=by
 induction f with
 |nil=>exactλa c A p=>(et a▸p c:g (y a) _)
 | @cons d q b j f _ x=>
  intro a c s p;have r:qN i n o k l g (y b) (aJ (y a) (.str q)) ⟨e w++bA,iZ (.str d)⟩:=by refine h (rr ..) ?_;exact x (a++[q]) (some (.str d)) (by refine h (eV ..) ?_;exact L (ed (mX a.length 1 b.length)) s) λc=>(jX a [q] j).symm▸p c
  refine WT▸aY (Nat.ble_eq.mpr (ho a▸L (L (c5 _ _) s) (by decide))) (aY f.aE ?_);rcases f.is with⟨m,rfl⟩|⟨m,z,t,u,rfl⟩
  . exact dX m r
  . exact aY m (aY t (.mk w bA _ z v (u▸rfl) rfl (aD _ _) r))
end
def HA{a:aI}(c:a.Ok):a.words.length<=1000:=by
 refine a' ?_;induction a using aI.casesOn with
 |f3 m f s=>
  rcases c.1 with b|b
  . obtain⟨d,rfl⟩:=List.length_eq_one_iff.mp b;rcases m with _|_<;>kernel_rfl
  . obtain⟨d,g,rfl⟩:=jx b;rcases m with _|_<;>kernel_rfl
 |e' e=>induction e using Wr.casesOn<;>kernel_rfl
 |_=>kernel_rfl
abbrev kH(a:Nat)(b:Str):List (Str×Y):=[("script",.str (E a)),("result",.str b)]
noncomputable def kU:Option Y->List (Str×Y)
 |none=>[]
 |some a=>[("words",a)]
section
variable{l:Frag}{a:B}{d:N}{w:M}{k i z t:Nat}{s:Q}{n:af}{c:aI}{h:List aI}{q:Str}{b:Option Y}{v:o}{u:g}
abbrev v4(l:Frag)(a:B)(d:N)(k i:Nat)(s:Q)(n:af)(c:List Y)(b:St):Prop:=bO none (f l) (x (f l) (lH a d) (k+99) (i+39)) ⟨iQ.scope,none,lB 19 iQ.scope.names []⟩ (cc zL) (bX zL) [] s n c b
def RY:qN l a d (k+6) i (λj g=>t8 a d (i+39) [.obj 0,.c j] ⟨g.objs,kH t q++kU (some (.c (y c.words)))⟩ (λm f=>v4 l a d k i s n (cS h) ⟨f.objs,aO "result" m f.d⟩) (bT n)) (y c.words) [] ⟨e w++bA,[]⟩=v4 l a d k i s n (cS (c::h)) ⟨e w++bA,kH t q++kU b⟩:=by rcases b with _|_<;>kernel_rfl
def Q3(M:bb a d)(G:aK a w.D 7<=i+39)(E:∀B,u= .ok B->∀b,s .next ⟨e (w.st v)++bA,kH t B++kU b⟩) (F:Hx (a5 a w.D+100) w n v u) (h:List aI):
  ∀(q:Str)(r:o)(b:Option Y),HS a (w.st r)->(∀c∈h,c.Ok)->hL d a z w.D h q r=some (u,v)->v4 l a d k i s n (cS h) ⟨e (w.st r)++bA,kH t q++kU b⟩:=by
 induction h with
 |nil=>
  intro q r b f x g;cases g;exact E _ rfl b
 |cons c h K=>
  intro q r b f x g;obtain⟨p,D,C,g⟩:=fe g;have j:=x c (.head _);have m:=lE f.b3 M j f.V f.bu C;refine RY (w:=w.st r)▸Ka (w:=w.st r) f.ok (Hz j) [] none (L (ed (t3 _)) (HA j)) λQ=> ?_;refine .mk (w.st r) bA _ c z p D f j rfl rfl G C (dm.z0 (λB A=> ?_) λA=> ?_)
  . obtain⟨N,I,rfl⟩:=wI A;subst I;exact K N D (some (.c (y c.words))) (HS.st (w:=w.st r) f m.V (m.C (λP=>aA (T cF P))) (dC f.mi m.b2.U (by simp+arith only))) (λO J=>x O (.tail _ J)) g
  . have H:cF p=false:=by rcases p with _|⟨_,_,_,_,_⟩|_<;>first|rfl|cases A
    rw [H] at g;cases g;exact F.tb
end
section
variable{c:Frag}{g:B}{l:N}{w:M}{a k i:Nat}{b:Q}{d:af}{n:Str}{q:Option Y}{o:List Y}
abbrev v5(a:Nat):List (Str×Y):=[("script",.str (E a))]
abbrev sv:I:=⟨iQ.scope,none,lB 19 iQ.scope.names []⟩
def RZ:cond (Nat.ble (C w.r.U) sizeLine) (b .next ⟨e (w.st {w.r with U:=aJ w.r.U (dM a w.D)})++bA,v5 a⟩) False=A (x (f c) (lH g l) (k+100) (i+39)) sv 0 iQ.body ⟨e w++bA,v5 a⟩ b d:=by kernel_rfl
def R0:b .next ⟨e w++bA,kH a H++kU none⟩=A (x (f c) (lH g l) (k+100) (i+39)) sv 1 iQ.body ⟨e w++bA,v5 a⟩ b d:=by kernel_rfl
def R1(m:U (E a) w.aW=some (.c o))(j:v4 c g l k i b d o ⟨e w++bA,kH a H++kU none⟩):A (x (f c) (lH g l) (k+100) (i+39)) sv 2 iQ.body ⟨e w++bA,kH a H++kU none⟩ b d:=by
 conv=>whnf
 refine h (m ..) ?_;exact j
def R2:b (.ret (.str n)) ⟨e w++bA,kH a n++kU q⟩=A (x (f c) (lH g l) (k+100) (i+39)) sv 3 iQ.body ⟨e w++bA,kH a n++kU q⟩ b d:=by kernel_rfl
end
def Q8{t:Frag}{c:B}{h:N}(F:bb c h){w:M}{a k p v:Nat}{d:g}{l:o}{m n:af}(b:HS c w)(r:a<6)(i:aM w.D 9 w.r)(A:aK c w.D 7<=p+39)
  (q:hL h c v w.D (c.aW a) H (w.r.dc (dM a w.D))=some (d,l))(y:j9 w d l m)(z:iG c w d l n):
  av (x (f t) (lH c h) (k+100) (p+39)) none iQ [.obj 0,.str (E a)] ⟨e w,[]⟩ m n:=by
 have i:w.r.U.length<=3*w.r.S+9+3*w.D:=i;have C:w.r.U.length<=16777216:=L b.mi (L (jZ (mV (iC 3 (L b.bu (ee b.b3.F))) 10) (iC 3 (L b.D b.b3.L))) (by decide));have u:w.r.dc (dM a w.D)={w.r with U:=aJ w.r.U (dM a w.D)}:=T (λJ=>({w.r with U:=J}:o)) (c0 ..).symm;have s:HS c (w.st (w.r.dc (dM a w.D))):=b.st (u9 b.V a w.D) b.bu (by
  refine(?_:(w.r.U++[dM a w.D]).length<=3*w.r.S+10+3*w.D);rw [List.length_append];refine(?_:w.r.U.length+1<=_);exact(bV i (by simp+arith only)))
 rw [u] at q s;exact y9 (md:=v5 a) (ms:=e w++bA) (cx:=sv) (by kernel_rfl) (λI I=>by kernel_rfl) (j 0 (a9 ⟨aY (Nat.ble_eq.mpr (aZ w.r.U▸C)) (aB (j 1 (a9 (aB (j 2 ⟨R1 (w:=w.st {w.r with U:=aJ w.r.U (dM a w.D)}) (b.aW a r)
  (Q3 F (w:=w) (k:=k) A (λG D K=>(aB (j 3 (a9 (e4 ⟨y G D _ []⟩) R2))).go) (Hx.fX z []) (c.aW a) H _ none s (b.b3.aW a r).2 q)⟩)) R0))).go⟩ RZ))
inductive uc(c:B)(go:N)(d:Nat)(args:List Y)(st:St)(K X:af):Prop
 |mk (a h i b j f g):HS c a->b<6->aM a.D 9 a.r->args=[.obj 0,.str (E b)]->st=⟨e a++h,i⟩->aK c a.D 8<=d->hL go c j a.D (c.aW b) H (a.r.dc (dM b a.D))=some (f,g)->aR c g->
  dm (a5 c a.D+100) a h i K X g f (kO f)->uc c go d args st K X
section
variable{C:au}{p:Program}{b:Frag}{a:B}{d:N}
def Ku(c:aC C.hb (f b))(e:aV (f b))(i:bb a d)(h:∀g,az (C.more g) p 463 (cp a d)):dS C p (lH a d):=⟨Jt c e i h,At c e,u⟩
def Q4(c:aC C.hb (f b))(j:aV (f b))(m:bb a d)(t:∀e,az (C.more e) p 463 (cp a d)):az C p 718 (uc a d):=by
 rintro k M Q I K ⟨S,H,O,F,N,q,P,i,w,x,r,s,l,z,A,y⟩;subst r;subst s;obtain⟨k,rfl⟩:=fQ l;exact n2 c (bt c j (λe=>(Ku c j m (hc (Q:=λC=>az C p 463 (cp a d)) t e))) 100 (k+39)) (c.fn 718 _ rfl) i.ok (show aH 19 [.obj 0,.str (E F)] from⟨(a' rfl:0<19),u,u⟩) (i.cH A) (λn B=>by obtain⟨R,_,rfl⟩:=wI B;trivial) y λJ L h=>
  Q8 (k:=0) m i w x (mG l) z (λn v=>by subst v;exact h) (by
   induction q using g.casesOn with
   |ok n=>exactλo o o G D=>by rcases G with _|_<;>exact D.elim
   |C=>exact h
   |M=>exact h)
def PL(a:M)(b:Int):ae:= .dict [(sJ,.obj 2),(sI,.obj 3),(kI,q a.L),(jD,q a.F),(sD,.int b),(kJ,q a.r.S),(sE,q 0),(sH,.none),(sC,.none),(oi,.obj 4),(sB,.obj 5),(sG,.obj 6)]
def ur(a:M)(b:Int):List ae:= .bj 664 1::PL a b::(e a).tail.tail
abbrev jr:aL:=c (db 54 4) []
noncomputable def kj(a:B)(d:N):List (Nat×bF):=[(718,uc a d),(84,fA)]
def UF{b a:Nat}(c:12*(b+1)+40+0<=a+40):12*b+40+8<=a+39:=bV c (by simp+arith only)
def J3{g:Type}{a:Bool}{f b c:g}(d:a=false)(e:cond a f b=c):b=c:=by subst d;exact e
def J4{g:Type}{a:Bool}{b f c:g}(d:a=true)(e:cond a b f=c):b=c:=by subst d;exact e
abbrev qA(a:Nat):List (Str×Y):=[("self",.obj 0),("script",.str (E a))]
abbrev kN(a:Nat):List (Str×Y):=[("self",.obj 0),("script",.str (E a)),("runner",.d 718)]
abbrev mE:I:=⟨jr.scope,none,[]⟩
abbrev Gb(b:Frag)(a:B)(d:N)(k c:Nat):O:=x (f b) (kj a d) (k+99) (c+39)
@[irreducible] def Au(b:Frag)(a:B)(d:N)(k e:Nat)(g c:af):af:=λi h=>r0 (Gb b a d k e) mE (tx (t jr.body 3)).2 (eT (x (f b) (kj a d) (k+100) (e+39)) mE (fX [] c) jr.body 4 (fK [] g)) (fX [] c) (.ret i) h
@[irreducible] def wE(b:Frag)(a:B)(d:N)(k e:Nat)(c:af):af:=bT λg f=>r1 (Gb b a d k e) mE (tx (t jr.body 3)).2 (fX [] c) g f
section
variable{n:N}{w:M}{c k h:Nat}{i:cj}{t:Y}
section
variable{g:Q}{o:af}
def Ut:cond (decide (Int.ofNat w.L<=Int.ofNat w.D)) (fA (h+38) [q 1,.str mP,.l (y [bJ,mN,mO])] ⟨e w,[("text",.str mP),("errorcode",.l (y [bJ,mN,mO]))]⟩ (wJ b (qA c) o) (fX (qA c) o)) (g .next ⟨e w,qA c⟩)=A (x (f b) (kj a n) (k+100) (h+39)) mE 0 jr.body ⟨e w,qA c⟩ g o:=by kernel_rfl
def Uu:g .next ⟨e w,kN c⟩=A (x (f b) (kj a n) (k+100) (h+39)) mE 1 jr.body ⟨e w,qA c⟩ g o:=by kernel_rfl
def Uv:g .next ⟨e {w with D:=w.D+1}++[],kN c⟩=A (x (f b) (kj a n) (k+100) (h+39)) mE 2 jr.body ⟨e w,kN c⟩ g o:=by kernel_rfl
end
variable{s l:af}
def Uw:uc a n (h+39) [.obj 0,.str (E c)] ⟨e w++[],kN c⟩ (Au b a n k h s l) (wE b a n k h l)=A (x (f b) (kj a n) (k+100) (h+39)) mE 3 jr.body ⟨e w++[],kN c⟩ (eT (x (f b) (kj a n) (k+100) (h+39)) mE (fX [] l) jr.body 4 (fK [] s)) (fX [] l):=by kernel_rfl
def Ux:s t ⟨ur w (Int.ofNat (w.D+1)-1)++[],[]⟩=Au b a n k h s l t ⟨e {w with D:=w.D+1}++[],kN c⟩:=by kernel_rfl
def Uz:l (.obj 20) ⟨ur w (Int.ofNat (w.D+1)-1)++i.objs 19,[]⟩=wE b a n k h l (.obj 20) ⟨e {w with D:=w.D+1}++i.objs 19,kN c⟩:=by rcases i with _|_<;>kernel_rfl
def FT{w:M}:ur w (Int.ofNat (w.D+1)-1)=e w:=T (ur w) (show((w.D+1:Nat):Int)-1=(w.D:Int) by simp)
def Nq(w:M)(i:cj):dh 19 (e w++i.objs 19) (.obj 20) i:=by
 rcases i with i|i
 . exact DL w i
 . exact DJ w i
def Uy{f:g}{d:o}{m p:Nat}(u:m<=p)(j:hZ p w s l d f (kO f)):dm m {w with D:=w.D+1} [] (kN c) (Au b a n k h s l) (wE b a n k h l) d f (kO f):=by
 have q:Hx p w l d f->∀i,iE m f i->wE b a n k h l (.obj 20) ⟨e {w.st d with D:=w.D+1}++i.objs 19,kN c⟩:=λj i r=>z (FT (w:=w.st d)▸j _ [] _ i (r.up u) (Nq (w.st d) i)) (Uz (w:=w.st d));induction f using g.casesOn with
 |ok t=>exact z (FT (w:=w.st d)▸j [] []) (Ux (w:=w.st d))
 |C=>exact q j
 |M=>exact q j
def UL{i r:Nat}{n:g}{q:o}(d:HS a w)(F:c<6)(D:aK a w.D 0<=h+40)(m:dP a i (r+1) c w.D w.r=some (n,q))(G:aR a q)(u:hZ (a5 a w.D) w s l q n (kO n)):
  av (x (f b) (kj a (dP a i r)) (k+100) (h+39)) none jr [.obj 0,.str (E c)] ⟨e w,[]⟩ s l:=by
 refine c2 (cr:=qA c) (by kernel_rfl) (λK K=>by kernel_rfl) (j 0 (a9 ⟨?_⟩ Ut));have m:cond (Nat.beq w.D a.L) (some (nM,w.r)) (hL (dP a i r) a i (w.D+1) (a.aW c) H (w.r.dc (dM c (w.D+1))))=some (n,q):=by refine ba (m ..) ?_;refine(?_:_=(match Nat.beq w.D a.L with|true=>some (nM,w.r)|false=>hL (dP a i r) a i (w.D+1) (a.aW c) H (w.r.dc (dM c (w.D+1)))));rcases Nat.beq w.D a.L with _|_<;>rfl
 induction p:Nat.beq w.D a.L using Bool.casesOn with
 |true=>
  cases J4 p m;refine aY (iD (Int.ofNat_le.mpr (d.L▸ed (dR p).symm))) (.mk 1 mP [bJ,mN,mO] 0 0 (.inr (.inl ⟨rfl,rfl,rfl⟩)) (aD 6 (h+32)) ?_);exact z (P:=l (.obj 19) ⟨e w++s7 1 mP [bJ,mN,mO] 0 0,[]⟩) (u (s7 1 mP [bJ,mN,mO] 0 0) [] (.obj 19) (.a7 (d2 1 mP [bJ,mN,mO] 0 0)) ⟨_,_,_,rfl,bU _,(λJ=>aA J)⟩ (rT w (d2 1 mP [bJ,mN,mO] 0 0) [] 19 rfl rfl)) (by kernel_rfl)
 |false=>
  have m:=J3 p m;have v:w.D≠a.L:=λt=>by rw [t,Nat.beq_refl] at p;cases p
  have y:=d.D;have B:w.D<a.L:=Nat.lt_of_le_of_ne y v;have A:w.r.U.length<=3*w.r.S+10+3*w.D:=d.mi;have I:HS a {w with D:=w.D+1}:=⟨d.L,d.F,d.aW,d.a6,⟨d.ok.U,d.ok.aW,d.ok.a6⟩,B,d.b3,d.V,d.bu,bV A (by simp+arith only)⟩;have C:(a.L-(w.D+1))+1=a.L-w.D:=Nat.succ_pred_eq_of_pos (Nat.sub_pos_of_lt B);refine dX (k7 λt=>v (xK y (d.L▸Int.ofNat_le.mp t))) (aB (j 1 (a9 (aB (j 2 (a9 (aB (j 3 (a9 ⟨?_⟩ Uw))) Uv))) Uu))).go;exact .mk {w with D:=w.D+1} [] _ c i n q I F (bV A (by simp+arith only)) rfl rfl (UF (C▸D:12*((a.L-(w.D+1))+1)+40+0<=h+40)) m G (Uy (C▸cb _:10000+100*((a.L-(w.D+1))+1)<=10000+100*(a.L-w.D)) u)
end
def UN(g:aC C.hb (f b))(i:aV (f b))(q:a.Ok)(d c:Nat):∀(Z:List Addr),az (C.more Z) p 463 (cp a (dP a d c)):=by
 induction c using Nat.rec with
 |zero=>
  rintro Z j x H v w ⟨I,t,F,m,y,G,e,l,n,o,k,h,r⟩;exact bh h
 |succ c D=>
  rintro Z j x H v w ⟨I,t,F,m,y,G,e,l,n,o,k,h,r⟩;subst n;subst o;obtain⟨j,rfl⟩:=fQ k;have s:=(p' q d (c+1) m _ _ _ _ l e.V e.bu h).V;have A:∀Y,az ((C.more Z).more Y) p 463 (cp a (dP a d c)):=λY=>(oh (C:=C) (Y:=Z) (Z:=Y)).symm▸D _;exact n2 (C:=C.more Z) g (bt (C:=C.more Z) (ct:=kj a (dP a d c)) g i (λY=>⟨Q4 (C:=(C.more Z).more Y) g i (p' q d c) (hc (Q:=λC=>az C p 463 (cp a (dP a d c))) A Y),iU g i,u⟩) 100 (j+39)) (g.fn 463 _ rfl) e.ok (show aH 19 [.obj 0,.str (E m)] from⟨(a' rfl:0<19),u,u⟩) (e.cH s) (λM B=>by obtain⟨L,_,rfl⟩:=wI B;trivial) r λJ K z=>
   UL (k:=0) e l k h s z
end
def hQ(a:np):Y:= .l [.str a.val,q a.wr]
def Xj(a:M):ae:= .dict [(ml,.obj 1),(mn,.obj 2),(kI,q a.L),(jD,q a.F),(kJ,q a.r.S),(mm,.obj 3),(oi,.obj 4)]
def l(a:M):List ae:=[Xj a,.dict a.aW,.dict a.a6,.c a.r.U,.dict [(eO,hQ a.r.x),(fv,hQ a.r.y),(hf,hQ a.r.z)]]
def ax:g->Y
 | .ok aj=> .l [q 0,.str aj,.l [.str bC],q 0,q 0]
 | .M k aj a b c=> .l [q k,.str aj,.l (y a),q b,q c]
 | .C=> .l [.str jD,.str H,.l [],q 0,q 0]
structure de(a:M):Prop where
 U:aH 5 a.r.U
 aW:bB 5 a.aW
 a6:bB 5 a.a6
def de.cL{b:M}(a:de b):dn 5 (l b):=by
 refine⟨?_,a.aW,a.a6,a.U,?_,u⟩;all_goals
  repeat' first|exact u|exact a' rfl|refine And.intro ?_ ?_
def f4{k:Nat}:∀a:g,dq k (ax a)
 | .ok aj=>⟨u,u,⟨u,u⟩,u,u,u⟩
 | .M _ _ _ _ _=>⟨u,u,b5 _,u,u,u⟩
 | .C=>⟨u,u,u,u,u,u⟩
def nK{C:au}{p:Program}{i:ay}{n:Nat}{r:O}{q:aL}{o:Nat}{f:List Y}{a:M}{G:List ae}{g:List (Str×Y)}{e m:af}(u:aC C.hb i)(z:b1 ⟨C,p,i,n,r⟩)(E:fc C.hb o q)(P:de a)(A:aH 5 f)
  (y:∀k w:af,(∀b h s j c,de b->bL 5 (cm (List.range 5) (5+G.length) []) (l b++h) j c->e c ⟨l b++G,g⟩->k j ⟨l b++h,s⟩)->Mine.Internal.av r none q f ⟨l a,[]⟩ k w):Made C p o (n+1) f ⟨l a++G,g⟩ e m:=by rintro S T ⟨X,XC,W,U⟩ Z rfl F H B L R v t K D;have x:(l a++G).length=5+G.length:=eV;refine d.rC (k:=⟨C,p,i,n,r⟩) (n:=5) (ix:=List.range 5) u z E F H B L R e m (.mk (l a) f xG (λV I=>tX I) (Aj (ob:=l a++G) rfl P.cL) (.same A) (y _ _ λb h s j c Q N J=> ?_)) v t K D;refine .mk [] (l b) [] g c (pU rfl Q.cL) rfl (x.symm▸N) ?_;refine(?_:e c ⟨fx (List.range 5) (l b) (l a++G)++[],g⟩);rw [List.append_nil,qv (k:=5) (P':=l b) (P:=l a) (G:=G) rfl rfl];exact J
structure DS(c:B)(w:M):Prop where
 L:w.L=c.L
 F:w.F=c.F
 aW:∀a,a<6->U (E a) w.aW=some (.c (cS (c.aW a)))
 a6:∀b,b<4->U (n b) w.a6=some (hP (c.a6 b))
 ok:de w
 b3:c.Ok
 V:aR c w.r
 bu:w.r.S<=c.F
 mi:w.r.U.length<=1000
inductive df(c:B)(go:N)(d:Nat)(args:List Y)(st:St)(K X:af):Prop
 |mk (b f h e a g i):DS c b->e<6->a<=c.L->aM a 10 b.r->args=[.obj 0,.str (E e),q a]->st=⟨l b++f,h⟩->aK c a 0<=d->go e a b.r=some (g,i)->K (ax g) ⟨l (b.st i)++f,h⟩->df c go d args st K X
inductive x0(c:B)(go:N)(d:Nat)(args:List Y)(st:St)(K X:af):Prop
 |mk (a f g j e h i):DS c a->j<4->e<=c.L->aM e 10 a.r->args=[.obj 0,.str (n j),q e]->st=⟨l a++f,g⟩->aK c e 3<=d->er go c j e a.r=some (h,i)->
  (∀b,h= .ok b->K (.l [.bool b,ax (.ok H)]) ⟨l (a.st i)++f,g⟩)->(∀k,h= .error k->K (.l [.bool false,ax k]) ⟨l (a.st i)++f,g⟩)->x0 c go d args st K X
def WP(r:o)(a:Vn):U a.str [(eO,hQ r.x),(fv,hQ r.y),(hf,hQ r.z)]=some (hQ (r.get a)):=by rcases a with _|_|_<;>rfl
def hO:List (Str×Y):=og [] [(Str.ofString "1",Y.bool true),(Str.ofString "yes",Y.bool true),(Str.ofString " 2 ",Y.bool true),(Str.ofString "tr",Y.bool true),(Str.ofString "0",Y.bool false),(Str.ofString "off",Y.bool false),(Str.ofString "0x0",Y.bool false)]
def oN(a c:Bool){b:Option Y}{o:Option Bool}(k:b=o.map Y.bool):cond a (some (Y.bool c)) b=(cond a (some c) o).map Y.bool:=by
 rcases a with _|_
 . exact k
 . rfl
def oO(a c:Bool){b:Bool}{o:Option Bool}(k:b=o.isSome):cond a true b=(cond a (some c) o).isSome:=by
 rcases a with _|_
 . exact k
 . rfl
def Wv(a:Str):U a hO=(e8 a).map Y.bool:=z (oN (Fast.sEq d7 a) true (oN (Fast.sEq tV a) true (oN (Fast.sEq tI a) true (oN (Fast.sEq tQ a) true (oN (Fast.sEq c4 a) false (oN (Fast.sEq tO a) false (oN (Fast.sEq tH a) false (o:=none) (Eq.refl none)))))))) (by kernel_rfl)
def Ha(a:Str):lS a hO=(e8 a).isSome:=z (oO (Fast.sEq d7 a) true (oO (Fast.sEq tV a) true (oO (Fast.sEq tI a) true (oO (Fast.sEq tQ a) true (oO (Fast.sEq c4 a) false (oO (Fast.sEq tO a) false (oO (Fast.sEq tH a) false (o:=none) (Eq.refl false)))))))) (by kernel_rfl)
abbrev g7:aL:=c (m 88) []
noncomputable def gU(a:B)(b:N):List (Nat×bF):=[(798,df a b)]
abbrev ib:I:=⟨g7.scope,none,[]⟩
abbrev Dy(b a:Nat):List (Str×Y):=[("world",.obj 0),("asked",.str (n b)),("depth",q a)]
abbrev pQ(e c:Nat)(a b m d:Y):List (Str×Y):=[("world",.obj 0),("asked",.str (n e)),("depth",q c),("sort",a),("about",b),("many",m),("is_not",d)]
abbrev g4(f c:Nat)(a b m e:Y)(d:g):List (Str×Y):=[("world",.obj 0),("asked",.str (n f)),("depth",q c),("sort",a),("about",b),("many",m),("is_not",e),("ended",ax d)]
def DE:ae:= .c [.l [q 1,.str Bj,.l (y [Bh,xy]),q 0,q 0],.l [q 2,.str k3,.l (y [bC]),q 1,q 0],.l [q 2,.str k3,.l (y [bC]),q 1,q 3],.l [q 2,.str qU,.l (y [bC]),q 1,q 4],
 .l [q 5,.str k2,.l (y [bC]),q 0,q 0],.l [q 2,.str c4,.l (y [bC]),q 2,q 0],.l [q 3,.str k2,.l (y [bC]),q 0,q 0],.l [q 4,.str k2,.l (y [bC]),q 0,q 0]]
section
variable{D:Frag}{v:B}{w:N}{b:M}{a d k C:Nat}{e:Q}{y:af}{u s m c:Y}{i:g}{t:List ae}
def uW(i:U (n a) b.a6=some (.l [u,s,m,c]))(g:e .next ⟨l b,pQ a d u s m c⟩):A (x (f D) (gU v w) (k+100) (C+39)) ib 0 g7.body ⟨l b,Dy a d⟩ e y:=by
 conv=>whnf
 refine h (i ..) ?_;exact g
def L6{g:Nat}(i:g<8)(h:e .next ⟨l b++[DE],g4 a d (q 3) (q g) m c (ends g)⟩):A (x (f D) (gU v w) (k+100) (C+39)) ib 1 g7.body ⟨l b,pQ a d (q 3) (q g) m c⟩ e y:=by
 rcases g with _|_|_|_|_|_|_|_|g;iterate 8 (apply z h;kernel_rfl)
 exact absurd i (Nat.not_lt.mpr (aD _ _))
def L7:df v w (C+39) [.obj 0,s,q d] ⟨l b,pQ a d (q 2) s m c⟩ (λh g=>e .next ⟨g.objs,aO "ended" h g.d⟩) y=A (x (f D) (gU v w) (k+100) (C+39)) ib 1 g7.body ⟨l b,pQ a d (q 2) s m c⟩ e y:=by kernel_rfl
def L8{g:Str}:e .next ⟨l b++[],g4 a d (q 1) (.str g) m c (.ok g)⟩=A (x (f D) (gU v w) (k+100) (C+39)) ib 1 g7.body ⟨l b,pQ a d (q 1) (.str g) m c⟩ e y:=by kernel_rfl
def L9{c:Vn}{h:Nat}{g:Bool}(m:(b.r.get c).val.length<9223372036854775808)(j:cond (rS b c h g) (e .next ⟨l b++[],g4 a d (q 0) (.str c.str) (q h) (.bool g) (.ok d7)⟩) (e .next ⟨l b++[],g4 a d (q 0) (.str c.str) (q h) (.bool g) (.ok c4)⟩)):
  A (x (f D) (gU v w) (k+100) (C+39)) ib 1 g7.body ⟨l b,pQ a d (q 0) (.str c.str) (q h) (.bool g)⟩ e y:=by
 have i:=aY (Q:=False) (Nat.blt_eq.mpr m) j;rcases c with _|_|_
 . apply z i;kernel_rfl
 . apply z i;kernel_rfl
 . apply z i;kernel_rfl
def L'(r:∀c h n o a,i= .M c h n o a->1<=c) (p:cond (cF i) (e .next ⟨l b++t,g4 a d u s m c i⟩) (e (.ret (.l [.bool false,ax i])) ⟨l b++t,g4 a d u s m c i⟩)):A (x (f D) (gU v w) (k+100) (C+39)) ib 2 g7.body ⟨l b++t,g4 a d u s m c i⟩ e y:=by
 induction i using g.casesOn with
 |ok h=>apply z p;kernel_rfl
 |C=>apply z p;kernel_rfl
 |M j h n o q=>
  have p:e (.ret (.l [.bool false,ax (.M j h n o q)])) ⟨l b++t,g4 a d u s m c (.M j h n o q)⟩:=p;suffices hz:cond (!aw j 0) (e (.ret (.l [.bool false,ax (.M j h n o q)])) ⟨l b++t,g4 a d u s m c (.M j h n o q)⟩) (e .next ⟨l b++t,g4 a d u s m c (.M j h n o q)⟩) by(apply z hz;kernel_rfl)
  exact aY (qp (ma λB=>by have:=r _ _ _ _ _ rfl;omega)) p
abbrev lJ(a d:Nat)(u s m c:Y)(b:Str):List (Str×Y):=[("world",.obj 0),("asked",.str (n a)),("depth",q d),("sort",u),("about",s),("many",m),("is_not",c),("ended",ax (.ok b)),("truths",.obj 5)]
def Ma{g:Str}:e .next ⟨l b++[.dict hO],lJ a d u s m c g⟩=A (x (f D) (gU v w) (k+100) (C+39)) ib 3 g7.body ⟨l b++[],g4 a d u s m c (.ok g)⟩ e y:=by kernel_rfl
def Mb{g:Str}(i:g.length<=9000)(n:cond (!lS g hO) (e (.ret (.l [.bool false,ax (pR g)])) ⟨l b++[.dict hO],lJ a d u s m c g⟩) (e .next ⟨l b++[.dict hO],lJ a d u s m c g⟩)):A (x (f D) (gU v w) (k+100) (C+39)) ib 4 g7.body ⟨l b++[.dict hO],lJ a d u s m c g⟩ e y:=by
 suffices hz:cond (!lS g hO) (cond (Nat.ble (32+g.length) sizeLine) (cond (Nat.ble ((Str.ofString "expected boolean value but got \""++g).length+1) sizeLine) (e (.ret (.l [.bool false,ax (pR g)])) ⟨l b++[.dict hO],lJ a d u s m c g⟩) False) False) (e .next ⟨l b++[.dict hO],lJ a d u s m c g⟩) by(apply z hz;kernel_rfl)
 have j:Nat.ble (32+g.length) sizeLine=true:=Nat.ble_eq.mpr (L (jW i 32) (by decide));have e2:Nat.ble ((Str.ofString "expected boolean value but got \""++g).length+1) sizeLine=true:=Nat.ble_eq.mpr (by
  refine(?_:(mQ.cps++g.cps).size+1<=16777216);refine h (qZ ..) ?_;exact L (q0 (jW i 32)) (by decide))
 refine h (j ..) ?_;refine h (e2 ..) ?_;exact n
def Mc{g:Str}{j:Bool}(o:e8 g=some j)(n:e (.ret (.l [.bool j,ax (.ok H)])) ⟨l b++[.dict hO],lJ a d u s m c g⟩):A (x (f D) (gU v w) (k+100) (C+39)) ib 5 g7.body ⟨l b++[.dict hO],lJ a d u s m c g⟩ e y:=by
 have i:U g hO=some (.bool j):=by refine h (Wv ..) ?_;refine h (o ..) ?_;rfl
 conv=>whnf
 refine h (i ..) ?_;exact n
def Mn{A:Except g Bool}{t:List ae}(r:gC i=A)(G:cF i=true->t=[])(J:∀c h F M a,i= .M c h F M a->1<=c) (K:∀h,i= .ok h->h.length<=9000)
  (I:∀n,A= .ok n->∀t z,e (.ret (.l [.bool n,ax (.ok H)])) ⟨l b++t,z⟩) (B:∀i,A= .error i->∀t z,e (.ret (.l [.bool false,ax i])) ⟨l b++t,z⟩):
  Go (aU (x (f D) (gU v w) (k+100) (C+39)) ib y (aT 2 g7.body) ⟨l b++t,g4 a d u s m c i⟩ e):=by
 refine j 2 ⟨L' J (fG (λp=> ?_) λp=> ?_)⟩
 . obtain⟨h,rfl⟩:=qa p;cases G p;refine(aB (j 3 (a9 (aB (j 4 ⟨Mb (K h rfl) (fG (λo=> ?_) λo=> ?_)⟩)) Ma))).go
   . have L:e8 h=none:=by
      have:=Ha h;rw [this] at o;cases q:e8 h with
      |none=>rfl
      |some n=>rw [q] at o;cases o
     exact(e4 ⟨B _ (r▸y6 L) _ _⟩).go
   . obtain⟨n,E⟩:∃n,e8 h=some n:=by
      have:=Ha h;rw [this] at o;induction q:e8 h using Option.casesOn with
      |none=>rw [q] at o;cases o
      |some n=>exact⟨n,rfl⟩
     exact(aB (j 5 ⟨Mc E (e4 ⟨I n (r▸y7 E) _ _⟩).go⟩)).go
 . refine(e4 ⟨B _ ?_ _ _⟩).go;refine ba (r ..) ?_;rcases i with _|⟨_,_,_,_,_⟩|_<;>first|rfl|cases p
def Mp{E:Except g Bool}{M:o}{e y:af}(XQ:bb v w)(z:DS v b)(V:a<4)(XJ:d<=v.L)(XM:aM d 10 b.r)(XI:aK v d 0<=C+39)(p:er w v a d b.r=some (E,M))
  (XH:∀s,E= .ok s->∀t K,e (.l [.bool s,ax (.ok H)]) ⟨l (b.st M)++t,K⟩) (XG:∀i,E= .error i->∀t K,e (.l [.bool false,ax i]) ⟨l (b.st M)++t,K⟩):
  av (x (f D) (gU v w) (k+100) (C+39)) none g7 [.obj 0,.str (n a),q d] ⟨l b,[]⟩ e y:=by
 have A:=z.a6 a V;have I:=z.b3.a6 a V;have P:∀{i:g}{F:o}{t:List ae}{u s m c:Y},some (gC i,F)=some (E,M)->(cF i=true->t=[])->(∀c h G J a,i= .M c h G J a->1<=c)->(∀h,i= .ok h->h.length<=9000)->Go (aU (x (f D) (gU v w) (k+100) (C+39)) ib (fX [] y) (aT 2 g7.body) ⟨l (b.st F)++t,g4 a d u s m c i⟩ (fK [] e)):=
  λZ=>eQ Z.symm (P:=λE F=>gC _=E->_->_->_->Go (aU (x (f D) (gU v w) (k+100) (C+39)) ib (fX [] y) (aT 2 g7.body) ⟨l (b.st F)++_,g4 a d _ _ _ _ _⟩ (fK [] e))) (λO XD XE XF=>Mn O XD XE XF (λN XO t K=>XH N XO t []) λi XK t K=>XG i XK t []) rfl
 unfold er at p;unfold hP at A;unfold d8.Ok at I;generalize (v.a6 a).te=XS at p I A;generalize (v.a6 a).oe=X at p A;generalize (v.a6 a).n6=W at p A;refine c2 (cr:=Dy a d) (by kernel_rfl) (λQ Q=>by kernel_rfl) (j 0 ?_);induction XS using x7.casesOn with
 |size h=>
  have r:(b.r.get h).val.length<9223372036854775808:=hD (z.V.i4 h).aE z.bu z.b3.F (by simp+arith only);have p:some (gC (.ok (match rS b h X W with|true=>d7|false=>c4)),b.r)=some (E,M):=DI b h X W▸p;refine⟨uW A (aB (j 1 ⟨L9 r (fG (λU=> ?_) λU=> ?_)⟩)).go⟩;all_goals
   rw [U] at p;exact(aB (P p (λQ=>rfl) nofun λh r=>by cases r;decide)).go
 |iY B=>exact⟨uW A (aB (j 1 (a9 (aB (P p (λQ=>rfl) nofun λh r=>by cases r;exact L (G2 B) (by decide))) L8))).go⟩
 |mJ B=>
  refine aS λXT XR=> ?_;obtain⟨⟨i,F⟩,O,XC⟩:=Option.map_eq_some_iff.mp p;refine XR ?_;have S:=XQ B _ _ _ _ I z.V z.bu O;exact⟨uW A (aB (j 1 (a9 ⟨.mk b [] _ B d i F z I XJ XM rfl rfl XI O (aB (P (T some XC) (λQ=>rfl) (λc h G J a N=>(S.M c h G J a N).2.1) λh r=>L (S.aE z.b3.F h r) (by decide))).go⟩ L7))).go⟩
 |raise B=>
  have R:=(rR B).2;exact⟨uW A (aB (j 1 ⟨L6 I (aB (P (N1 R▸p) (λXN=>(qa XN).elim λh r=>absurd r (R h)) (λc h G J a N=>((yX B).M c h G J a N).2.1) λh r=>absurd r (R h))).go⟩)).go⟩
end
abbrev nU:aL:=c (m 87) []
noncomputable def fh(a:B)(b:N):List (Nat×bF):=[(798,df a b),(840,x0 a b)]
def jw:Option Nat->Str
 |none=>H
 |some a=>E a
def QV(a:Nat):Fast.sEq (jw (some a)) (Str.ofString "")=false:=wK (x:=E a) (y:=⟨#[]⟩) (λb=>by cases b)
abbrev kn(e b c:Nat)(d:Option Nat)(a:Except g Bool):List (Str×Y):=[("world",.obj 0),("asked",.str (n e)),("body",.str (E b)),("later",.str (jw d)),("depth",q c),("is_so",.bool (iy a)),("ended",ax (g6 a))]
def Dm{e a b:Nat}{c:Option Nat}{d:Except g Bool}:bB 5 (kn e a b c d):=⟨(a' rfl:0<5),u,u,u,u,u,f4 _,u⟩
def zf{c:Type}{f:i8 c}{k:Nat}{P P' J:List ae}{i b:List (Str×Y)}{d:c->St->Prop}{e a:c}(l:P.length=k)(h:P'.length=k)(n:dn k P')(o:di k (cm (List.range k) P.length []) (P'++J) i b)(m:f k (cm (List.range k) P.length []) (P'++J) e a)(j:d a ⟨P'++[],b⟩):
  fb f none k (List.range k) P d e ⟨P'++J,i⟩:= .mk [] P' [] b a (pU h n) o m (by
 have g:=qv (G:=[]) h l;rw [List.append_nil] at g;rw [g,List.append_nil (P'++[])];exact j)
def DS.cH{a:B}{c:M}{r:o}(b:DS a c)(d:aR a r):de (c.st r):=⟨yn d.U,b.ok.aW,b.ok.a6⟩
def DS.st{b:B}{w:M}{r:o}{c k:Nat}(a:DS b w)(d:aR b r)(e:r.S<=b.F)(g:c<=b.L)(f:aM c k r)(h:k<=20:=by decide):DS b (w.st r):=
 ⟨a.L,a.F,a.aW,a.a6,a.cH d,a.b3,d,e,by have:=a.b3.F;have:=a.b3.L;unfold aM at f;refine(?_:r.U.length<=1000);omega⟩
abbrev gZ:List Stmt:=jP (t nU.body 1)
abbrev Dn:Expr:=hp (t nU.body 1)
abbrev fZ:I:=⟨nU.scope,none,[]⟩
abbrev c'(e a b:Nat)(d:Option Nat)(c:g):List (Str×Y):=[("world",.obj 0),("asked",.str (n e)),("body",.str (E a)),("later",.str (jw d)),("depth",q b),("is_so",.bool true),("ended",ax c)]
section
variable{y:Frag}{n:B}{s:N}{w:M}{a c b k t:Nat}{d:Option Nat}{i:Q}{v:af}{r C:o}{e:g}{J:List ae}
def Lx:cond (!decide (Int.ofNat r.S+1<=Int.ofNat w.F)) (i (.ret (ax .C)) ⟨l (w.st r.a)++J,c' a c b d e⟩) (i .next ⟨l (w.st r.a)++J,c' a c b d e⟩)=
  A (x (f y) (fh n s) (k+90) (t+39)) fZ 0 gZ ⟨l (w.st r)++J,c' a c b d e⟩ i v:=by kernel_rfl
noncomputable abbrev d':List ae:=[.c [.int 0,.int 4]]
def Ly:df n s (t+39) [.obj 0,.str (E c),q b] ⟨l w++J,c' a c b d e⟩ (λh g=>i .next ⟨g.objs,aO "ended" h g.d⟩) v=A (x (f y) (fh n s) (k+90) (t+39)) fZ 1 gZ ⟨l w++J,c' a c b d e⟩ i v:=by kernel_rfl
abbrev yP(n:B)(s:N)(t a c b:Nat)(w:M)(e:g)(i:Q)(v:af)(d:Option Nat):Prop:=
 cond (!Fast.sEq (jw d) (Str.ofString "")) (df n s (t+39) [.obj 0,.str (jw d),q b] ⟨l w++d',c' a c b d e⟩ (λh f=>i .next ⟨f.objs,aO "ended" h f.d⟩) v) (i .next ⟨l w++d',c' a c b d (.ok H)⟩)
def Lz{e:Str}:yP n s t a c b w (.ok e) i v d=A (x (f y) (fh n s) (k+90) (t+39)) fZ 2 gZ ⟨l w++[],c' a c b d (.ok e)⟩ i v:=by kernel_rfl
def LA{e:Nat}{m:Str}{g:List Str}{h j:Nat}:cond (nu (Int.ofNat e) [0,4]) (yP n s t a c b w (.M e m g h j) i v d) (i .next ⟨l w++d',c' a c b d (.M e m g h j)⟩)=
  A (x (f y) (fh n s) (k+90) (t+39)) fZ 2 gZ ⟨l w++[],c' a c b d (.M e m g h j)⟩ i v:=by kernel_rfl
def LB:i .next ⟨l w++d',c' a c b d .C⟩=A (x (f y) (fh n s) (k+90) (t+39)) fZ 2 gZ ⟨l w++[],c' a c b d .C⟩ i v:=by kernel_rfl
def LC{e:Str}:i .next ⟨l w++d',c' a c b d (.ok e)⟩=A (x (f y) (fh n s) (k+90) (t+39)) fZ 3 gZ ⟨l w++d',c' a c b d (.ok e)⟩ i v:=by kernel_rfl
def LD{e:Nat}{m:Str}{g:List Str}{h j:Nat}:cond (!aw e 0) (cond (aw e 3) (i (.ret (ax (.ok H))) ⟨l w++d',c' a c b d (.M e m g h j)⟩) (i (.ret (ax (.M e m g h j))) ⟨l w++d',c' a c b d (.M e m g h j)⟩)) (i .next ⟨l w++d',c' a c b d (.M e m g h j)⟩)=
  A (x (f y) (fh n s) (k+90) (t+39)) fZ 3 gZ ⟨l w++d',c' a c b d (.M e m g h j)⟩ i v:=by kernel_rfl
def LF:i (.ret (ax .C)) ⟨l w++d',c' a c b d .C⟩=A (x (f y) (fh n s) (k+90) (t+39)) fZ 3 gZ ⟨l w++d',c' a c b d .C⟩ i v:=by kernel_rfl
def LG{D:Str}{e:Except g Bool}{C:o}(z:DS n w)(B:a<4)(p:b<=n.L)(r:aM b 10 w.r)(m:aK n b 3<=t+39)(u:er s n a b w.r=some (e,C))(h:i .next ⟨l (w.st C)++d',kn a c b d e⟩):
  A (x (f y) (fh n s) (k+90) (t+39)) fZ 4 gZ ⟨l w++d',c' a c b d (.ok D)⟩ i v:=
 ⟨w,d',_,a,b,e,C,z,B,p,r,rfl,rfl,m,u,λE j=>by subst j;exact h,λF q=>by subst q;exact h⟩
def Ms{e:I}{j:List (Str×Y)}{run:St->ab bg}(q:de w)(p:bB 5 j)(n:lC 5 e.cells)(o:pz 5 e.hd)
  (k:∀(d:Q)(m:af),(∀a J b,de a->bB 5 b->i .next ⟨l a++[],b⟩->d .next ⟨l a++J,b⟩)->(∀a J b c,de a->dq 5 c->i (.ret c) ⟨l a++[],[]⟩->d (.ret c) ⟨l a++J,b⟩)->(run ⟨l w,j⟩).A d m):
  (fo hv e (some 5) run ⟨l w++[],j⟩).A i v:=
 ⟨rfl,q.cL,p,n,o,k _ _ (λa J b g h f=>zf (P:=l w) (P':=l a) rfl rfl g.cL (.same h) (.inr ⟨rfl,nofun⟩) f) λa J b c g h f=>zf (P:=l w) (P':=l a) rfl rfl g.cL .drop (.inl ⟨_,_,rfl,rfl,.same h⟩) f⟩
def Mt{g:O}{d:I}{t:Expr}{j:List Stmt}{e:List (Str×Y)}{m:Nat}(k:Bool)(s:de w)(r:bB 5 e)(x:lC 5 d.cells)(y:pz 5 d.hd)(D:∀(u:Bool->St->Prop) z,u k ⟨l w,e⟩->(g.B d t ⟨l w,e⟩).A u z)
  (B:k=false->i .next ⟨l w++[],e⟩)
  (C:k=true->∀(f:Q)(n:af),(∀a J b,de a->bB 5 b->cv (some 5) g d t j [] i v m ⟨l a++[],b⟩->f .next ⟨l a++J,b⟩)->(∀a J b h,de a->dq 5 h->i (.ret h) ⟨l a++[],[]⟩->f (.ret h) ⟨l a++J,b⟩)->aU g d n j ⟨l w,e⟩ f):
  cv (some 5) g d t j [] i v (m+1) ⟨l w++[],e⟩:=by
 refine⟨rfl,s.cL,r,x,y,D _ _ (zf (P:=l w) (P':=l w) (J:=[]) rfl rfl s.cL (.same r) rfl ?_)⟩;induction k using Bool.casesOn with
 |false=>exact B rfl
 |true=>exact Ms (run:=cU g d j) s r x y λf n A c=>C rfl f n (λa J b p q o=>A a J b p q o) λa J b h p q o=>c a J b h p q o
def s4(s:N)(n:B)(a c:Nat)(d:Option Nat)(t f:Nat)(b:Except g Bool)(r:o):dU:=
 cond (iy b) (hN n r λr=>fF (s c t r) λe r=>fF (gq s d t e r) λe r=>cond (cF e) (fO s n a c d t f r) (some (dw (.ok H) e,r))) (some (g6 b,r))
def EX{t b:Nat}{j:g×o}(e:fO s n a c d t b r=some j):∃i f h,b=i+1/\er s n a t r=some (f,h)/\s4 s n a c d t i f h=some j:=by
 induction b using Nat.casesAuxOn with
 |zero=>cases e
 |succ b=>
  obtain⟨f,h,k,e⟩:=fe e;exact⟨b,f,h,rfl,k,e⟩
def B3{a:Nat}(d:1<=a):nu (Int.ofNat a) [0,4]=aw a 4:=by
 refine(?_:cond (aw 0 a) true (cond (aw 4 a) true false)=aw a 4);refine h (ma (show 0≠a fromλb=>by subst b;cases d)) ?_;refine(?_:cond (aw 4 a) true false=aw a 4);induction c:aw a 4 using Bool.casesOn with
 |true=>refine h (n5 c ..) ?_;rfl
 |false=>refine h (ma (show 4≠a fromλb=>by subst b;cases c)) ?_;rfl
def LH{r:g}{m B:o}(M:cz e=true->DS n (w.st m))(J:b<=n.L)(K:aM b 10 m)(I:aK n b 0<=t+39)(L:∀h,d=some h->h<6) (G:∀h C F H a,e= .M h C F H a->1<=h) (j:gq s d b e m=some (r,B)) (u:i .next ⟨l (w.st B)++d',c' a c b d r⟩):
  A (x (f y) (fh n s) (k+90) (t+39)) fZ 2 gZ ⟨l (w.st m)++[],c' a c b d e⟩ i v:=by
 have D:cz e=true->yP n s t a c b (w.st m) e i v d:=λq=>by
  unfold gq at j;rw [q] at j;induction d using Option.casesOn with
  |none=>cases j;exact u
  |some h=>exact aY (qp (QV h)) ⟨w.st m,d',_,h,b,r,B,M q,L h rfl,J,K,rfl,rfl,I,j,u⟩
 have E:cz e=false->i .next ⟨l (w.st m)++d',c' a c b d e⟩:=λq=>by
  unfold gq at j;rw [q] at j;cases j;exact u
 induction e using g.casesOn with
 |ok C=>exact z (D rfl) Lz
 |C=>exact z (E rfl) LB
 |M h C F H N=>
  refine z (fG (λp=>D ?_) λp=>E ?_) LA
  . rw [B3 (G _ _ _ _ _ rfl)] at p;exact p
  . rw [B3 (G _ _ _ _ _ rfl)] at p;exact p
def LI(u:∀j m o p a,e= .M j m o p a->1<=j) (h:cond (cF e) (i .next ⟨l w++d',c' a c b d e⟩) (i (.ret (ax (dw (.ok H) e))) ⟨l w++d',c' a c b d e⟩)):
  A (x (f y) (fh n s) (k+90) (t+39)) fZ 3 gZ ⟨l w++d',c' a c b d e⟩ i v:=by
 induction e using g.casesOn with
 |ok m=>exact z h LC
 |C=>exact z h LF
 |M j m o p r=>
  have h:i (.ret (ax (cond (aw j 3) (.ok H) (.M j m o p r)))) ⟨l w++d',c' a c b d (.M j m o p r)⟩:=h;refine z (aY (qp (ma λB=>by have:=u _ _ _ _ _ rfl;omega)) (fG (λq=> ?_) λq=> ?_)) LD
  . rw [q] at h;exact h
  . rw [q] at h;exact h
def hs.eP{e:g}(h:hs n r e C):∀b f c d a,e= .M b f c d a->1<=b:=λb f c d a i=>(h.M _ _ _ _ _ i).2.1
def H7(p:bb n s){t:Nat}{i:o}{c:g}(m:∀b,d=some b->b<6) (k:hs n r e i) (l:gq s d t e i=some (c,C)):∀b j f h a,c= .M b j f h a->1<=b:=λb j f h a q=>((pl p m k l).2.2.M _ _ _ _ _ q).2.1
def HQ(w:M)(a c b:Nat)(d:Option Nat)(i:Q)(h:o)(e:g):Prop:=(∀J j,i (.ret (ax e)) ⟨l (w.st h)++J,j⟩)/\∀f,g6 f=e->i .next ⟨l (w.st h)++[],kn a c b d f⟩
def Um{j:Nat}{f:Except g Bool}{i:o}{h:g}(e:s4 s n a c d b j f r=some (h,i))(k:iy f=false):g6 f=h/\r=i:=by unfold s4 at e;rw [k] at e;cases e;exact⟨rfl,rfl⟩
def LO(O:bb n s)(z:DS n w)(XK:a<4)(XF:c<6)(Y:∀XM,d=some XM->XM<6) (D:b<=n.L) (S:aK n b 3<=t+39):
  ∀(K m:Nat)(B:Except g Bool)(r:o)(P:o)(Q:g),HQ w a c b d i P Q->aR n r->aM b 9 r->(iy B=true->r.S<=n.F)->s4 s n a c d b K B r=some (Q,P)->K<m->
   cv (some 5) (x (f y) (fh n s) (k+90) (t+39)) fZ Dn gZ [] i v m ⟨l (w.st r)++[],kn a c b d B⟩:=by
 intro K m;induction m using Nat.rec generalizing K with
 |zero=>exactλA A A A A A A A A X=>absurd X (eu _)
 |succ m XY=>
  intro B r P Q L Z XW M p X;have XX:=z.cH Z;refine Mt (iy B) XX Dm u u (λX3 X5 q=>q) (λF=> ?_) λF X4 X6 XS XN=> ?_
  . obtain⟨XT,e2⟩:=Um p F;exact e2▸L.2 _ XT
  . unfold s4 at p;rw [F] at p;obtain rfl:B= .ok true:=by
     induction B using Except.casesOn with
     |error e=>cases F
     |ok c=>rcases c with _|_<;>first|rfl|cases F
    have M:=M rfl;have XE:∀{q:Bool},decide (n.F<r.S+1)=q->(!decide (Int.ofNat r.S+1<=Int.ofNat w.F))=q:=λ{q} G=>by
     refine ba (G ..) ?_;refine ba (decide_not ..) ?_;refine h (z.F ..) ?_;exact decide_eq_decide.mpr (by refine(?_:¬(r.S:Int)+1<=(n.F:Int)↔n.F<r.S+1);omega)
    refine(j 0 (body:=gZ) (a9 ⟨?_⟩ (Lx (J:=[]) (e:= .ok H)))).go;rcases AI (C1 p) with⟨E,G⟩|⟨E,p⟩
    . cases G;exact aY (XE E) (XN (w.st r.a) _ _ _ (z.cH (Z.a M)) (f4 .C) (L.1 [] []))
    . obtain⟨e,X0,XH,p⟩:=fe p;refine aS λXR XD=> ?_;obtain⟨X7,XQ,R,p⟩:=fe p;have XJ:=Z.a M;have U:aM b 6 r.a:=XW.a;have C:=O c _ _ _ _ XF XJ (dA E) XH;have V:=U.A C;obtain⟨I,XG,_⟩:=pl O Y C R;refine XD ?_;have XV:cz e=true->e≠.C:=λX2 q=>by subst q;cases X2
      refine dX (XE E) (aB (j 1 (a9 ⟨⟨w.st r.a,[],_,c,b,e,X0,z.st XJ (dA E) D U,XF,D,U.mono,rfl,rfl,e7 S,XH,?_⟩⟩ Ly))).go;refine(aB (j 2 ⟨LH (w:=w) (λq=>z.st C.V (C.C (XV q)) D V) D V.mono (e7 S) Y C.eP R (aB (j 3 ⟨LI (w:=w.st XQ) (H7 O Y C R) (fG (λN=> ?_) λN=> ?_)⟩)).go⟩)).go
      . rw [N] at p;refine aS λXR XD=> ?_;obtain⟨XU,XZ,XO,rfl,XI,G⟩:=EX p;obtain⟨X8,rfl⟩:=qa N;refine XD ?_;have W:=V.b2 I (m:=8);have J:=fS z.b3 O XK I.V (XG (λXC=>aA (T cF XC))) XI;refine(aB (j 4 ⟨LG (w:=w.st XQ) (z.st I.V (XG (λXC=>aA (T cF XC))) D W) XK D W.mono S XI ?_⟩)).go;exact XS (w.st XO) _ _ (z.cH J.V) Dm (XY XU XZ XO _ _ L J.V (W.b2 J.b2 (m:=9)) (λq=>J.C λX1=>by subst X1;cases q) G (hq X))
      . rw [N] at p;cases p;exact XN (w.st P) _ _ _ (z.cH I.V) (f4 _) (L.1 [] [])
end
section
variable{w:Frag}{d:B}{t:N}{b:M}{c e a k u:Nat}{h:Option Nat}{s:Q}{v:af}{y:o}{z:g}{i:Except g Bool}
abbrev Dl(c e a:Nat)(h:Option Nat):List (Str×Y):=[("world",.obj 0),("asked",.str (n c)),("body",.str (E e)),("later",.str (jw h)),("depth",q a)]
def LJ(r:DS d b)(z:c<4)(n:a<=d.L)(p:aM a 10 b.r)(m:aK d a 3<=u+39)(q:er t d c a b.r=some (i,y))(g:s .next ⟨l (b.st y)++[],kn c e a h i⟩):
  A (x (f w) (fh d t) (k+100) (u+39)) fZ 0 nU.body ⟨l b,Dl c e a h⟩ s v:=
 ⟨b,[],_,c,a,i,y,r,z,n,p,rfl,rfl,m,q,λB j=>by subst j;exact g,λC o=>by subst o;exact g⟩
def LK{m:Nat}(g:cv (some 5) (x (f w) (fh d t) (k+99) (u+39)) fZ Dn gZ [] s v m ⟨l b++[],kn c e a h i⟩):A (x (f w) (fh d t) (k+100) (u+39)) fZ 1 nU.body ⟨l b++[],kn c e a h i⟩ s v:=⟨m,g⟩
def LL:s (.ret (ax (g6 i))) ⟨l b++[],kn c e a h i⟩=A (x (f w) (fh d t) (k+100) (u+39)) fZ 2 nU.body ⟨l b++[],kn c e a h i⟩ s v:=by kernel_rfl
def LP(G:bb d t)(g:DS d b)(r:c<4)(M:e<6)(N:∀I,h=some I->I<6) (D:a<=d.L) (F:aM a 8 b.r) (C:aK d a 3<=u+39) {J:Nat} {s v:af}
  (K:fO t d c e h a J b.r=some (z,y)) (B:∀o H,s (ax z) ⟨l (b.st y)++o,H⟩):
  av (x (f w) (fh d t) (k+100) (u+39)) none nU [.obj 0,.str (n c),.str (E e),.str (jw h),q a] ⟨l b,[]⟩ s v:=by refine aS λT O=> ?_;obtain⟨A,i,P,rfl,m,L⟩:=EX K;refine O ?_;have p:=fS g.b3 G r g.V g.bu m;exact c2 (cr:=Dl c e a h) (by kernel_rfl) (λQ Q=>by kernel_rfl) (j 0 ⟨LJ g r D F.mono C m (aB (j 1 ⟨LK (LO (w:=b) (k:=k+9) G g r M N D C A (A+1) i P _ _ ⟨λo H=>(e4 ⟨B o []⟩).go,λi m=>(aB (j 2 (a9 (e4 ⟨m▸B [] []⟩) LL))).go⟩ p.V (F.b2 p.b2) (λR=>p.C λS=>by subst S;cases R) L (hV _))⟩)).go⟩)
end
inductive pb(c:B)(go:N)(d:Nat)(args:List Y)(st:St)(K X:af):Prop
 |mk (e i k h b f a o j g):DS c e->h<4->b<6->(∀m,f=some m->m<6)->a<=c.L->aM a 8 e.r->args=[.obj 0,.str (n h),.str (E b),.str (jw f),q a]->st=⟨l e++i,k⟩->aK c a 4<=d->fO go c h b f a o e.r=some (j,g)->aR c g->
  K (ax j) ⟨l (e.st g)++i,k⟩->pb c go d args st K X
abbrev rW:aL:=c (m 86) []
noncomputable def pH(a:B)(b:N):List (Nat×bF):=[(798,df a b),(833,pb a b)]
abbrev yK:I:=⟨rW.scope,none,[]⟩
abbrev yL(a e d b c:Nat):List (Str×Y):=[("world",.obj 0),("words",.c (y [c3,E a,n e,E d,E b])),("depth",q c)]
abbrev lI(a f e b c:Nat)(d:g):List (Str×Y):=[("world",.obj 0),("words",.c (y [c3,E a,n f,E e,E b])),("depth",q c),("ended",ax d)]
section
variable{C:Frag}{i:B}{t:N}{w:M}{d c b e a k v:Nat}{h:Q}{u:af}{D:o}{s:g}
def Lc:df i t (v+39) [.obj 0,.str (E d),q a] ⟨l w,yL d c b e a⟩ (λj g=>h .next ⟨g.objs,aO "ended" j g.d⟩) u=A (x (f C) (pH i t) (k+100) (v+39)) yK 0 rW.body ⟨l w,yL d c b e a⟩ h u:=by kernel_rfl
def Ld(r:∀b m n o c,s= .M b m n o c->1<=b) (p:cond (cF s) (h .next ⟨l w++[],lI d c b e a s⟩) (h (.ret (ax s)) ⟨l w++[],lI d c b e a s⟩)):A (x (f C) (pH i t) (k+100) (v+39)) yK 1 rW.body ⟨l w++[],lI d c b e a s⟩ h u:=by
 induction s using g.casesOn with
 |ok m=>apply z p;kernel_rfl
 |C=>apply z p;kernel_rfl
 |M j m n o q=>
  have p:h (.ret (ax (.M j m n o q))) ⟨l w++[],lI d c b e a (.M j m n o q)⟩:=p;suffices hz:cond (!aw j 0) (h (.ret (ax (.M j m n o q))) ⟨l w++[],lI d c b e a (.M j m n o q)⟩) (h .next ⟨l w++[],lI d c b e a (.M j m n o q)⟩) by(apply z hz;kernel_rfl)
  exact aY (qp (ma λy=>by have:=r _ _ _ _ _ rfl;omega)) p
def Le:pb i t (v+39) [.obj 0,.str (n c),.str (E e),.str (jw (some b)),q a] ⟨l w++[],lI d c b e a s⟩ (λj g=>h (.ret j) g) u=A (x (f C) (pH i t) (k+100) (v+39)) yK 2 rW.body ⟨l w++[],lI d c b e a s⟩ h u:=by kernel_rfl
def Df(R:bb i t)(p:DS i w){F:Nat}(I:d<6)(Q:c<4)(N:b<6)(L:e<6)(r:a<=i.L)(z:aM a 7 w.r)(J:aK i a 4<=v+39){h u:af}
  (g:hM t i F d c b e a w.r=some (s,D))(P:aR i D)(G:∀K S,h (ax s) ⟨l (w.st D)++K,S⟩):
  av (x (f C) (pH i t) (k+100) (v+39)) none rW [.obj 0,.c (y [c3,E d,n c,E b,E e]),q a] ⟨l w,[]⟩ h u:=by
 obtain⟨B,A,H,g⟩:=fe g;have m:=R d _ _ _ _ I p.V p.bu H;refine c2 (cr:=yL d c b e a) (by kernel_rfl) (λT T=>by kernel_rfl) (j 0 (a9 ⟨⟨w,[],_,d,a,B,A,p,I,r,z.mono,rfl,rfl,e7 J,H,?_⟩⟩ Lc));refine(aB (j 1 ⟨Ld (w:=w.st A) m.eP (fG (λo=> ?_) λo=> ?_)⟩)).go
 . rw [o] at g;have M:B≠.C:=λU=>by subst U;cases o
   exact(aB (j 2 (a9 ⟨⟨w.st A,[],_,c,e,some b,a,F,s,D,p.st m.V (m.C M) r (z.A m),Q,L,(λV O=>by cases O;exact N),r,z.A m,rfl,rfl,J,g,P,(e4 ⟨G [] []⟩).go⟩⟩ Le))).go
 . rw [o] at g;cases g;exact(e4 ⟨G [] []⟩).go
end
inductive uh(c:B)(go:N)(d:Nat)(args:List Y)(st:St)(K X:af):Prop
 |mk (f j m a i g b e o k h):DS c f->a<6->i<4->g<6->b<6->e<=c.L->aM e 7 f.r->args=[.obj 0,.c (y [c3,E a,n i,E g,E b]),q e]->st=⟨l f++j,m⟩->aK c e 5<=d->hM go c o a i g b e f.r=some (k,h)->aR c h->
  K (ax k) ⟨l (f.st h)++j,m⟩->uh c go d args st K X
section
variable{a:au}{p:Program}{d:Frag}{b:B}{c:N}
def az.here{c:Nat}{b:bF}(e:∀d,az (a.more d) p c b):az a p c b:=by have:=e [];rw [show a.more []=a from by rcases a with⟨_,_,_⟩;simp [au.more]] at this;exact this
def Mq(h:aC a.hb (f d))(v:aV (f d))(t:bb b c)(D:∀j,az (a.more j) p 798 (df b c)):az a p 840 (x0 b c):=by
 rintro l O R K M ⟨S,J,g,I,x,P,Q,e,s,F,H,z,A,k,o,C,B⟩;subst z;subst A;obtain⟨l,rfl⟩:=fQ k;have r:=e.cH (fS e.b3 t s e.V e.bu o).V;exact nK h (bt (ct:=gU b c) h v (λj=>⟨D j,u⟩) 100 (l+39)) (h.fn 840 _ rfl) e.ok (show aH 5 [.obj 0,.str (n I),q x] from⟨(a' rfl:0<5),u,u,u⟩) λL N m=>
  Mp t e s F H (by unfold aK at k⊢;exact(bV k (by simp+arith only))) o (λw E i g=>m _ i g _ _ r (.same ⟨u,f4 _,u⟩) (C w E)) λy G i g=>m _ i g _ _ r (.same ⟨u,f4 _,u⟩) (B y G)
def yQ(e:aC a.hb (f d))(j:aV (f d))(m:bb b c)(l:∀g,az (a.more g) p 798 (df b c)):az a p 833 (pb b c):=by
 rintro k Q U M O ⟨V,L,o,K,s,J,t,S,R,T,i,I,z,D,A,C,v,w,h,F,H,x⟩;subst v;subst w;obtain⟨k,rfl⟩:=fQ h;have G:=i.cH H;have y:=hc (Q:=λa=>az a p 798 (df b c)) l;exact nK e (bt (ct:=fh b c) e j (λg=>⟨l g,Mq e j m (y g),u⟩) 100 (k+39)) (e.fn 833 _ rfl) i.ok (show aH 5 [.obj 0,.str (n K),.str (E s),.str (jw J),q t] from⟨(a' rfl:0<5),u,u,u,u,u⟩) λN P B=>
  LP m i I z D A C (by unfold aK at h⊢;exact(k5 h)) F λr o=>B _ r o _ _ G (.same (f4 _)) x
def Lg(e:aC a.hb (f d))(j:aV (f d))(o:bb b c)(l:∀g,az (a.more g) p 798 (df b c)):az a p 826 (uh b c):=by
 rintro k T X P R ⟨Y,O,r,t,N,M,v,w,V,U,W,i,C,L,I,D,F,H,x,z,h,J,m,A⟩;subst x;subst z;obtain⟨k,rfl⟩:=fQ h;have K:=i.cH m;have B:=hc (Q:=λa=>az a p 798 (df b c)) l;exact nK e (bt (ct:=pH b c) e j (λg=>⟨l g,yQ e j o (B g),u⟩) 100 (k+39)) (e.fn 826 _ rfl) i.ok (show aH 5 [.obj 0,.c (y [c3,E t,n N,E M,E v]),q w] from⟨(a' rfl:0<5),b5 _,u,u⟩) λQ S G=>
  Df o i C L I D F H (by unfold aK at h⊢;exact(k5 h)) J m λs r=>G _ s r _ _ K (.same (f4 _)) A
end
abbrev NG:aL:=c (m 85) []
def LX{n:Frag}{c:g}(r:ci c){k p:Nat}{d o:af}(a:∀m t,d (ax (hg c)) ⟨m,t⟩):av (x (f n) [] (k+100) (p+9)) none NG [ax c] ⟨[],[]⟩ d o:=by
 induction c using g.casesOn with
 |ok aj=>exact a _ _
 |C=>exact a _ _
 |M j aj v b u=>
  have e:=r.M _ _ _ _ _ rfl;rcases j with _|_|_|_|_|_|j
  . exact(absurd e.2.1 (by decide))
  . exact a _ _
  . obtain⟨rfl,i⟩:=e.2.2.2 rfl;rcases b with _|_|b
    . rcases i with rfl|rfl|rfl<;>exact a _ _
    . rcases i with rfl|rfl|rfl<;>exact a _ _
    . conv=>whnf
      refine h (show decide (1<Int.ofNat (b+1+1))=true from iD (by refine(?_:(1:Int)<((b+1+1:Nat):Int));exact(by simp+arith))) ?_;have s:∀l:Int,l=Int.ofNat (b+1)->d (.l [q 2,.str aj,.l (y [bC]),.int l,q u]) ⟨[],[]⟩:=by rintro _ rfl;exact a [] []
      exact s (Int.ofNat (b+1+1)-1) (by refine(?_:((b+1+1:Nat):Int)-1=((b+1:Nat):Int));exact(by simp))
  . exact a _ _
  . exact a _ _
  . exact a _ _
  . exact(absurd e.2.2.1 (by simp+arith))
inductive uj(d:Nat)(args:List Y)(st:St)(K X:af):Prop
 |mk (a):ci a->args=[ax a]->10<=d->K (ax (hg a)) st->uj d args st K X
def qO:aI->Str
 | .e' a=>(match a with| .jS _=>Bt| .eK _=>Bp| .kB=>Bq| .kG=>Br| .ke=>Bn| .kh=>Bo)
 |_=>H
abbrev NI:aL:=c (m 81) []
def Mw{h:Frag}{r:o}{a:aI}(n:a.Ok)(l:∀d,a≠.gb d) {k j:Nat} {e i:af} (b:∀g p,e (.str (qO a)) ⟨g,p⟩):av (x (f h) [] (k+100) (j+9)) none NI [.c (y (a.res r))] ⟨[],[]⟩ e i:=by
 induction a using aI.casesOn with
 |gb d=>exact absurd rfl (l d)
 |f3 m u s=>
  refine Or.elim (n.1) (λc=> ?_) λc=> ?_
  . obtain⟨q,rfl⟩:=List.length_eq_one_iff.mp c;cases m<;>exact b _ _
  . obtain⟨q,v,rfl⟩:=jx c;cases m<;>exact b _ _
 |e' t=>cases t<;>exact b _ _
 |_=>exact b _ _
inductive uk(d:Nat)(args:List Y)(st:St)(K X:af):Prop
 |mk (r a):aI.Ok a->(∀b,a≠.gb b)->args=[.c (y (a.res r))]->10<=d->K (.str (qO a)) st->uk d args st K X
section
variable{a:au}{p:Program}{b:Frag}
def LY(c:aC a.hb (f b))(g:aV (f b)):az a p 819 uj:=by
 rintro d t w o r ⟨e,k,h,i,j⟩;subst h;obtain⟨d,rfl⟩:=rm (n:=9) i;exact fw c (bt (ct:=[]) c g (λx=>trivial) 100 (d+9)) (c.fn 819 _ rfl) (show aH 0 [ax e] from⟨f4 e,u⟩) λq s l v=>
  LX k λn m=>l _ m _ _ (.same (f4 _)) j
def Mx(c:aC a.hb (f b))(e:aV (f b)):az a p 793 uk:=by
 rintro d w z q t ⟨r,g,m,l,h,i,j⟩;subst h;obtain⟨d,rfl⟩:=rm (n:=9) i;exact fw c (bt (ct:=[]) c e (λA=>trivial) 100 (d+9)) (c.fn 793 _ rfl) (show aH 0 [.c (y (g.res r))] from⟨b5 _,u⟩) λs v k x=>
  Mw m l λo n=>k _ n _ _ (.same u) j
end
abbrev vf:aL:=c (m 79) []
def uo(b:af)(d:List (Str)):Prop:=∀j a c,t a j=some (.c (y d))->b (.obj j) ⟨a,c⟩
def Pp{a:Str}(d e:Y)(b:Fast.sEq (Str.ofString "{a b} {} c d") a=false)(c:Fast.sEq (Str.ofString "0 1 {0 1}") a=false):lS a (og [] [(Str.ofString "{a b} {} c d",d),(Str.ofString "0 1 {0 1}",e)])=false:=by refine(?_:cond (Fast.sEq _ a) true (cond (Fast.sEq _ a) true false)=false);rw [b,c];rfl
def Lw{d:Frag}{a:Str}{k g:Nat}{c e:af}(i:dI a [Str.ofString "{x",Str.ofString "a {b"]=false)
  (j:Fast.sEq (Str.ofString "{a b} {} c d") a=false)(l:Fast.sEq (Str.ofString "0 1 {0 1}") a=false)(n:a.length<=1000)(m:uo c (Txt.words a)):
  av (x (f d) [] (k+100) (g+9)) none vf [.str a] ⟨[],[]⟩ c e:=by
 conv=>whnf
 refine h (show dI a ((λb=>Str.ofString "{x"::b) ((λb=>Str.ofString "a {b"::b) []))=false from i) ?_;conv=>whnf
 refine h (Pp _ _ j l ..) ?_;conv=>whnf
 refine h (show(a.length+2).ble sizeLine=true from Nat.ble_eq.mpr (by refine(?_:a.length+2<=16777216);exact(bV n (by simp+arith only)))) ?_;exact m _ _ _ rfl
def Lu{g:Frag}{b:Nm}{k i:Nat}{c h:af}(j:b.names=none->∀e l,c .none ⟨e,l⟩) (a:∀d,b.names=some d->uo c (d.map Vn.str)):av (x (f g) [] (k+100) (i+9)) none vf [.str b.str] ⟨[],[]⟩ c h:=by
 induction b using Nm.casesOn with
 |rB=>exact j rfl _ _
 |z=>exact a _ rfl _ _ _ (by kernel_rfl)
 |y=>exact a _ rfl _ _ _ (by kernel_rfl)
 |zx=>exact a _ rfl _ _ _ (by kernel_rfl)
 |t5=>exact a _ rfl _ _ _ (by kernel_rfl)
 |empty=>exact a _ rfl _ _ _ (by kernel_rfl)
def bz.S8{g:Nat}{e:Str}(d:bz g e):∀b∈e.cps.toList,b≠123:=by
 obtain⟨c,k,f,i,rfl⟩:=d;intro b a;have a:b∈c++List.replicate k 46:=a;rcases List.mem_append.mp a with a|a
 . have d:=List.all_eq_true.mp (List.all_eq_true.mp (by kernel_rfl:(([[],[97,32,98],[49],[97],[98],[99],[100],[98,32,99],[48],[48,32,49]]:List (List Nat)).all λc=>c.all λb=> !Nat.beq b 123)=true) c f) b a;exactλh=>by subst h;cases d
 . rw [(List.mem_replicate.mp a).2];decide
def bz.ne{e:Nat}{a x:Str}(c:bz e a)(d:123∈x.cps.toList):Fast.sEq x a=false:=wK λb=>c.S8 123 (b▸d) rfl
def Lr{h:Frag}{g:Nat}{r:o}{e:J}{k j:Nat}{c i:af}(l:∀v,bz g (r.get v).val) (t:g<=900) (q:J.aN r e=none->∀p u,c .none ⟨p,u⟩) (a:∀m,J.aN r e=some m->uo c m):
  av (x (f h) [] (k+100) (j+9)) none vf [.str (J.res r e)] ⟨[],[]⟩ c i:=by
 have n:∀{b:Str},bz g b->uo c (Txt.words b)->av (x (f h) [] (k+100) (j+9)) none vf [.str b] ⟨[],[]⟩ c i:=λ{b} d s=>
  Lw (by
   refine(?_:cond (Fast.sEq _ b) true (cond (Fast.sEq _ b) true false)=false);rw [d.ne (x:=Str.ofString "{x") (by decide),d.ne (x:=Str.ofString "a {b") (by decide)];rfl) (d.ne (by decide)) (d.ne (by decide)) (by have:=d.aE;exact(dC t this (by simp+arith only))) s
 induction e using J.casesOn with
 |lw=>exact q rfl _ _
 |dx=>exact n (l .x) (a _ rfl)
 |dy=>exact n (l .y) (a _ rfl)
 |rq=>exact a _ rfl _ _ _ (by kernel_rfl)
 |empty=>exact a _ rfl _ _ _ (by kernel_rfl)
 |br=>exact a _ rfl _ _ _ (by kernel_rfl)
 |ly=>exact a _ rfl _ _ _ (by kernel_rfl)
inductive nc:Str->Option (List Str)->Prop
 |nm (a:Nm):nc a.str (a.names.map λc=>c.map Vn.str)
 |ls (a:Nat) (r:o) (b:J):(∀v,bz a (r.get v).val)->a<=900->nc (J.res r b) (J.aN r b)
inductive m5(d:Nat)(args:List Y)(st:St)(K X:af):Prop
 |mk (a res):nc a res->args=[.str a]->10<=d->(res=none->K .none st)->(∀its,res=some its->K (.obj st.objs.length) ⟨st.objs++[.c (y its)],st.d⟩)->m5 d args st K X
section
def S0{b:au}{p:Program}{k:ay}{n:Nat}{r:O}{s:aL}{q:Nat}{g:List Y}{f:St}{c o:af}(x:aC b.hb k)(C:b1 ⟨b,p,k,n,r⟩)(G:fc b.hb q s)(D:aH 0 g)
  (B:∀i A:af,(∀J e a,dq 0 a->c a f->i a ⟨J,e⟩)->
    (∀j J e h,t J j=some (.c (y h))->c (.obj f.objs.length) ⟨f.objs++[.c (y h)],f.d⟩->i (.obj j) ⟨J,e⟩)->Mine.Internal.av r none s g ⟨[],[]⟩ i A):Made b p q (n+1) g f c o:=by
 rintro R S m U rfl H I E N Q z w M F;refine d.rC (k:=⟨b,p,k,n,r⟩) (n:=0) (ix:=[]) x C G H I E N Q c o (.mk [] g .nil (λv K=>absurd K (eu _)) .nil (.same D) (B _ _ (λJ e a P l=> ?_) λj J e h L l=> ?_)) z w M F
 . refine .mk [] [] [] m.st.d a (pU (k:=0) (P':=[]) rfl u) rfl (.same P) ?_;refine(?_:c a ⟨m.st.objs++[],m.st.d⟩);rw [List.append_nil];exact l
 . exact .mk [j] [] [.c (y h)] m.st.d (.obj m.st.objs.length) ⟨Ag (k:=0) (P':=[]) (J:=J) rfl u,.cons L (.c (bM.strs _)) .nil,λv T=>bU v,List.nodup_cons.mpr ⟨cB,.nil⟩⟩ rfl (.obj hj) l
end
section
variable{a:au}{p:Program}{b:Frag}
def Lv(g:aC a.hb (f b))(s:aV (f b)):az a p 781 m5:=by
 rintro k E J A C ⟨z,I,w,t,v,l,m⟩;subst t;obtain⟨k,rfl⟩:=rm (n:=9) v;refine S0 g (bt (ct:=[]) g s (λK=>trivial) 100 (k+9)) (g.fn 781 _ rfl) (show aH 0 [.str z] from⟨u,u⟩) λB D o q=> ?_;cases w with
 |nm n=>exact Lu (λd c e=>o c e _ u (l (by refine h (d ..) ?_;rfl))) λH d j c e i=>q j c e _ i (m _ (by refine h (d ..) ?_;rfl))
 |ls n r G y x=>exact Lr y x (λd c e=>o c e _ u (l d)) λF d j c e i=>q j c e _ i (m _ d)
end
abbrev y4:aL:=c (m 80) []
def Ud(a:Option Stmt):Expr:=eS 0 (eS 1 (eR a 0))
def Uf(a:Option Stmt):Expr:=eS 1 (eS 1 (eR a 0))
def Ue(a:Option Stmt):Scope:=qD (eS 1 (eR a 0))
abbrev zM:Option Stmt:=t y4.body 0
noncomputable abbrev zH(a:Y):List (Str×Y):=[("item",a)]
def rM:Option Y->List (Str×Y)
 |none=>[]
 |some a=>zH a
section
variable{i:Frag}{o:ae}{k l b:Nat}{d:List Nat}{g:List Y->St->Prop}{e c:List Y}{n:Option Y}
abbrev pM(i:Frag)(o:ae)(k l:Nat)(g:List Y->St->Prop)(e c:List Y)(a:List (Str×Y)):Prop:=jA none (f i) (x (f i) [] (k+90) (l+9)) ⟨e6 (Ue zM) y4.scope,none,[]⟩ (Uf zM) [] (Ud zM) g e c ⟨[.ro o],a⟩
abbrev pN(i:Frag)(o:ae)(k l:Nat)(g:List Y->St->Prop)(e c:List Y)(a b:Str):Prop:=pM i o k l g e (aJ c (.str b)) (zH (.str a))
abbrev Dg(i:Frag)(o:ae)(k l:Nat)(g:List Y->St->Prop)(e c:List Y)(a:Str):Prop:=cond (Nat.ble ((Str.ofString "{").length+a.length) sizeLine) (cond (Nat.ble ((Str.ofString "{"++a).length+(Str.ofString "}").length) sizeLine) (pN i o k l g e c a (Str.ofString "{"++a++Str.ofString "}")) False) False
def Li:cond (Nat.ble (C c) sizeLine) (pN i o k l g e c (a []) (cJ (a []))) False=pM i o k l g (.str (a [])::e) c (rM n):=by rcases n with _|_<;>kernel_rfl
abbrev yN(i:Frag)(o:ae)(k l:Nat)(g:List Y->St->Prop)(e c:List Y)(a:Str)(b:Bool):Prop:=cond b (Dg i o k l g e c a) (pN i o k l g e c a a)
def Lj:cond (Nat.ble (C c) sizeLine) (cond (Fast.sEq (a (b::d)) (Str.ofString "")) (yN i o k l g e c (a (b::d)) (Fast.sEq (a (b::d)) (Str.ofString ""))) (cond (!(Builtin.Str.occurrences (a (b::d)) (Str.ofString " ") 0 (a (b::d)).length 1).isEmpty) (yN i o k l g e c (a (b::d)) (!(Builtin.Str.occurrences (a (b::d)) (Str.ofString " ") 0 (a (b::d)).length 1).isEmpty))
  (cu (ck 0 (a (b::d)).length) λj=>cu (t (b::d) j) λf=>cond (Fast.sEq ⟨#[f]⟩ (Str.ofString "{")) (yN i o k l g e c (a (b::d)) (Fast.sEq ⟨#[f]⟩ (Str.ofString "{"))) (pN i o k l g e c (a (b::d)) (a (b::d)))))) False=pM i o k l g (.str (a (b::d))::e) c (rM n):=by rcases n with _|_<;>kernel_rfl
def Dh{a:Str}(b:a.length<=10000)(d:pN i o k l g e c a (Str.ofString "{"++a++Str.ofString "}")):Dg i o k l g e c a:=by refine aY (Nat.ble_eq.mpr (L (jW b 1) (by decide))) (aY (Nat.ble_eq.mpr ?_) d);refine(?_:((#[123]:Array Nat)++a.cps).size+1<=16777216);refine h (qZ ..) ?_;exact L (mV (jW b 1) 1) (by decide)
def Lk{j:Str}(m:j.length<=10000)(u:C c<=10000)(f:pN i o k l g e c j (cJ j)):pM i o k l g (.str j::e) c (rM n):=by
 obtain⟨d,rfl⟩:∃d,j=a d:=⟨j.cps.toList,rfl⟩;have p:=Nat.ble_eq.mpr (L u (by decide:10000<=sizeLine));rcases d with _|⟨b,d⟩
 . exact Li▸aY p f
 . have v:cJ (a (b::d))=cond (decide (32∈(a (b::d)).cps.toList)||Nat.beq b 123) (Str.ofString "{"++a (b::d)++Str.ofString "}") (a (b::d)):=by
    refine(?_:cond ((b::d).any (λb=>b==32)||Nat.beq b 123) _ _=_);rw [show((b::d).any λb=>b==32)=decide (32∈(a (b::d)).cps.toList) from by
     rw [Bool.eq_iff_iff,List.any_eq_true,decide_eq_true_iff];exact⟨(by rintro⟨w,s,t⟩;exact(beq_iff_eq.mp t)▸s),λf=>⟨32,f,rfl⟩⟩]
    rfl
   rw [v] at f;refine Lj▸aY p (dX (wL b d) ?_);refine h (StrLaws.found_one _ 32:(!(Builtin.Str.occurrences (a (b::d)) (Str.ofString " ") 0 (a (b::d)).length 1).isEmpty)=decide (32∈(a (b::d)).cps.toList)) ?_;generalize decide (32∈(a (b::d)).cps.toList)=r at f⊢;rcases r with _|_
   . refine oP (v:=0) (fJ (i:=0) (gI _) (eW m (by decide))) (oP (v:=b) rfl ?_);refine h (qC b 123:Fast.sEq ⟨#[b]⟩ (Str.ofString "{")=Nat.beq b 123) ?_;generalize Nat.beq b 123=q at f⊢;rcases q with _|_
     . exact f
     . exact Dh m f
   . exact Dh m f
def J'(e:List Str):∀(c:List Str)(n:Option Y),(∀a∈e,a.length<=10000)->c.length+e.length<=10000->(∀n,g (y (c++e.map cJ)) ⟨[.ro o],rM n⟩)->pM i o k l g (y e) (y c) (rM n):=by
 induction e with
 |nil=>exactλc n p p b=>(et c▸b n:g (y c) _)
 |cons a e m=>
  intro c n d f b;refine Lk (d a (.head _)) (ho c▸L (c5 _ _) f) ?_;refine(?_:pM i o k l g (y e) (aJ (y c) (.str (cJ a))) (zH (.str a)));refine h (rr ..) ?_;exact m (c++[cJ a]) (some (.str a)) (λq j=>d q (.tail _ j)) (by refine h (eV ..) ?_;exact L (ed (mX c.length 1 e.length)) f) λn=>(jX c [cJ a] (e.map cJ)).symm▸b n
end
def LM{e:Frag}{a:List Str}{k i:Nat}{b g:af}(l:∀o∈a,o.length<=10000) (n:a.length<=10000) (m:JoinOk ⟨#[32]⟩ (a.map cJ)=true)
  (j:∀d c,b (.str (mb a)) ⟨.c (y a)::d,c⟩):av (x (f e) [] (k+100) (i+9)) none y4 [.obj 0] ⟨[.c (y a)],[]⟩ b g:=by
 conv=>whnf
 refine J' (o:= .c (y a)) a [] none l (L (ed (t3 _)) n) λc=> ?_;conv=>whnf
 refine h (AR ..) ?_;conv=>whnf
 refine h (show JoinOk (Str.ofString " ") ([]++a.map cJ)=true from m) ?_;exact j [] _
inductive ui(d:Nat)(args:List Y)(st:St)(K X:af):Prop
 |mk (a aN):args=[.obj a]->t st.objs a=some (.c (y aN))->10<=d->(∀b∈aN,Str.length b<=10000)->aN.length<=10000->JoinOk ⟨#[32]⟩ (aN.map cJ)=true->K (.str (mb aN)) st->ui d args st K X
def LN{d:au}{p:Program}{e:Frag}(b:aC d.hb (f e))(k:aV (f e)):az d p 786 ui:=by rintro g w c l v ⟨a,j,n,i,o,a1,a2,a3,q⟩;subst n;obtain⟨g,rfl⟩:=rm (n:=9) o;have r:cN [a] a=some 0:=hj;refine mK b (bt (ct:=[]) b k (λs=>trivial) 100 (g+9)) (b.fn 786 _ rfl) (ix:=[a]) (List.nodup_cons.mpr ⟨cB,.nil⟩) (.cons i (.c (bM.strs _)) .nil) (.cons (.obj r) .nil) ?_;refine LM (k:=0) a1 a2 a3 λt x=> .mk [] [.c (y j)] [] c.d _ ⟨.cons (.c (bM.strs _)) .nil,.nil,λs m=>absurd m cB,.nil⟩ rfl (.same u) ?_;refine(?_:l _ ⟨aQ c.objs a (.c (y j))++[],c.d⟩);refine h (et ..) ?_;refine h (jM i ..) ?_;exact q
inductive m4(c:B)(go:N)(d:Nat)(args:List Y)(st:St)(K X:af):Prop
 |mk (a h i m s f b j e g):DS c a->s<6->(f.length=1\/f.length=2)->b<=c.L->aM b 7 a.r->args=[.obj 0,.c (y (bo m::(dG (J.res a.r) f++[E s]))),q b]->st=⟨l a++h,i⟩->aK c b 4<=d->
  (match bQ m a.r f with| .error e=>some (e,a.r)| .ok k=>fP go c m s b j k [] a.r)=some (e,g)->aR c g->K (ax e) ⟨l (a.st g)++h,i⟩->m4 c go d args st K X
abbrev nT:aL:=c (m 83) []
noncomputable def yx(a:B)(b:N):List (Nat×bF):=[(793,uk),(833,pb a b),(826,uh a b),(845,m4 a b),(798,df a b),(819,uj)]
abbrev nH:List Stmt:=nT.body
abbrev nI:I:=⟨nT.scope,none,[]⟩
abbrev h'(a:Frag)(b:B)(d:N)(k c:Nat):O:=x (f a) (yx b d) (k+100) (c+39)
abbrev pJ(a:List Str)(b:Nat):List (Str×Y):=[("world",.obj 0),("words",.c (y a)),("depth",q b)]
abbrev km(a:Str)(b:List Str)(c:Nat):List (Str×Y):=[("world",.obj 0),("words",.c (y (a::b))),("depth",q c),("name",.str a)]
abbrev ji(a:Str)(b:List Str)(c:Nat)(d:Str):List (Str×Y):=[("world",.obj 0),("words",.c (y (a::b))),("depth",q c),("name",.str a),("why",.str d)]
section
variable{t:Frag}{b:B}{e:N}{w:M}{a k d G:Nat}{D:g}{F:o}{v P:Str}{i:List Str}
def GG(a:DS b w):decide (Int.ofNat w.r.S+1<=Int.ofNat w.F)= !decide (b.F<w.r.S+1):=by rw [<-decide_not];apply decide_eq_decide.mpr;refine(?_:(w.r.S:Int)+1<=(w.F:Int)↔¬b.F<w.r.S+1);rw [a.F,Nat.not_lt];exact Int.ofNat_le
section
variable{c:Q}{f:af}
def KD(h:ck 0 (C (y (v::i)))=some 0)(g:c .next ⟨l w,km v i a⟩):A (h' t b e k d) nI 0 nH ⟨l w,pJ (v::i) a⟩ c f:=by refine sO h ?_;apply z g;kernel_rfl
def KE:cond (Fast.sEq v f') (c (.ret (ax yT)) ⟨l w,km v i a⟩) (c .next ⟨l w,km v i a⟩)=A (h' t b e k d) nI 1 nH ⟨l w,km v i a⟩ c f:=by kernel_rfl
def KG:cond (!decide (Int.ofNat w.r.S+1<=Int.ofNat w.F)) (c (.ret (ax .C)) ⟨l (w.st w.r.a),km v i a⟩) (c .next ⟨l (w.st w.r.a),km v i a⟩)=A (h' t b e k d) nI 2 nH ⟨l w,km v i a⟩ c f:=by kernel_rfl
def KH:uk (d+39) [.c (y (v::i))] ⟨l w,km v i a⟩ (λh g=>c .next ⟨g.objs,aO "why" h g.d⟩) f=A (h' t b e k d) nI 3 nH ⟨l w,km v i a⟩ c f:=by kernel_rfl
def KI:cond (!Fast.sEq P H) (c (.ret (ax (.M 1 P [bJ,jU] 0 0))) ⟨l w,ji v i a P⟩) (c .next ⟨l w,ji v i a P⟩)=A (h' t b e k d) nI 4 nH ⟨l w,ji v i a P⟩ c f:=by kernel_rfl
end
section
variable{h o:af}{K u L J R A:Nat}{z:Str}{s:Vn}
abbrev ia(t:Frag)(b:B)(e:N)(k d:Nat)(w:M)(v:Str)(i:List Str)(a:Nat)(h o:af):Prop:=aU (h' t b e k d) nI o (aT 5 nH) ⟨l w,ji v i a H⟩ (fK [] h)
def Mo:pb b e (d+39) [.obj 0,.str (n K),.str (E u),.str H,q a] ⟨l w,ji dF [n K,E u] a H⟩ (λs c=>h s ⟨c.objs,[]⟩) o=ia t b e k d w dF [n K,E u] a h o:=by kernel_rfl
def Mh:uh b e (d+39) [.obj 0,.c (y (c3::i)),q a] ⟨l w,ji c3 i a H⟩ (λs c=>h s ⟨c.objs,[]⟩) o=ia t b e k d w c3 i a h o:=by kernel_rfl
abbrev jE:ae:= .c [.str dD,.str dE]
abbrev jB:ae:= .c [.str fs,.str ft]
def Mg{m:Bool}:m4 b e (d+39) [.obj 0,.c (y (bo m::i)),q a] ⟨l w++[jE],ji (bo m) i a H⟩ (λs c=>h s ⟨c.objs,[]⟩) o=ia t b e k d w (bo m) i a h o:=by rcases m with _|_<;>kernel_rfl
def Md:h (ax (.M 3 H [bC] 0 0)) ⟨l w++[jE,jB],[]⟩=ia t b e k d w fs i a h o:=by kernel_rfl
def Mf:h (ax (.M 4 H [bC] 0 0)) ⟨l w++[jE,jB],[]⟩=ia t b e k d w ft i a h o:=by kernel_rfl
def Mj:cond (Nat.ble ((w.r.get s).val.length+iB.length) sizeLine) (h (ax (.ok ((w.r.get s).val++iB))) ⟨l (w.st (w.r.bG s ((w.r.get s).val++iB)))++[jE,jB],[]⟩) False=ia t b e k d w eM [s.str] a h o:=by rcases s with _|_|_<;>kernel_rfl
def Mk:h (ax (.ok z)) ⟨l (w.st (w.r.bG s z))++[jE,jB],[]⟩=ia t b e k d w iS [s.str,z] a h o:=by rcases s with _|_|_<;>kernel_rfl
def Mm:cond ((C w.r.U).ble sizeLine) (h (ax (.ok z)) ⟨l (w.st {w.r with U:=aJ w.r.U (.str z)})++[jE,jB],[]⟩) False=ia t b e k d w jF [z] a h o:=by kernel_rfl
def Ml(c:A<8):h (ax (ends A)) ⟨l w++[jE,jB,DE],[]⟩=ia t b e k d w ir [dN A] a h o:=by
 rcases A with _|_|_|_|_|_|_|_|A;iterate 8 kernel_rfl
 exact absurd c (Nat.not_lt.mpr (aD _ _))
abbrev nW:aL:=c (m 84) []
abbrev uT:I:=⟨nW.scope,none,[]⟩
abbrev pP(t:Frag)(b:B)(e:N)(k d:Nat):O:=x (f t) (yx b e) (k+97) (d+38)
abbrev uU(v:Str)(u a:Nat)(D:g):List (Str×Y):=[("world",.obj 0),("words",.c (y [v,E u])),("depth",q a),("ended",ax D)]
def Mi:av (pP t b e k d) none nW [.obj 0,.c (y [fu,z]),q a] ⟨l w++[jE,jB],ji fu [z] a H⟩ (λs c=>h s ⟨c.objs,[]⟩) o=ia t b e k d w fu [z] a h o:=by kernel_rfl
def Me:av (pP t b e k d) none nW [.obj 0,.c (y [ep,z]),q a] ⟨l w++[jE,jB],ji ep [z] a H⟩ (λs c=>h s ⟨c.objs,[]⟩) o=ia t b e k d w ep [z] a h o:=by kernel_rfl
section
variable{c:Q}{f:List ae}{g:List (Str×Y)}
def Dp(J:Bool):df b e (d+38) [.obj 0,.str (E u),q a] ⟨l w++[jE,jB],pJ [cond J ep fu,E u] a⟩ (λs f=>eT (pP t b e k d) uT o nW.body 5 c .next ⟨f.objs,aO "ended" s f.d⟩) o=aU (pP t b e k d) uT o (aT 0 nW.body) ⟨l w++[jE,jB],pJ [cond J ep fu,E u] a⟩ c:=by rcases J with _|_<;>kernel_rfl
def LU:c (.ret (ax D)) ⟨l w++f,uU fu u a D⟩=eT (pP t b e k d) uT o nW.body 5 c .next ⟨l w++f,uU fu u a D⟩:=by kernel_rfl
def LS:uj (d+38) [ax D] ⟨l w++f,uU ep u a D⟩ (λs g=>c (.ret s) g) o=eT (pP t b e k d) uT o nW.body 5 c .next ⟨l w++f,uU ep u a D⟩:=by kernel_rfl
end
end
section
variable{c f:af}
def rK{g:aI}(x:DS b w)(u:g.Ok)(s:isNone g=false)(o:g.res w.r=v::i)(r:ck 0 (C (y (v::i)))=some 0)(m:Fast.sEq v f'=false)
  (n:decide (b.F<w.r.S+1)=true->c (ax .C) ⟨l (w.st w.r.a),[]⟩)
  (z:decide (b.F<w.r.S+1)=false->cond (!Fast.sEq (qO g) H) (c (ax (.M 1 (qO g) [bJ,jU] 0 0)) ⟨l (w.st w.r.a),[]⟩) (aU (h' t b e k d) nI (fX [] f) (aT 5 nH) ⟨l (w.st w.r.a),ji v i a (qO g)⟩ (fK [] c))):
  av (h' t b e k d) none nT [.obj 0,.c (y (v::i)),q a] ⟨l w,[]⟩ c f:=by refine c2 (cr:=pJ (v::i) a) (by kernel_rfl) (λA A=>by kernel_rfl) (j 0 ⟨KD r ?_⟩);refine(aB (j 1 (a9 ⟨sF m ?_⟩ KE))).go;refine(aB (j 2 (a9 ⟨?_⟩ KG))).go;refine h (GG x ..) ?_;refine h (Bool.not_not ..) ?_;refine fG n λp=> ?_;refine(aB (j 3 (a9 ⟨?_⟩ KH))).go;refine⟨w.r,g,u,(λD B=>by subst B;cases s),(by rw [o]),aD _ _,?_⟩;refine(aB (j 4 (a9 ⟨?_⟩ KI))).go;exact z p
def iN{g:aI}(x:DS b w)(u:g.Ok)(s:isNone g=false)(A:qO g=H)(p:decide (b.F<w.r.S+1)=false)(o:g.res w.r=v::i)(r:ck 0 (C (y (v::i)))=some 0)(n:Fast.sEq v f'=false){j:Prop}(m:j)(D:j=ia t b e k d (w.st w.r.a) v i a c (fX [] f)):
  av (h' t b e k d) none nT [.obj 0,.c (y (v::i)),q a] ⟨l w,[]⟩ c f:=
 rK x u s o r n (λB=>aA (p.symm.trans B)) λE=>by refine h (A ..) ?_;exact sF (by kernel_rfl) (z m D)
def Ej{e P:Str}{b:List (Nm×J)}{c:J->Str}(a:b.length=1\/b.length=2):ck 0 (C (y (e::(dG c b++[P]))))=some 0:=by
 rcases a with a|a
 . obtain⟨d,rfl⟩:=List.length_eq_one_iff.mp a;rfl
 . obtain⟨d,f,rfl⟩:=jx a;rfl
def UG(c:DS b w)(a:Vn):((w.st w.r.a).r.get a).val.length+iB.length<=sizeLine:=by
 have D:((w.st w.r.a).r.get a).val=(w.r.get a).val:=by rcases a with _|_|_<;>rfl
 refine h (D ..) ?_;have d:=(c.V.i4 a).aE;have e:=c.bu;have f:=c.b3.F;refine(?_:_+1<=16777216);exact L (q0 (L d (jW (L e (ee f)) 3))) (by decide)
def KL{h:aI}(i:h.Ok)(j:isNone h=false)(o:DS b w)(u:decide (b.F<w.r.S+1)=true)(n:c (ax .C) ⟨l (w.st w.r.a),[]⟩):
  av (h' t b e k d) none nT [.obj 0,.c (y (h.res w.r)),q a] ⟨l w,[]⟩ c f:=by
 have p:decide (b.F<w.r.S+1)≠false:=λg=>aA (u.symm.trans g);induction h using aI.casesOn with
 |gb z=>exact aA (j)
 |f3 m x s=>exact rK o i j rfl (Ej i.1) (by rcases m with _|_<;>rfl) (λr=>n) λg=>absurd g p
 |e' v=>cases v<;>exact rK o i j rfl rfl rfl (λr=>n) λg=>absurd g p
 |_=>exact rK o i j rfl rfl rfl (λr=>n) λg=>absurd g p
def KO(T:bb b e){A:aI}(j:DS b w)(n:decide (b.F<w.r.S+1)=false)(x:DS b (w.st w.r.a))(C:a<=b.L)(H:aM a 7 w.r.a)(B:aK b a 6<=d+39)(J:aR b F)
  (o:∀p u,some (p,u)=some (D,F)->∀O K,c (ax p) ⟨l (w.st u)++O,K⟩) (R:∀p u,some (p,u)=some (D,F)->∀K,c (ax p) ⟨l (w.st u),K⟩) (g:A.Ok) (N:isNone A=false) (i:s2 e b G A a w.r w.r.a=some (D,F)):
  av (h' t b e k d) none nT [.obj 0,.c (y (A.res w.r)),q a] ⟨l w,[]⟩ c f:=by
 induction A using aI.casesOn with
 |gb z=>exact aA (N)
 |kW z s=>exact iN j g rfl rfl n rfl rfl rfl (.mk (w.st w.r.a) [] _ z s none a G D F x g.1 g.2 (λI S=>bh S) C H.mono rfl rfl (e7 B) i J (o _ _ rfl [] _)) Mo
 |eK ai z v ah=>exact iN j g rfl rfl n rfl rfl rfl (.mk (w.st w.r.a) [] _ ai z v ah a G D F x g.1 g.2.1 g.2.2.1 g.2.2.2 C H rfl rfl (e7 B) i J (o _ _ rfl [] _)) Mh
 |f3 m P s=>exact iN j g rfl rfl n rfl (Ej g.1) (by rcases m with _|_<;>rfl) (.mk (w.st w.r.a) [jE] _ m s P a G D F x g.2 g.1 C H rfl rfl (e7 B) (by refine h (zo ..) ?_;exact i) J (o _ _ rfl _ _)) Mg
 |brk=>exact iN j g rfl rfl n rfl rfl rfl (o _ _ i _ _) Md
 |cont=>exact iN j g rfl rfl n rfl rfl rfl (o _ _ i _ _) Mf
 |n1 aj=>exact iN j g rfl rfl n rfl rfl rfl (sT (Nat.ble_eq.mpr (UG j aj)) (o _ _ i _ _)) (Mj (w:=w.st w.r.a))
 |iv aj z=>exact iN j g rfl rfl n rfl rfl rfl (o _ _ i _ _) (Mk (w:=w.st w.r.a))
 |dc z=>exact iN j g rfl rfl n rfl rfl rfl (sT (Nat.ble_eq.mpr (by refine h (aZ ..) ?_;exact L j.mi (by decide))) (o _ _ (by refine h (c0 ..) ?_;exact i) _ _)) (Mm (w:=w.st w.r.a))
 |raise W=>exact iN j g rfl rfl n rfl rfl rfl (o _ _ i _ _) (Ml g)
 |go s=>
  refine iN j g rfl rfl n rfl rfl rfl (c2 (cr:=pJ [fu,E s] a) (by kernel_rfl) (λI I=>by kernel_rfl) (a9 ⟨?_⟩ (Dp false))) Mi;exact .mk (w.st w.r.a) _ _ s a D F x g C H.mono rfl rfl (e7 (a:=5) (k5 B)) i (LU▸o _ _ rfl _ _)
 |call s=>
  have i:fF (e s a w.r.a) (λD r=>some (hg D,r))=some (D,F):=i;obtain⟨p,u,M,Q⟩:=fe i;refine iN j g rfl rfl n rfl rfl rfl (c2 (cr:=pJ [ep,E s] a) (by kernel_rfl) (λI I=>by kernel_rfl) (a9 ⟨?_⟩ (Dp true))) Me;exact .mk (w.st w.r.a) _ _ s a p u x g C H.mono rfl rfl (e7 (a:=5) (k5 B)) M (LS▸.mk p (T s _ _ _ _ g x.V (dA n) M).hC rfl (aD _ _) (o _ _ Q _ _))
 |e' U=>cases U<;>exact rK j g N rfl rfl rfl (λV=>aA (n.symm.trans V)) λI=>R _ _ i _
def KJ(C:bb b e){i:aI}(u:i.Ok)(g:DS b w)(A:a<=b.L)(I:aM a 10 w.r)(H:aK b a 6<=d+39)(p:hK e b G i a w.r=some (D,F))(E:∀r h,c (ax D) ⟨l (w.st F)++r,h⟩):
  av (h' t b e k d) none nT [.obj 0,.c (y (i.res w.r)),q a] ⟨l w,[]⟩ c f:=by
 have z:∀j o,some (j,o)=some (D,F)->∀r h,c (ax j) ⟨l (w.st o)++r,h⟩:=λv v x=>by cases x;exact E
 have s:∀j o,some (j,o)=some (D,F)->∀h,c (ax j) ⟨l (w.st o),h⟩:=λv v x h=>et (l (w.st _))▸z _ _ x [] h;induction n:isNone i using Bool.casesOn with
 |true=>
  induction i using aI.casesOn with
  |gb J=>exact s _ _ p []
  |_=>cases n
 |false=>
  induction m:decide (b.F<w.r.S+1) using Bool.casesOn with
  |true=>exact KL u n g m (s _ _ (ys n m p) _)
  |false=>
   have B:aM a 7 w.r.a:=aM.a (k:=7) I;exact KO C g m (g.st (g.V.a g.bu) (dA m) A B) A B H (lE g.b3 C u g.V g.bu p).V z s u n (yt n m p)
end
inductive xY(b:B)(e:N)(d:Nat)(args:List Y)(st:St)(K X:af):Prop
 |mk (w f g c a G D F):DS b w->aI.Ok c->a<=b.L->aM a 10 w.r->args=[.obj 0,.c (y (c.res w.r)),q a]->st=⟨l w++f,g⟩->aK b a 7<=d->hK e b G c a w.r=some (D,F)->K (ax D) ⟨l (w.st F)++f,g⟩->xY b e d args st K X
section
variable{c:au}{p:Program}{l:Frag}{g:B}{h:N}
def Kk(a:aC c.hb (f l))(b:aV (f l))(i:bb g h)(j:∀d,az (c.more d) p 845 (m4 g h)) (e:∀d,az (c.more d) p 798 (df g h)):dS c p (yx g h):=
 ⟨Mx a b,yQ a b i e,Lg a b i e,az.here j,az.here e,LY a b,u⟩
def KN(i:aC c.hb (f l))(m:aV (f l))(k:bb g h)(z:∀b,az (c.more b) p 845 (m4 g h)) (C:∀b,az (c.more b) p 798 (df g h)):az c p 805 (xY g h):=by
 rintro d Q R M O ⟨w,L,r,t,a,G,D,F,e,n,H,J,v,x,j,o,B⟩;subst v;subst x;obtain⟨d,rfl⟩:=fQ j;have K:=e.cH (lE e.b3 k n e.V e.bu o).V;have E:=hc (Q:=λc=>az c p 798 (df g h)) C;have A:=hc (Q:=λc=>az c p 845 (m4 g h)) z;exact nK i (bt i m (λb=>(Kk i m k (A b) (E b))) 100 (d+39)) (i.fn 805 _ rfl) e.ok (show aH 5 [.obj 0,.c (y (t.res w.r)),q a] from⟨(a' rfl:0<5),b5 _,u,u⟩) λN P I=>
  KJ (k:=0) k n e H J (by unfold aK at j⊢;exact(k5 j)) o λs r=>I _ s r _ _ K (.same (f4 _)) B
end
end
abbrev iP:aL:=c (m 82) []
noncomputable def fY(a:B)(b:N):List (Nat×bF):=[(805,xY a b)]
abbrev jm:I:=⟨iP.scope,none,[("world",5)]⟩
def Dx{c:Frag}{e:B}{i:N}{n:M}{j h k g:Nat}{b d:af}
  (o:aU (x (f c) (fY e i) (k+100) (g+39)) jm (λm a=>iX m a λr=>d m ⟨r.objs,[]⟩) (aT 0 iP.body) ⟨l n++bA,[("name",.str (E j)),("depth",q h)]⟩ (λp a=>b (mD p) ⟨a.objs,[]⟩)):
  av (x (f c) (fY e i) (k+100) (g+39)) none iP [.obj 0,.str (E j),q h] ⟨l n,[]⟩ b d:=by apply z o;kernel_rfl
section
variable{e:Frag}{n:B}{s:N}{a:M}{c b k o t:Nat}{d:Q}{i:af}
def Du(g:cond ((Int.ofNat b).beq' (Int.ofNat a.L)) (d (.ret (ax nM)) ⟨l a++bA,[("name",.str (E c)),("depth",q b)]⟩) (d .next ⟨l a++bA,[("name",.str (E c)),("depth",q b)]⟩)):
  A (x (f e) (fY n s) (k+100) (o+39)) jm 0 iP.body ⟨l a++bA,[("name",.str (E c)),("depth",q b)]⟩ d i:=by apply z g;kernel_rfl
def L0(j:(C a.r.U).ble sizeLine=true)(g:d .next ⟨l (a.st (a.r.dc (dM c (b+1))))++bA,[("name",.str (E c)),("depth",q b)]⟩):
  A (x (f e) (fY n s) (k+100) (o+39)) jm 1 iP.body ⟨l a++bA,[("name",.str (E c)),("depth",q b)]⟩ d i:=by
 rw [show a.r.dc (dM c (b+1))={a.r with U:=aJ a.r.U (dM c (b+1))} from by refine h (c0 ..) ?_;rfl] at g;conv=>whnf
 refine h (j ..) ?_;exact g
abbrev ko(c b:Nat)(a:g):List (Str×Y):=[("name",.str (E c)),("depth",q b),("ended",ax a)]
def L1(g:d .next ⟨l a++bA,ko c b (.ok H)⟩):
  A (x (f e) (fY n s) (k+100) (o+39)) jm 2 iP.body ⟨l a++bA,[("name",.str (E c)),("depth",q b)]⟩ d i:=g
def L3{j:List (Str×Y)}{h:g}(m:∀p,d (.ret (ax h)) ⟨l a++bA,p⟩):
  A (x (f e) (fY n s) (k+100) (o+39)) jm 4 iP.body ⟨l a++bA,ko c b h++j⟩ d i:=m _
end
abbrev kl:Option Stmt:=t iP.body 3
def L2{c:Frag}{b:B}{j:N}{w:M}{a i k g:Nat}{d:Q}{e:af}(n:U (E a) w.aW=some (.c (cS (b.aW a))))
  (m:bO none (f c) (x (f c) (fY b j) (k+99) (g+39)) jm (cc kl) (bX kl) [] d e (cS (b.aW a)) ⟨l w++bA,ko a i (.ok H)⟩):
  A (x (f c) (fY b j) (k+100) (g+39)) jm 3 iP.body ⟨l w++bA,ko a i (.ok H)⟩ d e:=by
 conv=>whnf
 refine h (n ..) ?_;exact m
def zN(a:Option Stmt):Expr:=eS 0 (eR (t (gR a) 0) 0)
def QR(a:Option Stmt):Expr:=eS 1 (eR (t (gR a) 0) 0)
def QQ(a:Option Stmt):Scope:=qD (eR (t (gR a) 0) 0)
abbrev rJ:Option Stmt:=t (bX kl) 0
section
variable{a:Frag}{b:B}{d:N}{w:M}{k c:Nat}
abbrev yR:I:=⟨e6 (QQ rJ) iP.scope,none,[("world",5)]⟩
def LR{g j:af}{e:Str}{i:Vn}(n:(ds e (some 1) none).length.ble sizeLine=true)(o:ds e (some 1) none=i.str)(m:g (.str (w.r.get i).val) ⟨l w++bA,iZ (.str e)⟩):
  ((x (f a) (fY b d) (k+89) (c+39)).E yR (eS 1 (zN rJ)) ⟨l w++bA,iZ (.str e)⟩).A g j:=by
 conv=>whnf
 refine h (n ..) ?_;conv=>whnf
 refine h (o ..) ?_;conv=>whnf
 refine h (WP ..) ?_;exact m
abbrev rP(a:Frag)(b:B)(d:N)(k c:Nat)(g:List Y->St->Prop)(h e:List Y)(i:St):Prop:=jA none (f a) (x (f a) (fY b d) (k+90) (c+39)) yR (QR rJ) [] (zN rJ) g h e i
def LQ{h:List Y->St->Prop}{i g:List Y}{e:Str}{j:List (Str×Y)}(o:j=[]\/∃n,j=iZ n)
  (m:cond ((C g).ble sizeLine) (cond ((ds e none (some 1)).length.ble sizeLine) (cond (Fast.sEq (ds e none (some 1)) (Str.ofString "$"))
    (((x (f a) (fY b d) (k+89) (c+39)).E yR (eS 1 (zN rJ)) ⟨l w++bA,iZ (.str e)⟩).A (λq p=>rP a b d k c h i (aJ g q) p) (λr r=>False))
    (rP a b d k c h i (aJ g (.str e)) ⟨l w++bA,iZ (.str e)⟩)) False) False):rP a b d k c h (.str e::i) g ⟨l w++bA,j⟩:=by
 rcases o with rfl|⟨n,rfl⟩
 . apply z m;kernel_rfl
 . apply z m;kernel_rfl
def KP(i:List Y->St->Prop)(g h f:List Str)(e:List (Str×Y))(x:e=[]\/∃A,e=iZ A) (t:nq w.r g h) (r:f.length+g.length<=1000)
  (q:∀e,i (y (f++h)) ⟨l w++bA,e⟩):rP a b d k c i (y g) (y f) ⟨l w++bA,e⟩:=by
 induction t generalizing f e with
 |nil=>exact et f▸q e
 | @cons s n g h p B z=>
  refine LQ x (aY (Nat.ble_eq.mpr (ho ..▸L (c5 _ _) (L r (by decide)))) (aY p.1 ?_));have o:rP a b d k c i (y g) (aJ (y f) (.str n)) ⟨l w++bA,iZ (.str s)⟩:=
   rr ..▸z (f++[n]) _ (.inr ⟨.str s,rfl⟩) (by rw [List.length_append];exact(bV r (by simp+arith only [List.length_cons,List.length_nil]))) λe=>jX f [n] h▸q e
  rcases p.2 with⟨j,m⟩|⟨j,C,m,u,v⟩
  . exact dX j (m▸o)
  . exact aY j (LR m u (v▸o))
end
noncomputable abbrev Be(a b:Y):List (Str×Y):=[("words",a),("texts",b)]
theorem Dv{ao:Frag}{c:B}{go:N}{w:M}{r m k d:Nat}{j:Q}{X:af}{b:g}(q:∀a,b≠.ok a) (o:∀a n u v,b≠.M 0 a n u v) (p:∀z,j .next ⟨l w++bA,ko r m b++z⟩):∀(h:List aI)(i e:Y),
  bO none (f ao) (x (f ao) (fY c go) (k+99) (d+39)) jm (cc kl) (bX kl) [] j X (cS h) ⟨l w++bA,ko r m b++Be i e⟩
 |[],i,e=>p _
 |A::h,i,e=>by
  have s:=Dv (ao:=ao) (c:=c) (go:=go) (k:=k) (d:=d) (X:=X) q o p h (.c (y A.words)) e;induction b using g.casesOn with
  |ok a=>exact absurd rfl (q a)
  |C=>exact s
  |M t a n u v=>
   rcases t with _|t
   . exact absurd rfl (o _ _ _ _)
   . exact s
def aM.CO{e:B}{b k:Nat}{r c:o}{f:g}(h:aM b k r)(d:cC e 0 r f c):aM b k c:=dC h d.U (by simp+arith only)
def L4{u:Frag}{c:B}{t:N}(Z:bb c t){w:M}{k D E H a:Nat}(P:a+1<=c.L)(V:aK c (a+1) 7<=D+39)(C:Q)(J:af){p:dU}
  (L:∀K r,some (K,r)=p->∀d,C .next ⟨l (w.st r)++bA,ko H a K++d⟩) (i:List aI):
  ∀(A:Str)(r:o)(d:List (Str×Y)),(d=[]\/∃b n,d=Be b n)->DS c (w.st r)->aM (a+1) 10 r->(∀g∈i,g.Ok)->hL t c E (a+1) i A r=p->p≠none->
  bO none (f u) (x (f u) (fY c t) (k+99) (D+39)) jm (cc kl) (bX kl) [] C J (cS i) ⟨l (w.st r)++bA,ko H a (.ok A)++d⟩:=by
 induction i with
 |nil=>exactλA r d O q v F e XI=>L _ _ e d
 |cons g i X=>
  intro A r d O q v F e R;have y:=F g (.head _);have XC:∃j m,hK t c E g (a+1) r=some (j,m)/\∀b n,bO none (f u) (x (f u) (fY c t) (k+99) (D+39)) jm (cc kl) (bX kl) [] C J (cS i) ⟨l (w.st m)++bA,ko H a j++Be b n⟩:=by
   refine Exists.elim (Option.ne_none_iff_exists'.mp R) λXG S=> ?_;obtain⟨j,m,z,U⟩:=fe (e.trans S);have s:=lE q.b3 Z y q.V q.bu z;have e:=U.trans S.symm;refine⟨j,m,z,λb n=> ?_⟩;cases hi:cF j with
   |true=>
    rw [hi] at e;refine Exists.elim (qa hi) λI W=> ?_;subst W;exact X I m _ (.inr ⟨b,n,rfl⟩) (DS.st (w:=w.st r) q s.V (s.C (λG=>aA (T cF G))) P (v.CO s)) (v.CO s) (λb G=>F b (.tail _ G)) e R
   |false=>
    rw [hi] at e;exact Dv (λI p=>by rw [p] at hi;exact aA (hi)) (λI XD XE XH p=>absurd (s.M _ _ _ _ _ p).2.1 (by decide)) (L _ _ e) i b n
  obtain⟨j,m,z,next⟩:=XC;rcases O with rfl|⟨b,n,rfl⟩;all_goals
   conv=>whnf
   exact KP (w:=w.st r) _ g.words (g.res r) [] [] (.inl rfl) (Hz y) (by refine h (List.length_nil ..) ?_;refine h (t3 ..) ?_;exact HA y) λXF=>⟨w.st r,bA,_,g,a+1,E,j,m,q,y,P,v,rfl,rfl,V,z,next _ _⟩
def M5{r:o}{d b a:Nat}(c:aM a 10 r):aM (a+1) 10 (r.dc (dM d b)):=by unfold aM at c⊢;refine(?_:(r.U++[dM d b]).length<=3*r.S+10+3*(a+1));rw [List.length_append];refine(?_:r.U.length+1<=_);exact(bV c (by simp+arith only))
def UE{b:B}{a d:Nat}(f:a<b.L)(c:aK b a 0<=d+1):aK b (a+1) 7<=d:=by
 have e:b.L-(a+1)+1=b.L-a:=by refine ba (Nat.sub_sub ..) ?_;exact hT (Nat.sub_pos_of_lt f)
 unfold aK at c⊢;rw [<-e] at c;exact bV c (by simp+arith only)
def L5{J:Frag}{a:B}{n y:Nat}(Q:bb a (dP a n y)){w:M}{c b k F:Nat}{e:g}{A:o}{s K:af}(d:DS a w)(G:c<6)(O:b<=a.L)(P:aM b 10 w.r)(N:aK a b 0<=F+40)
  (i:dP a n (y+1) c b w.r=some (e,A))(u:∀m j,s (ax e) ⟨l (w.st A)++m,j⟩):
  av (x (f J) (fY a (dP a n y)) (k+100) (F+39)) none iP [.obj 0,.str (E c),q b] ⟨l w,[]⟩ s K:=by
 have i:(match Nat.beq b a.L with|true=>some (nM,w.r)|false=>hL (dP a n y) a n (b+1) (a.aW c) H (w.r.dc (dM c (b+1))))=some (e,A):=i;have v:(Int.ofNat b).beq' (Int.ofNat w.L)=Nat.beq b a.L:=by refine h (d.L ..) ?_;rfl
 have u:∀t C,some (t,C)=some (e,A)->∀m j,s (ax t) ⟨l (w.st C)++m,j⟩:=λt C p=>eQ (P:=λe r=>∀m j,s (ax e) ⟨l (w.st r)++m,j⟩) p.symm u;induction z:Nat.beq b a.L using Bool.casesOn with
 |true=>
  rw [z] at i v;refine Dx (bm 0 (Du (sT v ?_)));exact u _ _ i _ _
 |false=>
  rw [z] at i v;have D:b<a.L:=Nat.lt_of_le_of_ne O λp=>by rw [p,Nat.beq_refl] at z;cases z
  have I:aM (b+1) 10 (w.r.dc (dM c (b+1))):=M5 P;refine Dx (bm 0 (Du (sF v (bm 1 (L0 (Nat.ble_eq.mpr (by refine h (aZ ..) ?_;exact L d.mi (by decide))) (bm 2 (L1 (bm 3 (L2 (w:=w.st _) (d.aW c G) ?_)))))))));refine L4 Q D (UE D N) _ _ (λt C p R=> ?_) (a.aW c) H _ [] (.inl rfl) (d.st (u9 d.V c (b+1)) d.bu D I) I (d.b3.aW c G).2 i nofun;refine bm 4 (L3 λj=> ?_);exact u _ _ p _ _
abbrev NH:aL:=c (m 78) []
inductive ra(d:Nat)(args:List Y)(st:St)(K X:af):Prop
 |mk (a c e) (v:Vn) (b):de a->args=[.obj 0,.str v.str,.str b]->st=⟨l a++c,e⟩->10<=d->K (ax (.ok b)) ⟨l (a.st (a.r.bG v b))++c,e⟩->ra d args st K X
def Mu{g:Frag}{c:M}{b:Vn}{a:Str}{k i:Nat}{d h:af}(j:∀e m,d (ax (.ok a)) ⟨l (c.st (c.r.bG b a))++e,m⟩):
  av (x (f g) [] (k+100) (i+9)) none NH [.obj 0,.str b.str,.str a] ⟨l c,[]⟩ d h:=by rcases b with _|_|_<;>exact j [] _
def Mv{d:au}{p:Program}{e:Frag}(b:aC d.hb (f e))(k:aV (f e)):az d p 774 ra:=by
 rintro g y z t w ⟨j,s,h,c,i,a,m,n,o,q⟩;subst m;subst n;obtain⟨g,rfl⟩:=rm (n:=9) o;exact nK b (bt (ct:=[]) b k (λA=>trivial) 100 (g+9)) (b.fn 774 _ rfl) a (show aH 5 [.obj 0,.str c.str,.str i] from⟨(a' rfl:0<5),u,u,u⟩) λv x r=>
  Mu (k:=0) λl h=>r (j.st (j.r.bG c i)) l h _ _ ⟨by rcases c with _|_|_<;>exact a.U,a.aW,a.a6⟩ (.same (f4 _)) q
abbrev gz:aL:=c (m 89) []
noncomputable def dB(a:B)(b:N):List (Nat×bF):=[(798,df a b),(781,m5),(786,ui),(774,ra)]
abbrev bd:I:=⟨gz.scope,none,[]⟩
abbrev fH(b:List Str)(a:Nat):List (Str×Y):=[("world",.obj 0),("words",.c (y b)),("depth",q a),("kept",.obj 6),("groups",.obj 5)]
def K7{b:Frag}{d:B}{h:N}{i:M}{j:List Str}{g k e:Nat}{a c:af}
  (m:aU (x (f b) (dB d h) (k+100) (e+39)) bd (fX [] c) (aT 1 gz.body) ⟨l i++[.c [],.c []],fH j g⟩ (fK [] a)):
  av (x (f b) (dB d h) (k+100) (e+39)) none gz [.obj 0,.c (y j),q g] ⟨l i,[]⟩ a c:=by apply z m;kernel_rfl
abbrev ic:Option Stmt:=t gz.body 1
abbrev fB:List Stmt:=bX ic
noncomputable abbrev sj(a b c:Y):List (Str×Y):=[("at",a),("items",c),("names",b)]
inductive Ws|eP (m:Bool) (b a s:Str)|d6 (m:Bool) (b a d c s:Str)
def Ws.W:Ws->List Str
 | .eP m b a s=>[bo m,b,a,s]| .d6 m b a d c s=>[bo m,b,a,d,c,s]
def Ws.m:Ws->Bool
 | .eP m .. =>m| .d6 m .. =>m
def Ws.s:Ws->Str
 | .eP _ _ _ s=>s| .d6 _ _ _ _ _ s=>s
inductive It|ai (m:Bool) (am aq s:Str)|ah (m:Bool) (am aq b a s:Str)|al (m:Bool) (am aq b a s:Str) (c its:List Y)
def It.W:It->List Str
 | .ai m am aq s=>[bo m,am,aq,s]| .ah m am aq b a s=>[bo m,am,aq,b,a,s]| .al m am aq b a s _ _=>[bo m,am,aq,b,a,s]
def It.m:It->Bool
 | .ai m .. =>m| .ah m .. =>m| .al m .. =>m
def It.am:It->Str
 | .ai _ am .. =>am| .ah _ am .. =>am| .al _ _ _ am .. =>am
def It.aq:It->Str
 | .ai _ _ aq _=>aq| .ah _ _ aq .. =>aq| .al _ _ _ _ aq .. =>aq
def It.i:It->Nat
 | .al .. =>3|_=>1
def It.p:It->Nat
 | .al .. =>10|_=>7
noncomputable def It.gv:It->List Y
 | .al .. =>[.l [.obj 7,.obj 8]]|_=>[]
noncomputable def It.J:It->List ae
 | .al _ _ _ _ _ _ a its=>[.c a,.c its,.c []]|_=>[]
def It.cl:It->List (Str×Y)
 | .al .. =>sj (q 1) (.obj 7) (.obj 8)|_=>[]
def It.at:It->List (Str×Y)
 | .al .. =>sj (q 3) (.obj 7) (.obj 8)|_=>[("at",q 1)]
abbrev It.ae(a:It)(b:List ae):List ae:= .c a.gv:: .c []::(a.J++b)
abbrev fR(a:Frag)(b:B)(d:N)(k c:Nat):O:=x (f a) (dB b d) (k+95) (c+39)
noncomputable def xi(c:Nat)(a:Expr):Expr:=by
 induction a using Expr.casesOn with
 |Tuple b _ _=>exact b.getD c (.Constant (.bool true) 0 ⟨0,0,0,0⟩)
 |_=>exact .Constant (.bool true) 0 ⟨0,0,0,0⟩
abbrev e2:Expr:=xi 1 (eR (t fB 0) 0)
section
variable{d:Frag}{n:B}{s:N}{a:M}{c k g:Nat}{b:Q}{i:af}{C:List Y}{u:List ae}{w v:Y}{t:It}
def Ql:aU (fR d n s k g) bd (bT i) (aT 0 fB) ⟨l a++t.ae [],fH t.W c++t.at⟩ (eU (bO none (f d) (fR d n s k g) bd (cc ic) fB [] b i C) b)=
  bO none (f d) (fR d n s k g) bd (cc ic) fB [] b i (q t.i::C) ⟨l a++t.ae [],fH t.W c++t.cl⟩:=by rcases t with _|_|_<;>kernel_rfl
def Qe:m5 (g+39) [.str t.am] ⟨l a++u,fH t.W c++t.at⟩ (λw e=>((x (f d) (dB n s) (k+93) (g+39)).E bd e2 e).A (λv e=>b .next ⟨e.objs,aO "names" w (aO "items" v e.d)⟩) i) i=A (fR d n s k g) bd 0 fB ⟨l a++u,fH t.W c++t.at⟩ b i:=by rcases t with _|_|_<;>kernel_rfl
def Qm{b:af}:m5 (g+39) [.str t.aq] ⟨l a++u,fH t.W c++t.at⟩ b i=((x (f d) (dB n s) (k+93) (g+39)).E bd e2 ⟨l a++u,fH t.W c++t.at⟩).A b i:=by rcases t with _|_|_<;>kernel_rfl
abbrev It.e(t:It)(c:Nat)(w v:Y):List (Str×Y):=fH t.W c++sj (q t.i) w v
def EB:aO "names" w (aO "items" v (fH t.W c++t.at))=t.e c w v:=by rcases t with _|_|_<;>kernel_rfl
noncomputable def oL:Option (List Y)->List ae
 |none=>[]|some a=>[.c a]
def Qh{e:Option (List Y)}:b (.ret (ax gr)) ⟨l a++t.ae (oL e++[.c []]),t.e c .none v⟩=aU (fR d n s k g) bd i (aT 1 fB) ⟨l a++t.ae (oL e),t.e c .none v⟩ b:=by rcases t with _|_|_<;>rcases e with _|_<;>kernel_rfl
def Qg{e:Option (List Y)}:(gg 20 (.c [])=true/\([]:List Y)=[]/\b (.ret (ax (iO t.m))) ⟨l a++t.ae (.c []::(oL e++[.c []])),t.e c (.obj t.p) v⟩)=A (fR d n s k g) bd 1 fB ⟨l a++t.ae (.c []::oL e),t.e c (.obj t.p) v⟩ b i:=by rcases t with⟨_|_⟩|⟨_|_⟩|⟨_|_⟩<;>rcases e with _|_<;>kernel_rfl
def EA{o:Option (List Y)}{f:Y}{e:List Y}:b .next ⟨l a++t.ae (.c (f::e)::(oL o++[.c []])),t.e c (.obj t.p) v⟩=A (fR d n s k g) bd 1 fB ⟨l a++t.ae (.c (f::e)::oL o),t.e c (.obj t.p) v⟩ b i:=by rcases t with _|_|_<;>rcases o with _|_<;>kernel_rfl
def Qj:b (.ret (ax gr)) ⟨l a++u,t.e c (.obj t.p) .none⟩=A (fR d n s k g) bd 2 fB ⟨l a++u,t.e c (.obj t.p) .none⟩ b i:=by rcases t with _|_|_<;>kernel_rfl
def Qi{e:Nat}:b .next ⟨l a++u,t.e c (.obj t.p) (.obj e)⟩=A (fR d n s k g) bd 2 fB ⟨l a++u,t.e c (.obj t.p) (.obj e)⟩ b i:=by rcases t with _|_|_<;>kernel_rfl
def Qk{f e:List Y}:b .next ⟨l a++(.c (t.gv++[.l [.obj t.p,.obj (t.p+1)]]):: .c []::(t.J++[.c f,.c e,.c []])),t.e c (.obj t.p) (.obj (t.p+1))⟩=aU (fR d n s k g) bd i (aT 3 fB) ⟨l a++t.ae [.c f,.c e,.c []],t.e c (.obj t.p) (.obj (t.p+1))⟩ b:=by rcases t with _|_|_<;>kernel_rfl
def zD{b:List ae}:l a++t.ae u++b=l a++t.ae (u++b):=by rcases t with _|_|_<;>rfl
def Qn:(l a++t.ae []).length=t.p:=by rcases t with _|_|_<;>rfl
def Qo{b:ae}:(l a++t.ae ([]++[b])).length=t.p+1:=by rcases t with _|_|_<;>rfl
def Qf{p:Nm}{o:J}(N:t.am=p.str)(M:t.aq=o.res a.r)(K:nc (o.res a.r) (o.aN a.r))(B:10<=g+39)
  (r:p.names=none->∀(O:Option (List Y)) v,b .next ⟨l a++t.ae (oL O),t.e c .none v⟩)
  (H:∀e,p.names=some e->o.aN a.r=none->b .next ⟨l a++t.ae [.c (y (e.map Vn.str))],t.e c (.obj t.p) .none⟩)
  (I:∀e j,p.names=some e->o.aN a.r=some j->b .next ⟨l a++t.ae [.c (y (e.map Vn.str)),.c (y j)],t.e c (.obj t.p) (.obj (t.p+1))⟩):
  A (fR d n s k g) bd 0 fB ⟨l a++t.ae [],fH t.W c++t.at⟩ b i:=by
 have D:∀(w:Y)(u:List ae),(o.aN a.r=none->b .next ⟨l a++u,t.e c w .none⟩)->(∀j,o.aN a.r=some j->b .next ⟨l a++u++[.c (y j)],t.e c w (.obj (l a++u).length)⟩)->
   ((x (f d) (dB n s) (k+93) (g+39)).E bd e2 ⟨l a++u,fH t.W c++t.at⟩).A (λv q=>b .next ⟨q.objs,aO "names" w (aO "items" v q.d)⟩) i:=λw u E F=>
  z (m5.mk t.aq (o.aN a.r) (by refine h (M ..) ?_;exact K) rfl B (λm=>EB (v:= .none)▸E m) λj m=>EB (v:= .obj (l a++u).length)▸F j m) Qm
 refine z (m5.mk t.am (p.names.map λe=>e.map Vn.str) (by refine h (N ..) ?_;exact .nm p) rfl B (λm=> ?_) λQ m=> ?_) Qe
 . have m:=Option.map_eq_none_iff.mp m;exact D .none (t.ae []) (λP=>r m none .none) λj P=>zD▸r m (some (y j)) (.obj (l a++t.ae []).length)
 . obtain⟨e,C,rfl⟩:=Option.map_eq_some_iff.mp m;have G:l a++t.ae []++[.c (y (e.map Vn.str))]=l a++t.ae [.c (y (e.map Vn.str))]:=zD;refine(?_:((x (f d) (dB n s) (k+93) (g+39)).E bd e2 ⟨l a++t.ae []++[.c (y (e.map Vn.str))],fH t.W c++t.at⟩).A (λv q=>b .next ⟨q.objs,aO "names" (.obj (l a++t.ae []).length) (aO "items" v q.d)⟩) i);refine h (G ..) ?_;refine h (Qn ..) ?_;exact D (.obj t.p) (t.ae [.c (y (e.map Vn.str))]) (H e C) λj L=>Qo (t:=t)▸zD▸I e j C L
def K0(t:It){p:Nm}{r:J}(I:t.am=p.str)(H:t.aq=r.res a.r)(E:nc (r.res a.r) (r.aN a.r))(G:10<=g+39)
  (B:∀w,(w=iO t.m/\p.names=some [])\/(w=gr/\(p.names=none\/r.aN a.r=none/\p.names≠some []))->∀u K,b (.ret (ax w)) ⟨l a++u,K⟩)
  (F:∀e m,p.names=some e->e≠[]->r.aN a.r=some m->bO none (f d) (fR d n s k g) bd (cc ic) fB [] b i C ⟨l a++(.c (t.gv++[.l [.obj t.p,.obj (t.p+1)]]):: .c []::(t.J++[.c (y (e.map Vn.str)),.c (y m),.c []])),t.e c (.obj t.p) (.obj (t.p+1))⟩):
  bO none (f d) (fR d n s k g) bd (cc ic) fB [] b i (q t.i::C) ⟨l a++t.ae [],fH t.W c++t.cl⟩:=by
 have D:p.names=some []->∀(o:Option (List Y)) v,A (fR d n s k g) bd 1 fB ⟨l a++t.ae (.c []::oL o),t.e c (.obj t.p) v⟩ (eT (fR d n s k g) bd (bT i) fB 2 (eU (bO none (f d) (fR d n s k g) bd (cc ic) fB [] b i C) b)) (bT i):=
  λj o v=>Qg (t:=t)▸⟨rfl,rfl,B (iO t.m) (.inl ⟨rfl,j⟩) _ _⟩
 refine z (bm 0 (Qf I H E G (λj o v=>nx ?_) (λe j x=>nx (bm 1 ?_)) λe m j x=>nx (bm 1 ?_))) Ql
 . exact Qh (t:=t)▸B gr (.inr ⟨rfl,.inl j⟩) _ _
 . rcases e with _|⟨v,e⟩
   . exact D j none .none
   . refine EA (t:=t) (o:=none)▸nx (bm 2 ?_);exact Qj (t:=t)▸B gr (.inr ⟨rfl,.inr ⟨x,by refine h (j ..) ?_;exact nofun⟩⟩) _ _
 . rcases e with _|⟨v,e⟩
   . exact D j (some (y m)) _
   . refine EA (t:=t) (o:=some (y m))▸nx (bm 2 ?_);refine Qi (t:=t)▸nx ?_;exact Qk (t:=t)▸F (v::e) m j nofun x
end
def Ws.is:Ws->List Y
 | .eP .. =>[q 1]| .d6 .. =>[q 1,q 3]
def KV{b:Frag}{e:B}{i:N}{j:M}{h k g:Nat}{c:Q}{d:af}{a:Ws}(m:bO none (f b) (x (f b) (dB e i) (k+99) (g+39)) bd (cc ic) (bX ic) [] c d a.is ⟨l j++[.c [],.c []],fH a.W h⟩):
  A (x (f b) (dB e i) (k+100) (g+39)) bd 1 gz.body ⟨l j++[.c [],.c []],fH a.W h⟩ c d:=by rcases a with _|_<;>(apply z m;kernel_rfl)
abbrev KU(c:List Str)(a:Nat)(b:Y):List (Str×Y):=[("world",.obj 0),("words",.c (y c)),("depth",q a),("kept",.obj 6),("groups",b)]
def gO:List bH->List ae
 |[]=>[]
 |a::b=> .c (y (a.1.map Vn.str)):: .c (y a.2):: .c []::gO b
noncomputable def gT:Nat->List bH->List Y
 |_,[]=>[]
 |a,c::b=> .l [.obj a,.obj (a+1)]::gT (a+3) b
abbrev lK:Option Stmt:=t gz.body 2
abbrev ie:Option Stmt:=t (jP lK) 1
abbrev kq:Option Stmt:=t (bX ie) 0
inductive Sh|eP|fst (a b:List Y)|snd (a b:List Y)
def Sh.am:Sh->Nat
 | .eP=>10|_=>13
def Sh.j:Sh->Nat
 | .snd .. =>11|_=>8
def Sh.H(f:Sh)(c m:ae->ae)(d e b a:List Y):List ae:=c (.c d):: .c e::match f with
 | .eP=>[m (.c b),.c a,.c []]
 | .fst ai ah=>[m (.c b),.c a,.c [],.c ai,.c ah,.c []]
 | .snd ai ah=>[.c ai,.c ah,.c [],m (.c b),.c a,.c []]
def x1{f:Type}(i:i8 f)(k:Nat)(g h:f->St->Prop):Prop:=∀c d a b e,es k a.objs=b->b.length=k->dn k b->di k (cm (List.range k) k []) a.objs a.d e->i k (cm (List.range k) k []) a.objs c d->g d ⟨b,e⟩->h c a
def ze{g:Type}{bv:i8 g}{cx:I}{k:Nat}{run:St->ab g}{a:List ae}{lc:List (Str×Y)}{c:g->St->Prop}{X:af}(b:a.length=k)(w:dn k a)(y:bB k lc)(x:lC k cx.cells)(z:pz k cx.hd)
  (v:∀i p,x1 bv k c i->(run ⟨a,lc⟩).A i p):(fo bv cx (some k) run ⟨a,lc⟩).A c X:=by
 have e:es k a=a:=by refine h (kP ..) ?_;exact List.take_of_length_le (ed b)
 refine⟨e.symm▸b,e.symm▸w,y,x,z,?_⟩;refine(?_:(run ⟨es k a,lc⟩).A _ _);refine h (e ..) ?_;refine v _ _ λC j B d o q m r s t u=> ?_;obtain⟨f,A⟩:=B;have e2:f=d++aT k f:=by refine ba (q ..) ?_;refine h (kP ..) ?_;refine h (Dt ..) ?_;exact(List.take_append_drop _ _).symm
 have n:=pU (n:=a.length) (J:=aT k f) (lc:=A) m r;rw [<-e2] at n;refine .mk [] d [] o j n (b▸s) (b▸t) ?_;have l:=qv (G:=[]) m b;rw [List.append_nil] at l;refine(?_:c j ⟨fx (List.range k) d a++[],o⟩);refine h (l ..) ?_;refine h (et ..) ?_;refine h (et ..) ?_;exact u
def CJ{k c:Nat}(i:k<=c):∀{b:Y},dq k b->dq c b:=λ{b}=>by
 refine Y.rec (motive_1:=λb=>dq k b->dq c b) (motive_2:=λf=>aH k f->aH c f) ?_ ?_ ?_ ?_ ?_ ?_ ?_ ?_ ?_ ?_ ?_ ?_ b
 . exact id
 . exactλa=>id
 . exactλa=>id
 . exactλa=>id
 . exactλa=>id
 . exactλj(d:j<k)=>hr d i
 . exactλa=>id
 . exactλa=>id
 . exactλa e=>e
 . exactλa e=>e
 . exact id
 . exactλa a g h d=>⟨g d.1,h d.2⟩
theorem CK{k c:Nat}(b:k<=c):∀{d:List Y},aH k d->aH c d
 |[],a=>a
 |_::_,a=>⟨CJ b a.1,CK b a.2⟩
theorem rH{k c:Nat}(b:k<=c):∀{d:List (Str×Y)},bB k d->bB c d
 |[],a=>a
 |_::_,a=>⟨CJ b a.1,rH b a.2⟩
def de.rG{e:M}(c:de e){d:Nat}(a:5<=d):dn d (l e):=by have b:=c.cL;refine⟨?_,rH a b.2.1,rH a b.2.2.1,CK a b.2.2.2.1,rH a b.2.2.2.2.1,u⟩;exact rH a c.cL.1
theorem pA{k:Nat}:∀{b c:List ae},dn k b->dn k c->dn k (b++c)
 |[],_,_,a=>a
 |_::_,_,ai,a=>⟨ai.1,pA ai.2 a⟩
def rQ{c:Type}{g:i8 c}{k:Nat}{d e:c->St->Prop}{f b':c}{a:St}{b:List ae}{h:List (Str×Y)}(i:x1 g k d e)(j:es k a.objs=b)(l:b.length=k)(o:dn k b)(p:di k (cm (List.range k) k []) a.objs a.d h)(m:g k (cm (List.range k) k []) a.objs f b')(n:d b' ⟨b,h⟩):e f a:=
 i _ _ _ _ _ j l o p m n
def de.bG{c:M}{r:o}(a:de (c.st r))(b:Vn)(d:Str):de (c.st (r.bG b d)):=⟨by cases b<;>exact a.U,a.aW,a.a6⟩
abbrev hA(a:Frag)(b:B)(d:N)(k c:Nat):O:=x (f a) (dB b d) (k+90) (c+39)
abbrev eE(a:List Str)(d:Nat)(e:Y)(f b c:Nat):List (Str×Y):=KU a d e++sj (q f) (.obj b) (.obj c)
abbrev eN(a:List Str)(d e b c:Nat)(f:Str):List (Str×Y):=eE a d (.obj 5) e b c++([("name",.str f)]:List (Str×Y))
section
variable{v:Frag}{w:B}{x:N}{d:M}{k s t i n:Nat}{c e g:List Y}{h:List Str}{b:Vn}{r:o}{a:List Str}{q:af}
def uX{c:Y}{a b:Nat}(d:7<=t)(g:dq t c)(e:a<t)(f:b<t):bB t (eE h i c n a b):=
 ⟨hr (by decide) d,b5 _,u,hr (by decide) d,g,u,f,e,u⟩
def di.sU{k:Nat}{mv:Nat->Option Nat}{ob:List ae}{e d:List (Str×Y)}(g:bB k d)(f:∀a c,U a d=some c->U a e=some c):di k mv ob e d:=λa c j=>
 have⟨b,h,i⟩:=di.same (mv:=mv) (ob:=ob) g a c j
 ⟨b,f a b h,i⟩
def JL{a c:List (Str×Y)}(b:bB t a)(d:bB t c):bB t (a++c):=by
 induction a with
 |nil=>exact d
 |cons p a e=>exact⟨b.1,e b.2⟩
def EV{b:Str}{d:Y}{c e:List (Str×Y)}(a:U b c=some d):U b (c++e)=some d:=by
 induction c with
 |nil=>exact bh a
 |cons p c g=>
  refine(?_:cond (Fast.sEq p.1 b) (some p.2) (U b (c++e))=some d);have a:cond (Fast.sEq p.1 b) (some p.2) (U b c)=some d:=a;cases f:Fast.sEq p.1 b with
  |true=>rw [f] at a;exact a
  |false=>rw [f] at a;exact g a
def PW(a:Sh){f:Q}:(gg 20 (.c [])=true/\([]:List Y)=[]/\ra (s+39) [.obj 0,.str b.str,.str H] ⟨l d++(a.H .ro .ro c e g []++[.c []]),eN h i n (a.j-1) a.j b.str⟩ (λm j=>f .next j) q)=
  (cU (hA v w x k s) bd (bX kq) ⟨l d++a.H .ro .ro c e g [],eN h i n (a.j-1) a.j b.str⟩).A f q:=by rcases a with _|_|_<;>kernel_rfl
def PT(f:Sh){j:Y}{a:List Y}{m:Q}:cond ((C (j::a)).ble sizeLine) (ra (s+39) [.obj 0,.str b.str,j] ⟨l d++(f.H .ro .ro c e g a++[.c []]),eN h i n (f.j-1) f.j b.str⟩ (λp o=>m .next o) q) False=
  (cU (hA v w x k s) bd (bX kq) ⟨l d++f.H .ro .ro c e g (j::a),eN h i n (f.j-1) f.j b.str⟩).A m q:=by rcases f with _|_|_<;>kernel_rfl
def KZ(j:Sh)(I:∀a,dn j.am (j.H .ro .ro c e g (y a))) (J:10<=s+39) (q:af) (D:Q) (p:List Vn):∀(a:List Str)(r:o),de (d.st r)->a.length<=100000->
  D .next ⟨l (d.st (d5 p a r).2)++j.H .ro .ro c e g (y (d5 p a r).1),eE h i (.obj 5) n (j.j-1) j.j⟩->
  bO (some j.am) (f v) (hA v w x k s) bd (cc kq) (bX kq) [] D q (y (p.map Vn.str)) ⟨l (d.st r)++j.H .ro .ro c e g (y a),eE h i (.obj 5) n (j.j-1) j.j⟩:=by
 have t:7<=j.am/\j.j-1<j.am/\j.j<j.am/\5<j.am:=by cases j<;>exact⟨a' rfl,a' rfl,a' rfl,a' rfl⟩
 have G:bB j.am (eE h i (.obj 5) n (j.j-1) j.j):=uX t.1 t.2.2.2 t.2.1 t.2.2.1;have K:∀r a,(l (d.st r)++j.H .ro .ro c e g a).length=j.am:=λr a=>by rcases j with _|_|_<;>rfl
 have R:∀r a,es j.am (l (d.st r)++(j.H .ro .ro c e g a++[.c []]))=l (d.st r)++j.H .ro .ro c e g a:=λr a=>by rcases j with _|_|_<;>rfl
 induction p with
 |nil=>exactλa r A F E=>E
 |cons b p T=>
  intro a r A F E;refine z (P:=(fo hv bd (some j.am) (cU (hA v w x k s) bd (bX kq)) ⟨l (d.st r)++j.H .ro .ro c e g (y a),eN h i n (j.j-1) j.j b.str⟩).A
   (eU (bO (some j.am) (f v) (hA v w x k s) bd (cc kq) (bX kq) [] D q (y (p.map Vn.str))) D) (bT q)) ?_ (by kernel_rfl)
  refine ze (cx:=bd) (k:=j.am) (K _ _) (pA (A.rG (hU (hU t.1))) (I a)) (JL G ⟨u,u⟩) u u λN V P=> ?_;have M:∀(m:Str)(B:List Str),B.length<=100000->d5 (b::p) a r=d5 p B (r.bG b m)->
    N .next ⟨l (d.st (r.bG b m))++(j.H .ro .ro c e g (y B)++[.c []]),eN h i n (j.j-1) j.j b.str⟩:=λm B S O=>by
   rw [O] at E;refine rQ (b':=bg.next) P (R _ _) (K _ _) (pA ((A.bG b m).rG (hU (hU t.1))) (I B)) (.sU G λX W U=>EV U) (.inr ⟨rfl,nofun⟩) ?_;exact T B (r.bG b m) (A.bG b m) S E
  cases a with
  |nil=>exact z ⟨rfl,rfl,.mk (d.st r) _ _ b H A rfl rfl J (M H [] (bU _) rfl)⟩ (PW j)
  |cons m a=>exact z (sT (Nat.ble_eq.mpr (show C (y (m::a))<=sizeLine from ho (m::a)▸L F (by decide))) (.mk (d.st r) _ _ b m A rfl rfl J (M m a (hU F) rfl))) (PT j)
end
abbrev eB:List Stmt:=jP lK
inductive Gp|eP (a:bH)|d6 (a b:bH)
def Gp.q:Gp->List bH
 | .eP a=>[a]| .d6 a b=>[a,b]
def Gp.am:Gp->Nat
 | .eP _=>10| .d6 .. =>13
def Gp.ai:Gp->Nat
 | .eP _=>7| .d6 .. =>10
section
variable{ao:Frag}{c:B}{go:N}{w:M}{k e dp i a b:Nat}{d:List Y}{W:List Str}{X:af}{ns h:List Vn}{its n:List Str}{s t:Str}
section
variable{f:Bool->St->Prop}
abbrev lM(a:Prop):Prop:=gg 20 (.c [])=true/\([]:List Y)=[]/\a
abbrev tB(ao:Frag)(c:B)(go:N)(k e:Nat)(w:M)(W:List Str)(dp i a b:Nat)(d:List Y)(g:List bH)(f:Bool->St->Prop)(X:af):Prop:=
 ((hA ao c go k e).B bd (hp lK) ⟨l w++(.c (gT 7 g):: .c d::gO g),eE W dp (.obj 5) i a b⟩).A f X
abbrev tS(w:M)(W:List Str)(dp i a b:Nat)(d:List Y)(c:List bH)(e:List ae):St:=⟨l w++(.c (gT 7 c):: .c d::(gO c++e)),eE W dp (.obj 5) i a b⟩
noncomputable abbrev oE:ae:= .c []
def V2:lM (lM (f false (tS w W dp i a b d [(ns,[])] [oE,oE])))=tB ao c go k e w W dp i a b d [(ns,[])] f X:=by kernel_rfl
def V1:f true (tS w W dp i a b d [(ns,s::its)] [oE,oE])=tB ao c go k e w W dp i a b d [(ns,s::its)] f X:=by kernel_rfl
def V6:lM (lM (lM (f false (tS w W dp i a b d [(ns,[]),(h,[])] [oE,oE,oE]))))=tB ao c go k e w W dp i a b d [(ns,[]),(h,[])] f X:=by kernel_rfl
def V5:lM (f true (tS w W dp i a b d [(ns,[]),(h,s::its)] [oE,oE,oE]))=tB ao c go k e w W dp i a b d [(ns,[]),(h,s::its)] f X:=by kernel_rfl
def V4:lM (f true (tS w W dp i a b d [(ns,s::its),(h,[])] [oE,oE,oE]))=tB ao c go k e w W dp i a b d [(ns,s::its),(h,[])] f X:=by kernel_rfl
def V3:f true (tS w W dp i a b d [(ns,s::its),(h,t::n)] [oE,oE,oE])=tB ao c go k e w W dp i a b d [(ns,s::its),(h,t::n)] f X:=by kernel_rfl
end
def K3{p:Gp}{g:Bool->St->Prop}(f:∀j,g (!fI p.q) (tS w W dp i a b d p.q j)):tB ao c go k e w W dp i a b d p.q g X:=by
 rcases p with⟨ns,_|⟨s,its⟩⟩|⟨⟨ns,_|⟨s,its⟩⟩,⟨h,_|⟨t,n⟩⟩⟩
 . exact z ⟨rfl,rfl,rfl,rfl,f _⟩ V2
 . exact z (f _) V1
 . exact z ⟨rfl,rfl,rfl,rfl,rfl,rfl,f _⟩ V6
 . exact z ⟨rfl,rfl,f _⟩ V5
 . exact z ⟨rfl,rfl,f _⟩ V4
 . exact z (f _) V3
section
variable{f:Q}{o:List Y}{x:List ae}{u:g}{y:Ws}{v z:Y}
def MR:cond (!decide (Int.ofNat w.r.S+1<=Int.ofNat w.F)) (f (.ret (ax .C)) ⟨l (w.st w.r.a)++x,eE W dp v i a b⟩) (f .next ⟨l (w.st w.r.a)++x,eE W dp v i a b⟩)=A (hA ao c go k e) bd 0 eB ⟨l w++x,eE W dp v i a b⟩ f X:=by kernel_rfl
abbrev eD(W:List Str)(dp:Nat)(v:Y)(i a b:Nat)(u:g):List (Str×Y):=eE W dp v i a b++([("ended",ax u)]:List (Str×Y))
def MT:df c go (e+39) [.obj 0,.str y.s,q dp] ⟨l w++x,eE y.W dp v i a b⟩ (λg d=>f .next ⟨d.objs,aO "ended" g d.d⟩) X=A (hA ao c go k e) bd 2 eB ⟨l w++x,eE y.W dp v i a b⟩ f X:=by rcases y with _|_<;>kernel_rfl
abbrev bS(w:M)(W:List Str)(dp i a b:Nat)(o d:List Y)(p:Gp)(c:List ae)(u:g):St:=⟨l w++(.c o:: .c d::(gO p.q++c)),eD W dp (.obj 5) i a b u⟩
noncomputable abbrev mr:ae:= .c [.int 0,.int 3,.int 4]
abbrev bE(ao:Frag)(c:B)(go:N)(k e:Nat)(w:M)(W:List Str)(dp i a b:Nat)(o d:List Y)(p:Gp)(u:g)(f:Q)(X:af):Prop:=aU (hA ao c go k e) bd X (aT 3 eB) ⟨l w++(.c o:: .c d::gO p.q),eD W dp (.obj 5) i a b u⟩ f
def MU{p:Gp}:f (.ret (ax .C)) (bS w W dp i a b o d p [mr] .C)=bE ao c go k e w W dp i a b o d p .C f X:=by rcases p with _|_<;>kernel_rfl
def MV{p:Gp}{g:Str}:cond ((C d).ble sizeLine) (f .next (bS w W dp i a b o (aJ d (.str g)) p [mr] (.ok g))) False=bE ao c go k e w W dp i a b o d p (.ok g) f X:=by rcases p with _|_<;>kernel_rfl
abbrev bZ(w:M)(W:List Str)(dp i a b:Nat)(o d:List Y)(p:Gp)(u:g):St:=⟨l w++(.c o:: .c d::(gO p.q++[mr,oE])),eD W dp (.obj (p.am+1)) i a b u⟩
def MX{p:Gp}{g:Nat}{h:Str}{j:List Str}{l m:Nat}:cond (!nu (Int.ofNat g) [0,3,4]) (f (.ret (ax (.M g h j l m))) (bS w W dp i a b o d p [mr] (.M g h j l m))) (cond (aw g 0) (cond ((C d).ble sizeLine) (cond (aw g 3) (f .next (bZ w W dp i a b o (aJ d (.str h)) p (.M g h j l m))) (f .next (bS w W dp i a b o (aJ d (.str h)) p [mr] (.M g h j l m)))) False)
   (cond (aw g 3) (f .next (bZ w W dp i a b o d p (.M g h j l m))) (f .next (bS w W dp i a b o d p [mr] (.M g h j l m)))))=
  bE ao c go k e w W dp i a b o d p (.M g h j l m) f X:=by rcases p with _|_<;>kernel_rfl
end
section
variable{o:Q}{p:Gp}{q u:List Y}{g:Sh}{y v:List Y}{z:Y}
abbrev oR(ao:Frag)(c:B)(go:N)(k e:Nat):O:=x (f ao) (dB c go) (k+95) (e+39)
abbrev gK(i:Nat)(b:List Y)(o:Q):Q:=λa c=>o a (gj (some (i,.c b)) c)
abbrev gX(i:Nat)(a:List Y)(X:af):af:=λc b=>X c (gj (some (i,.c a)) b)
def MS:bO none (f ao) (oR ao c go k e) bd (cc ie) (bX ie) [] (gK 5 q o) (gX 5 q X) q ⟨l w++(.ro (.c q):: .c d::gO p.q),eE W dp (.obj 5) i a b⟩=
  A (x (f ao) (dB c go) (k+96) (e+39)) bd 1 eB ⟨l w++(.c q:: .c d::gO p.q),eE W dp (.obj 5) i a b⟩ o X:=by kernel_rfl
def Ng:bO (some g.am) (f ao) (x (f ao) (dB c go) (k+94) (e+39)) bd (cc kq) (bX kq) [] (gK (g.j-1) u (eT (oR ao c go k e) bd (bT X) (bX ie) 1 (eU (bO none (f ao) (oR ao c go k e) bd (cc ie) (bX ie) [] o X y) o))) (gX (g.j-1) u (bT X)) u ⟨l w++g.H .ro .ro q d u v,eE W dp (.obj 5) i (g.j-1) g.j⟩=
  bO none (f ao) (oR ao c go k e) bd (cc ie) (bX ie) [] o X (.l [.obj (g.j-1),.obj g.j]::y) ⟨l w++g.H .ro id q d u v,eE W dp (.obj 5) i a b⟩:=by rcases g with _|_|_<;>kernel_rfl
end
theorem yS:∀{r:o}(a:de (w.st r))(ns:List Vn)(its:List Str),de (w.st (d5 ns its r).2)
 |_,a,[],_=>a
 |_,a,aj::b,[]=>yS (a.bG aj _) b []
 |_,a,aj::b,i::is=>yS (a.bG aj i) b is
def yJ(g:Sh){K:Q}{vs:List Y}{gv:List Y}(j:∀its,dn g.am (g.H .ro .ro gv d (y (ns.map Vn.str)) (y its))) (m:10<=e+39) (r:o) (n:de (w.st r)) (p:its.length<=100000)
  (h:bO none (f ao) (oR ao c go k e) bd (cc ie) (bX ie) [] K X vs ⟨l (w.st (d5 ns its r).2)++g.H .ro id gv d (y (ns.map Vn.str)) (y (d5 ns its r).1),eE W dp (.obj 5) i (g.j-1) g.j⟩):
  bO none (f ao) (oR ao c go k e) bd (cc ie) (bX ie) [] K X (.l [.obj (g.j-1),.obj g.j]::vs) ⟨l (w.st r)++g.H .ro id gv d (y (ns.map Vn.str)) (y its),eE W dp (.obj 5) i a b⟩:=
 z (KZ g j m _ _ ns its r n p (z h (by rcases g with _|_|_<;>kernel_rfl))) Ng
def KY{p:Gp}{K:Q}(m:de w)(g:10<=e+39)(j:∀B,aH B d) (o:∀t∈p.q,t.2.length<=100000)
  (r:K .next ⟨l (w.st (cg p.q w.r).2)++(.c (gT 7 p.q):: .c d::gO (cg p.q w.r).1),eE W dp (.obj 5) i p.ai (p.ai+1)⟩):
  A (x (f ao) (dB c go) (k+96) (e+39)) bd 1 eB ⟨l w++(.c (gT 7 p.q):: .c d::gO p.q),eE W dp (.obj 5) i a b⟩ K X:=by
 refine z ?_ MS;rcases p with⟨ns,its⟩|⟨⟨ns,its⟩,⟨h,n⟩⟩
 . apply z (yJ (ao:=ao) (c:=c) (go:=go) (k:=k) (W:=W) (dp:=dp) (i:=i) (a:=a) (b:=b) (K:=gK 5 (gT 7 [(ns,its)]) K) (X:=gX 5 (gT 7 [(ns,its)]) X) (vs:=[]) .eP (gv:=gT 7 [(ns,its)]) (ns:=ns) (its:=its) (λs=>⟨⟨⟨(by decide:7<10),(by decide:8<10),u⟩,u⟩,j _,b5 _,b5 _,u,u⟩) g w.r m (o _ (.head _)) (z r (by kernel_rfl)));kernel_rfl
 . have q:aH 13 (gT 7 [(ns,its),(h,n)]):=⟨⟨(by decide:7<13),(by decide:8<13),u⟩,⟨(by decide:10<13),(by decide:11<13),u⟩,u⟩;have v:=yJ (ao:=ao) (c:=c) (go:=go) (k:=k) (W:=W) (dp:=dp) (i:=i) (a:=7) (b:=8) (K:=gK 5 (gT 7 [(ns,its),(h,n)]) K) (X:=gX 5 (gT 7 [(ns,its),(h,n)]) X) (vs:=[]) (.snd (y (ns.map Vn.str)) (y (d5 ns its w.r).1)) (gv:=gT 7 [(ns,its),(h,n)]) (ns:=h) (its:=n)
    (λs=>⟨q,j _,b5 _,b5 _,u,b5 _,b5 _,u,u⟩) g _ (yS m ns its) (o _ (.tail _ (.head _))) (z r (by kernel_rfl))
   apply z (yJ (ao:=ao) (c:=c) (go:=go) (k:=k) (W:=W) (dp:=dp) (i:=i) (a:=a) (b:=b) (K:=gK 5 (gT 7 [(ns,its),(h,n)]) K) (X:=gX 5 (gT 7 [(ns,its),(h,n)]) X) (vs:=[.l [.obj 10,.obj 11]]) (.fst (y (h.map Vn.str)) (y n)) (gv:=gT 7 [(ns,its),(h,n)]) (ns:=ns) (its:=its)
    (λs=>⟨q,j _,b5 _,b5 _,u,b5 _,b5 _,u,u⟩) g w.r m (o _ (.head _)) (z v (by kernel_rfl)))
   kernel_rfl
end
section
variable{ao:Frag}{c:B}{go:N}{w:M}{k d dp i a b e:Nat}{W:List Str}{kept:List Str}{X:af}{gv n:List Y}{p:Gp}{f:g}{J:List ae}{q:Ws}
def Ia{e:Nat}(a:1<=e):nu (Int.ofNat e) [0,3,4]=(aw e 3||aw e 4):=by
 have b:∀j,aw j e=aw e j:=λj=>by
  rcases a:aw e j with _|_
  . exact ma λc=>by rw [c,show aw e e=true from Nat.beq_refl e] at a;exact aA (a)
  . exact n5 a▸mY e
 refine(?_:cond (aw 0 e) true (cond (aw 3 e) true (cond (aw 4 e) true false))=_);refine h (b 0 ..) ?_;refine h (b 3 ..) ?_;refine h (b 4 ..) ?_;refine h (ma (mZ a) ..) ?_;rcases aw e 3 with _|_
 . rcases aw e 4 with _|_<;>rfl
 . rfl
def MW{K:Q}(A:∀k l n t u,f= .M k l n t u->1<=k) (B:kept.length<=100000)
  (r:cz f=true->K .next (bS w W dp i a b gv (y (f9 kept f)) p [mr] f)) (x:cz f=false->(∀j,dw j f=j)->K .next (bZ w W dp i a b gv (y kept) p f)) (s:cz f=false->(∀j,dw j f=f)->K (.ret (ax f)) (bS w W dp i a b gv (y kept) p [mr] f)):
  bE ao c go k d w W dp i a b gv (y kept) p f K X:=by
 induction f using g.casesOn with
 |C=>exact z (s rfl λC=>rfl) MU
 |ok l=>exact z (sT (Nat.ble_eq.mpr (ho kept▸L B (by decide))) (rr kept l▸r rfl)) MV
 |M e l n t u=>
  have o:=A _ _ _ _ _ rfl;have v:aw e 0=false:=ma (mZ o);refine z (P:=cond _ _ _) ?_ MX;refine h (Ia o ..) ?_;refine h (v ..) ?_;rcases m:aw e 3 with _|_
  . rcases q:aw e 4 with _|_
    . exact s q λj=>by refine(?_:cond (aw e 3) _ _=_);refine h (m ..) ?_;rfl
    . exact r q
  . exact x (n5 m▸rfl) λj=>by refine(?_:cond (aw e 3) _ _=_);refine h (m ..) ?_;rfl
def V7{e:Bool->St->Prop}:lM (e false ⟨l w++(.c gv:: .c n::(gO p.q++[oE])),eE W dp (.c []) i a b⟩)=((hA ao c go k d).B bd (hp lK) ⟨l w++(.c gv:: .c n::gO p.q),eE W dp (.c []) i a b⟩).A e X:=by rcases p with _|_<;>kernel_rfl
def Gp.aE:(l w++(.c gv:: .c n::gO p.q)).length=p.am:=by rcases p with _|_<;>rfl
def Gp.take:es p.am (l w++(.c gv:: .c n::(gO p.q++J)))=l w++(.c gv:: .c n::gO p.q):=by rcases p with _|_<;>rfl
def Gp.cL:dn p.am (.c (gT 7 p.q):: .c (y kept)::gO p.q):=by
 rcases p with _|_
 . exact⟨⟨⟨(by decide:7<10),(by decide:8<10),u⟩,u⟩,b5 _,b5 _,b5 _,u,u⟩
 . exact⟨⟨⟨(by decide:7<13),(by decide:8<13),u⟩,⟨(by decide:10<13),(by decide:11<13),u⟩,u⟩,b5 _,b5 _,b5 _,u,b5 _,b5 _,u,u⟩
def Gp.le:7<=p.am/\5<p.am/\p.ai+1<p.am:=by rcases p with _|_<;>exact⟨a' rfl,a' rfl,a' rfl⟩
def Gp.set(r:o):Gp->Gp
 | .eP a=> .eP (a.1,(d5 a.1 a.2 r).1)
 | .d6 a b=> .d6 (a.1,(d5 a.1 a.2 r).1) (b.1,(d5 b.1 b.2 (d5 a.1 a.2 r).2).1)
def Gp.wS{r:o}:(p.set r).q=(cg p.q r).1/\gT 7 (p.set r).q=gT 7 p.q/\(p.set r).am=p.am/\(p.set r).ai=p.ai:=by rcases p with _|_<;>exact⟨rfl,rfl,rfl,rfl⟩
def di.B7{k:Nat}{d:Nat->Option Nat}{e:List ae}{b g c:List (Str×Y)}(f:di k d e b c):di k d e (b++g) c:=λl i h=>
 Exists.elim (f l i h) λj a=>⟨j,EV a.1,a.2⟩
def di.Sb{k:Nat}{h:Nat->Option Nat}{i:List ae}{c:Str}{e f:Y}{B:List (Str×Y)}(l:bL k h i e f)(j:bB k B):∀{A:List (Str×Y)},bB k A->di k h i (A++(c,e)::B) (A++(c,f)::B):=λ{A}=>by
 induction A with
 |nil=>
  intro _ b w a;have a:cond (Fast.sEq c b) (some f) (U b B)=some w:=a;refine(?_:∃q,cond (Fast.sEq c b) (some e) (U b B)=some q/\_);rcases d:Fast.sEq c b with _|_
  . rw [d] at a;exact di.same j b w a
  . rw [d] at a;exact⟨e,rfl,bw a▸l⟩
 |cons p A m=>
  intro g b w a;have a:cond (Fast.sEq p.1 b) (some p.2) (U b (A++(c,f)::B))=some w:=a;refine(?_:∃q,cond (Fast.sEq p.1 b) (some p.2) (U b (A++(c,e)::B))=some q/\_);rcases d:Fast.sEq p.1 b with _|_
  . rw [d] at a;exact m g.2 b w a
  . rw [d] at a;exact⟨p.2,rfl,bw a▸.same g.1⟩
def Hs{r:O}{a:I}{f:Expr}{g:List Stmt}{e m:Nat}{d:List ae}{h:List (Str×Y)}{c:Q}{X:af}(s:d.length=e)(n:dn e d)(p:bB e h)(o:lC e a.cells)(q:pz e a.hd)
  (l:∀i k,x1 rc e (λb j=>cond b ((fo hv a (some e) (cU r a g) j).A (eU (cv (some e) r a f g [] c X m) c) (bT X)) (c .next j)) i->(r.B a f ⟨d,h⟩).A i k):
  cv (some e) r a f g [] c X (m+1) ⟨d,h⟩:=
 ze (bv:=rc) (run:=r.B a f) (X:=bT X) s n p o q l
end
theorem AY:∀(c:List Vn)(b:List Str)(r:o),(d5 c b r).1.length<=b.length
 |[],_,_=>cb _
 |aj::a,[],r=>AY a [] _
 |aj::a,d::is,r=>L (AY a is _) (fU _)
theorem Gf:∀(c:List bH)(r:o),(∀a∈c,a.2.length<=100000)->∀a∈(cg c r).1,a.2.length<=100000
 |[],_,_=>λa b=>by cases b
 |a::c,r,b=>λf d=>by
  rcases List.mem_cons.mp d with rfl|d
  . exact L (AY ..) (b a (.head _))
  . exact Gf c _ (λg e=>b g (.tail _ e)) f d
section
variable{t:Frag}{c:B}{g:N}{w:M}{k n b i d e s:Nat}{a:List Str}{v:af}{p:Gp}{f:Ws}
def K1{h:Q}{m:Nat}(A:de w)(s:d<p.am)(x:e<p.am)(r:h .next ⟨l w++(.c (gT 7 p.q):: .c (y a)::gO p.q),eE f.W b (.c []) i d e⟩):
  cv (some p.am) (hA t c g k n) bd (hp lK) eB [] h v (m+1) ⟨l w++(.c (gT 7 p.q):: .c (y a)::gO p.q),eE f.W b (.c []) i d e⟩:=by have o:=pA (A.rG (ee (Gp.le (p:=p)).2.1)) (Gp.cL (p:=p) (kept:=a));have j:bB p.am (eE f.W b (.c []) i d e):=uX Gp.le.1 u s x;exact Hs Gp.aE o j u u λB C q=>z ⟨rfl,rfl,rQ (b':=false) q Gp.take Gp.aE o (.same j) rfl r⟩ V7
def K4{D:Nat}(X0:D<6)(X1:f.s=E D)(XV:b<=c.L)(XU:aK c b 3<=n+39){x:Q}{r:o}(Z:DS c (w.st r))(X:de (w.st r.a))(XS:d<p.am)(XT:e<p.am)(X3:∀XH∈p.q,XH.2.length<=100000) (X4:a.length<=100000)
  (XN:decide (c.F<r.S+1)=true->x (.ret (ax .C)) ⟨l (w.st r.a)++(.c (gT 7 p.q):: .c (y a)::gO p.q),[]⟩)
  (XR:decide (c.F<r.S+1)=false->∀U:Prop,(DS c (w.st (cg p.q r.a).2)->aM b 10 (cg p.q r.a).2->∀j m,g D b (cg p.q r.a).2=some (j,m)->de (w.st m)->(∀k F XG B X6,j= .M k F XG B X6->1<=k)->
    (cz j=true->x .next ⟨l (w.st m)++(.c (gT 7 (p.set r.a).q):: .c (y (f9 a j))::gO (p.set r.a).q),eE f.W b (.obj 5) i p.ai (p.ai+1)⟩)->
    (cz j=false->(∀G,dw G j=G)->x .next ⟨l (w.st m)++(.c (gT 7 (p.set r.a).q):: .c (y a)::gO (p.set r.a).q),eE f.W b (.c []) i p.ai (p.ai+1)⟩)->
    (cz j=false->(∀G,dw G j=j)->x (.ret (ax j)) ⟨l (w.st m)++(.c (gT 7 (p.set r.a).q):: .c (y a)::gO (p.set r.a).q),[]⟩)->U)->U):
  (fo hv bd (some p.am) (cU (hA t c g (k+9) n) bd eB) ⟨l (w.st r)++(.c (gT 7 p.q):: .c (y a)::gO p.q),eE f.W b (.obj 5) i d e⟩).A x v:=by
 have s:=Gp.le (p:=p);have I:∀{F:M}{R:Gp}{A:List Str},de F->R.am=p.am->dn p.am (l F++(.c (gT 7 R.q):: .c (y A)::gO R.q)):=λXI j=>pA (XI.rG (ee s.2.1)) (j▸Gp.cL);have W:∀{XE:Y}{d e:Nat},dq p.am XE->d<p.am->e<p.am->bB p.am (eE f.W b XE i d e):=λX2 N O=>uX s.1 X2 N O;refine ze (cx:=bd) Gp.aE (I Z.ok rfl) (W s.2.1 XS XT) u u λH XF V=> ?_;refine bm (body:=eB) 0 (z (P:=cond _ _ _) ?_ (MR (w:=w.st r)));have X5:=GG Z;refine h (show decide (Int.ofNat (w.st r).r.S+1<=Int.ofNat (w.st r).F)= !decide (c.F<r.S+1) from X5) ?_;refine h (Bool.not_not ..) ?_;refine fG (λP=> ?_) λP=> ?_
 . refine(?_:H (.ret _) _);exact rQ (b':=bg.ret (ax .C)) V ((T (es p.am) (by rw [List.append_nil])).trans (Gp.take (J:=[]))) Gp.aE (I X rfl) .drop (.inl ⟨_,_,rfl,rfl,.same (f4 .C)⟩) (XN P)
 . refine XR P _ λXZ XY j m XX O XW XO XM XQ=> ?_;have S:=(Gp.wS (p:=p) (r:=r.a)).2.2.1;refine bm (body:=eB) 1 (KY (w:=w.st r.a) (p:=p) X (aD _ _) (λX7=>b5 _) X3 ?_);refine bm (body:=eB) 2 (z (.mk (w.st (cg p.q r.a).2) _ _ D b j m XZ X0 XV XY (by rw [X1]) rfl (e7 XU) XX ?_) MT);refine ba ((Gp.wS (p:=p) (r:=r.a)).1) ?_;refine ba ((Gp.wS (p:=p) (r:=r.a)).2.1) ?_;have K:∀{A:List Str}{B:bg}{XC XD:List (Str×Y)}{J:List ae},di p.am (cm (List.range p.am) p.am []) (l (w.st m)++(.c (gT 7 (p.set r.a).q):: .c (y A)::(gO (p.set r.a).q++J))) XC XD->hv p.am (cm (List.range p.am) p.am []) (l (w.st m)++(.c (gT 7 (p.set r.a).q):: .c (y A)::(gO (p.set r.a).q++J))) B B->x B ⟨l (w.st m)++(.c (gT 7 (p.set r.a).q):: .c (y A)::gO (p.set r.a).q),XD⟩->H B ⟨l (w.st m)++(.c (gT 7 (p.set r.a).q):: .c (y A)::(gO (p.set r.a).q++J)),XC⟩:=
    λN XJ XK=>rQ V (S▸Gp.take (p:=p.set r.a)) (S▸Gp.aE (p:=p.set r.a)) (I O S) N XJ XK
   refine z (MW (ao:=t) (c:=c) (go:=g) (k:=k+9) (d:=n) (w:=w.st m) (W:=f.W) (dp:=b) (i:=i) (a:=p.ai) (b:=p.ai+1) (X:=XF) (p:=p.set r.a) (gv:=gT 7 (p.set r.a).q) (K:=H) XW X4 (λC=> ?_) (λC L=> ?_) λC L=> ?_) (by kernel_rfl)
   . exact K (.B7 (.same (W s.2.1 (tZ s.2.2) s.2.2))) (.inr ⟨rfl,nofun⟩) (XO C)
   . refine K (.B7 (di.Sb (A:=[("world",.obj 0),("words",.c (y f.W)),("depth",q b),("kept",.obj 6)]) (B:=sj (q i) (.obj p.ai) (.obj (p.ai+1))) (.fr (us:=[]) (vs:=[]) ?_ ?_ .nil) ?_ ?_)) (.inr ⟨rfl,nofun⟩) (XM C L)
     . rcases p with _|_<;>rfl
     . rcases p with _|_<;>rfl
     . exact⟨u,s.2.2,tZ s.2.2,u⟩
     . exact⟨hr (by decide) s.1,b5 _,u,hr (by decide) s.1,u⟩
   . exact K .drop (.inl ⟨_,_,rfl,rfl,.same (f4 j)⟩) (XQ C L)
def QF{s:Nat}(b:(a.map (·.length)).sum+3*a.length<=100*s)(c:s<=900):a.length<=100000:=L (BA _ (by decide)) (L (L (aD _ _) b) (L (iC 100 c) (by decide)))
def K2(X2:bb c g){B:Nat}(XN:B<6)(XZ:f.s=E B){m:Bool}(S:b<=c.L)(XV:aK c b 3<=n+39)(O:Q){z:dU}(XK:z≠none)(J:o)
  (Z:∀j r,some (j,r)=z->∀V X4,O (.ret (ax j)) ⟨l (w.st r)++V,X4⟩)
  (Y:∀(p:Gp) a X7 d e r,some (gs m a,r)=z->eY (r.S-J.S) a->O .next ⟨l (w.st r)++(.c (gT 7 p.q):: .c (y a)::gO p.q),eE f.W b X7 i d e⟩) (s D:Nat):
  ∀(ab:Nat)(p:Gp)(a:List Str)(r:o)(d e:Nat),p.am=s->d<p.am->e<p.am->DS c (w.st r)->aM b 9 r->m9 J.S p.q->(∀D∈p.q,D.2.length<=100000)->J.S<=r.S->eY (r.S-J.S) a->fP g c m B b D p.q a r=z->D<ab->
   cv (some s) (hA t c g (k+9) n) bd (hp lK) eB [] O v ab ⟨l (w.st r)++(.c (gT 7 p.q):: .c (y a)::gO p.q),eE f.W b (.obj 5) i d e⟩:=by
 induction D with
 |zero=>exactλab p a r d e G G G G G G G G G q G=>absurd q.symm XK
 |succ D X1=>
  intro ab p a r d e j XC XD A XY XX XO R N q U;obtain⟨ab,rfl⟩:∃m,ab=m+1:=⟨ab-1,(hT (eW (bU _) U)).symm⟩;subst j;have q:cond (fI p.q) (some (gs m a,r)) (hN c r λr=>fF (g B b (cg p.q r).2) λj x=>cond (cz j) (fP g c m B b D (cg p.q r).1 (f9 a j) x) (some (dw (gs m a) j,x)))=z:=q;have XF:=pA (A.ok.rG (ee (Gp.le (p:=p)).2.1)) (Gp.cL (p:=p) (kept:=a));have X:bB p.am (eE f.W b (.obj 5) i d e):=uX Gp.le.1 (Gp.le (p:=p)).2.1 XC XD;refine Hs Gp.aE XF X u u λX9 Ya XS=> ?_;refine K3 λV=> ?_;refine rQ (b':= !fI p.q) XS Gp.take Gp.aE XF (.same X) rfl ?_;rcases XH:fI p.q with _|_
  . rw [XH] at q;have q:hN c r (λr=>fF (g B b (cg p.q r).2) λj x=>cond (cz j) (fP g c m B b D (cg p.q r).1 (f9 a j) x) (some (dw (gs m a) j,x)))=z:=q;have XM:=A.V.a A.bu;have X0:a.length<=100000:=QF N.sum (L (Nat.sub_le _ _) (L A.bu (L (ee A.b3.F) (by decide))));refine K4 XN XZ S XV A (A.cH XM) XC XD XO X0 (λM=> ?_) λM X8 k=> ?_
    . refine Z _ _ ?_ _ _;unfold hN at q;rw [M] at q;exact q
    . have q:fF (g B b (cg p.q r.a).2) (λj x=>cond (cz j) (fP g c m B b D (cg p.q r.a).1 (f9 a j) x) (some (dw (gs m a) j,x)))=z:=by unfold hN at q;rw [M] at q;exact q
      obtain⟨Yb,XQ⟩:=Option.ne_none_iff_exists'.mp XK;obtain⟨j,x,XE,H⟩:=fe (q.trans XQ);have H:=H.trans XQ.symm;obtain⟨XT,W,K,XU⟩:=wQ (c:=c) (n:=J.S) p.q r.a XX (k6 R) XM;have F:=Gp.wS (p:=p) (r:=r.a);have XG:(cg p.q r.a).2.S<=c.F:=K▸dA M;have T:aM b 6 (cg p.q r.a).2:=by have:=XY.a;unfold aM at this⊢;refine h (K ..) ?_;refine h (XU ..) ?_;exact this
      have C:=X2 B _ _ _ _ XN W XG XE;have XI:aM b 9 x:=(T.A C).mono;have XJ:r.S+1<=x.S:=(show(cg p.q r.a).2.S=r.S+1 from K)▸C.le;refine k (DS.st (w:=w.st r) A W XG S T) T.mono j x XE (A.cH C.V) (λk X6 XR X3 X5 z=>(C.M k X6 XR X3 X5 z).2.1) (λI=> ?_) (λI P=> ?_) λI P=> ?_
      . rw [I] at H;have XW:j≠.C:=λz=>by rw [z] at I;exact aA (I)
        exact X1 ab (p.set r.a) _ x _ _ F.2.2.1 (F.2.2.1▸tZ Gp.le.2.2) (F.2.2.1▸Gp.le.2.2) (DS.st (w:=w.st r) A C.V (C.C XW) S XI) XI (F.1▸XT) (F.1▸Gf p.q r.a XO) (L R (hU XJ)) (N.of C.ok (tu R C.le K.symm)) (F.1▸H) (k5 U)
      . rw [I] at H;obtain⟨ab,rfl⟩:∃m,ab=m+1:=⟨ab-1,(hT (eW (bU _) (hq U))).symm⟩;exact F.2.2.1▸K1 (p:=p.set r.a) (m:=ab) (A.cH C.V) (F.2.2.1▸tZ Gp.le.2.2) (F.2.2.1▸Gp.le.2.2) (Y (p.set r.a) a _ _ _ x (P (gs m a)▸H) (N.mono (Nat.sub_le_sub_right (hU XJ) _)))
      . rw [I] at H;exact Z j x (P (gs m a)▸H) _ _
  . rw [XH] at q;exact Y p a _ d e r q N
end
section
variable{ao:Frag}{c:B}{go:N}{w:M}{dp k d n i a b:Nat}{e:List (Str×Y)}{X:af}{w':Ws}{s:Y}{t:List ae}{u v:List Y}
def KW{a:St}{b:Q}:(∃m:Nat,cv (some (C a.objs)) (x (f ao) (dB c go) (k+99) (d+39)) bd (hp lK) eB [] b X m a)=A (x (f ao) (dB c go) (k+100) (d+39)) bd 2 gz.body a b X:=by kernel_rfl
def KR{a:St}{b:Q}(ab:Nat)(g:a.objs.length=n)(e:cv (some n) (x (f ao) (dB c go) (k+99) (d+39)) bd (hp lK) eB [] b X ab a):
  A (x (f ao) (dB c go) (k+100) (d+39)) bd 2 gz.body a b X:=by rw [<-g,<-aZ] at e;exact KW▸⟨ab,e⟩
def QG{n:Nat}{e:List Str}(b:eY n e)(h:n<=90):(∀d∈e,Str.length d<=10000)/\e.length<=10000:=by
 have g:100*n<=9000:=L (iC 100 h) (by decide);have f:=L b.sum g;refine⟨λd i=> ?_,L (BA _ (by decide)) (L (L (aD _ _) f) (by decide))⟩;have:∀{c:List Str},d∈c->d.length<=(c.map (·.length)).sum:=λ{c}=>by
  induction c with
  |nil=>exactλb=>nomatch b
  |cons a c j=>
   intro b;refine(?_:_<=a.length+(c.map (·.length)).sum);rcases List.mem_cons.mp b with rfl|b
   . exact c5 _ _
   . exact L (j b) (aD _ _)
 exact L (this i) (L (L (c5 _ _) f) (by decide))
def KX{e:Q}:cond w'.m (ui (d+39) [.obj 6] ⟨l w++(.c u:: .c v::t),eE w'.W dp s i a b⟩ (λh g=>e (.ret (.l [q 0,h,.l [.str bC],q 0,q 0])) g) X) (e (.ret (ax (.ok H))) ⟨l w++(.c u:: .c v::t),eE w'.W dp s i a b⟩)=
  A (x (f ao) (dB c go) (k+100) (d+39)) bd 3 gz.body ⟨l w++(.c u:: .c v::t),eE w'.W dp s i a b⟩ e X:=by rcases w' with⟨_|_⟩|⟨_|_⟩<;>kernel_rfl
def yI{K:Q}{vs:List Y}(a:It){n:Nm}{b:J}(x:a.am=n.str)(v:a.aq=b.res w.r)(s:nc (b.res w.r) (b.aN w.r))(u:10<=d+39)
  (r:∀i,(i=iO a.m/\n.names=some [])\/(i=gr/\(n.names=none\/b.aN w.r=none/\n.names≠some []))->∀j e,K (.ret (ax i)) ⟨l w++j,e⟩)
  (t:∀g h,n.names=some g->g≠[]->b.aN w.r=some h->Go (bO none (f ao) (fR ao c go k d) bd (cc ic) fB [] K X vs ⟨l w++(.c (a.gv++[.l [.obj a.p,.obj (a.p+1)]]):: .c []::(a.J++[.c (y (g.map Vn.str)),.c (y h),.c []])),a.e dp (.obj a.p) (.obj (a.p+1))⟩)):
  Go (bO none (f ao) (fR ao c go k d) bd (cc ic) fB [] K X (q a.i::vs) ⟨l w++a.ae [],fH a.W dp++a.cl⟩):=⟨K0 a x v s u r λg h m o p=>(t g h m o p).go⟩
def zj{m:Bool}{r:o}{n:Nm}{c:J}{e:List (Nm×J)}{b:g}(a:(b=iO m/\n.names=some [])\/(b=gr/\(n.names=none\/c.aN r=none/\n.names≠some []))):bQ m r ((n,c)::e)= .error b:=by
 rcases a with⟨rfl,a⟩|⟨rfl,a|⟨f,h⟩⟩
 . exact vz a
 . exact r9 a
 . induction a:n.names using Option.casesOn with
   |none=>exact r9 a
   |some d=>
    cases d with
    |nil=>exact absurd a h
    |cons aj d=>exact vy a f
def vv{m:Bool}{r:o}{n:Nm}{d:J}{b:List (Nm×J)}{a:List Vn}{c:List Str}(e:n.names=some a)(f:a≠[])(g:d.aN r=some c):bQ m r ((n,d)::b)=nY (a,c) (bQ m r b):=by
 induction a using List.casesOn with
 |nil=>exact absurd rfl f
 |cons aj a=>exact r' e g
def Db(U:bb c go){A m:Nat}{p:Gp}{j:g}{t:o}{K:Q}(v:DS c w)(R:A<6)(S:w'.s=E A)(B:dp<=c.L)(D:aM dp 7 w.r)(O:aK c dp 3<=d+39)(M:a<p.am)(N:b<p.am)
  (I:fP go c w'.m A dp m p.q [] w.r=some (j,t))(P:m9 w.r.S p.q)(T:∀m∈p.q,m.2.length<=100000) (J:t.S<=90) (q:∀h e,K (.ret (ax j)) ⟨l (w.st t)++h,e⟩):
  aU (x (f ao) (dB c go) (k+100) (d+39)) bd X (aT 2 gz.body) ⟨l w++(.c (gT 7 p.q):: .c (y [])::gO p.q),eE w'.W dp (.obj 5) i a b⟩ K:=by
 have q:∀n u,some (n,u)=some (j,t)->∀h e,K (.ret (ax n)) ⟨l (w.st u)++h,e⟩:=λn u z=>eQ (P:=λj r=>∀h e,K (.ret (ax j)) ⟨l (w.st r)++h,e⟩) z.symm q;refine bm (body:=gz.body) 2 (KR (n:=p.am) (m+1) Gp.aE (K2 (w:=w) (k:=k) (z:=some (j,t)) (m:=w'.m) U R S B O _ nofun w.r (λn u z h e=> ?_) (λp V s a b r z C=> ?_) p.am m (m+1) p [] w.r a b rfl M N (v.st v.V v.bu B D) D.mono P T (cb _) ⟨nofun,bU _⟩ I (hV _)))
 . exact q n u z h e
 . have G:r.S<=90:=by cases z;exact J
   have H:=QG C (L (Nat.sub_le _ _) G);refine nx (bm (body:=gz.body) 3 (KX▸?_));rcases F:w'.m with _|_
   . rw [F] at z;exact q _ _ z _ _
   . rw [F] at z;exact .mk 6 V rfl rfl (aD _ _) H.1 H.2 (C.EH (L (Nat.sub_le _ _) (L G (by decide)))) (q _ _ z _ _)
abbrev dK(ao:Frag)(c:B)(go:N)(k d:Nat)(a X:af):Q:=eT (x (f ao) (dB c go) (k+100) (d+39)) bd (fX [] X) gz.body 2 (fK [] a)
def Dc{a X:af}(b:Go (bO none (f ao) (x (f ao) (dB c go) (k+99) (d+39)) bd (cc ic) (bX ic) [] (dK ao c go k d a X) (fX [] X) w'.is ⟨l w++[.c [],.c []],fH w'.W dp⟩)):
  Go (av (x (f ao) (dB c go) (k+100) (d+39)) none gz [.obj 0,.c (y w'.W),q dp] ⟨l w,[]⟩ a X):=⟨K7 (bm 1 (KV b.go))⟩
def K5(XG:bb c go){m:Bool}{s v:Nat}{N:List (Nm×J)}{F:g}{S:o}{K X:af}(B:DS c w)(XF:s<6)(XK:N.length=1\/N.length=2)(XD:dp<=c.L)(XE:aM dp 7 w.r)(XC:aK c dp 3<=d+39)
  (z:(match bQ m w.r N with| .error F=>some (F,w.r)| .ok XN=>fP go c m s dp v XN [] w.r)=some (F,S))(XM:aR c S)(W:∀j e,K (ax F) ⟨l (w.st S)++j,e⟩):
  av (x (f ao) (dB c go) (k+100) (d+39)) none gz [.obj 0,.c (y (bo m::(dG (J.res w.r) N++[E s]))),q dp] ⟨l w,[]⟩ K X:=by
 have Z:S.S<=90:=L XM.bu (L B.b3.F (by decide));have H:=λi p(z:J.aN w.r i=some p)=>(B.V.aN B.b3 i).2 p z;have U:∀{G},bQ m w.r N= .error G->∀j e,K (ax G) ⟨l w++j,e⟩:=λ{G} D j e=>by
  rw [D] at z;exact eQ (P:=λF r=>K (ax F) ⟨l (w.st r)++j,e⟩) z.symm (W j e)
 have V:=λi:J=>nc.ls _ w.r i B.V.i4 (L B.bu (L (ee B.b3.F) (by decide)));refine Go.go ?_;refine Or.elim (XK) (λt=> ?_) λt=> ?_
 . obtain⟨⟨n,i⟩,rfl⟩:=List.length_eq_one_iff.mp t;refine h (show bo m::(dG (J.res w.r) [(n,i)]++[E s])=(Ws.eP m n.str (i.res w.r) (E s)).W from rfl) ?_;refine Dc (a9 (yI (ao:=ao) (c:=c) (go:=go) (dp:=dp) (d:=d) (w:=w) (k:=k+4) (K:=dK ao c go k d K X) (X:=fX [] X) (vs:=[]) (.ai m n.str (i.res w.r) (E s)) rfl rfl (V i) (aD _ _) (λG D j e=> ?_) λC p O Q A=> ?_) (by kernel_rfl))
   . exact U (zj D) j []
   . rw [show bQ m w.r [(n,i)]= .ok [(C,p)] by refine h (vv O Q A ..) ?_;rfl] at z;exact a9 ⟨Db (ao:=ao) (k:=k) (d:=d) (X:=fX [] X) (K:=fK [] K) (w':= .eP m n.str (i.res w.r) (E s)) (p:= .eP (C,p)) (i:=1) (a:=7) (b:=8) XG B XF rfl XD XE XC (a' rfl) (a' rfl) z (λv t=>List.mem_singleton.mp t▸(H i p A).2) (λv t=>List.mem_singleton.mp t▸ee (H i p A).1) Z λj e=>W j []⟩ (by kernel_rfl)
 . obtain⟨⟨n,i⟩,⟨M,u⟩,rfl⟩:=jx t;refine h (show bo m::(dG (J.res w.r) [(n,i),(M,u)]++[E s])=(Ws.d6 m n.str (i.res w.r) M.str (u.res w.r) (E s)).W from rfl) ?_;refine Dc (a9 (yI (ao:=ao) (c:=c) (go:=go) (dp:=dp) (d:=d) (w:=w) (k:=k+4) (K:=dK ao c go k d K X) (X:=fX [] X) (vs:=[q 3]) (.ah m n.str (i.res w.r) M.str (u.res w.r) (E s)) rfl rfl (V i) (aD _ _) (λG D j e=> ?_) λC p O Q A=> ?_) (by kernel_rfl))
   . exact U (zj D) j []
   refine a9 (yI (ao:=ao) (c:=c) (go:=go) (dp:=dp) (d:=d) (w:=w) (k:=k+4) (K:=dK ao c go k d K X) (X:=fX [] X) (vs:=[]) (.al m n.str (i.res w.r) M.str (u.res w.r) (E s) (y (C.map Vn.str)) (y p)) rfl rfl (V u) (aD _ _) (λG D j e=> ?_) λR I XI XJ T=> ?_) (by kernel_rfl)
   . exact U (by rw [vv O Q A,zj (m:=m) D];rfl) j []
   . rw [show bQ m w.r [(n,i),(M,u)]= .ok [(C,p),(R,I)] by refine h (vv O Q A ..) ?_;refine h (vv XI XJ T ..) ?_;rfl] at z;have XH:∀{P:bH->Prop},P (C,p)->P (R,I)->∀v∈[(C,p),(R,I)],P v:=λa b v t=>(List.mem_cons.mp t).elim (λY=>Y▸a) λY=>List.mem_singleton.mp Y▸b;exact a9 ⟨Db (ao:=ao) (k:=k) (d:=d) (X:=fX [] X) (K:=fK [] K) (w':= .d6 m n.str (i.res w.r) M.str (u.res w.r) (E s)) (p:= .d6 (C,p) (R,I)) (i:=3) (a:=10) (b:=11) XG B XF rfl XD XE XC (a' rfl) (a' rfl) z (XH (H i p A).2 (H u I T).2) (XH (P:=λv=>v.2.length<=100000) (ee (H i p A).1) (ee (H u I T).1)) Z λj e=>W j []⟩ (by kernel_rfl)
end
section
variable{b:au}{p:Program}{c:Frag}{a:B}{d:N}
def K6(e:aC b.hb (f c))(g:aV (f c))(F:bb a d)(w:∀h,az (b.more h) p 798 (df a d)):az b p 845 (m4 a d):=by
 rintro k L R H J ⟨S,G,n,m,Q,O,r,N,M,P,j,E,z,x,B,s,t,i,C,l,v⟩;subst s;subst t;obtain⟨k,rfl⟩:=fQ i;have D:=j.cH l;exact nK e (bt (ct:=dB a d) e g (λh=>⟨w h,Lv e g,LN e g,Mv e g,u⟩) 100 (k+39)) (e.fn 845 _ rfl) j.ok (show aH 5 [.obj 0,.c (y _),q r] from⟨(a' rfl:0<5),b5 _,u,u⟩) λI K A=>
  K5 (k:=0) F j E z x B (by unfold aK at i⊢;exact(k5 i)) C l λo n=>A _ o n _ _ D (.same (f4 _)) v
theorem Dw(g:aC b.hb (f c))(l:aV (f c))(r:a.Ok)(e:Nat):∀(d:Nat)(i:List Addr),az (b.more i) p 798 (df a (dP a e d))
 |0,i=>by
  rintro n J R H I ⟨S,F,w,t,x,K,P,j,s,C,D,y,z,o,m,A⟩;cases m
 |d+1,i=>by
  rintro n J R H I ⟨S,F,w,t,x,K,P,j,s,C,D,y,z,o,m,A⟩;subst y;subst z;obtain⟨n,rfl⟩:=fQ o;have v:=p' r e d;have O:=(p' r e (d+1) t _ _ _ _ s j.V j.bu m).V;have N:=j.cH O;have L:∀k,az ((b.more i).more k) p 798 (df a (dP a e d)):=λk=>by refine h (oh ..) ?_;exact Dw g l r e d _
  have B:=hc (Q:=λb=>az b p 798 (df a (dP a e d))) L;exact nK (C:=b.more i) g (bt (C:=b.more i) (ct:=fY a (dP a e d)) g l (λk=>⟨KN g l v (λQ=>K6 g l v (hc (Q:=λb=>az b p 798 (df a (dP a e d))) (B k) Q)) (B k),u⟩) 100 (n+39)) (g.fn 798 _ rfl) j.ok (show aH 5 [.obj 0,.str (E t),q x] from⟨(a' rfl:0<5),u,u,u⟩) λT U M=>
   L5 (k:=0) v j s C D (by unfold aK at o⊢;omega) m λG w=>M _ G w _ _ N (.same (f4 _)) A
end
noncomputable def v:List Int->List Y
 |[]=>[]
 |ai::a=> .int ai::v a
theorem js:∀a:List Int,C (v a)=a.length
 |[]=>rfl
 |_::a=>T Nat.succ (js a)
abbrev ii:aL:=c (m 63) []
abbrev oJ:I:=⟨ii.scope,none,[]⟩
def VY{c:Frag}{g:List Int}{m k e:Nat}{b d:af}
  (i:aU (x (f c) [] (k+100) (e+9)) oJ (λh a=>iX h a λl=>d h ⟨l.objs,[]⟩) (aT 0 ii.body) ⟨[.c (v g)],[("pen",.obj 0),("many",q m)]⟩ (λj a=>b (mD j) ⟨a.objs,[]⟩)):
  av (x (f c) [] (k+100) (e+9)) none ii [.obj 0,q m] ⟨[.c (v g)],[]⟩ b d:=by apply z i;kernel_rfl
section
variable{b:Frag}{m k d:Nat}{a:Q}{c:af}
abbrev i1(m:Nat):List (Str×Y):=[("pen",.obj 0),("many",q m)]
def Wf{e:Int}(g:a .next ⟨[.c (v [e])],i1 m++([("base",.int 0)]:List (Str×Y))⟩):
  A (x (f b) [] (k+100) (d+9)) oJ 0 ii.body ⟨[.c (v [e])],i1 m⟩ a c:=g
def Wg{g i:Int}{e:List Int}(j:e.length<=1000)(l:a .next ⟨[.c (v (g::e))],i1 m++([("base",.int i)]:List (Str×Y))⟩):
  A (x (f b) [] (k+100) (d+9)) oJ 0 ii.body ⟨[.c (v (g::i::e))],i1 m⟩ a c:=by
 have n:(C (v (g::i::e))).blt 9223372036854775808=true:=Nat.blt_eq.mpr (by refine h (js ..) ?_;simp;exact(bV j (by simp+arith only)));have o:decide (1<Int.ofNat (C (v (g::i::e))))=true:=iD (by refine h (js ..) ?_;refine(?_:(1:Int)<((e.length+1+1:Nat):Int));exact(by simp+arith));have p:(C (v (g::i::e))).ble sizeLine=true:=Nat.ble_eq.mpr (by refine h (js ..) ?_;refine(?_:e.length+1+1<=16777216);exact(bV j (by simp+arith only)));conv=>whnf
 refine h (n ..) ?_;conv=>whnf
 refine h (o ..) ?_;conv=>whnf
 refine h (p ..) ?_;exact l
def Ob{x:Int}{m:Nat}(c:0<m):∃j,j<m/\x.fmod (Int.ofNat m)=Int.ofNat j:=by have a:0<=x.fmod (m:Int):=Int.fmod_nonneg_of_pos x (Int.ofNat_lt.mpr (by assumption));have b:x.fmod (m:Int)<m:=Int.fmod_lt_of_pos x (Int.ofNat_lt.mpr (by assumption));exact⟨(x.fmod (m:Int)).toNat,by omega,by refine(?_:x.fmod (m:Int)=((x.fmod (m:Int)).toNat:Int));omega⟩
def Wh{g l:Int}{i:List Int}(t:i.length<=1000)(n:0<m)(e:∀j,j<m->a .next ⟨[.c (v (g::i))],i1 m++([("base",.int l),("drawn",q j)]:List (Str×Y))⟩):
  A (x (f b) [] (k+100) (d+9)) oJ 1 ii.body ⟨[.c (v (g::i))],i1 m++([("base",.int l)]:List (Str×Y))⟩ a c:=by
 have p:ck 0 (C (v (g::i)))=some 0:=fJ (i:=0) (by refine h (js ..) ?_;simp) (by refine h (js ..) ?_;simp;exact(bV t (by simp+arith only)));have r:(Int.ofNat m).beq' 0=false:=by induction m using Nat.casesAuxOn with|zero=>exact(absurd n (by decide))|succ m=>rfl
 obtain⟨j,s,o⟩:=Ob (x:=l+g) n;have e:=e j s;unfold q at e;rw [<-o] at e;conv=>whnf
 refine h (p ..) ?_;conv=>whnf
 refine h (r ..) ?_;exact e
def Wi{g:Int}{e:List Int}{n:List (Str×Y)}(q:e.length<=1000)(l:0<m/\m<1000)(i:a .next ⟨[.c (v (g.fdiv (Int.ofNat m)::e))],i1 m++n⟩):
  A (x (f b) [] (k+100) (d+9)) oJ 2 ii.body ⟨[.c (v (g::e))],i1 m++n⟩ a c:=by
 have j:ck 0 (C (v (g::e)))=some 0:=fJ (i:=0) (by refine h (js ..) ?_;simp) (by refine h (js ..) ?_;simp;exact(bV q (by simp+arith only)));have o:(Int.ofNat m).beq' 0=false:=by induction m using Nat.casesAuxOn with|zero=>exact(absurd l (by decide))|succ m=>rfl
 have p:(Int.ofNat m).natAbs.blt 1073741824=true:=Nat.blt_eq.mpr (by refine(?_:m<_);exact(L l.2 (by decide)));conv=>whnf
 refine h (j ..) ?_;conv=>whnf
 refine h (o ..) ?_;conv=>whnf
 refine h (p ..) ?_;conv=>whnf
 first|exact i|(refine h (j ..) ?_;exact i)
def Wj{g:ae}{e:Int}{j:Nat}(h:a (.ret (q j)) ⟨[g],i1 m++([("base",.int e),("drawn",q j)]:List (Str×Y))⟩):
  A (x (f b) [] (k+100) (d+9)) oJ 3 ii.body ⟨[g],i1 m++([("base",.int e),("drawn",q j)]:List (Str×Y))⟩ a c:=h
end
def VW{n:Frag}{c:List Int}{m k p:Nat}{h o:af}(d:c≠[]/\c.length<=1000)(s:0<m/\m<1000)(w:∀j a,j<m->a≠[]->a.length<=c.length->h (q j) ⟨[.c (v a)],[]⟩):
  av (x (f n) [] (k+100) (p+9)) none ii [.obj 0,q m] ⟨[.c (v c)],[]⟩ h o:=by
 obtain⟨z,d⟩:=d;refine VY (bm 0 ?_);have e:∀(b g:Int)(a:List Int),(b::a).length<=c.length->aU (x (f n) [] (k+100) (p+9)) oJ (λt l=>iX t l λA=>o t ⟨A.objs,[]⟩) (aT 1 ii.body) ⟨[.c (v (b::a))],i1 m++([("base",.int g)]:List (Str×Y))⟩ (λu l=>h (mD u) ⟨l.objs,[]⟩):=λb g a i=>by
  have r:a.length<=1000:=by simp at i;exact(dC d i (by simp+arith only))
  refine bm 1 (Wh r s.1 λj y=> ?_);refine bm (body:=ii.body) 2 (Wi r s ?_);refine bm (body:=ii.body) 3 (Wj ?_);exact w j (b.fdiv (Int.ofNat m)::a) y (by simp) i
 match c,z,d,e with
 |[b],_,_,e=>exact Wf (e b 0 [] (cb _))
 |b::g::c,_,d,e=>exact Wg (by simp at d;exact(L d (by decide))) (e b g c (by simp))
inductive q8(d:Nat)(args:List Y)(st:St)(K X:af):Prop
 |mk (b a m):args=[.obj b,q m]->t st.objs b=some (.c (v a))->a≠[]->a.length<=1000->0<m->m<1000->10<=d->(∀j c,j<m->c≠[]->c.length<=a.length->K (q j) ⟨aQ st.objs b (.c (v c)),st.d⟩)->q8 d args st K X
theorem bM.ints{k:Nat}{b:Nat->Option Nat}{c:List ae}:∀a:List Int,bM k b c (v a) (v a)
 |[]=> .nil
 |_::a=> .cons (.same u) (bM.ints a)
def xa{e:au}{p:Program}{g:Frag}(b:aC e.hb (f g))(k:aV (f g)):az e p 673 q8:=by rintro i F d l E ⟨a,G,m,o,q,r,s,t,w,x,y⟩;subst o;obtain⟨i,rfl⟩:=rm (n:=9) x;have z:cN [a] a=some 0:=hj;refine mK b (bt (ct:=[]) b k (λD=>trivial) 100 (i+9)) (b.fn 673 _ rfl) (ix:=[a]) (List.nodup_cons.mpr ⟨cB,.nil⟩) (.cons q (.c (bM.ints _)) .nil) (.cons (.obj z) (.cons (.same u) .nil)) ?_;refine VW (k:=0) ⟨r,s⟩ ⟨t,w⟩ λj c A C B=> .mk [] [.c (v c)] [] d.d _ ⟨.cons (.c (bM.ints _)) .nil,.nil,λD n=>absurd n cB,.nil⟩ rfl (.same u) ?_;refine(?_:l _ ⟨aQ d.objs a (.c (v c))++[],d.d⟩);refine h (et ..) ?_;exact y j c A C B
abbrev gy:aL:=c (m 68) []
abbrev kg:I:=⟨gy.scope,none,[("pen",1)]⟩
noncomputable def ej:List (Nat×bF):=[(673,q8)]
abbrev gf(a:List Int):List ae:=[.c (v a),.cell (some (.obj 0))]
def J7{c:Frag}{g:List Int}{k e:Nat}{b d:af}
  (i:aU (x (f c) ej (k+100) (e+19)) kg (λh a=>iX h a λl=>d h ⟨l.objs,[]⟩) (aT 0 gy.body) ⟨gf g,[]⟩ (λj a=>b (mD j) ⟨a.objs,[]⟩)):
  av (x (f c) ej (k+100) (e+19)) none gy [.obj 0] ⟨[.c (v g)],[]⟩ b d:=by apply z i;kernel_rfl
section
variable{ao:Frag}{k d:Nat}{b:Q}{c:af}
def JR{a:List Int}(g:a≠[]/\a.length<=1000)(n:∀h e i j,h<14->e<3->i<6->j≠[]/\j.length<=a.length->b .next ⟨gf j,[("which",q i),("at",q e),("kind",q h)]⟩):
  A (x (f ao) ej (k+100) (d+19)) kg 0 gy.body ⟨gf a,[]⟩ b c:=by refine⟨0,a,14,rfl,rfl,g.1,g.2,by decide,by decide,by exact(aD _ _),λh s o v l=> ?_⟩;refine⟨0,s,3,rfl,rfl,v,by exact(L l g.2),by decide,by decide,by exact(aD _ _),λe t p w m=> ?_⟩;refine⟨0,t,6,rfl,rfl,w,by exact(hD g.2 l m (by simp+arith only)),by decide,by decide,by exact(aD _ _),λi u r y z=> ?_⟩;exact n h e i u o p r ⟨y,by exact(hD l m z (by simp+arith only))⟩
def Az{j:Nat}(a:j<6):(Int.ofNat j).natAbs.log2.blt 1920=true/\((Str.ofString "s").length+(Str.ofString (toString (Int.ofNat j))).length).ble sizeLine=true/\Str.ofString "s"++Str.ofString (toString (Int.ofNat j))=E j:=by
 rcases j with _|_|_|_|_|_|j;iterate 6 exact⟨by kernel_rfl,by kernel_rfl,by kernel_rfl⟩
 exact(absurd a (by simp+arith))
def VV{j:Nat}(a:j<4):(Int.ofNat j).natAbs.log2.blt 1920=true/\((Str.ofString "t").length+(Str.ofString (toString (Int.ofNat j))).length).ble sizeLine=true/\Str.ofString "t"++Str.ofString (toString (Int.ofNat j))=n j:=by
 rcases j with _|_|_|_|j;iterate 4 exact⟨by kernel_rfl,by kernel_rfl,by kernel_rfl⟩
 exact(absurd a (by simp+arith))
abbrev im(b a c:Nat):List (Str×Y):=[("which",q c),("at",q a),("kind",q b)]
abbrev yu:Expr:=eR (t gy.body 1) 0
abbrev Ke:I:=⟨e6 (qD yu) gy.scope,none,[("pen",1)]⟩
abbrev pF(ao:Frag)(k d:Nat)(b:List Y->St->Prop)(e a:List Y)(c:St):Prop:=jA none (f ao) (x (f ao) ej (k+99) (d+19)) Ke (eS 1 yu) [] (eS 0 yu) b e a c
abbrev C3(ao:Frag)(k d:Nat)(b:List Y->St->Prop)(h g:List Y)(c:Y)(a:St):Prop:=
 ((x (f ao) ej (k+97) (d+19)).ag none (.ty .str) [c] a).A (λc a=>(ny .Add (.str (Str.ofString "s")) c a).A (λc a=>pF ao k d b h (aJ g c) a) λe e=>False) λe e=>False
def Kf{b:List Y->St->Prop}{g c:List Y}{a:Nat}{f:St}(i:a<6)(h:pF ao k d b g (aJ c (.str (E a))) f):C3 ao k d b g c (q a) f:=by have e:=Az i;apply z (aY (Q:=False) e.1 (aY (Q:=False) e.2.1 (e.2.2.symm▸h:pF ao k d b g (aJ c (.str (Str.ofString "s"++Str.ofString (toString (Int.ofNat a))))) f)));kernel_rfl
def yv{b:List Y->St->Prop}{j e:List Y}{i:Y}{c:List Int}{h:List (Str×Y)}(o:h=[]\/∃a,h=([("k",a)]:List (Str×Y))) (n:(C e).ble sizeLine=true) (m:c≠[]/\c.length<=1000)
  (f:∀a g,a<6->g≠[]/\g.length<=c.length->pF ao k d b j (aJ e (.str (E a))) ⟨gf g,[("k",i)]⟩):pF ao k d b (i::j) e ⟨gf c,h⟩:=by
 have f:q8 (d+19) [.obj 0,q 6] ⟨gf c,[("k",i)]⟩ (C3 ao k d b j e) λs s=>False:=⟨0,c,6,rfl,rfl,m.1,m.2,by decide,by decide,aD _ _,λa p l r t=>Kf l (f a p l ⟨r,t⟩)⟩;rcases o with rfl|⟨a,rfl⟩
 . apply z (aY (Q:=False) n f);kernel_rfl
 . apply z (aY (Q:=False) n f);kernel_rfl
def JS{e:List Int}{m j p:Nat}(l:e≠[]/\e.length<=1000)(r:∀h i a n,h<6->i<6->a<6->n≠[]/\n.length<=e.length->b .next ⟨gf n,im m j p++([("named",.c (y [E h,E i,E a]))]:List (Str×Y))⟩):
  A (x (f ao) ej (k+100) (d+19)) kg 1 gy.body ⟨gf e,im m j p⟩ b c:=by
 suffices a:pF ao k d (λB w=>b .next ⟨w.objs,im m j p++([("named",.c B)]:List (Str×Y))⟩) [.int 0,.int 1,.int 2] [] ⟨gf e,[]⟩ by
  apply z a;kernel_rfl
 exact yv (.inl rfl) rfl l λh C s g=>yv (.inr ⟨_,rfl⟩) rfl ⟨g.1,L g.2 l.2⟩ λi D t o=>yv (.inr ⟨_,rfl⟩) rfl ⟨o.1,L o.2 (L g.2 l.2)⟩ λa v u q=>r h i a v s t u ⟨q.1,L q.2 (L o.2 g.2)⟩
abbrev qo(a b c:Nat):List (Str×Y):=[("named",.c (y [E a,E b,E c]))]
def JT{a:List Int}{j h l n o p:Nat}(i:a≠[]/\a.length<=1000)(r:∀m e g,m<24->e<42->g≠[]/\g.length<=a.length->b .next ⟨gf g,im j h l++(qo n o p++([("lot",q e),("more",q m)]:List (Str×Y)))⟩):
  A (x (f ao) ej (k+100) (d+19)) kg 2 gy.body ⟨gf a,im j h l++qo n o p⟩ b c:=by refine⟨0,a,24,rfl,rfl,i.1,i.2,by decide,by decide,by exact(aD _ _),λm u s w z=> ?_⟩;refine⟨0,u,42,rfl,rfl,w,by omega,by decide,by decide,by exact(aD _ _),λe v t y B=> ?_⟩;exact r m e v s t ⟨y,by exact(L B z)⟩
def fm(m a:Nat):(Int.ofNat m).fmod (Int.ofNat a)=Int.ofNat (m%a):=by
 induction m using Nat.casesAuxOn with
 |zero=>refine h (Nat.zero_mod ..) ?_;rfl
 |succ m=>rfl
noncomputable def kT:Nat->Vn
 |0=> .x|1=> .y|_=> .z
noncomputable def kS:Nat->Tx
 |0=> .ai|1=> .dx|2=> .dy|3=> .dz|4=> .bc|_=> .zero
abbrev yr:Expr:=eR (t gy.body 3) 0
def JX{b:List ae}{e a g:Nat}{c:List (Str×Y)}{K' X':af}(i:a<3)(h:K' (.str (kT a).str) ⟨b,im e a g++c⟩):((x (f ao) ej (k+98) (d+19)).E kg (xi 1 yr) ⟨b,im e a g++c⟩).A K' X':=by
 rcases a with _|_|_|a;iterate 3
  apply z h;kernel_rfl
 exact(absurd i (by simp+arith))
abbrev Va:ae:= .c (y [k0,⟨#[36,120]⟩,⟨#[36,121]⟩,⟨#[36,122]⟩,⟨#[98,32,99]⟩,c4])
def JZ{l:List Int}{kd a b:Nat}{T:List (Str×Y)}{c X':af}(g:b<6)(e:c (.str (kS b).str) ⟨gf l++[Va],im kd a b++T⟩):((x (f ao) ej (k+98) (d+19)).E kg (xi 2 yr) ⟨gf l,im kd a b++T⟩).A c X':=by
 rcases b with _|_|_|_|_|_|b;iterate 6
  apply z e;kernel_rfl
 exact(absurd g (by simp+arith))
def JU{l:List Int}{kd a i o p e m j:Nat}(t:a<3)(u:i<6)(s:b .next ⟨gf l++[.c (y [k0,⟨#[36,120]⟩,⟨#[36,121]⟩,⟨#[36,122]⟩,⟨#[98,32,99]⟩,c4])],im kd a i++(qo o p e++([("lot",q j),("more",q m),("text",.str (kS i).str),("name",.str (kT a).str),("asked",.str (n (m%4)))]:List (Str×Y)))⟩):
  A (x (f ao) ej (k+100) (d+19)) kg 3 gy.body ⟨gf l,im kd a i++(qo o p e++([("lot",q j),("more",q m)]:List (Str×Y)))⟩ b c:=by have g:=VV (j:=m%4) (gJ _ (by decide));have r:(Int.ofNat m).fmod 4=Int.ofNat (m%4):=fm m 4;rw [<-r] at g;have e:=JX (ao:=ao) (k:=k) (d:=d) (X':=c) (K':=λv h=>((x (f ao) ej (k+98) (d+19)).E kg (xi 2 yr) h).A (λw h=>b .next ⟨h.objs,aO "asked" (.str (n (m%4))) (aO "name" v (aO "text" w h.d))⟩) c) t (JZ (l:=l) (kd:=kd) (a:=a) (T:=qo o p e++([("lot",q j),("more",q m)]:List (Str×Y))) (X':=c) u (by apply z s;kernel_rfl));rw [<-g.2.2] at e;apply z (aY (Q:=False) g.1 (aY (Q:=False) g.2.1 e));kernel_rfl
end
abbrev tc:ae:= .c (y [k0,⟨#[36,120]⟩,⟨#[36,121]⟩,⟨#[36,122]⟩,⟨#[98,32,99]⟩,c4])
section
variable{d:Frag}{k e:Nat}{b:Q}{c:af}
abbrev w9(c a b f g h m e d:Nat):List (Str×Y):=im c a b++(qo f g h++([("lot",q e),("more",q m),("text",.str (kS b).str),("name",.str (kT a).str),("asked",.str (n d))]:List (Str×Y)))
noncomputable def sP:Nat->Nm
 |0=> .z|1=> .y|2=> .zx|3=> .t5|4=> .empty|_=> .rB
noncomputable def su:Nat->J
 |0=> .rq|1=> .empty|2=> .br|3=> .dx|4=> .dy|5=> .lw|_=> .ly
def KA{j:Nat}(a:j<8):(Int.ofNat j).natAbs.log2.blt 1920=true/\Str.ofString (toString (Int.ofNat j))=dN j:=by
 rcases j with _|_|_|_|_|_|_|_|j;iterate 8 exact⟨by kernel_rfl,by kernel_rfl⟩
 exact(absurd a (by simp+arith))
def Oa(m:Nat):(Int.ofNat m).fmod 8=Int.ofNat (m%8):=fm m 8
def lY{a n:Nat}(b:a<n)(c:n<1000):ck (Int.ofNat a) n=some a:=fJ b (L c (by decide))
def Tf{a:Nat}(b:a<6):t (y [hf,fv,⟨#[122,32,120]⟩,⟨#[122,32,121,32,122]⟩,H,o5]) a=some (.str (sP a).str):=by
 rcases a with _|_|_|_|_|_|a;iterate 6 rfl
 exact(absurd b (by simp+arith))
def Te{a:Nat}(b:a<7):t (y [⟨#[97,32,98,32,99]⟩,H,o0,⟨#[36,120]⟩,⟨#[36,121]⟩,oZ,o3]) a=some (.str (su a).str):=by
 rcases a with _|_|_|_|_|_|_|a;iterate 7 rfl
 exact(absurd b (by simp+arith))
def fd(m a:Nat):(Int.ofNat m).fdiv (Int.ofNat a)=Int.ofNat (m/a):=by
 induction m using Nat.casesAuxOn with
 |zero=>refine h (Nat.zero_div ..) ?_;rfl
 |succ m=>rfl
abbrev tR(d:Frag)(k e:Nat)(h:List Int)(g a l n o p m j i:Nat)(b:Q)(c:af):Prop:=aU (x (f d) ej (k+100) (e+19)) kg c (aT 4 gy.body) ⟨gf h++[tc],w9 g a l n o p m j i⟩ b
abbrev xX(d:List Int)(b:Q):Prop:=∀c a e j,aI.Ok c->t (.c (v d)::a) j=some (.c (y c.words))->0<j->b (.ret (.obj j)) ⟨.c (v d)::a,e⟩
abbrev Th(a:Nat):List ae:=[.cell (some (.obj 0)),tc,.c (y [dF,n a]),.c (y [c3,E 0,n a,E 1]),.c (y [dD,eO,k0]),.c (y [dE,eO,hR,fv,E 0]),.c (y [fs,eO]),.c (y [ft,H]),.c [.obj 3,.obj 4,.obj 5,.obj 6,.obj 7,.obj 8]]
noncomputable def Jf(a:Nat):Nat->Wr
 |0=> .jS a|1=> .eK a|2=> .kB|3=> .kG|4=> .ke|_=> .kh
def My{g:List Int}{f i l n o m h a:Nat}:cu (ck ((Int.ofNat m).fmod 6) 6) (λj=>cu (t [Y.obj 3,.obj 4,.obj 5,.obj 6,.obj 7,.obj 8] j) λp=>b (.ret p) ⟨.c (v g)::Th a,w9 13 f i l n o m h a⟩)=tR d k e g 13 f i l n o m h a b c:=by kernel_rfl
def JV{g:List Int}{i o p q s m n f:Nat}(l:f<4)(j:xX g b):tR d k e g 13 i o p q s m n f b c:=by
 have a:m%6<6:=gJ _ (by decide);refine z (P:=cu _ _) ?_ My;refine h (show(Int.ofNat m).fmod 6=Int.ofNat (m%6) from fm m 6) ?_;refine sO (lY a (by decide)) (sO (v:= .obj (3+m%6)) ?_ (j (.e' (Jf f (m%6))) _ _ _ ?_ ?_ (Nat.le_add_right_of_le (by decide))));all_goals
  generalize m%6=r at a;rcases r with _|_|_|_|_|_|r;iterate 6 first|rfl|exact l|trivial
  exact absurd a (Nat.not_lt.mpr (aD _ _))
abbrev z9:ae:= .c (y [hf,fv,⟨#[122,32,120]⟩,⟨#[122,32,121,32,122]⟩,H,o5])
abbrev zU:ae:= .c (y [⟨#[97,32,98,32,99]⟩,H,o0,⟨#[36,120]⟩,⟨#[36,121]⟩,oZ,o3])
abbrev EJ:ae:= .c (y [dD,dE])
abbrev o1(b:Bool)(d:Nat)(c a:Y):List ae:=[.cell (some (.obj 0)),tc,z9,zU,.c [c,a],EJ,.c [.str (bo b)],.c [.str (bo b),c,a],.c [.str (E d)],.c [.str (bo b),c,a,.str (E d)]]
abbrev o2(e:Bool)(f:Nat)(c a d b:Y):List ae:=[.cell (some (.obj 0)),tc,z9,zU,.c [c,a],z9,zU,.c [d,b],.c [c,a,d,b],EJ,.c [.str (bo e)],.c [.str (bo e),c,a,d,b],.c [.str (E f)],.c [.str (bo e),c,a,d,b,.str (E f)]]
noncomputable abbrev zI(a:Bool):Nat:=match a with|true=>3|false=>2
abbrev eG(b:Bool)(a e f g h m d c j:Nat):List (Str×Y):=w9 (zI b) a e f g h m d c++([("group",.obj j)]:List (Str×Y))
abbrev wv(d j:Int)(a:Y->Y->Prop):Prop:=cu (ck d 6) λb=>cu (t (y [hf,fv,⟨#[122,32,120]⟩,⟨#[122,32,121,32,122]⟩,H,o5]) b) λe=>cu (ck j 7) λc=>cu (t (y [⟨#[97,32,98,32,99]⟩,H,o0,⟨#[36,120]⟩,⟨#[36,121]⟩,oZ,o3]) c) λf=>a e f
def Mz{i:List Int}{a:Bool}{h l g n o m f j:Nat}:wv ((Int.ofNat f).fmod 6) ((Int.ofNat f).fdiv 6) (λq p=>cond (decide (11<Int.ofNat m)) (wv ((Int.ofNat m).fmod 6) ((Int.ofNat f+Int.ofNat m).fmod 7) λs r=>b (.ret (.obj 14)) ⟨.c (v i)::o2 a g q p s r,eG a h l g n o m f j 9⟩) (b (.ret (.obj 10)) ⟨.c (v i)::o1 a g q p,eG a h l g n o m f j 5⟩))=
  tR d k e i (zI a) h l g n o m f j b c:=by rcases a with _|_<;>kernel_rfl
def FV{f j:Int}{a b:Nat}{c:Y->Y->Prop}(h:f=Int.ofNat a)(i:j=Int.ofNat b)(d:a<6)(e:b<7)(g:c (.str (sP a).str) (.str (su b).str)):wv f j c:=by subst h i;exact sO (lY d (by decide)) (sO (Tf d) (sO (lY e (by decide)) (sO (Te e) g)))
def CN{j:List Int}{l p g r s m a o:Nat}(f:Bool)(i:g<6)(n:a<42)(h:xX j b):tR d k e j (zI f) l p g r s m a o b c:=by
 refine z (P:=wv _ _ _) ?_ Mz;refine FV (fm a 6) (fd a 6) (gJ _ (by decide)) (Nat.div_lt_of_lt_mul n) (fG (λq=> ?_) λq=> ?_)
 . exact FV (fm m 6) (fm (a+m) 7) (gJ _ (by decide)) (gJ _ (by decide)) (h (.f3 f [(sP (a%6),su (a/6)),(sP (m%6),su ((a+m)%7))] g) _ _ 14 ⟨.inr rfl,i⟩ (by rcases f with _|_<;>rfl) (by decide))
 . exact h (.f3 f [(sP (a%6),su (a/6))] g) _ _ 10 ⟨.inl rfl,i⟩ (by rcases f with _|_<;>rfl) (by decide)
abbrev CM(b a c:Nat)(d:Str):List ae:=[.cell (some (.obj 0)),tc,.c (y [fs]),.c (y [ft]),.c (y [eM,(kT b).str]),.c (y [iS,(kT b).str,(kS a).str]),.c (y [jF,(kS a).str]),.c (y [ir,d]),.c (y [fu,E c]),.c (y [ep,E c]),.c (y [f',(kS a).str]),.c [.obj 3,.obj 4,.obj 5,.obj 6,.obj 7,.obj 8,.obj 9,.obj 10,.obj 11]]
def JW{i:List Int}{f g h n o m l j a:Nat}(p:a<9):cond (Nat.blt ((Int.ofNat m).fmod 8).natAbs.log2 1920) (b (.ret (.obj (3+a))) ⟨.c (v i)::CM f g h (Str.ofString (toString ((Int.ofNat m).fmod 8))),w9 (a+4) f g h n o m l j⟩) False=tR d k e i (a+4) f g h n o m l j b c:=by
 rcases a with _|_|_|_|_|_|_|_|_|a;iterate 9 kernel_rfl
 exact absurd p (Nat.not_lt.mpr (aD _ _))
def c9(b a c r:Nat):Nat->aI
 |0=> .brk|1=> .cont|2=> .n1 (kT b)|3=> .iv (kT b) (kS a)|4=> .dc (kS a)|5=> .raise r|6=> .go c|7=> .call c|_=> .gb (kS a)
def Jg{l:List Int}{a wh c r b:Nat}(f:c<6)(e:r<8)(d:b<9):(c9 a wh c r b).Ok/\t (.c (v l)::CM a wh c (dN r)) (3+b)=some (.c (y (c9 a wh c r b).words)):=by
 rcases b with _|_|_|_|_|_|_|_|_|b;iterate 9 exact⟨by first|trivial|exact f|exact e,rfl⟩
 exact absurd d (Nat.not_lt.mpr (aD _ _))
def JY{l:List Int}{p a wh n q r m w j:Nat}(A:p<14)(g:n<6)(B:q<6)(C:r<6)(s:w<42)(o:j<4)(f:xX l b):tR d k e l p a wh n q r m w j b c:=by
 rcases p with _|_|_|_|t
 . exact f (.kW j n) _ _ 3 ⟨o,g⟩ (by rfl) (by decide)
 . exact f (.eK n j q r) _ _ 3 ⟨g,o,B,C⟩ (by rfl) (by decide)
 . exact CN false g s f
 . exact CN true g s f
 . refine Or.elim (Nat.lt_or_ge t 9) (λi=> ?_) λi=> ?_
   . have u:m%8<8:=gJ _ (by decide);obtain⟨x,y⟩:=KA u;refine z (P:=cond _ _ _) ?_ (JW i);refine h (Oa m ..) ?_;refine h (y ..) ?_;have v:=Jg (l:=l) (a:=a) (wh:=wh) g u i;exact sT x (f _ _ _ _ v.1 v.2 (Nat.le_add_right_of_le (by decide)))
   . obtain rfl:t=9:=xK (Nat.le_of_lt_succ (Nat.lt_of_add_lt_add_right (n:=4) A)) i;exact JV o f
def J6{h:List Int}{b c:af}(n:h≠[]/\h.length<=1000)(z:∀g i a p j,aI.Ok g->i≠[]/\i.length<=h.length->t (.c (v i)::a) j=some (.c (y g.words))->0<j->b (.obj j) ⟨.c (v i)::a,p⟩):
  av (x (f d) ej (k+100) (e+19)) none gy [.obj 0] ⟨[.c (v h)],[]⟩ b c:=by refine J7 (bm 0 (JR n λJ H O K s u w l=> ?_));refine bm (body:=gy.body) 1 (JS ⟨l.1,by exact(L l.2 n.2)⟩ λP Q R M D E F o=> ?_);refine bm (body:=gy.body) 2 (JT ⟨o.1,by exact(hD n.2 l.2 o.2 (by simp+arith only))⟩ λm N G I C q=> ?_);refine bm (body:=gy.body) 3 (JU u w ?_);exact JY s D E F C (gJ _ (by decide)) λg a p j B A r=>z g G a [] j B ⟨q.1,by exact(hD l.2 o.2 q.2 (by simp+arith only))⟩ A r
end
inductive q5(d:Nat)(args:List Y)(st:St)(K X:af):Prop
 |mk (b a):args=[.obj b]->t st.objs b=some (.c (v a))->a≠[]->a.length<=1000->20<=d->(∀e c,aI.Ok e->c≠[]->c.length<=a.length->K (.c (y e.words)) ⟨aQ st.objs b (.c (v c)),st.d⟩)->q5 d args st K X
def CT{e:au}{p:Program}{i:Frag}(a:aC e.hb (f i))(g:aV (f i)):az e p 706 q5:=by
 rintro k F d m D ⟨b,G,r,s,t,w,x,y⟩;subst r;obtain⟨k,rfl⟩:=rm (n:=19) x;have z:cN [b] b=some 0:=hj;refine mK a (bt (ct:=ej) a g (λE=>⟨xa a g,u⟩) 100 (k+19)) (a.fn 706 _ rfl) (ix:=[b]) (List.nodup_cons.mpr ⟨cB,.nil⟩) (.cons s (.c (bM.ints _)) .nil) (.cons (.obj z) .nil) ?_;refine J6 (k:=0) ⟨t,w⟩ λn c C H j B l A q=> .mk [] [.c (v c)] [] d.d _ ⟨.cons (.c (bM.ints _)) .nil,.nil,λI o=>absurd o cB,.nil⟩ rfl (.fr ?_ A (bM.strs _)) ?_
 . cases j with
   |zero=>exact(absurd q (by decide))
   |succ j=>rfl
 . refine(?_:m _ ⟨aQ d.objs b (.c (v c))++[],d.d⟩);refine h (et ..) ?_;exact y n c B l.1 l.2
abbrev kz:aL:=c (m 69) []
abbrev xd:I:=⟨kz.scope,none,[]⟩
def WC{c:Frag}{g:List Int}{k e:Nat}{b d:af}
  (i:aU (x (f c) ej (k+100) (e+19)) xd (λh a=>iX h a λl=>d h ⟨l.objs,[]⟩) (aT 0 kz.body) ⟨[.c (v g)],[("pen",.obj 0)]⟩ (λj a=>b (mD j) ⟨a.objs,[]⟩)):
  av (x (f c) ej (k+100) (e+19)) none kz [.obj 0] ⟨[.c (v g)],[]⟩ b d:=by apply z i;kernel_rfl
section
variable{c:Frag}{k d:Nat}{a:Q}{b:af}
abbrev tz(c a m:Nat)(b:Bool):List (Str×Y):=[("pen",.obj 0),("sort",q c),("at",q a),("many",q m),("is_not",.bool b)]
def Wy{h:List Int}(g:h≠[]/\h.length<=1000)(p:∀i e m z n,i<4->e<30->m<6->n≠[]/\n.length<=h.length->a .next ⟨[.c (v n)],tz i e m z⟩):
  A (x (f c) ej (k+100) (d+19)) xd 0 kz.body ⟨[.c (v h)],[("pen",.obj 0)]⟩ a b:=by
 refine⟨0,h,4,rfl,rfl,g.1,g.2,by decide,by decide,by exact(aD _ _),λi C q F j=> ?_⟩;refine⟨0,C,30,rfl,rfl,F,by exact(L j g.2),by decide,by decide,by exact(aD _ _),λe D r G l=> ?_⟩;refine⟨0,D,6,rfl,rfl,G,by exact(hD g.2 j l (by simp+arith only)),by decide,by decide,by exact(aD _ _),λm E s H o=> ?_⟩;refine⟨0,E,2,rfl,rfl,H,by exact(vk g.2 j l o (by simp+arith only)),by decide,by decide,by exact(aD _ _),λw t B u y=> ?_⟩;rcases w with _|_|w
 . exact p i e m false t q r s ⟨u,by exact(vk j l o y (by simp+arith only))⟩
 . exact p i e m true t q r s ⟨u,by exact(vk j l o y (by simp+arith only))⟩
 . exact(absurd B (by simp+arith))
abbrev A0:ae:= .c (y ["1","0","yes","off","maybe",""," 2 ","0x0","tr","o"])
def Wz{h:List Int}{i e m:Nat}{g:Bool}(j:a .next ⟨[.c (v h),A0],tz i e m g++([("texts",.obj 1)]:List (Str×Y))⟩):
  A (x (f c) ej (k+100) (d+19)) xd 1 kz.body ⟨[.c (v h)],tz i e m g⟩ a b:=j
def Tg{a:Nat}(b:a<10):t (y ["1","0","yes","off","maybe",""," 2 ","0x0","tr","o"]) a=some (.str (cn a)):=by
 rcases a with _|_|_|_|_|_|_|_|_|_|a;iterate 10 kernel_rfl
 exact(absurd b (by simp+arith))
def XA{a:Nat}(c:a<3):∃b,t [120,121,122] a=some b/\(⟨#[b]⟩:Str)=(kT a).str:=by
 rcases a with _|_|_|a;iterate 3 exact⟨_,rfl,rfl⟩
 exact(absurd c (by simp+arith))
noncomputable abbrev D4(a b:Nat)(c:Y):List Y:=[.str ⟨#[b]⟩,c,.str (Str.ofString "s"++Str.ofString (toString ((Int.ofNat a).fmod 6))),.int ((Int.ofNat a).fmod 8)]
def WA{s:List Int}{h e m:Nat}{g:Bool}(w:h<4)(o:∀i B C,d8.Ok i->a (.ret (hP i)) ⟨.c (v s)::B,C⟩):
  A (x (f c) ej (k+100) (d+19)) xd 2 kz.body ⟨[.c (v s),A0],tz h e m g++([("texts",.obj 1)]:List (Str×Y))⟩ a b:=by
 suffices G:cu (ck ((Int.ofNat e).fmod 3) 3) λj=>cu (t [120,121,122] j) λl=>cu (ck ((Int.ofNat e).fmod 10) 10) λj=>cu (t (y ["1","0","yes","off","maybe",""," 2 ","0x0","tr","o"]) j) λi=>
   cond (((Int.ofNat e).fmod 6).natAbs.log2.blt 1920) (cond (((Str.ofString "s").length+(Str.ofString (toString ((Int.ofNat e).fmod 6))).length).ble sizeLine)
    (cu (ck (Int.ofNat h) 4) λj=>cu (t (D4 e l i) j) λF=>a (.ret (.l [q h,F,q m,.bool g])) ⟨[.c (v s),A0,.c (D4 e l i)],tz h e m g++([("texts",.obj 1)]:List (Str×Y))⟩) False) False by
  apply z G;kernel_rfl
 have n:∀p:Nat,(Int.ofNat e).fmod (Int.ofNat p)=Int.ofNat (e%p):=λp=>fm e p;obtain⟨l,D,E⟩:=XA (gJ e (by decide:3>0));have r:=Az (gJ e (by decide:6>0));rw [<-n 6] at r;refine oP ((n 3).symm▸lY (gJ _ (by decide)) (by decide)) (oP D (oP ((n 10).symm▸lY (gJ _ (by decide)) (by decide)) (oP (Tg (gJ _ (by decide))) (aY r.1 (aY r.2.1 (oP (lY w (by decide)) ?_))))));rcases h with _|_|_|_|h
 . refine(?_:a (.ret (.l [q 0,.str ⟨#[l]⟩,q m,.bool g])) _);exact E▸o ⟨.size (kT (e%3)),m,g⟩ _ _ u
 . exact o ⟨.iY (e%10),m,g⟩ _ _ (gJ _ (by decide))
 . refine(?_:a (.ret (.l [q 2,.str (Str.ofString "s"++Str.ofString (toString ((Int.ofNat e).fmod 6))),q m,.bool g])) _);exact r.2.2▸o ⟨.mJ (e%6),m,g⟩ _ _ (gJ _ (by decide))
 . refine(?_:a (.ret (.l [q 3,.int ((Int.ofNat e).fmod 8),q m,.bool g])) _);exact n 8▸o ⟨.raise (e%8),m,g⟩ _ _ (gJ _ (by decide))
 . exact(absurd w (by simp+arith))
def WB{g:List Int}{a b:af}(o:g≠[]/\g.length<=1000)(l:∀h e i j,d8.Ok h->e≠[]/\e.length<=g.length->a (hP h) ⟨.c (v e)::i,j⟩):
  av (x (f c) ej (k+100) (d+19)) none kz [.obj 0] ⟨[.c (v g)],[]⟩ a b:=by refine WC (bm 0 (Wy o λw r m s e p t u n=> ?_));refine bm (body:=kz.body) 1 (Wz ?_);refine bm (body:=kz.body) 2 (WA p λh i j q=> ?_);exact l h e i [] q n
end
inductive xV(d:Nat)(args:List Y)(st:St)(K X:af):Prop
 |mk (b a):args=[.obj b]->t st.objs b=some (.c (v a))->a≠[]->a.length<=1000->20<=d->(∀e c,d8.Ok e->c≠[]->c.length<=a.length->K (hP e) ⟨aQ st.objs b (.c (v c)),st.d⟩)->xV d args st K X
def He{e:au}{p:Program}{i:Frag}(a:aC e.hb (f i))(g:aV (f i)):az e p 713 xV:=by
 rintro j E d n C ⟨b,G,q,r,s,t,w,x⟩;subst q;obtain⟨j,rfl⟩:=rm (n:=19) w;have y:cN [b] b=some 0:=hj;refine mK a (bt (ct:=ej) a g (λD=>⟨xa a g,u⟩) 100 (j+19)) (a.fn 713 _ rfl) (ix:=[b]) (List.nodup_cons.mpr ⟨cB,.nil⟩) (.cons r (.c (bM.ints _)) .nil) (.cons (.obj y) .nil) ?_;refine WB (k:=0) ⟨s,t⟩ λl c B H z k=> .mk [] [.c (v c)] [] d.d _ ⟨.cons (.c (bM.ints _)) .nil,.nil,λI o=>absurd o cB,.nil⟩ rfl (.same ?_) ?_
 . obtain⟨A,m,F⟩:=l;cases A<;>exact⟨u,u,u,u,u⟩
 . refine(?_:n _ ⟨aQ d.objs b (.c (v c))++[],d.d⟩);refine h (et ..) ?_;exact x l c z k.1 k.2
abbrev eI:aL:=c (m 90) []
abbrev kE:I:=⟨eI.scope,none,[]⟩
abbrev El(b a:Nat):List (Str×Y):=[("book",.obj 0),("tests",.obj 1),("limit",q b),("fuel",q a),("log",.obj 2)]
noncomputable abbrev se(a b:List (Str×Y)):List ae:=[.dict a,.dict b,.c []]
def Pk(b a c:Nat):List (Str×Y):=[(sJ,.obj c),(sI,.obj 6),(kI,q b),(jD,q a),(sD,q 0),(kJ,q 0),(sE,q 0),(sH,.none),(sC,.none),(oi,.obj 7),(sB,.obj 8),(sG,.obj 9)]
def oK:List (Str×Y):=[(v8,.d 718),(v7,.d 732),(ml,.obj 0),(mn,.obj 1),(mm,.obj 2)]
def HO(a e:List (Str×Y))(d b h:Nat)(i f g:List (Str×Y))(c:List ae):List ae:= .dict a:: .dict e:: .c []:: .dict (Pk d b h):: .bj 664 3:: .dict []:: .dict []:: .dict i:: .dict f:: .dict g::c
abbrev lV(b a:Nat):List (Str×Y):=[("book",.obj 0),("tests",.obj 1),("limit",q b),("fuel",q a),("log",.obj 2),("host",.obj 4)]
section
variable{g:Frag}{k i:Nat}{c:Q}{h:af}{d e:List (Str×Y)}{b a:Nat}
def Pz(j:Go (c .next ⟨HO d e b a 5 [] [] [] [],lV b a⟩)):Go (A (x (f g) [] (k+100) (i+19)) kE 0 eI.body ⟨se d e,El b a⟩ c h):=by constructor;apply z j.go;kernel_rfl
def PA(j:Go (c .next ⟨HO d e b a 10 [] [] [] [.dict oK],lV b a⟩)):Go (A (x (f g) [] (k+100) (i+19)) kE 1 eI.body ⟨HO d e b a 5 [] [] [] [],lV b a⟩ c h):=by constructor;apply z j.go;kernel_rfl
def C4:List (Str×Y):=[(dF,.l [.d 343,.none]),(c3,.l [.d 350,.none])]
def C5:List (Str×Y):=[(dF,.l [.d 343,.none]),(c3,.l [.d 350,.none]),(dD,.l [.d 371,.str dD]),(dE,.l [.d 371,.str dE]),(fs,.l [.d 378,.none]),(ft,.l [.d 385,.none])]
def D6:List (Str×Y):=[(dF,.bool true),(c3,.bool true)]
def hG:List (Str×Y):=[(dF,.bool true),(c3,.bool true),(dD,.bool true),(dE,.bool true),(fs,.bool true),(ft,.bool true)]
def r7:List (Str×Y):=[(dF,.d 343),(c3,.d 350)]
def zm:List (Str×Y):=[(dD,.l [.d 371,.str dD]),(dE,.l [.d 371,.str dE]),(fs,.d 378),(ft,.d 385)]
def PB(j:Go (c .next ⟨HO d e b a 10 [] C4 D6 [.dict oK,.dict r7],lV b a⟩)):Go (A (x (f g) [] (k+100) (i+19)) kE 2 eI.body ⟨HO d e b a 10 [] [] [] [.dict oK],lV b a⟩ c h):=by
 constructor;conv=>whnf
 apply z j.go;kernel_rfl
def PC(j:Go (c .next ⟨HO d e b a 10 [] C5 hG [.dict oK,.dict r7,.dict zm],lV b a⟩)):Go (A (x (f g) [] (k+100) (i+19)) kE 3 eI.body ⟨HO d e b a 10 [] C4 D6 [.dict oK,.dict r7],lV b a⟩ c h):=by
 constructor;conv=>whnf
 apply z j.go;kernel_rfl
def lG:List (Str×Y):=[(dF,.l [.d 343,.none]),(c3,.l [.d 350,.none]),(dD,.l [.d 371,.str dD]),(dE,.l [.d 371,.str dE]),(fs,.l [.d 378,.none]),(ft,.l [.d 385,.none]),
 (eM,.l [.d 739,.obj 2]),(iS,.l [.d 739,.obj 2]),(jF,.l [.d 739,.obj 2]),(ir,.l [.d 739,.obj 2]),(fu,.l [.d 739,.obj 2]),(ep,.l [.d 739,.obj 2])]
abbrev kF(b a:Nat):List (Str×Y):=[("book",.obj 0),("tests",.obj 1),("limit",q b),("fuel",q a),("log",.obj 2),("host",.obj 4),("name",.str ep)]
abbrev lU:List ae:=[.dict oK,.dict r7,.dict zm,.c (y [eM,iS,jF,ir,fu,ep])]
def PE(j:Go (c .next ⟨HO d e b a 10 [] lG hG lU,kF b a⟩)):Go (A (x (f g) [] (k+100) (i+19)) kE 4 eI.body ⟨HO d e b a 10 [] C5 hG [.dict oK,.dict r7,.dict zm],lV b a⟩ c h):=by
 constructor;conv=>whnf
 apply z j.go;kernel_rfl
def vD(b:Str)(a:Nat):ae:= .dict [(Ff,.str Fj),(v9,.str b),(Fk,.obj a),(Fc,.bool false),(Fd,.bool false),(Fl,q 1)]
def PF(j:Go (c .next ⟨HO d e b a 10 [(eO,.obj 15)] lG hG (lU++[vD hR 16,.bj 416 14,.c []]),kF b a⟩)):Go (A (x (f g) [] (k+100) (i+19)) kE 5 eI.body ⟨HO d e b a 10 [] lG hG lU,kF b a⟩ c h):=by constructor;apply z j.go;kernel_rfl
def PG(j:Go (c .next ⟨HO d e b a 10 [(eO,.obj 15),(fv,.obj 18)] lG hG (lU++[vD hR 16,.bj 416 14,.c [],vD H 19,.bj 416 17,.c []]),kF b a⟩)):
  Go (A (x (f g) [] (k+100) (i+19)) kE 6 eI.body ⟨HO d e b a 10 [(eO,.obj 15)] lG hG (lU++[vD hR 16,.bj 416 14,.c []]),kF b a⟩ c h):=by constructor;apply z j.go;kernel_rfl
def PI(j:Go (c .next ⟨HO d e b a 10 [(eO,.obj 15),(fv,.obj 18),(hf,.obj 21)] lG hG (lU++[vD hR 16,.bj 416 14,.c [],vD H 19,.bj 416 17,.c [],vD d7 22,.bj 416 20,.c []]),kF b a⟩)):
  Go (A (x (f g) [] (k+100) (i+19)) kE 7 eI.body ⟨HO d e b a 10 [(eO,.obj 15),(fv,.obj 18)] lG hG (lU++[vD hR 16,.bj 416 14,.c [],vD H 19,.bj 416 17,.c []]),kF b a⟩ c h):=by constructor;apply z j.go;kernel_rfl
def PJ{d:List ae}(e:Go (c (.ret (.obj 4)) ⟨d,kF b a⟩)):Go (A (x (f g) [] (k+100) (i+19)) kE 8 eI.body ⟨d,kF b a⟩ c h):=by constructor;apply z e.go;kernel_rfl
end
def Py:List (Str×Y):=[(eO,.obj 15),(fv,.obj 18),(hf,.obj 21)]
def Px:List ae:=[vD hR 16,.bj 416 14,.c [],vD H 19,.bj 416 17,.c [],vD d7 22,.bj 416 20,.c []]
def Pb{r:O}{a:aL}{g:List Y}{c cr:List (Str×Y)}{b:List ae}{d f:af}(l:kf none a ⟨b,c⟩=⟨a.scope,none,[]⟩)(k:∀e i,(ab.v (gQ a.names g a.jj) λj=>kb ⟨a.scope,none,[]⟩ j ⟨iJ a.scope.names b,[]⟩:ab Unit).A e i=e () ⟨b,cr⟩)
  (h:Go (aU r ⟨a.scope,none,[]⟩ (fX c f) (aT 0 a.body) ⟨b,cr⟩ (fK c d))):Go (av r none a g ⟨b,c⟩ d f):=⟨c2 l k h⟩
def PM{g:Frag}{c e:List (Str×Y)}{b a k i:Nat}{d h:af}(l:d (.obj 4) ⟨HO c e b a 10 Py lG hG (lU++Px),[]⟩):
  Go (av (x (f g) [] (k+100) (i+19)) none eI [.obj 0,.obj 1,q b,q a,.obj 2] ⟨se c e,[]⟩ d h):=by refine Pb (cr:=El b a) (by kernel_rfl) (λm m=>by kernel_rfl) ?_;refine j (body:=eI.body) 0 (Pz (aB ?_));refine j (body:=eI.body) 1 (PA (aB ?_));refine j (body:=eI.body) 2 (PB (aB ?_));refine j (body:=eI.body) 3 (PC (aB ?_));refine j (body:=eI.body) 4 (PE (aB ?_));refine j (body:=eI.body) 5 (PF (aB ?_));refine j (body:=eI.body) 6 (PG (aB ?_));refine j (body:=eI.body) 7 (PI (aB ?_));refine j (body:=eI.body) 8 (PJ (e4 ?_));exact⟨l⟩
def UY(r:O)(h:aL)(a:List Nat)(g:List Y)(b:St)(e f:af):Prop:=
 ∃c d,a.Nodup/\dT 0 (cN a) [] b.objs a c/\bM 0 (cN a) [] g d/\Go (av r none h d ⟨c,[]⟩ (fb bL (some b.d) 0 a b.objs e) (fb bL (some b.d) 0 a b.objs f))
def UZ{a:au}{p:Program}{c:ay}{h:Nat}{r:O}{g:aL}{e:Nat}{f:List Y}{i:St}{b d:af}{ix:List Nat}(j:aC a.hb c)(q:b1 ⟨a,p,c,h,r⟩)(s:fc a.hb e g)(k:UY r g ix f i b d):Made a p e (h+1) f i b d:=by refine aS λu t=> ?_;obtain⟨v,w,l,m,n,o⟩:=k;refine t ?_;exact mK j q s l m n o.go
def Fs(a e f b d c:Nat):List ae:=[.bj 664 (a+1),
 .dict [(sJ,.obj (a+2)),(sI,.obj (a+3)),(kI,q d),(jD,q c),(sD,q 0),(kJ,q 0),(sE,q 0),(sH,.none),(sC,.none),(oi,.obj (a+4)),(sB,.obj (a+5)),(sG,.obj (a+6))],
 .dict [(v8,.d 718),(v7,.d 732),(ml,.obj e),(mn,.obj f),(mm,.obj b)],.dict [],.dict [(eO,.obj (a+7)),(fv,.obj (a+10)),(hf,.obj (a+13))],
 .dict [(dF,.l [.d 343,.none]),(c3,.l [.d 350,.none]),(dD,.l [.d 371,.str dD]),(dE,.l [.d 371,.str dE]),(fs,.l [.d 378,.none]),(ft,.l [.d 385,.none]),
  (eM,.l [.d 739,.obj b]),(iS,.l [.d 739,.obj b]),(jF,.l [.d 739,.obj b]),(ir,.l [.d 739,.obj b]),(fu,.l [.d 739,.obj b]),(ep,.l [.d 739,.obj b])],.dict hG,
 .bj 416 (a+8),vD hR (a+9),.c [],.bj 416 (a+11),vD H (a+12),.c [],.bj 416 (a+14),vD d7 (a+15),.c []]
inductive xS(d:Nat)(args:List Y)(st:St)(K X:af):Prop
 |mk (b c a f F e g):args=[.obj b,.obj c,q f,q F,.obj a]->t st.objs b=some (.dict e)->t st.objs c=some (.dict g)->t st.objs a=some (.c [])->[b,c,a].Nodup->bB 0 e->bB 0 g->20<=d->
  K (.obj st.objs.length) ⟨st.objs++Fs st.objs.length b c a f F,st.d⟩->xS d args st K X
def zg:lD 0 (.dict hG):=⟨u,u,u,u,u,u,u⟩
def CH{m:au}{p:Program}{o:Frag}(g:aC m.hb (f o))(B:aV (f o)):az m p 852 xS:=by
 rintro s S d Q R ⟨a,c,b,r,n,e,i,D,t,v,w,x,y,z,E,F⟩;subst D;refine aS λP K=> ?_;obtain⟨s,rfl⟩:=rm (n:=19) E;have A:=x;simp only [List.nodup_cons,List.mem_cons,List.not_mem_nil,or_false,not_or] at A;obtain⟨⟨L,M⟩,N,_⟩:=A;refine K ?_;have H:cN [a,c,b] a=some 0:=by refine(?_:cond (Nat.beq a a) _ _=_);refine h (mY ..) ?_;rfl
 have j:∀{k l:Nat},¬k=l->Nat.beq k l=false:=λ{k l} C=>Bool.eq_false_iff.mpr λO=>C (dR O);have I:cN [a,c,b] c=some 1:=by refine(?_:cond (Nat.beq a c) _ (cond (Nat.beq c c) _ _)=_);refine h (j L ..) ?_;refine h (mY ..) ?_;rfl
 have J:cN [a,c,b] b=some 2:=by refine(?_:cond (Nat.beq a b) _ (cond (Nat.beq c b) _ (cond (Nat.beq b b) _ _))=_);refine h (j M ..) ?_;refine h (j N ..) ?_;refine h (mY ..) ?_;rfl
 refine UZ (ix:=[a,c,b]) g (bt (ct:=[]) g B (λT=>trivial) 100 (s+19)) (g.fn 852 _ rfl)
  ⟨se e i,[.obj 0,.obj 1,q r,q n,.obj 2],x,.cons t (.same y) (.cons v (.same z) (.cons w (.c .nil) .nil)),.cons (.obj H) (.cons (.obj I) (.cons (.same u) (.cons (.same u) (.cons (.obj J) .nil)))),?_⟩
 refine PM (k:=0) ?_;refine .mk [4,3,10,6,7,8,9,15,14,16,18,17,19,21,20,22] (se e i) (Fs d.objs.length a c b r n) d.d (.obj d.objs.length) ⟨.cons (.same y) (.cons (.same z) (.cons (.c .nil) .nil)),?_,?_,?_⟩ rfl (.obj rfl) ?_
 . exact .cons rfl (.bj rfl) (.cons rfl (.dict (.cons (.obj rfl) (.cons (.obj rfl) (.cons (.same u) (.cons (.same u) (.cons (.same u) (.cons (.same u) (.cons (.same u) (.cons (.same u) (.cons (.same u) (.cons (.obj rfl) (.cons (.obj rfl) (.cons (.obj rfl) .nil))))))))))))) (.cons rfl (.dict (.cons (.same u) (.cons (.same u) (.cons (.obj rfl) (.cons (.obj rfl) (.cons (.obj rfl) .nil)))))) (.cons rfl (.dict .nil) (.cons rfl (.dict (.cons (.obj rfl) (.cons (.obj rfl) (.cons (.obj rfl) .nil)))) (.cons rfl (.dict (.cons (.same ⟨u,u,u⟩) (.cons (.same ⟨u,u,u⟩) (.cons (.same ⟨u,u,u⟩) (.cons (.same ⟨u,u,u⟩) (.cons (.same ⟨u,u,u⟩) (.cons (.same ⟨u,u,u⟩) (.cons (.l (.cons (.same u) (.cons (.obj rfl) .nil))) (.cons (.l (.cons (.same u) (.cons (.obj rfl) .nil))) (.cons (.l (.cons (.same u) (.cons (.obj rfl) .nil))) (.cons (.l (.cons (.same u) (.cons (.obj rfl) .nil))) (.cons (.l (.cons (.same u) (.cons (.obj rfl) .nil))) (.cons (.l (.cons (.same u) (.cons (.obj rfl) .nil))) .nil))))))))))))) (.cons rfl (.same zg) (.cons rfl (.bj rfl) (.cons rfl (.dict (.cons (.same u) (.cons (.same u) (.cons (.obj rfl) (.cons (.same u) (.cons (.same u) (.cons (.same u) .nil))))))) (.cons rfl (.c .nil) (.cons rfl (.bj rfl) (.cons rfl (.dict (.cons (.same u) (.cons (.same u) (.cons (.obj rfl) (.cons (.same u) (.cons (.same u) (.cons (.same u) .nil))))))) (.cons rfl (.c .nil) (.cons rfl (.bj rfl) (.cons rfl (.dict (.cons (.same u) (.cons (.same u) (.cons (.obj rfl) (.cons (.same u) (.cons (.same u) (.cons (.same u) .nil))))))) (.cons rfl (.c .nil) .nil)))))))))))))))
 . refine(?_:∀G∈[4,3,10,6,7,8,9,15,14,16,18,17,19,21,20,22],3<=G);decide
 . decide
 . rw [show fx [a,c,b] (se e i) d.objs=d.objs from by
    refine(?_:aQ (aQ (aQ d.objs a _) c _) b _=_);rw [jM t,jM v,jM w]]
   exact F
section
abbrev b6:aL:=c (m 91) []
abbrev cO:I:=⟨b6.scope,none,[("host",3),("pens",2),("k",1),("script",0)]⟩
abbrev gG:Option Stmt:=t b6.body 0
def u3(a:Option Stmt):Expr:=eS 0 (eR a 0)
def u5(a:Option Stmt):Expr:=eS 1 (eR a 0)
def u4(a:Option Stmt):Scope:=qD (eR a 0)
noncomputable def dV:List (List Int):=[[2,7,0,0,0,0,0,0,0,8,0,1,0,0,0,0,0],[2,6,0,0,0,0,0,0,0,3,0,0,5,0,0,0,12],[3,6,1,0,0,0,0,0,0,11,0,0,3,0,0,0,0,8,0,2,0,0,0,0,0],[2,0,0,0,4,0,0,1,0,2,0,0,5,0,0,18,0],[1,9,0,0,0,0,0,2,0],[2,8,0,3,0,0,0,0,0,5,0,0,0,0,0,0,0],[0,0,4,0,0,1,3,1,2,5,0,0,1,3,0,0],[5,79]]
def FE{a:List ae}{b:ae}:t (aJ a b) (C a)=some b:=by rw [cW,c0,aZ,List.getElem?_append_right (Nat.le_refl _),Nat.sub_self];rfl
def PO(a:List Int)(j:Nat):(v a)[j]?=(a[j]?).map Y.int:=by
 induction a generalizing j with
 |nil=>rfl
 |cons ai a b=>cases j with
  |zero=>rfl
  |succ j=>exact b j
def TH(d:List Int)(g e i:Option Int):∃a,ww (v d) g e i=v a:=by
 unfold ww;generalize sliceRange _ _ _=c;induction c with
 |nil=>exact⟨[],rfl⟩
 |cons j c f=>
  obtain⟨a,b⟩:=f;refine h (qY ..) ?_;refine h (PO ..) ?_;cases k:d[j]?with
  |none=>exact⟨a,b⟩
  |some ai=>exact⟨ai::a,T (Y.int ai::·) b⟩
theorem Er:∀a:List Int,n3 (v a)=some a
 |[]=>rfl
 |b::a=>by refine(?_:(n3 (v a)).map (b::·)=_);refine h (Er a ..) ?_;rfl
noncomputable abbrev DC(a b:Y):List (Str×Y):=[("k",a),("base",b)]
def RE{a:List ae}{b:List Y}{c:List (Str×Y)}:du (.obj (C a)) ⟨aJ a (.c b),c⟩=some b:=by refine(?_:((t (aJ a (.c b)) (C a)).map ae.un).bind ae.du=some b);rw [FE];rfl
def FD{a:List ae}{d:ae}{b:Nat}(c:b<C a):t (aJ a d) b=t a b:=by rw [cW,cW,c0,List.getElem?_append_left (by rw [<-aZ];exact c)]
def Rh{a:List ae}{b:ae}:C (aJ a b)=C a+1:=by refine h (aZ ..) ?_;refine h (aZ ..) ?_;refine h (c0 ..) ?_;refine h (eV ..) ?_;rfl
def RF{j e f:ae}{a:List ae}{b:Nat}{c:List Y}{i:List (Str×Y)}(g:gH a b=some (.c c))(d:b<C a):du (.obj (b+1)) ⟨aJ (aJ (j::a) e) f,i⟩=some c:=by refine(?_:((t (aJ (aJ a e) f) b).map ae.un).bind ae.du=some c);refine h (FD (by rw [Rh];exact Nat.lt_succ_of_lt d)) ?_;refine h (FD d ..) ?_;exact(T (Option.bind · ae.du) g).trans rfl
abbrev jL(a:List Int):ae:= .cell (some (.c (v a)))
def lL{d:Frag}{k p b:Nat}{i:Int}{c bl:List Int}{a:List ae}{q e:List Y}{j:List (Str×Y)}{m:List Y->St->Prop}(B:c.length<=63)(z:j=[]\/∃g r,j=DC g r) (u:Nat.ble (C e) 100=true)
  (w:gH a b=some (.c (v bl))) (y:Nat.blt b (C a)=true) (E:bl.length<=100)
  (t:∀(n o:List Int)(g:Int),Go (jA none (f d) (x (f d) [] (k+98) (p+39)) ⟨e6 (u4 gG) b6.scope,none,[("script",0)]⟩ (u5 gG) [] (u3 gG) m q (aJ e (.obj (Nat.succ (C (aJ (aJ a (.c (v n))) (.c (v o))))))) ⟨jL c::aJ (aJ (aJ a (.c (v n))) (.c (v o))) (.c (v (g::bl))),DC (.int i) (.obj (b+1))⟩)):
  Go (jA none (f d) (x (f d) [] (k+98) (p+39)) ⟨e6 (u4 gG) b6.scope,none,[("script",0)]⟩ (u5 gG) [] (u3 gG) m (.l [.int i,.obj (b+1)]::q) e ⟨jL c::a,j⟩):=by
 constructor;have D:(C e).ble sizeLine=true:=Nat.ble_eq.mpr (by have:=Nat.ble_eq.mp u;refine(?_:_<=16777216);exact(L this (by decide)));have A:(v c).length.ble sizeLine=true:=Nat.ble_eq.mpr (by refine ba (aZ ..) ?_;refine h (js ..) ?_;refine(?_:_<=16777216);exact(L B (by decide)));refine Exists.elim (TH c (some i) none (some 8)) λl s=> ?_;rcases z with rfl|⟨g,r,rfl⟩;all_goals
  conv=>whnf
  refine h (D ..) ?_;conv=>whnf
  refine h (A ..) ?_;conv=>whnf
  refine h (FE ..) ?_;conv=>whnf
  refine h (s ..) ?_;refine h (Er ..) ?_;conv=>whnf
  refine h (RE ..) ?_;conv=>whnf
  refine h (RF w (Nat.blt_eq.mp y)) ?_;conv=>whnf
  refine h (show(C [Y.int ((oH l).fmod (10^Int.toNat 40))]+C (v bl)).ble sizeLine=true from Nat.ble_eq.mpr (by rw [js];refine(?_:1+bl.length<=16777216);omega)) ?_;exact(t l [(oH l).fmod (10^Int.toNat 40)] _).go
noncomputable def ow:List Y:=[.obj 4,.obj 5,.obj 6,.obj 7,.obj 8,.obj 9,.obj 10,.obj 11]
def bq(m:Bool):List ae:=[.cell none,.cell none,.cell none]++(dV.map (λa=>ae.c (v a))++[cond m (.ro (.c ow)) (.c ow)])
def G4(c d:Nat->List Int)(e:Nat->Int):Nat->List ae->List ae
 |0,b=>b
 |a+1,b=>aJ (aJ (aJ (G4 c d e a b) (.c (v (c a)))) (.c (v (d a)))) (.c (v (e a::dV.getD a [])))
noncomputable def iT:List Y:=[.obj 15,.obj 18,.obj 21,.obj 24,.obj 27,.obj 30,.obj 33,.obj 36]
def ka{i:Nat}:(dV.getD i []).length<=100:=by
 rcases i with _|_|_|_|_|_|_|_|i;iterate 8 decide
 exact bU _
def RI{ao:Frag}{k d:Nat}{l:List Int}{K:List Y->St->Prop}(a:l.length<=63)(v:∀(c m:Nat->List Int)(A:Nat->Int),K iT ⟨jL l::G4 c m A 8 (bq false),[]⟩):
  Go (jA none (f ao) (x (f ao) [] (k+98) (d+39)) ⟨e6 (u4 gG) b6.scope,none,[("script",0)]⟩ (u5 gG) [] (u3 gG) (λy w=>K y (gj (some (12,.c ow)) ⟨w.objs,[]⟩)) (nP 0 ow) [] ⟨jL l::bq true,[]⟩):=by refine lL (b:=3) (i:=0) (bl:=dV.getD 0 []) a (.inl rfl) (by kernel_rfl) (by kernel_rfl) (by kernel_rfl) ka λe n B=> ?_;refine lL (b:=4) (i:=1) (bl:=dV.getD 1 []) a (.inr ⟨_,_,rfl⟩) (by kernel_rfl) (by kernel_rfl) (by kernel_rfl) ka λa1 o C=> ?_;refine lL (b:=5) (i:=2) (bl:=dV.getD 2 []) a (.inr ⟨_,_,rfl⟩) (by kernel_rfl) (by kernel_rfl) (by kernel_rfl) ka λa2 p D=> ?_;refine lL (b:=6) (i:=3) (bl:=dV.getD 3 []) a (.inr ⟨_,_,rfl⟩) (by kernel_rfl) (by kernel_rfl) (by kernel_rfl) ka λa3 q E=> ?_;refine lL (b:=7) (i:=4) (bl:=dV.getD 4 []) a (.inr ⟨_,_,rfl⟩) (by kernel_rfl) (by kernel_rfl) (by kernel_rfl) ka λg r F=> ?_;refine lL (b:=8) (i:=5) (bl:=dV.getD 5 []) a (.inr ⟨_,_,rfl⟩) (by kernel_rfl) (by kernel_rfl) (by kernel_rfl) ka λh s G=> ?_;refine lL (b:=9) (i:=6) (bl:=dV.getD 6 []) a (.inr ⟨_,_,rfl⟩) (by kernel_rfl) (by kernel_rfl) (by kernel_rfl) ka λi t H=> ?_;refine lL (b:=10) (i:=7) (bl:=dV.getD 7 []) a (.inr ⟨_,_,rfl⟩) (by kernel_rfl) (by kernel_rfl) (by kernel_rfl) ka λj u I=> ?_;constructor;apply z (v (λb=>[e,a1,a2,a3,g,h,i,j].getD b []) (λb=>[n,o,p,q,r,s,t,u].getD b []) (λb=>[B,C,D,E,F,G,H,I].getD b 0));kernel_rfl
end
section
theorem AD{e:Type}:∀(c:List e)(a:Nat)(d b:e),aQ (aQ c a d) a b=aQ c a b
 |[],_,_,_=>rfl
 |_::_,0,_,_=>rfl
 |f::c,a+1,d,b=>T (f::·) (AD c a d b)
theorem wm{d:Type}:∀{l:List d}{b j:Nat}{c:d},b≠j->t (aQ l b c) j=t l j
 |[],_,_,_,_=>rfl
 |_::_,0,0,_,a=>absurd rfl a
 |_::_,0,_+1,_,_=>rfl
 |_::_,_+1,0,_,_=>rfl
 |_::l,b+1,j+1,c,a=>wm (l:=l) λe=>a (T (·+1) e)
theorem FF{d:Type}:∀{l:List d}{i:Nat}{a b:d},t l i=some b->t (aQ l i a) i=some a
 |[],_,_,_,c=>by cases c
 |_::_,0,_,_,_=>rfl
 |_::l,i+1,a,b,c=>FF (l:=l) (i:=i) (b:=b) c
structure iH(P:List ae)(k a:Nat)(b:List Int):Prop where
 kc:t P 1=some (.cell (some (q k)))
 pc:t P 2=some (.cell (some (.c iT)))
 ki:t iT k=some (.obj a)
 k8:k<8
 i2:15<=a
 a4:t P a=some (.c (v b))
 ne:b≠[]
 aE:b.length<=1000
def iH.set{d:List ae}{k c:Nat}{e b:List Int}(a:iH d k c e)(g:b≠[])(f:b.length<=e.length):iH (aQ d c (.c (v b))) k c b:=
 ⟨by refine h (wm (by have:=a.i2;omega)) ?_;exact a.kc,by refine h (wm (by have:=a.i2;omega)) ?_;exact a.pc,a.ki,a.k8,a.i2,FF a.a4,g,by have:=a.aE;exact(L f this)⟩
noncomputable abbrev dY:List (Nat×bF):=[(673,q8),(706,q5),(713,xV),(852,xS)]
abbrev d1:Option Stmt:=t b6.body 2
def IQ(a:List Stmt):Expr:=eR (t a 0) 0
def EP(a:Expr):Expr:=eS 0 a
def EQ(a:Expr):Expr:=eS 1 a
def Q'(a:Expr):Scope:=qD a
noncomputable abbrev xf(a:Y):List (Str×Y):=[("turn",a)]
abbrev rx:Expr:=IQ (bX d1)
abbrev Cm:I:=⟨e6 (Q' rx) b6.scope,none,[("pens",2),("k",1)]⟩
theorem CP:∀a:List aI,C (cS a)=a.length
 |[]=>rfl
 |_::a=>T Nat.succ (CP a)
def Ib(a:List aI)(b:aI):aJ (cS a) (.c (y b.words))=cS (a++[b]):=by
 refine h (c0 ..) ?_;induction a with
 |nil=>rfl
 |cons ah a c=>exact T (Y.c (y ah.words)::·) c
def iH.cells{a:List ae}{k f:Nat}{g:List Int}(d:iH a k f g):∃p e,a=p:: .cell (some (q k)):: .cell (some (.c iT))::e:=by
 have b:=d.kc;have c:=d.pc;rcases a with _|⟨p,_|⟨h,_|⟨i,a⟩⟩⟩
 . cases b
 . cases b
 . cases c
 . exact⟨p,a,T (p::·) (congr (T List.cons (bw b)) (T (·::a) (bw c)))⟩
section
variable{g:Frag}{k d:Nat}{o h:Nat}{e:List Y->St->Prop}{b i:List Y}{a:List ae}{l:List Int}{n:Y}{c:List (Str×Y)}
abbrev uH(g:Frag)(k d:Nat)(e:List Y->St->Prop)(b i:List Y)(a:St):Prop:=jA none (f g) (x (f g) dY (k+98) (d+39)) Cm (EQ rx) [] (EP rx) e b i a
def IR(w:c=[]\/∃m,c=xf m) (r:iH a o h l) (x:(C i).ble sizeLine=true) (f:q5 (d+39) [.obj h] ⟨a,xf n⟩ (λu s=>uH g k d e b (aJ i u) s) (λv v=>False)):uH g k d e (n::b) i ⟨a,c⟩:=by
 obtain⟨p,a,rfl⟩:=r.cells;have f:=aY (Q:=False) x (oP (f:=λj=>cu (t iT j) λm=>q5 (d+39) [m] ⟨p:: .cell (some (q o)):: .cell (some (.c iT))::a,xf n⟩ (λu s=>uH g k d e b (aJ i u) s) (λv v=>False)) (lY (n:=8) r.k8 (by decide)) (oP r.ki f));rcases w with rfl|⟨m,rfl⟩
 . apply z f;kernel_rfl
 . apply z f;kernel_rfl
def Ja(b:List Y)(a:List ae)(l:List Int)(i:List aI)(c:List (Str×Y))(p:c=[]\/∃F,c=xf F) (f:iH a o h l) (w:i.length+b.length<=1000) (t:∀j∈i,j.Ok)
  (s:∀m q r,m.length=i.length+b.length->(∀j∈m,j.Ok)->iH (aQ a h (.c (v q))) o h q->e (cS m) ⟨aQ a h (.c (v q)),r⟩):
  uH g k d e b (cS i) ⟨a,c⟩:=by
 induction b generalizing a l i c with
 |nil=>
  have:=s i l c rfl t (f.set f.ne (cb _));rw [jM f.a4] at this;exact this
 |cons n b D=>
  refine IR p f (Nat.ble_eq.mpr (CP ..▸L (c5 _ _) (L w (by decide)))) ⟨h,l,rfl,f.a4,f.ne,f.aE,aD ..,λj q B A y=>Ib ..▸D _ q (i++[j]) _ (.inr ⟨n,rfl⟩) (f.set A y) (by rw [List.length_append];exact(bV w (by simp+arith only [List.length_cons,List.length_nil]))) (λx p=> ?_) λm E r z C u=> ?_⟩
  . exact(List.mem_append.mp p).elim (t x) λp=>List.mem_singleton.mp p▸B
  . rw [AD] at u⊢;exact s m E r (z.trans (by rw [List.length_append];simp+arith only [List.length_cons,List.length_nil])) C u
end
def uz(a:Option Stmt):Expr:=eR a 1
def uA(a:Option Stmt):Expr:=eR a 0
noncomputable abbrev hx:List (Str×Y):=[("book",.obj 37)]
def Cn(a:Frag)(k d:Nat)(b:Q)(c:af)(g:List Y)(e:St):Prop:=(AO (f a) (x (f a) dY (k+99) (d+39)) cO (uz (t (bX d1) 0)) (.c g) ⟨e.objs,hx⟩ (swappedStores [uz (t (bX d1) 0)] (uA (t (bX d1) 0)) (jn cO.sc))).A b c
def U6{b:List ae}{a lc:List (Str×Y)}{c:Nat}{x:Str}{u:Y}{K:Unit->St->Prop}{X:af}(e:t b c=some (.dict a))(f:(C a).ble sizeLine=true)(d:K () ⟨aQ b c (.dict (aO x u a)),lc⟩):(qF (.obj c) (.str x) u ⟨b,lc⟩).A K X:=by
 conv=>whnf
 refine h (e ..) ?_;conv=>whnf
 exact aY f d
def IS{h:Frag}{k i a:Nat}{b:Q}{d:af}{p:ae}{c:List ae}{g:List Y}{m:List (Str×Y)}(l:a<6)
  (j:(qF (.obj 37) (.str (E a)) (.c g) ⟨p:: .cell (some (q a)):: .cell (some (.c iT))::c,hx⟩).A (λn f=>b .next f) d):
  Cn h k i b d g ⟨p:: .cell (some (q a)):: .cell (some (.c iT))::c,m⟩:=by have e:=Az l;apply z (aY (Q:=False) e.1 (aY (Q:=False) e.2.1 (e.2.2.symm▸j:(qF (.obj 37) (.str (Str.ofString "s"++Str.ofString (toString (Int.ofNat a)))) (.c g) ⟨p:: .cell (some (q a)):: .cell (some (.c iT))::c,hx⟩).A (λn f=>b .next f) d)));kernel_rfl
def Jb{ao:Frag}{k d:Nat}{kk i:Nat}{K:Q}{X:af}{P:List ae}{q:List Int}{B:List (Str×Y)}(c:iH P kk i q)(H:kk<6)(N:i≠37)(I:t P 37=some (.dict B))(J:(C B).ble sizeLine=true)
  (G:∀u m,u.length<=3->(∀e∈u,aI.Ok e)->m≠[]->m.length<=1000->K .next ⟨aQ (aQ P i (.c (v m))) 37 (.dict (aO (E kk) (.c (cS u)) B)),hx⟩):
  aU (x (f ao) dY (k+100) (d+39)) cO X (bX d1) ⟨P,hx⟩ K:=by
 have V:ck (Int.ofNat kk) 8=some kk:=lY c.k8 (by decide);conv=>whnf
 refine h (c.pc ..) ?_;conv=>whnf
 refine h (c.kc ..) ?_;conv=>whnf
 erw [V]
 conv=>whnf
 refine h (c.ki ..) ?_;conv=>whnf
 refine⟨i,q,4,rfl,c.a4,c.ne,c.aE,by decide,by decide,by exact(aD _ _),λj m O S R=> ?_⟩;have T:=c.set S R;have n:∀(r:List Y),r.length<=3->∀s:List Y->St->Prop,(∀a b l,a.length<=3->(∀e∈a,aI.Ok e)->iH (aQ P i (.c (v b))) kk i b->s (cS a) ⟨aQ P i (.c (v b)),l⟩)->
   jA none (f ao) (x (f ao) dY (k+98) (d+39)) Cm (EQ rx) [] (EP rx) s r (cS []) ⟨aQ P i (.c (v m)),[]⟩:=λr A s U=>by
  refine Ja r _ m [] [] (.inl rfl) T (by simp;exact(L A (by decide))) (λe M=>by cases M) λa b l w y g=> ?_;rw [AD] at g⊢;exact U a b l (by refine h (w ..) ?_;simpa using A) y g
 have o:∀a b l,a.length<=3->(∀e∈a,aI.Ok e)->iH (aQ P i (.c (v b))) kk i b->Cn ao k d K X (cS a) ⟨aQ P i (.c (v b)),l⟩:=λa b l w y g=>by
  have D:=U6 (K:=λXC W=>K .next W) (X:=X) (lc:=hx) (x:=E kk) (u:= .c (cS a)) ((wm N).trans I) J (G a b w y g.ne g.aE);obtain⟨p,Z,F⟩:=g.cells;rw [F] at D⊢;exact IS H D
 rcases j with _|_|_|_|j
 case' succ.succ.succ.succ=>cases Nat.not_lt.mpr (aD 4 j) O
 . apply z (n [] (by decide) _ o);kernel_rfl
 . apply z (n [.int 0] (by decide) _ o);kernel_rfl
 . apply z (n [.int 0,.int 1] (by decide) _ o);kernel_rfl
 . apply z (n [.int 0,.int 1,.int 2] (by decide) _ o);kernel_rfl
end
section
def LW(f:List Int)(e d:Option Y)(a b:Nat->List Int)(p:Nat->List Int)(c:List ae):List ae:=
 jL f:: .cell e:: .cell (some (.c iT)):: .cell d:: .c (v (dV.getD 0 [])):: .c (v (dV.getD 1 [])):: .c (v (dV.getD 2 [])):: .c (v (dV.getD 3 [])):: .c (v (dV.getD 4 [])):: .c (v (dV.getD 5 [])):: .c (v (dV.getD 6 [])):: .c (v (dV.getD 7 [])):: .c ow::
 .c (v (a 0)):: .c (v (b 0)):: .c (v (p 0)):: .c (v (a 1)):: .c (v (b 1)):: .c (v (p 1)):: .c (v (a 2)):: .c (v (b 2)):: .c (v (p 2)):: .c (v (a 3)):: .c (v (b 3)):: .c (v (p 3))::
 .c (v (a 4)):: .c (v (b 4)):: .c (v (p 4)):: .c (v (a 5)):: .c (v (b 5)):: .c (v (p 5)):: .c (v (a 6)):: .c (v (b 6)):: .c (v (p 6)):: .c (v (a 7)):: .c (v (b 7)):: .c (v (p 7))::c
noncomputable def dd(p:Nat->List Int)(a:Nat)(b:List Int):Nat->List Int:=λj=>cond (Nat.beq a j) b (p j)
def h0(p:Nat->List Int):Prop:=∀a,p a≠[]/\(p a).length<=1000
def h0.dd{p:Nat->List Int}(c:h0 p)(b:Nat){a:List Int}(d:a≠[])(e:a.length<=1000):h0 (Mine.Internal.dd p b a):=λj=>by
 unfold Mine.Internal.dd;rcases Nat.beq b j with _|_
 . exact c j
 . exact⟨d,e⟩
section
variable{a:Frag}{k d:Nat}{h:List Int}{e g:Nat->List Int}{p:Nat->List Int}{c:af}{b:Q}
def pr{kk:Nat}{N:Option Y}{B:List (Str×Y)}{u:List Y}(A:kk<6)(s:h0 p)(M:(C B).ble sizeLine=true)
  (w:∀j l,j.length<=3->(∀G∈j,aI.Ok G)->h0 (dd p kk l)->Go (bO none (f a) (x (f a) dY (k+100) (d+39)) cO (cc d1) (bX d1) [] b c u ⟨LW h (some (q kk)) none e g (dd p kk l) [.dict (aO (E kk) (.c (cS j)) B)],hx⟩)):
  Go (bO none (f a) (x (f a) dY (k+100) (d+39)) cO (cc d1) (bX d1) [] b c (q kk::u) ⟨LW h N none e g p [.dict B],hx⟩):=by
 constructor;have y:=λ(D:Q)(F:af)(i:Nat)(H:t iT kk=some (.obj i))(I:15<=i)(J:i≠37)(K:t (LW h (some (q kk)) none e g p [.dict B]) i=some (.c (v (p kk))))=>
  Jb (ao:=a) (k:=k) (d:=d) (K:=D) (X:=F) (P:=LW h (some (q kk)) none e g p [.dict B]) (B:=B) (q:=p kk) (kk:=kk) (i:=i) ⟨rfl,rfl,H,by exact(L A (by decide)),I,K,(s kk).1,(s kk).2⟩ A J rfl M
 rcases kk with _|_|_|_|_|_|kk
 . apply z (y (eU (bO none (f a) (x (f a) dY (k+100) (d+39)) cO (cc d1) (bX d1) [] b c u) b) (bT c) 15 rfl (by decide) (by decide) rfl λj l m r o n=> ?_)
   . kernel_rfl
   . exact(w j l m r (s.dd _ o n)).go
 . apply z (y (eU (bO none (f a) (x (f a) dY (k+100) (d+39)) cO (cc d1) (bX d1) [] b c u) b) (bT c) 18 rfl (by decide) (by decide) rfl λj l m r o n=> ?_)
   . kernel_rfl
   . exact(w j l m r (s.dd _ o n)).go
 . apply z (y (eU (bO none (f a) (x (f a) dY (k+100) (d+39)) cO (cc d1) (bX d1) [] b c u) b) (bT c) 21 rfl (by decide) (by decide) rfl λj l m r o n=> ?_)
   . kernel_rfl
   . exact(w j l m r (s.dd _ o n)).go
 . apply z (y (eU (bO none (f a) (x (f a) dY (k+100) (d+39)) cO (cc d1) (bX d1) [] b c u) b) (bT c) 24 rfl (by decide) (by decide) rfl λj l m r o n=> ?_)
   . kernel_rfl
   . exact(w j l m r (s.dd _ o n)).go
 . apply z (y (eU (bO none (f a) (x (f a) dY (k+100) (d+39)) cO (cc d1) (bX d1) [] b c u) b) (bT c) 27 rfl (by decide) (by decide) rfl λj l m r o n=> ?_)
   . kernel_rfl
   . exact(w j l m r (s.dd _ o n)).go
 . apply z (y (eU (bO none (f a) (x (f a) dY (k+100) (d+39)) cO (cc d1) (bX d1) [] b c u) b) (bT c) 30 rfl (by decide) (by decide) rfl λj l m r o n=> ?_)
   . kernel_rfl
   . exact(w j l m r (s.dd _ o n)).go
 . exact(absurd A (by simp+arith))
def RK(i:Go (b .next ⟨LW h none none e g p [.dict []],hx⟩)):Go (A (x (f a) dY (k+100) (d+39)) cO 1 b6.body ⟨LW h none none e g p [],[]⟩ b c):=by constructor;apply z i.go;kernel_rfl
def jd(a:Nat->List aI):List (Str×Y):=[(E 0,.c (cS (a 0))),(E 1,.c (cS (a 1))),(E 2,.c (cS (a 2))),(E 3,.c (cS (a 3))),(E 4,.c (cS (a 4))),(E 5,.c (cS (a 5)))]
def BD(b:Nat->List aI):Prop:=∀a,a<6->(b a).length<=3/\∀c∈b a,c.Ok
def RP(F:h0 p)(E:∀j l,BD j->h0 l->Go (b .next ⟨LW h (some (q 5)) none e g l [.dict (jd j)],hx⟩)):Go (A (x (f a) dY (k+101) (d+39)) cO 2 b6.body ⟨LW h none none e g p [.dict []],hx⟩ b c):=by
 have m:Go (bO none (f a) (x (f a) dY (k+100) (d+39)) cO (cc d1) (bX d1) [] b c [q 0,q 1,q 2,q 3,q 4,q 5] ⟨LW h none none e g p [.dict []],hx⟩):=by
  refine pr (kk:=0) (by decide) F (by kernel_rfl) λn R v G K=> ?_;refine pr (kk:=1) (by decide) K (by kernel_rfl) λo S w o1 L=> ?_;refine pr (kk:=2) (by decide) L (by kernel_rfl) λr T y o2 M=> ?_;refine pr (kk:=3) (by decide) M (by kernel_rfl) λs U B H N=> ?_;refine pr (kk:=4) (by decide) N (by kernel_rfl) λt V C I O=> ?_;refine pr (kk:=5) (by decide) O (by kernel_rfl) λu W D J P=> ?_;have:=E (λi=>[n,o,r,s,t,u].getD i []) _ (λi Q=> ?_) P
  . constructor;apply z this.go;kernel_rfl
  . rcases i with _|_|_|_|_|_|i
    . exact⟨v,G⟩
    . exact⟨w,o1⟩
    . exact⟨y,o2⟩
    . exact⟨B,H⟩
    . exact⟨C,I⟩
    . exact⟨D,J⟩
    . exact(by simp)
 constructor;conv=>whnf
 apply z m.go;kernel_rfl
end
end
section
section
variable{l:Frag}{k d:Nat}{a:List Int}{b c:Nat->List Int}{p:Nat->List Int}{i:af}{g:Q}{e:Nat->List aI}
def mM(a:Nat->d8):List (Str×Y):=[(n 0,hP (a 0)),(n 1,hP (a 1)),(n 2,hP (a 2)),(n 3,hP (a 3))]
def BV(b:Nat->d8):Prop:=∀a,a<4->(b a).Ok
noncomputable abbrev GZ:List (Str×Y):=[("book",.obj 37),("tests",.obj 38)]
def RQ(h:h0 p)(s:∀o n,BV o->h0 n->Go (g .next ⟨LW a (some (q 5)) none b c n [.dict (jd e),.dict (mM o)],GZ⟩)):Go (A (x (f l) dY (k+100) (d+39)) cO 3 b6.body ⟨LW a (some (q 5)) none b c p [.dict (jd e)],hx⟩ g i):=by
 constructor;refine⟨33,p 6,rfl,rfl,(h 6).1,(h 6).2,by exact(aD _ _),λH D B u m=> ?_⟩;refine⟨33,D,rfl,rfl,u,by have:=(h 6).2;exact(L m this),by exact(aD _ _),λI E o1 v r=> ?_⟩;refine⟨33,E,rfl,rfl,v,by have:=(h 6).2;exact(hD m r this (by simp+arith only)),by exact(aD _ _),λJ F o2 w M=> ?_⟩;refine⟨33,F,rfl,rfl,w,by have:=(h 6).2;exact(vk m r M this (by simp+arith only)),by exact(aD _ _),λK G C y N=> ?_⟩;have:=s (λj=>match j with|0=>H|1=>I|2=>J|_=>K) (dd p 6 G) (λj t=> ?_) (h.dd 6 y (by have:=(h 6).2;omega))
 . apply z this.go;kernel_rfl
 . rcases j with _|_|_|_|j
   . exact B
   . exact o1
   . exact o2
   . exact C
   . exact(absurd t (by simp+arith))
abbrev D8(b a:Nat):List (Str×Y):=[("book",.obj 37),("tests",.obj 38),("fuel",q a),("limit",q b)]
def RR{n:List ae}(e:h0 p)(s:∀m h o,1<=m->m<=6->h<80->h0 o->Go (g .next ⟨LW a (some (q 5)) none b c o n,D8 m h⟩)):Go (A (x (f l) dY (k+100) (d+39)) cO 4 b6.body ⟨LW a (some (q 5)) none b c p n,GZ⟩ g i):=by constructor;refine⟨36,p 7,6,rfl,rfl,(e 7).1,(e 7).2,by decide,by decide,by exact(aD _ _),λj y u v r=> ?_⟩;refine⟨36,y,80,rfl,rfl,v,by have:=(e 7).2;exact(L r this),by decide,by decide,by exact(aD _ _),λh B t w C=> ?_⟩;have:=s (1+j) h (dd p 7 B) (c5 _ _) (bV u (by simp+arith only)) t (e.dd 7 w (by have:=(e 7).2;exact(hD r C this (by simp+arith only))));apply z this.go;kernel_rfl
abbrev xp:List Str:=[c3,E 0,n 0,E 1,E 2]
abbrev jz(b a:Nat):List (Str×Y):=[("book",.obj 37),("tests",.obj 38),("fuel",q a),("limit",q b),("log",.obj 39),("words",.c (y xp))]
theorem cq{b:Nat}:∀a:List Int,aH b (v a)
 |[]=>trivial
 |_::a=>⟨u,cq a⟩
theorem nF{b:Nat}:∀a:List aI,aH b (cS a)
 |[]=>trivial
 |_::a=>⟨b5 _,nF a⟩
def pv{a:Nat}:bB a (jd e):=⟨nF _,nF _,nF _,nF _,nF _,nF _,u⟩
def xe{b:Nat}(a:d8):dq b (hP a):=by obtain⟨c,m,d⟩:=a;cases c<;>exact⟨u,u,u,u,u⟩
def qK{a:Nat}{b:Nat->d8}:bB a (mM b):=⟨xe _,xe _,xe _,xe _,u⟩
def HZ{i g:Option Y}{e:Nat}{f:List ae}(n:37<=e)(k:lD e (.cell i))(l:lD e (.cell g))(m:dn e f):dn e (LW a i g b c p f):=by
 have d:∀{h:Nat},h<37->h<e:=λj=>by exact(L j n)
 exact⟨cq _,k,⟨d (by decide),d (by decide),d (by decide),d (by decide),d (by decide),d (by decide),d (by decide),d (by decide),u⟩,l,cq _,cq _,cq _,cq _,cq _,cq _,cq _,cq _,
  ⟨d (by decide),d (by decide),d (by decide),d (by decide),d (by decide),d (by decide),d (by decide),d (by decide),u⟩,
  cq _,cq _,cq _,cq _,cq _,cq _,cq _,cq _,cq _,cq _,cq _,cq _,cq _,cq _,cq _,cq _,cq _,cq _,cq _,cq _,cq _,cq _,cq _,cq _,m⟩
abbrev kV(a:List Int)(b c p:Nat->List Int)(e:Nat->List aI)(d:Nat->d8):List ae:=LW a (some (q 5)) none b c p [.dict (jd e),.dict (mM d)]
noncomputable def Ax(r:O)(b:I)(c:Nat)(a:List Stmt)(d:St):ab bg:=⟨λg i=>A r b c a d g i⟩
def RT{n m:Nat}{j:Nat->d8}(s:Go (g .next ⟨LW a (some (q 5)) none b c p [.dict (jd e),.dict (mM j),.c []],jz n m⟩)):
  Go ((r3 hv cO 39 (Ax (x (f l) dY (k+100) (d+39)) cO 5 b6.body) ⟨kV a b c p e j,D8 n m⟩).A g i):=by
 have r:dn 39 (kV a b c p e j):=HZ (by decide) u u ⟨pv,qK,u⟩;constructor;refine⟨rfl,r,⟨(by decide:37<39),(by decide:38<39),u,u,u⟩,⟨(by decide:3<39),(by decide:2<39),(by decide:1<39),(by decide:0<39),u⟩,u,?_⟩;have v:fb hv none 39 (List.range 39) (kV a b c p e j) g .next ⟨kV a b c p e j++[.c (y xp),.c []],[("book",.obj 37),("tests",.obj 38),("fuel",q m),("limit",q n),("log",.obj 40),("words",.obj 39)]⟩:=by
  refine .mk [40] (kV a b c p e j) [.c []] (jz n m) .next ⟨Ag rfl r,.cons rfl (.c .nil) .nil,λw t=>List.mem_singleton.mp t▸(by decide:39<=40),List.nodup_cons.mpr ⟨cB,.nil⟩⟩ (.kv ?_) (.inr ⟨rfl,nofun⟩) ?_
  . exact .cons (.same (by decide:37<39)) (.cons (.same (by decide:38<39)) (.cons (.same u) (.cons (.same u) (.cons (.obj ((qs (by decide)).trans hj)) (.cons (.fr ((qs (by decide)).trans (oA (by decide))) rfl (bM.strs _)) .nil)))))
  . have o:=qv (k:=39) (P':=kV a b c p e j) (P:=kV a b c p e j) (G:=[]) rfl rfl;rw [List.append_nil] at o;refine(?_:g .next ⟨fx (List.range 39) (kV a b c p e j) (kV a b c p e j)++[.c []],jz n m⟩);refine h (o ..) ?_;exact s.go
 apply z v;kernel_rfl
end
end
section
def hX(a:M):List ae:=[.bj 664 41,
 .dict [(sJ,.obj 42),(sI,.obj 43),(kI,q a.L),(jD,q a.F),(sD,q a.D),(kJ,q a.r.S),(sE,q 0),(sH,.none),(sC,.none),(oi,.obj 44),(sB,.obj 45),(sG,.obj 46)],
 .dict [(v8,.d 718),(v7,.d 732),(ml,.obj 37),(mn,.obj 38),(mm,.obj 39)],.dict [],.dict [(eO,.obj 47),(fv,.obj 50),(hf,.obj 53)],
 .dict [(dF,.l [.d 343,.none]),(c3,.l [.d 350,.none]),(dD,.l [.d 371,.str dD]),(dE,.l [.d 371,.str dE]),(fs,.l [.d 378,.none]),(ft,.l [.d 385,.none]),
  (eM,.l [.d 739,.obj 39]),(iS,.l [.d 739,.obj 39]),(jF,.l [.d 739,.obj 39]),(ir,.l [.d 739,.obj 39]),(fu,.l [.d 739,.obj 39]),(ep,.l [.d 739,.obj 39])],.dict hG,
 .bj 416 48,qL a.r.x 49,.c [],.bj 416 51,qL a.r.y 52,.c [],.bj 416 54,qL a.r.z 55,.c []]
def dv(a:M):List ae:= .dict a.aW:: .dict a.a6:: .c a.r.U::hX a
noncomputable def qc:List Nat:=[40,41,42,43,44,45,46,39,37,38,47,48,49,50,51,52,53,54,55]
def sb(a:M):List ae:=match hX a with
 |ai::ah::al::ap::b::cf::c::r=>ai::ah::al::ap::b::cf::c:: .c a.r.U:: .dict a.aW:: .dict a.a6::r
 |_=>[]
section
variable{d:List Int}{a b:Nat->List Int}{p:Nat->List Int}{c:Option Y}{w:M}
def PV(g:aH 0 w.r.U)(f:bB 0 w.aW)(h:bB 0 w.a6):dT 0 (cN qc) [] (LW d c (some (.obj 40)) a b p (dv w)) qc (e w):=
 .cons rfl (.bj rfl) (.cons rfl (.dict (.cons (.obj rfl) (.cons (.obj rfl) (.cons (.same u) (.cons (.same u) (.cons (.same u) (.cons (.same u) (.cons (.same u) (.cons (.same u) (.cons (.same u) (.cons (.obj rfl) (.cons (.obj rfl) (.cons (.obj rfl) (.nil)))))))))))))) (.cons rfl (.dict (.cons (.same u) (.cons (.same u) (.cons (.obj rfl) (.cons (.obj rfl) (.cons (.obj rfl) (.nil))))))) (.cons rfl (.dict .nil) (.cons rfl (.dict (.cons (.obj rfl) (.cons (.obj rfl) (.cons (.obj rfl) (.nil))))) (.cons rfl (.dict (.cons (.same ⟨u,u,u⟩) (.cons (.same ⟨u,u,u⟩) (.cons (.same ⟨u,u,u⟩) (.cons (.same ⟨u,u,u⟩) (.cons (.same ⟨u,u,u⟩) (.cons (.same ⟨u,u,u⟩) (.cons (.l (.cons (.same u) (.cons (.obj rfl) .nil))) (.cons (.l (.cons (.same u) (.cons (.obj rfl) .nil))) (.cons (.l (.cons (.same u) (.cons (.obj rfl) .nil))) (.cons (.l (.cons (.same u) (.cons (.obj rfl) .nil))) (.cons (.l (.cons (.same u) (.cons (.obj rfl) .nil))) (.cons (.l (.cons (.same u) (.cons (.obj rfl) .nil))) (.nil)))))))))))))) (.cons rfl (.same zg) (.cons rfl (.same g) (.cons rfl (.same f) (.cons rfl (.same h) (.cons rfl (.bj rfl) (.cons rfl (.dict (.cons (.same u) (.cons (.same u) (.cons (.obj rfl) (.cons (.same u) (.cons (.same u) (.cons (.same u) (.nil)))))))) (.cons rfl (.c .nil) (.cons rfl (.bj rfl) (.cons rfl (.dict (.cons (.same u) (.cons (.same u) (.cons (.obj rfl) (.cons (.same u) (.cons (.same u) (.cons (.same u) (.nil)))))))) (.cons rfl (.c .nil) (.cons rfl (.bj rfl) (.cons rfl (.dict (.cons (.same u) (.cons (.same u) (.cons (.obj rfl) (.cons (.same u) (.cons (.same u) (.cons (.same u) (.nil)))))))) (.cons rfl (.c .nil) .nil))))))))))))))))))
def FO{d:Nat}{g:List Nat}{f:List ae}(b:aH 0 w.r.U)(a:bB 0 w.aW)(c:bB 0 w.a6):hw 0 (cm qc d g) f (e w) (sb w):=
 .cons (.bj rfl) (.cons (.dict (.cons (.obj rfl) (.cons (.obj rfl) (.cons (.same u) (.cons (.same u) (.cons (.same u) (.cons (.same u) (.cons (.same u) (.cons (.same u) (.cons (.same u) (.cons (.obj rfl) (.cons (.obj rfl) (.cons (.obj rfl) (.nil)))))))))))))) (.cons (.dict (.cons (.same u) (.cons (.same u) (.cons (.obj rfl) (.cons (.obj rfl) (.cons (.obj rfl) (.nil))))))) (.cons (.dict .nil) (.cons (.dict (.cons (.obj rfl) (.cons (.obj rfl) (.cons (.obj rfl) (.nil))))) (.cons (.dict (.cons (.same ⟨u,u,u⟩) (.cons (.same ⟨u,u,u⟩) (.cons (.same ⟨u,u,u⟩) (.cons (.same ⟨u,u,u⟩) (.cons (.same ⟨u,u,u⟩) (.cons (.same ⟨u,u,u⟩) (.cons (.l (.cons (.same u) (.cons (.obj rfl) .nil))) (.cons (.l (.cons (.same u) (.cons (.obj rfl) .nil))) (.cons (.l (.cons (.same u) (.cons (.obj rfl) .nil))) (.cons (.l (.cons (.same u) (.cons (.obj rfl) .nil))) (.cons (.l (.cons (.same u) (.cons (.obj rfl) .nil))) (.cons (.l (.cons (.same u) (.cons (.obj rfl) .nil))) (.nil)))))))))))))) (.cons (.same zg) (.cons (.same b) (.cons (.same a) (.cons (.same c) (.cons (.bj rfl) (.cons (.dict (.cons (.same u) (.cons (.same u) (.cons (.obj rfl) (.cons (.same u) (.cons (.same u) (.cons (.same u) (.nil)))))))) (.cons (.c .nil) (.cons (.bj rfl) (.cons (.dict (.cons (.same u) (.cons (.same u) (.cons (.obj rfl) (.cons (.same u) (.cons (.same u) (.cons (.same u) (.nil)))))))) (.cons (.c .nil) (.cons (.bj rfl) (.cons (.dict (.cons (.same u) (.cons (.same u) (.cons (.obj rfl) (.cons (.same u) (.cons (.same u) (.cons (.same u) (.nil)))))))) (.cons (.c .nil) (.nil)))))))))))))))))))
def F2{e:M}:fx qc (sb e) (LW d c (some (.obj 40)) a b p (dv w))=LW d c (some (.obj 40)) a b p (dv e):=by kernel_rfl
end
end
section
def M1{k n:Nat}{ix:List Nat}{P P' c:List ae}{lc:List (Str×Y)}{o:Y}{r:cj}(w:P.length=ix.length)(x:∀e,hw k (cm ix n e) (P++c) P P') (l:dh ix.length (P++c) o r):
  ∃e,ht k ix n e ⟨P++c,lc⟩ P' (r.objs n)/\bL k (cm ix n e) (P++c) o (.obj (n+1)):=by
 have m:∀{a:Nat}{e:List Nat},ix.length<=a->cm ix n e a=hh e a n:=λl=>by
  unfold cm;rw [aZ,show Nat.blt _ ix.length=false from Bool.eq_false_iff.mpr λE=>absurd (c8 E) (Nat.not_lt.mpr l)];rfl
 have z:es (C ix) (P++c)=P:=by rw [kP,aZ,List.take_left' w]
 have t:∀{a b:Nat}{s:List ae},ix.length<=a->ix.length<=b->a≠b->o= .obj a->dT k (cm ix n [b,a]) (P++c) (P++c) [b,a] s->ht k ix n [b,a] ⟨P++c,lc⟩ P' s/\bL k (cm ix n [b,a]) (P++c) o (.obj (n+1)):=λf d g h y=>
  ⟨⟨z.symm▸x _,y,λj q=>(List.mem_cons.mp q).elim (λi=>i▸d) λi=>List.mem_singleton.mp i▸f,List.nodup_cons.mpr ⟨λi=>g (List.mem_singleton.mp i).symm,List.nodup_cons.mpr ⟨cB,q2⟩⟩⟩,h▸.obj ((m f).trans ((oA (i7 g)).trans hj))⟩
 rcases r with G|F
 . obtain⟨a,b,H,h,f,d,g,p,e2,A⟩:=l;refine⟨[b,a],t f d g h (.cons e2 (.dict ?_) (.cons p (.ar ((m d).trans hj) (.cons (.same u) .nil)) .nil))⟩;refine .cons (.same u) (.cons (.same u) (.cons (.same (show aH k _ from b5 _)) (.cons (.same u) (.cons (.same u) (.cons (.same u) (.cons (.same u) (.cons (.same u) (.cons ?_ .nil))))))));rcases A with rfl|⟨j,rfl,q,B,D,v⟩
   . exact .same u
   . exact .fr ((m q).trans ((oA (i7 D)).trans (oA (i7 B)))) v .nil
 . obtain⟨a,b,h,f,d,g,p,e2⟩:=l;exact⟨[b,a],t f d g h (.cons e2 (.dict (.cons (.same u) .nil)) (.cons p (.ar ((m d).trans hj) (.cons (.same u) .nil)) .nil))⟩
inductive xQ(c:B)(go:N)(d:Nat)(args:List Y)(st:St)(K X:af):Prop
 |mk (i h a f p b j l g e):HS c b->bB 0 b.aW->bB 0 b.a6->args=[.obj 40,.c (y xp)]->st=⟨LW i h (some (.obj 40)) a f p (dv b),j⟩->aK c b.D 4<=d->aM b.D 7 b.r->hM go c l 0 0 1 2 b.D b.r=some (g,e)->aR c e->
  (g= .ok H->K (.str H) ⟨LW i h (some (.obj 40)) a f p (dv (b.st e)),j⟩)->(∀k,iE (a5 c b.D) g k->X (.obj 57) ⟨LW i h (some (.obj 40)) a f p (dv (b.st e))++k.objs 56,j⟩)->xQ c go d args st K X
section
variable{a:au}{p:Program}{d:Frag}{b:B}{c:N}
def Oy(i:aC a.hb (f d))(o:aV (f d))(v:bb b c)(C:∀j,az (a.more j) p 463 (cp b c)):az a p 350 (xQ b c):=by
 rintro q N U K L ⟨S,R,M,O,T,w,lc,Q,P,g,t,m,n,k,l,r,F,G,s,B,hX⟩;subst k;subst l;obtain⟨q,rfl⟩:=fQ r;refine mK (ix:=qc) i (bt i o (λj=>yD (C:=a.more j) i o v (hc (Q:=λa=>az a p 463 (cp b c)) C j)) 100 (q+39)) (i.fn 350 _ rfl) (by decide) (PV t.V.U m n) (.cons (.obj rfl) (.cons (.c (bM.strs _)) .nil)) ?_;refine D1 (k:=0) v (by decide) (by decide) (by decide) (by decide) t (mG r) F G (λE z x=> ?_) λz x V J I D=> ?_
 . refine .mk [] (sb (w.st g)) [] lc (.str H) ⟨FO (w:=w.st g) s.U m n,.nil,λW A=>absurd A cB,.nil⟩ rfl (.same u) ?_;refine h (et ..) ?_;refine h (F2 ..) ?_;exact B E
 . obtain⟨y,k,l⟩:=M1 (k:=0) (ix:=qc) (n:=56) (P:=e (w.st g)) (P':=sb (w.st g)) (lc:=x) rfl (λy=>FO (w:=w.st g) s.U m n) D;refine .mk y (sb (w.st g)) _ lc _ k rfl l ?_;refine h (F2 ..) ?_;exact hX J I
end
end
section
def eb(c:Nat->List aI)(d:Nat->d8)(b a:Nat):M:=⟨b,a,0,⟨0,⟨hR,1⟩,⟨H,1⟩,⟨d7,1⟩,[]⟩,jd c,mM d⟩
section
variable{s:Frag}{k d:Nat}{h:List Int}{c e:Nat->List Int}{p:Nat->List Int}{t:af}{i:Q}{l:Nat->List aI}{n:Nat->d8}{b a:Nat}
def RU(g:Go (i .next ⟨LW h (some (q 5)) (some (.obj 40)) c e p (dv (eb l n b a)),jz b a⟩)):
  Go (A (x (f s) dY (k+100) (d+39)) cO 6 b6.body ⟨LW h (some (q 5)) none c e p [.dict (jd l),.dict (mM n),.c []],jz b a⟩ i t):=by constructor;refine⟨37,38,39,b,a,jd l,mM n,rfl,rfl,rfl,rfl,by decide,pv,qK,by exact(aD _ _),?_⟩;apply z g.go;kernel_rfl
noncomputable def yB(a:B)(b:N):List (Nat×bF):=[(350,xQ a b)]
def RV{n:B}{C:N}{j:M}{y:Nat}{l:g}{v:o}(L:HS n j)(G:bB 0 j.aW)(O:bB 0 j.a6)(V:aK n j.D 4<=d+39)(I:aM j.D 7 j.r)(J:hM C n y 0 0 1 2 j.D j.r=some (l,v))(K:aR n v)(W:∀m,l= .ok m->m=H)
  (D:∀w,(w=[]\/∃u:cj,w=u.objs 56)->Go (i .next ⟨LW h (some (q 5)) (some (.obj 40)) c e p (dv (j.st v)++w),jz b a++([("got",ax l)]:List (Str×Y))⟩)):
  Go (A (x (f s) (yB n C) (k+100) (d+39)) cO 7 b6.body ⟨LW h (some (q 5)) (some (.obj 40)) c e p (dv j),jz b a⟩ i t):=by
 constructor;refine⟨h,_,c,e,p,j,_,y,l,v,L,G,O,rfl,rfl,by omega,I,J,K,λP=> ?_,λu r=> ?_⟩
 . subst P;have:=D [] (.inl rfl);apply z this.go;kernel_rfl
 . have:=D (u.objs 56) (.inr ⟨u,rfl⟩);cases u with
   |a7 XC=>
    induction l using g.casesOn with
    |ok m=>exact r.elim
    |C=>exact r.elim
    |M Q m F S T=>
     refine aS λU R=> ?_;obtain⟨X,Z,E,rfl,_,_⟩:=r;refine R ?_;apply z this.go;kernel_rfl
   |C E=>
    induction l using g.casesOn with
    |ok m=>exact r.elim
    |C=>
     apply z this.go;kernel_rfl
    |M Q m F S T=>exact r.elim
end
end
section
def dW(b:Nat)(a:M):List ae:=[.dict [(ml,.obj 37),(mn,.obj 38),(kI,q a.L),(jD,q a.F),(kJ,q a.r.S),(mm,.obj (b+1)),(oi,.obj (b+2))],.c a.r.U,.dict [(eO,hQ a.r.x),(fv,hQ a.r.y),(hf,hQ a.r.z)]]
def yG(b:Nat)(a:M):List ae:=match dW b a with
 |[ai,ah,al]=>[ai,.dict a.aW,.dict a.a6,ah,al]
 |_=>[]
noncomputable def n8(a:Nat):List Nat:=[a,37,38,a+1,a+2]
def Jn(b:Nat)(a:List ae):Prop:=(b=56/\a=[])\/(b=58/\∃c d,a=[c,d])
def Qy{a:List ae}(c:a=[]\/∃b:cj,a=b.objs 56):∃d,Jn d a:=by
 rcases c with rfl|⟨b,rfl⟩
 . exact⟨56,.inl ⟨rfl,rfl⟩⟩
 . cases b<;>exact⟨58,.inr ⟨rfl,_,_,rfl⟩⟩
section
variable{i:List Int}{d e:Nat->List Int}{p:Nat->List Int}{g f:Option Y}{w b:M}{c:List ae}{a:Nat}
def PU(q:Jn a c)(h:b.aW=w.aW)(j:b.a6=w.a6)(o:aH 0 w.r.U)(n:bB 0 w.aW)(r:bB 0 w.a6):dT 0 (cN (n8 a)) [] (LW i g f d e p (dv b++(c++dW a w))) (n8 a) (l w):=by
 have k:t (LW i g f d e p (dv b++(c++dW a w))) 37=some (.dict w.aW):=by refine ba (h ..) ?_;rfl
 have m:t (LW i g f d e p (dv b++(c++dW a w))) 38=some (.dict w.a6):=by refine ba (j ..) ?_;rfl
 rcases q with⟨rfl,rfl⟩|⟨rfl,s,v,rfl⟩;all_goals exact .cons rfl (.dict (.cons (.obj rfl) (.cons (.obj rfl) (.cons (.same u) (.cons (.same u) (.cons (.same u) (.cons (.obj rfl) (.cons (.obj rfl) (.nil))))))))) (.cons k (.same n) (.cons m (.same r) (.cons rfl (.same o) (.cons rfl (.dict (.cons (.same ⟨u,u,u⟩) (.cons (.same ⟨u,u,u⟩) (.cons (.same ⟨u,u,u⟩) (.nil))))) .nil))))
def Tz{m:Nat}{f:List Nat}{e:List ae}(c:aH 0 w.r.U)(b:bB 0 w.aW)(d:bB 0 w.a6):hw 0 (cm (n8 a) m f) e (l w) (yG a w):=
 .cons (.dict (.cons (.obj rfl) (.cons (.obj rfl) (.cons (.same u) (.cons (.same u) (.cons (.same u) (.cons (.obj rfl) (.cons (.obj rfl) (.nil))))))))) (.cons (.same b) (.cons (.same d) (.cons (.same c) (.cons (.dict (.cons (.same ⟨u,u,u⟩) (.cons (.same ⟨u,u,u⟩) (.cons (.same ⟨u,u,u⟩) (.nil))))) .nil))))
def TX{w':M}(m:Jn a c)(j:b.aW=w'.aW)(k:b.a6=w'.a6):fx (n8 a) (yG a w') (LW i g f d e p (dv b++(c++dW a w)))=LW i g f d e p (dv b++(c++dW a w')):=by
 have l:dv b= .dict w'.aW:: .dict w'.a6:: .c b.r.U::hX b:=by refine ba (j ..) ?_;refine ba (k ..) ?_;rfl
 refine h (l ..) ?_;rcases m with⟨rfl,rfl⟩|⟨rfl,n,o,rfl⟩
 . kernel_rfl
 . kernel_rfl
end
inductive xZ(c:B)(go:N)(d:Nat)(args:List Y)(st:St)(K X:af):Prop
 |mk (m l k a i p b f n o j h e g):Jn e g->f.aW=b.aW->f.a6=b.a6->DS c b->bB 0 b.aW->bB 0 b.a6->aM 0 7 b.r->args=[.obj e,.c (y xp),q 0]->st=⟨LW m l k a i p (dv f++(g++dW e b)),n⟩->aK c 0 5<=d->
  hM go c o 0 0 1 2 0 b.r=some (j,h)->aR c h->K (ax j) ⟨LW m l k a i p (dv f++(g++dW e (b.st h))),n⟩->xZ c go d args st K X
section
variable{a:au}{p:Program}{d:Frag}{b:B}{c:N}
def Lf(g:aC a.hb (f d))(m:aV (f d))(x:bb b c)(q:∀i,az (a.more i) p 798 (df b c)):az a p 826 (xZ b c):=by
 rintro n O W L M ⟨T,S,R,N,P,V,w,X,H,Q,y,l,e,J,k,o,e2,t,r,v,E,A,B,j,F,s,C⟩;subst A;subst B;obtain⟨n,rfl⟩:=fQ j;have D:=hc (Q:=λa=>az a p 798 (df b c)) q;have G:cN (n8 e) e=some 0:=hj;have I:(n8 e).Nodup:=by rcases k with⟨rfl,_⟩|⟨rfl,_⟩<;>decide
 refine mK (ix:=n8 e) g (bt (ct:=pH b c) g m (λi=>⟨q i,yQ g m x (D i),u⟩) 100 (n+39)) (g.fn 826 _ rfl) I (PU k o e2 t.V.U r v) (.cons (.obj G) (.cons (.c (bM.strs _)) (.cons (.same u) .nil))) ?_;refine Df x t (by decide) (by decide) (by decide) (by decide) (bU _) E (by unfold aK at j⊢;exact(k5 j)) F s λK U=> ?_;refine .mk [] (yG e (w.st l)) [] H (ax y) ⟨Tz (w:=w.st l) s.U r v,.nil,λY z=>absurd z cB,.nil⟩ rfl (.same (f4 _)) ?_;refine h (et ..) ?_;refine h (TX (w':=w.st l) k o e2 ..) ?_;exact C
end
end
section
noncomputable def nG(a:B)(b:N):List (Nat×bF):=[(826,xZ a b)]
section
variable{D:Frag}{k d:Nat}{n:List Int}{u v:Nat->List Int}{p:Nat->List Int}{E:af}{s:Q}{b:Nat->List aI}{t:Nat->d8}{c a:Nat}{l:List ae}{e:Nat}{w:B}{C:N}{i:g}{F:M}
abbrev O'(c a:Nat)(i:g):List (Str×Y):=jz c a++([("got",ax i)]:List (Str×Y))
abbrev qP(c a e:Nat)(i:g):List (Str×Y):=jz c a++([("got",ax i),("world",.obj e)]:List (Str×Y))
def RW(g:Jn e l)(b:Go (s .next ⟨LW n (some (q 5)) (some (.obj 40)) u v p (dv F++(l++[.dict [(ml,.obj 37),(mn,.obj 38),(kI,q c),(jD,q a),(kJ,q 0),(mm,.obj (e+1))],.c []])),qP c a e i⟩)):
  Go (A (x (f D) (nG w C) (k+100) (d+39)) cO 8 b6.body ⟨LW n (some (q 5)) (some (.obj 40)) u v p (dv F++l),O' c a i⟩ s E):=by
 constructor;rcases g with⟨rfl,rfl⟩|⟨rfl,h,j,rfl⟩;all_goals
  apply z b.go;kernel_rfl
def RX(h:Jn e l)(g:Go (s .next ⟨LW n (some (q 5)) (some (.obj 40)) u v p (dv F++(l++dW e (eb b t c a))),qP c a e i⟩)):
  Go (A (x (f D) (nG w C) (k+100) (d+39)) cO 9 b6.body ⟨LW n (some (q 5)) (some (.obj 40)) u v p (dv F++(l++[.dict [(ml,.obj 37),(mn,.obj 38),(kI,q c),(jD,q a),(kJ,q 0),(mm,.obj (e+1))],.c []])),qP c a e i⟩ s E):=by
 constructor;rcases h with⟨rfl,rfl⟩|⟨rfl,j,m,rfl⟩;all_goals
  apply z g.go;kernel_rfl
theorem GU{e:Nat}:∀a:List Str,h3 (gg (e+1)) (y a)=true
 |[]=>rfl
 |_::a=>GU a
def M2(i:g):gg 20 (ax i)=true:=by
 induction i using g.casesOn with
 |ok aj=>rfl
 |C=>rfl
 |M k aj a n t=>
  refine(?_:cond true (cond true (cond (h3 (gg 18) (y a)) (cond true (cond true true false) false) false) false) false=true);rw [GU];rfl
def RL{j:Nat}{g:o}(B:Jn e l)(G:DS w (eb b t c a))(I:aK w 0 5<=d+39)(F:hM C w j 0 0 1 2 0 (eb b t c a).r=some (i,g))(m:aR w g)
  (r:Go (s .next ⟨LW n (some (q 5)) (some (.obj 40)) u v p (dv ((eb b t c a).st g)++(l++dW e ((eb b t c a).st g))),qP c a e i⟩)):
  Go (A (x (f D) (nG w C) (k+100) (d+39)) cO 10 b6.body ⟨LW n (some (q 5)) (some (.obj 40)) u v p (dv ((eb b t c a).st g)++(l++dW e (eb b t c a))),qP c a e i⟩ s E):=by
 have y:aM 0 7 (eb b t c a).r:=bU _;constructor;rcases B with⟨rfl,rfl⟩|⟨rfl,J,K,rfl⟩;all_goals
  refine⟨n,_,_,u,v,p,eb b t c a,(eb b t c a).st g,_,j,i,g,_,_,(by first|exact .inl ⟨rfl,rfl⟩|exact .inr ⟨rfl,_,_,rfl⟩),rfl,rfl,G,pv,qK,y,rfl,rfl,by omega,F,m,?_⟩;have H:=M2 i;rcases i with _|⟨_,_,_,_,_⟩|_;all_goals
   conv=>whnf
   refine⟨H,rfl,?_⟩;conv=>whnf
   refine h (mY ..) ?_;conv=>whnf
   refine⟨m.plain,rfl,?_⟩;apply z r.go;kernel_rfl
abbrev GJ(c a e:Nat)(i:g):List (Str×Y):=jz c a++([("got",ax i),("world",.obj e),("stands",.obj (e+3))]:List (Str×Y))
abbrev GK(r:o):ae:= .dict [(eO,hQ r.x),(fv,hQ r.y),(hf,hQ r.z)]
def RM{g:o}(j:Jn e l)
  (h:Go (s .next ⟨LW n (some (q 5)) (some (.obj 40)) u v p (dv ((eb b t c a).st g)++(l++(dW e ((eb b t c a).st g)++[GK g]))),GJ c a e i⟩)):
  Go (A (x (f D) (nG w C) (k+100) (d+39)) cO 11 b6.body ⟨LW n (some (q 5)) (some (.obj 40)) u v p (dv ((eb b t c a).st g)++(l++dW e ((eb b t c a).st g))),qP c a e i⟩ s E):=by
 constructor;rcases j with⟨rfl,rfl⟩|⟨rfl,m,r,rfl⟩;all_goals
  apply z h.go;kernel_rfl
def RN{g:o}(m:Jn e l)
  (j:∀r,Go (s (.ret (.bool true)) r)):
  Go (A (x (f D) (nG w C) (k+100) (d+39)) cO 12 b6.body ⟨LW n (some (q 5)) (some (.obj 40)) u v p (dv ((eb b t c a).st g)++(l++(dW e ((eb b t c a).st g)++[GK g]))),GJ c a e i⟩ s E):=by
 constructor;rcases m with⟨rfl,rfl⟩|⟨rfl,y,z,rfl⟩;all_goals
  conv=>whnf
  refine⟨rfl,rfl,?_⟩;conv=>whnf
  refine h (show(Int.ofNat g.S).beq' (Int.ofNat g.S)=true from mY _) ?_;exact(j _).go
end
end
section
def iW(k:au)(p:Program)(n:ay)(s:Nat):O:=⟨λd d d=> .n,λd d d=> .n,
 λr q t=>⟨λl o=>∀(a:Fr)(m:D a.w),a.ag=k->a.p=p->a.T=n->a.am=s->a.I=r->In0 a m->m.st=t->∀(f:Flow->Shared->Prop)(e:a8),(∀h c g,m.To c->b9 c h g->l h c.st->f g c.s)->(∀i c j,m.To c->b c i j->o i c.st->e j c.s)->wpAny a.z.ab a.z.ak (exec q a.b) f e m.s⟩,λd d d d=> .n⟩
def U0{c:au}{p:Program}{e:ay}{f:Nat}:h1 ⟨c,p,e,f,iW c p e f⟩:=
 ⟨λa a a a a=>d.n,λa a a a a=>d.n,λh l m b g i j k=>k h m (T Rk.ag b) (T Rk.p b) (T Rk.T b) (T Rk.am b) rfl g rfl,λa a a a a a a a a a=>d.n⟩
section
variable{i:au}{p:Program}{l:ay}{n k:Nat}{r:O}{f:I}{g:Nat}{e:List Stmt}{h:St}{a:Q}{c:af}
def Us{i a:au}{p d:Program}{l b:ay}{n c:Nat}{r:O}(e:i=a)(f:p=d)(g:l=b)(h:n=c):Rk.mk i p l n r=Rk.mk a d b c r:=by subst e f g h;rfl
def Gu{s:Stmt}(A:∀(d:Fr)(m:D d.w),d.toRk=⟨i,p,l,n,r⟩->d.I=f->In0 d m->m.st=h->∀(k:Flow->Shared->Prop)(g:a8),(∀q e o,m.To e->b9 e q o->a q e.st->k o e.s)->(∀t e u,m.To e->b e t u->c t e.st->g u e.s)->wpAny d.z.ab d.z.ak (exec s d.b) k g m.s):
  ((iW i p l n).S f s h).A a c:=
 λd m v e2 w x y j z=>A (d.at r) m (Us v e2 w x) y ⟨j.cells,j.hd⟩ z
def Gk{r:O}{d:Stmt}(i:t e g=some d)(b:A r f g e h a c):(r.S f d h).A a c:=by unfold A at b;rw [i] at b;exact b
def Gm{r:O}(i:∀b,t e g=some b->(r.S f b h).A a c) (j:t e g=none->False):A r f g e h a c:=by
 unfold A;induction d:t e g using Option.casesOn with
 |none=>exact j d
 |some b=>exact i b d
def Gl{r:O}(b:A r f g e h a c)(d:t e g=none):False:=by unfold A at b;rw [d] at b;exact b
def U2(q:h1 ⟨i,p,l,n,r⟩)(b:Go (A r f g e h a c)):A (iW i p l n) f g e h a c:=
 Gm (λt s=>Gu (r:=r) λo m j e2 d k=>by
  subst e2;subst k;exact q.S o t m j d a c (Gk s b.go)) (Gl b.go)
def U1(v:b1 ⟨i,p,l,n,r⟩)(b:Go ((r3 hv f k (Ax r f g e) h).A a c)):A (iW i p l n) f g e h a c:=
 Gm (λy x=>Gu (r:=r) λu m s e2 o t=>by
  subst e2;subst t;exact d.frame Hn o (λj w q=>(v j).S (u.more j) y w (T (Rk.more · j) s) q) a c ⟨b.go.aE,b.go.os,b.go.d,b.go.cells,b.go.hd,Gk x b.go.A⟩) (Gl b.go.A)
end
theorem EW{b:B}{q:N}(m:b.Ok)(f:bb b q){D h F:Nat}{y:Option Nat}(n:D<4)(t:h<6)(w:∀z,y=some z->z<6) {k:g} {K:o}:
  ∀(l:Nat)(r:o),aR b r->r.S<=b.F->fO q b D h y F l r=some (k,K)->∀a,k= .ok a->a=H
 |0,r,_,_,c=>nomatch c
 |l+1,r,x,u,c=>by
  cases v1 c with
  |ti J p d O=>
   have j:=fS m f n x u d;cases J with
   |ok h=>exactλa e=>by cases e;rfl
   |error k=>exactλa e=>absurd e ((j.M _ rfl).2 a)
  |C p d i=>exact nofun
  |fM p G L M C d i v s I=>exactλa e=>by cases yg I e;rfl
  |next p G L a C _ _ d i v s c=>
   have j:=fS m f n x u d;have E:=f h _ _ _ _ t (j.V.a (lA i)) (dA i) v;have A:=pl f w E s;exact EW m f n t w l C A.1.V (A.2.1 nofun) c
def OA{b:B}{i:N}(t:b.Ok)(j:bb b i){d l k g m h:Nat}(q:d<6)(y:l<4)(v:k<6)(s:g<6){e:Str}{r z:o}(x:aR b r)(u:r.S<=b.F)(a:hM i b h d l k g m r=some (.ok e,z)):e=H:=by
 obtain⟨n,A,p,a⟩:=fe a;have f:=j d _ _ _ _ q x u p;cases c:cF n with
 |true=>
  rw [c] at a;exact EW t j y s (λD w=>by cases w;exact v) h A f.V (f.C λC=>by subst C;cases c) a e rfl
 |false=>rw [c] at a;cases a;cases c
noncomputable def hH(c:Nat->List aI)(d:Nat->d8)(b a:Nat):B:=⟨b,a,c,d⟩
section
variable{b:Nat->List aI}{t:Nat->d8}{L F:Nat}
def UV(d:BD b)(e:BV t)(c:L<=6)(a:F<80):(hH b t L F).Ok:=⟨c,a,d,e⟩
def Cu{a:Nat}(c:a<6):U (E a) (jd b)=some (.c (cS (b a))):=by
 rcases a with _|_|_|_|_|_|a;iterate 6 rfl
 omega
def G1{a:Nat}(b:a<4):U (n a) (mM t)=some (hP (t a)):=by
 rcases a with _|_|_|_|a;iterate 4 rfl
 omega
def th:aR (hH b t L F) (eb b t L F).r:=
 ⟨λa=>by
  rcases a with _|_|_
  . exact⟨[97,32,98],0,by decide,cb _,rfl⟩
  . exact⟨[],0,by decide,cb _,rfl⟩
  . exact⟨[49],0,by decide,cb _,rfl⟩,bU _,u,rfl⟩
def Vv(c:(hH b t L F).Ok):HS (hH b t L F) (eb b t L F):=
 ⟨rfl,rfl,λd a=>Cu a,λd a=>G1 a,⟨u,pv,qK⟩,bU _,c,th,bU _,bU _⟩
def Vu(c:(hH b t L F).Ok):DS (hH b t L F) (eb b t L F):=
 ⟨rfl,rfl,λd a=>Cu a,λd a=>G1 a,⟨u,pv,qK⟩,c,th,bU _,bU _⟩
end
section
variable{c:au}{p:Program}{d:Frag}
def k'(a:Y)(_:St):Prop:=a= .bool true
def z8(_:Y)(_:St):Prop:=False
def ik{b:Nat}{a:ay}{r:O}{g:I}{h:Nat}{f:List Stmt}{i:St}{d:Q}{e:af}(k:b1 ⟨c,p,a,b,r⟩)(j:Go (A r g h f i d e)):Go (A (iW c p a b) g h f i d e):=⟨U2 (by have:=k [];rwa [show Rk.more ⟨c,p,a,b,r⟩ []=⟨c,p,a,b,r⟩ from by rcases c with⟨_,_,_⟩;simp [Rk.more,au.more]] at this) j⟩
def Pc{h k:Nat}{d:ay}{r:O}{a:I}{g:Nat}{f:List Stmt}{i:St}{b:Q}{e:af}(l:b1 ⟨c,p,d,h,r⟩)(j:Go ((r3 hv a k (Ax r a g f) i).A b e)):Go (A (iW c p d h) a g f i b e):=⟨U1 l j⟩
def Pa{r:O}{a:aL}{g:List Y}{b md:List (Str×Y)}{c ms:List ae}{cx:I}{d f:af}(l:kf none a ⟨c,b⟩=cx)(k:∀e i,(ab.v (gQ a.names g a.jj) λj=>kb cx j ⟨iJ a.scope.names c,[]⟩:ab Unit).A e i=e () ⟨ms,md⟩)
  (h:Go (aU r cx (fX b f) (aT 0 a.body) ⟨ms,md⟩ (fK b d))):Go (av r none a g ⟨c,b⟩ d f):=⟨y9 l k h⟩
def Q0(F:aC c.hb (f d))(e:aV (f d)){q:List Int}(XE:q.length<=63)
  (O:∀E:Q,(∀(a G:Nat->List Int)(D:Nat->Int),Go (E .next ⟨LW q none none a G (λi=>D i::dV.getD i []) [],[]⟩))->Go (A (iW c p (f d) 199) cO 0 b6.body ⟨[jL q,.cell none,.cell none,.cell none],[]⟩ E (fX [] z8))):
  Go (av (iW c p (f d) 199) none b6 [.c (v q)] ⟨[],[]⟩ k' z8):=by
 have s:b1 ⟨c,p,f d,199,x (f d) dY 100 (160+39)⟩:=bt (ct:=dY) F e (λy=>⟨xa F e,CT F e,He F e,CH F e,u⟩) 100 199;have X:b1 ⟨c,p,f d,199,x (f d) dY 101 (160+39)⟩:=bt (ct:=dY) F e (λy=>⟨xa F e,CT F e,He F e,CH F e,u⟩) 101 199;refine Pa (cx:=cO) (ms:=[jL q,.cell none,.cell none,.cell none]) (md:=[]) (by kernel_rfl) (λZ Z=>by kernel_rfl) ?_;refine j (body:=b6.body) 0 (O _ λa G D=>aB ?_);have m:h0 (λi=>D i::dV.getD i []):=λi=>⟨by simp,by have:=ka (i:=i);simp only [List.length_cons];exact(eW this (by decide))⟩;refine j (body:=b6.body) 1 (ik s (RK (d:=160) (aB ?_)));refine j (body:=b6.body) 2 (ik X (RP (d:=160) m λb K R m=>aB ?_));refine j (body:=b6.body) 3 (ik s (RQ (d:=160) m λt K U m=>aB ?_));refine j (body:=b6.body) 4 (ik s (RR (d:=160) m λL g K XD I z m=>aB ?_));refine j (body:=b6.body) 5 (Pc s (RT (d:=160) (aB ?_)));refine j (body:=b6.body) 6 (ik s (RU (d:=160) (aB ?_)));have k:(hH b t L g).Ok:=UV R U I z;have o:=p' k 80 7;have Y:=G6 k (g:=80) z 7 0 (bU _) (by refine(?_:L<0+7);exact(Nat.lt_succ_of_le I));have B:(eb b t L g).r.S<=(hH b t L g).F:=bU _;obtain⟨⟨N,XF⟩,w⟩:=D3 k o Y (a:=0) (t:=0) (n:=1) (b:=2) (g:=80) (by decide) (by decide) (by decide) (by decide) (th (b:=b) (t:=t) (L:=L) (F:=g)) B z;have J:=(D2 k o (by decide) (by decide) (by decide) (by decide) th B w).V;have S:∀C,N= .ok C->C=H:=λC V=>by subst V;exact OA k o (by decide) (by decide) (by decide) (by decide) th B w
 have T:aM 0 7 (eb b t L g).r:=bU _;have rm:∀n,n<=10->aK (hH b t L g) 0 n<=160+39:=λn l=>by refine(?_:12*(L-0)+40+n<=199);omega
 have W:b1 ⟨c,p,f d,199,x (f d) (yB (hH b t L g) (dP (hH b t L g) 80 7)) 100 (160+39)⟩:=bt (ct:=yB _ _) F e (λy=>⟨Oy F e o (λM=>by refine h (oh ..) ?_;exact UN F e k 80 7 _),u⟩) 100 199;have r:b1 ⟨c,p,f d,199,x (f d) (nG (hH b t L g) (dP (hH b t L g) 80 7)) 100 (160+39)⟩:=bt (ct:=nG _ _) F e (λy=>⟨Lf F e o (λM=>by refine h (oh ..) ?_;exact Dw F e k 80 7 _),u⟩) 100 199;refine j (body:=b6.body) 7 (ik W (RV (d:=160) (Vv k) pv qK (rm 4 (by decide)) T w J S λXC P=>aB ?_));refine Exists.elim (Qy P) λn l=> ?_;refine j (body:=b6.body) 8 (ik r (RW (d:=160) l (aB ?_)));refine j (body:=b6.body) 9 (ik r (RX (d:=160) (b:=b) (t:=t) l (aB ?_)));refine j (body:=b6.body) 10 (ik r (RL (d:=160) l (Vu k) (rm 5 (by decide)) w J (aB ?_)));refine j (body:=b6.body) 11 (ik r (RM (d:=160) l (aB ?_)));refine j (body:=b6.body) 12 (ik r (RN (d:=160) l λXG=>e4 ⟨?_⟩));exact rfl
end
end
section
section
variable{b:au}{p:Program}{a:Frag}
def FQ(a:Frag)(k d:Nat)(b:Q)(c:af)(g:List Y)(e:St):Prop:=(AO (f a) (x (f a) [] (k+99) (d+39)) cO (uz gG) (.c g) e (swappedStores [uz gG] (uA gG) (jn cO.sc))).A b c
def RJ{k d:Nat}{l:List Int}(m:l.length<=63){b:af}{K:Q}(j:∀(c e:Nat->List Int)(g:Nat->Int),Go (K .next ⟨LW l none none c e (λh=>g h::dV.getD h []) [],[]⟩)):
  Go (A (x (f a) [] (k+100) (d+39)) cO 0 b6.body ⟨[jL l,.cell none,.cell none,.cell none],[]⟩ K b):=by
 have i:=RI (ao:=a) (k:=k) (d:=d) (l:=l) (K:=FQ a k d K b) m λc e g=>by
  apply z (j c e g).go;kernel_rfl
 constructor;apply z (P:=jA none (f a) (x (f a) [] (k+98) (d+39)) ⟨e6 (u4 gG) b6.scope,none,[("script",0)]⟩ (u5 gG) [] (u3 gG) (λo n=>FQ a k d K b o (gj (some (12,.c ow)) ⟨n.objs,[]⟩)) (nP 0 ow) [] ⟨jL l::bq true,[]⟩) i.go;kernel_rfl
def QX(g:aC b.hb (f a))(h:aV (f a)){c:List Int}(m:c.length<=63){i:af}(d:Q)
  (l:∀(j k:Nat->List Int)(n:Nat->Int),Go (d .next ⟨LW c none none j k (λe=>n e::dV.getD e []) [],[]⟩)):Go (A (iW b p (f a) 199) cO 0 b6.body ⟨[jL c,.cell none,.cell none,.cell none],[]⟩ d i):=
 ik (bt (ct:=[]) g h (λo=>trivial) 100 199) (RJ (k:=0) (d:=160) m l)
end
end
def QY{b:au}{p:Program}{a:Frag}(c:aC b.hb (f a))(d:aV (f a)){g:List Int}(e:g.length<=63):
  Go (av (iW b p (f a) 199) none b6 [.c (v g)] ⟨[],[]⟩ k' z8):=Q0 c d e λh i=>QX c d e h i
def QZ{C:au}{p:Program}{l:Frag}(q:aC C.hb (f l))(x:aV (f l)){j:Nat}(A:fc C.hb j b6){u:List Int}(B:u.length<=63){m:Value}{c:Shared}(o:C.hb=c.heap)(t:C.fz=[])(H:G [] c.heap [] (.c (v u)) m)
  {s:a8}{w:a8}(E:∀i,(∀e g,c.heap.get? e=some g->i.heap.get? e=some g)->i.gens=c.gens->i.os=c.os->s (.bool true) i):wpAny (model p C.w) callerA (PySem.call (.ref j) [m]) s w c:=by have z:cD C [] ⟨[],[]⟩ [] c.heap:=⟨λe g a=>by rw [o] at a;exact a,by refine(?_:C.hb.objs.size<=_);refine h (o ..) ?_;exact cb _,rfl,q2,(λJ g j a=>by simp at a),(λj b=>by cases b),(λj b=>by rw [t] at b;cases b),(λy b=>by cases b),q2,(λa b=>by cases b),λy r b=>by cases b⟩;refine m2 (uO (k:=⟨C,p,f l,199,iW C p (f l) 199⟩) (m:=(⟨⟨[],[]⟩,[],c,z⟩:D ⟨C,[]⟩)) (hd:=none) q U0 A rfl rfl (by decide:callerA.depth+1+2*199<recursionLimit) (by decide:callerA.units+3+16*199+64<cLine) (.cI (by refine h (t ..) ?_;exact H) .cQ) (QY q x B).go (λI K L m i n d F k=> ?_) λd d d d d d d d k=>k.elim);have a:I= .bool true:=k;subst a;refine h (show m= .bool true from F.bI) ?_;exact E i (λe g a=>n.f.fL e g (by refine(?_:e<C.hb.objs.size);refine h (o ..) ?_;exact dk a) a) n.f.gens n.f.os
theorem Ei{a:WRecords}:∀{b:List WData},WShape.hasItems a b .int=true->∃c:List Int,b=c.map WData.int
 |[],_=>⟨[],rfl⟩
 |d::b,e=>by
  obtain⟨f,g⟩:=Bool.and_eq_true_iff.mp ((show(WShape.has a d .int&&WShape.hasItems a b .int)=WShape.hasItems a (d::b) .int by kernel_rfl).trans e);obtain⟨c,rfl⟩:=Ei g;rcases d with _|_|_|_|_|_|_|_|_|_|_|_|⟨_,_⟩<;>first|exact⟨_::c,rfl⟩|exact aA ((show false=WShape.has a _ .int by kernel_rfl).trans f)
theorem EN{R:WRecords}{cl:Str->Option Addr}{P:Params}{ord:List DictEntry->List DictEntry}:∀(b:List Int)(a:Shared),∃(c:List Value)(f:Nat),layAllW R cl P ord (b.map WData.int) a=some (c,{a with toks:=f})/\∀d e g,w d e g (v b) c
 |[],a=>⟨[],a.toks,by simp [layAllW],λh h h=> .cQ⟩
 |j::b,a=>by
  obtain⟨c,f,i,r⟩:=EN (R:=R) (cl:=cl) (P:=P) (ord:=ord) b {a with toks:=a.toks+1};refine⟨.int j a.toks::c,f,?_,λd e g=> .cI (.dO _ _) (r d e g)⟩;simp only [List.map_cons,layAllW,layW,i]
def QS{R:WRecords}{g:World}{b c:Shared}{xs:List WData}{f:List Value}{i:List Addr}(h:Laid R g b c [.list xs] f i)(l:WShape.hasItems R xs .int=true):
  ∃(a:List Int)(d:Addr),xs=a.map WData.int/\f=[.ref d]/\G [] c.heap [] (.c (v a)) (.ref d)/\∃j m,c.heap.objs.size=j+1/\c.heap.get? j=some m:=by obtain⟨a,rfl⟩:=Ei l;obtain⟨ord,_,e⟩:=h.laid;obtain⟨n,o,k,r⟩:=EN (R:=R) (cl:=classAt b.heap) (P:=g.params) (ord:=ord) a b;simp only [layAllW,layW,k] at e;cases e;exact⟨a,_,rfl,rfl,.my (xs:=n) (n:=0) (cY _ rfl) (by simp) (by simp) (r _ _ _),b.heap.objs.size,_,jY ..,cY _ rfl⟩
noncomputable def Rg(a:Bool):Bool:=match(match(match some (WData.bool a) with|some (WData.bool a)=>some (WData.bool !a)|_=>none) with|some (WData.bool false)=>some (WData.bool false)|some (WData.bool true)=>some (WData.bool true)|_=>none) with
 |some (WData.bool true)=>true
 |_=>false
def Q2{a:List Int}(b:qB.pre.holds [] {args:=[.list (a.map .int)]}=true):a.length<=63:=by
 have c:Rg (decide ((63:Int)<((a.map WData.int).length:Nat)))=qB.pre.holds [] {args:=[.list (a.map .int)]}:=by kernel_rfl
 have d:decide ((63:Int)<((a.map WData.int).length:Nat))=false:=by
  have b:=c.trans b;revert b;generalize decide ((63:Int)<((a.map WData.int).length:Nat))=ah;rcases ah with _|_
  . exactλe=>rfl
  . exactλb=>b.symm
 have:=Int.ofNat_le.mp (Int.not_lt.mp (of_decide_eq_false d));rwa [List.length_map] at this
def Q1{c:Heap}{w:Str->Option Value}{f:Addr}{e:Obj}{x i l d k:Value}{a:DefRec}{v:List (Str×Expr)}{g:List Arg}(j:a.params=⟨[],g,none,[],[],none,[]⟩)(t:g.map (·.arg)=ql (m 91))(r:a.body=gR (m 91))(u:a.scope=wM (m 91))
  (n:c.get? f=some e)(o:e.data= .func {docDef a.name a.params a.body a.scope x i l with defaults:=d,kwdefaults:=k})(p:c.CodeRec i a.name)(q:Dflts w c a.params v d k):fc c f b6:=by
 have s:d= .none:=by
  rcases q.pos with⟨_,b⟩|⟨b,_⟩
  . exact b
  . rw [j] at b;exact absurd rfl b
 refine⟨.mk e _ _ _ _ n o j t (T _ r) u rfl rfl rfl p (s▸.n rfl),?_,?_,?_,?_⟩
 . refine(?_:(ql (m 91)).Nodup);refine h (show ql (m 91)=[Str.ofString "script"] by kernel_rfl) ?_;exact List.nodup_cons.mpr ⟨by simp,q2⟩
 . kernel_rfl
 . kernel_rfl
 . kernel_rfl
def Q5{a b:List WData}:qB.claim.post a (.bool true) b=true:=by refine(?_:(WShape.has [] (.bool true) .bool&&(WTm.eq .res (.lit (.bool true))).holds [] {args:=a,res:=some (.bool true),after:=b})=true);kernel_rfl
def Q7{w:Program}{v:List Str}{p:(Str->Option Value)->Heap->Prop}{x:Type}{s:Shared->x}{q:World->x}{g:DefRec}{X:List (Str×Expr)}{t:List Arg}(P:g.params=⟨[],t,none,[],[],none,[]⟩)(O:t.map (·.arg)=ql (m 91))(K:g.body=gR (m 91))(R:g.scope=wM (m 91))
  (z:∀(d:World)(c a:Shared)(n l:Str->Option Value),Ground w v [] p d c n l a.heap->s c=q d->(∀i b,c.heap.get? i=some b->a.heap.get? i=some b)->(∃j b,a.heap.objs.size=j+1/\a.heap.get? j=some b)->∃h,aC a.heap (f h)/\aV (f h)):WalkX w v p s q qB g X λE Z=>PySem.call E Z:=by
 intro d c a n l A T C b XR XE XH XG XO G H I J XJ L D XT XD o k XI XK XN XM;obtain⟨S,k⟩:=pre_splitW k;obtain⟨XC,r,rfl,u,Q⟩:=hasAllW_cons (show WShape.hasAll [] D [.list .int]=true from S);obtain rfl:=hasAllW_nil Q;cases XC with
 |list e=>
  have M:WShape.hasItems [] e .int=true:=(show WShape.hasItems [] e .int=(WShape.hasItems [] e .int||false) from(Bool.or_false _).symm).trans ((show(WShape.hasItems [] e .int||false)=WShape.has [] (.list e) (.list .int) by kernel_rfl).trans u);obtain⟨XQ,i,rfl,rfl,Y,N⟩:=QS o M;obtain⟨h,y,B⟩:=z d c a n l A T o.keeps N;refine QZ (C:=⟨d,a.heap,[]⟩) y B (Q1 P O K R G H I J) (Q2 k) rfl rfl Y λXS U V W=> ?_;exact⟨.inl ⟨_,.bool true,[],rfl,λXF=>rfl,.bool true,Q5,λXU=>⟨q2,λC F=>by cases F⟩⟩,.of_keep U,W,.of_eq (V.trans L)⟩
 |_=>exact aA ((show false=WShape.has [] _ (.list .int) by kernel_rfl).trans u)
section
def R8{c o p q r s:Type}{b:Option c}{d:c->o×p}{e:c->q×r}{m:c->s}{g:o}{h:p}{i:q}{j:r}{n:s}(f:b.map d=some (g,h))(k:b.map e=some (i,j))(l:b.map m=some n):b.map (λa=>((d a).1,(d a).2,((e a).1,(e a).2,m a)))=some (g,h,(i,j,n)):=by
 induction b using Option.casesOn with
 |none=>cases f
 |some a=>
  rw [Option.map_some] at f k l⊢;rw [Option.some.inj f,Option.some.inj k,Option.some.inj l]
def Rv(b:World)(a:OsState):(oM b a).map (λc=>(t4 hm ip [] (λd=>true) true c.abs,tw b a c.abs,uw c.abs))=some (openGood hm ip,true,uv):=R8 (Ry b a) (Rx b a) (Rw b a)
def Rd:LeftO pw hm ip (λa=>true) uw (λa=>uv) 5400:=Rf Rv
def NS(b c:Shared)(h:uw b=uv)(k:∀e a,b.heap.get? e=some a->c.heap.get? e=some a) (m:∃j a,c.heap.objs.size=j+1/\c.heap.get? j=some a):∃d,aC c.heap (f d)/\aV (f d):=by unfold uw uv at h;obtain⟨i,g,l⟩:=D7 h;exact⟨ij b.heap wd,NP (T:=f (ij b.heap wd)) zd k g i l m,Nv g⟩
end
section
def Ik:PySem.Challenge.rw_ot0061_01.row.prog.bare:=⟨rfl,rfl,rfl,rfl,rfl,by decide+kernel⟩
def TR:qB.promised:=⟨[.list []],by decide+kernel,by decide+kernel⟩
end
end Mine.Internal
end
theorem PySem.Challenge.cw_ot0061_01_holds : PySem.Challenge.rw_ot0061_01.Holds :=
  holds_law Mine.Internal.WV λd=>holds_openX (XP:=λa a=>True) Mine.Internal.Rd (λa a=>trivial) (λa a a a a=>trivial) Mine.Internal.K8 Mine.Internal.Wc Mine.Internal.QP (λa a=>recFacts_nil rfl) (by rfl) d Mine.Internal.Tm Mine.Internal.Ik Mine.Internal.TR
  (Mine.Internal.Q7 Mine.Internal.TF Mine.Internal.SE rfl rfl λg e f a a a c k b=>Mine.Internal.NS e f c k b)
