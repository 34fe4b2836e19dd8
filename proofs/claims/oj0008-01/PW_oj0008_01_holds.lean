import PyProof.Rows.All
import Wide.All
import OpenK.AllK
import Wide.FinOn
import Lean
import PySem.Challenge.RW_oj0008_01
set_option Elab.async false
set_option linter.all false
set_option maxRecDepth 100000
set_option exponentiation.threshold 20000
set_option tactic.hygienic false
set_option genInjectivity false
set_option genSizeOf false
namespace Mine.Internal
noncomputable section
section
open PySem PySem.W PyProof.Rows
theorem fz{n m:Nat}(h:n<=m):0+n<=m:=(Nat.zero_add n).symm▸h
abbrev ae:=@Nat.le_trans
abbrev ag:=@List.length_map
abbrev az:=@List.mem_singleton
abbrev au:=@List.mem_cons
abbrev av:=@List.all_eq_true
abbrev aA:=@List.getElem?_map
abbrev aB:=@Nat.lt_of_le_of_lt
abbrev aC:=@List.length_append
abbrev aD:=@Heap.get?_push_of_some
abbrev aP:=@Nat.le_of_eq
abbrev aH:=@List.getElem?_eq_getElem
abbrev aO:=@Option.map_eq_some_iff
abbrev aF:=@Nat.add_le_add_left
abbrev aK:=@List.getD_eq_getElem?_getD
abbrev aJ:=@Bool.false_ne_true
abbrev aL:=@Nat.succ_le_succ
abbrev aU:=@Nat.ble_eq_true_of_le
abbrev aS:=@Nat.le_add_right
abbrev bS:=@Nat.zero_add
abbrev a7:=@List.not_mem_nil
abbrev aV:=@Array.length_toList
abbrev aQ:=@List.mem_map
abbrev aX:=@Nat.le_of_ble_eq_true
abbrev aT:=@Nat.le_of_lt
abbrev aW:=@Option.some.inj
abbrev ba:=@List.getElem?_append_right
abbrev a8:=@Heap.get?_push_size
abbrev bf:=@Nat.eq_of_beq_eq_true
abbrev bg:=@Int.natCast_nonneg
abbrev bo:=@Nat.succ_add_eq_add_succ
abbrev bk:=@Array.getElem?_toList
abbrev bp:=@Bool.and_eq_true
abbrev bu:=@List.getElem?_eq_none
abbrev bA:=@Option.isSome_iff_exists
abbrev bN:=@List.mem_append
abbrev aZ:=@List.nodup_cons
abbrev bx:=@List.append_assoc
abbrev bc:=@Nat.le_refl
abbrev bz:=@Nat.add_le_add
abbrev bq:=@Heap.lt_size
abbrev bI:=@Nat.lt_of_lt_of_le
abbrev cg:=@List.getElem?_eq_some_iff
abbrev bT:=@Nat.pow_le_pow_right
abbrev bD:=@List.append_nil
abbrev bW:=@Nat.add_right_comm
abbrev bE:=@Nat.mul_le_mul
abbrev bB:=@Nat.ne_of_lt
abbrev bO:=@Int.natAbs_mul
abbrev cj:=@List.getElem?_append_left
abbrev cb:=@Nat.mul_le_mul_left
abbrev bP:=@List.map_cons
abbrev bQ:=@Int.add_assoc
abbrev bJ:=@Nat.ne_of_gt
abbrev cn:=@Nat.add_le_add_right
abbrev cJ:=@Int.ofNat_le
abbrev bU:=@Int.zero_add
abbrev bK:=@Nat.zero_le
abbrev cA:=@Int.eq_ofNat_of_zero_le
abbrev cC:=@Nat.mul_le_mul_right
abbrev cD:=@List.mem_cons_of_mem
abbrev ct:=@Nat.lt_succ_self
abbrev cu:=@List.length_cons
abbrev cq:=@List.nil_append
abbrev b8:=@List.map_append
abbrev cc:=@Int.not_lt
abbrev cK:=@Bool.and_eq_true_iff
abbrev cp:=@Int.ofNat_lt
abbrev cL:=@List.getElem?_of_mem
abbrev aa:=@wpAny_bind
abbrev aj:=@wpAny_pure
abbrev ay:=@wpAny_mono
abbrev ai:=@if_pos
abbrev ah:=@if_neg
abbrev ao:=@congrArg
abbrev bh:=@of_decide_eq_true
abbrev bF:=@decide_eq_true
abbrev bH:=@wpAny_dictEntries
abbrev bR:=@wpAny_call_entry
abbrev bX:=@beq_eq_false_iff_ne
abbrev bt:=@eq_of_beq
abbrev b9:=@decide_eq_false
abbrev cv:=@beq_self_eq_true
abbrev b7:=@wpAny_holding
abbrev cY:=@wpAny_truthy_bool
abbrev cZ:=@wpAny_newObj_type
abbrev dh:=@wpAny_standAt
abbrev c_:=@wpAny_field
abbrev cy:=@Int.add_zero
abbrev cI:=@Int.natAbs_neg
abbrev cH:=@List.cons.inj
abbrev cR:=@Nat.le_succ_of_le
abbrev cS:=@List.length_range
abbrev cW:=@Nat.lt_add_of_pos_right
abbrev dg:=@List.length_zipWith
abbrev cM:=@Nat.lt_or_ge
abbrev di:=@Int.ofNat.inj
abbrev da:=@Rat.zero_mul
abbrev dx:=@Nat.lt_succ_of_lt
abbrev dk:=@List.length_filter_le
abbrev b_:=@List.map_map
abbrev aG:=@absurd
theorem no{P:Prop}(h:false=true):P:=(aJ h).elim
theorem nn{α:Type}{P:Prop}{z:α}(h:none=some z):P:=by cases h
theorem an{a b:Bool}{P:Prop}(h:(a&&b)=true)(H:a=true->b=true->P):P:=H (cK.mp h).1 (cK.mp h).2
theorem vo{a b c:Bool}{P:Prop}(h:(a&&(b&&c))=true)(H:a=true->b=true->c=true->P):P:=an h λh1 h=>an h (H h1)
theorem AL{a b c d:Bool}{P:Prop}(h:(a&&(b&&(c&&d)))=true)(H:a=true->b=true->c=true->d=true->P):P:=an h λh1 h=>vo h (H h1)
theorem qr{α:Type}{c:Prop}[Decidable c]{P:Prop}{a:Option α}{z:α}(h:(if c then a else none)=some z)(H:c->a=some z->P):P:=by
 by_cases e:c
 ·rw[ai e]at h;exact H e h
 ·rw[ah e]at h;exact nn h
inductive V where
 |none
 |bool (b:Bool)
 |int (i:Int)
 |str (s:Str)
 |bZ (l:List V)
 |a9 (l:List V)
 |bC (l:List (List Int×V))
 |ref (a:Addr)
abbrev aN:=List (List Int×V)
abbrev aM:=List (List Int)
noncomputable def Hk(ks:List Int):Int:=reduceHash (Builtin.Tuple.tupleHashOf (ks.map hashInt))
def ic(x:List Int×Addr×Value):DictEntry:=⟨Hk x.1,.ref x.2.1,x.2.2⟩
inductive Ix
 |v (u:Value) (x:V)
 |l (us:List Value) (xs:List V)
 |d (es:List (List Int×Addr×Value)) (l:aN)
 |o (o:Obj) (x:V)
inductive k5(h:Heap)(U:Addr->Prop):Ix->Prop
 |OF:k5 h U (.v .none .none)
 |OG (b):k5 h U (.v (.bool b) (.bool b))
 |TX (i t):k5 h U (.v (.int i t) (.int i))
 |TY (s t):k5 h U (.v (.str s t) (.str s))
 |TZ (a):k5 h U (.v (.ref a) (.ref a))
 |T1 {a aq n l}:¬U a->IsT h a aq n->k5 h U (.l aq.toList l)->k5 h U (.v (.ref a) (.bZ l))
 |T2 {a o l}:¬U a->h.get? a=some o->k5 h U (.o o (.a9 l))->k5 h U (.v (.ref a) (.a9 l))
 |T3 {a o l}:¬U a->(a==sysModules)=false->h.get? a=some o->k5 h U (.o o (.bC l))->k5 h U (.v (.ref a) (.bC l))
 |T4:k5 h U (.l [] [])
 |OH {v x vs xs}:k5 h U (.v v x)->k5 h U (.l vs xs)->k5 h U (.l (v::vs) (x::xs))
 |T5:k5 h U (.d [] [])
 |OI {a aq n k v x es l}:¬U a->IsT h a aq n->IntsAre aq.toList k->k5 h U (.v v x)->k5 h U (.d es l)->k5 h U (.d ((k,a,v)::es) ((k,x)::l))
 |T6 {aq n l}:k5 h U (.l aq.toList l)->k5 h U (.o {cls:=.type "list",data:=.seq aq n} (.a9 l))
 |T7 {es n xs l}:es.toList=xs.map ic->k5 h U (.d xs l)->(l.map (·.1)).Nodup->k5 h U (.o {cls:=.type "dict",data:=.dict es n} (.bC l))
abbrev a_(h:Heap)(U:Addr->Prop)(u:Value)(x:V):Prop:=k5 h U (.v u x)
abbrev cw(h:Heap)(U:Addr->Prop)(us:List Value)(xs:List V):Prop:=k5 h U (.l us xs)
abbrev et(h:Heap)(U:Addr->Prop)(es:List (List Int×Addr×Value))(l:aN):Prop:=k5 h U (.d es l)
abbrev fH(h:Heap)(U:Addr->Prop)(o:Obj)(x:V):Prop:=k5 h U (.o o x)
section
variable{h:Heap}{U:Addr->Prop}
theorem a_.none:a_ h U .none .none:=.OF
theorem a_.bool(b:Bool):a_ h U (.bool b) (.bool b):=.OG b
theorem a_.int(i:Int)(t:Tok):a_ h U (.int i t) (.int i):=.TX i t
theorem a_.str(s:Str)(t:Tok):a_ h U (.str s t) (.str s):=.TY s t
theorem a_.ref(a:Addr):a_ h U (.ref a) (.ref a):=.TZ a
theorem a_.bZ{a:Addr}{aq:Array Value}{n:Nat}{l:List V}(u:¬U a)(e:IsT h a aq n)(r:cw h U aq.toList l):a_ h U (.ref a) (.bZ l):=.T1 u e r
theorem a_.a9{a:Addr}{o:Obj}{l:List V}(u:¬U a)(e:h.get? a=some o)(r:fH h U o (.a9 l)):a_ h U (.ref a) (.a9 l):=.T2 u e r
theorem a_.bC{a:Addr}{o:Obj}{l:aN}(u:¬U a)(s:(a==sysModules)=false)(e:h.get? a=some o)(r:fH h U o (.bC l)):a_ h U (.ref a) (.bC l):=.T3 u s e r
theorem cw.nil:cw h U [] []:=.T4
theorem cw.cons{v:Value}{x:V}{vs:List Value}{xs:List V}(a:a_ h U v x)(r:cw h U vs xs):cw h U (v::vs) (x::xs):=.OH a r
theorem et.nil:et h U [] []:=.T5
theorem et.cons{a:Addr}{aq:Array Value}{n:Nat}{k:List Int}{v:Value}{x:V}{es:List (List Int×Addr×Value)}{l:aN}(u:¬U a)(e:IsT h a aq n)(i:IntsAre aq.toList k)(r:a_ h U v x)(d:et h U es l):et h U ((k,a,v)::es) ((k,x)::l):=.OI u e i r d
theorem fH.a9{aq:Array Value}{n:Nat}{l:List V}(r:cw h U aq.toList l):fH h U {cls:=.type "list",data:=.seq aq n} (.a9 l):=.T6 r
theorem fH.bC{es:Array DictEntry}{n:Nat}{xs:List (List Int×Addr×Value)}{l:aN}(e:es.toList=xs.map ic)(d:et h U xs l)(nd:(l.map (·.1)).Nodup):fH h U {cls:=.type "dict",data:=.dict es n} (.bC l):=.T7 e d nd
def Qd(h:Heap)(U:Addr->Prop)(u:Value):V->Prop
 |.none=>.none=u
 |.bool b=>.bool b=u
 |.int i=>∃t,.int i t=u
 |.str s=>∃t,.str s t=u
 |.ref a=>.ref a=u
 |.bZ l=>∃a aq n,.ref a=u/\¬U a/\IsT h a aq n/\cw h U aq.toList l
 |.a9 l=>∃a o,.ref a=u/\¬U a/\h.get? a=some o/\fH h U o (.a9 l)
 |.bC l=>∃a o,.ref a=u/\¬U a/\(a==sysModules)=false/\h.get? a=some o/\fH h U o (.bC l)
def Ya(h:Heap)(U:Addr->Prop)(us:List Value):List V->Prop
 |[]=>[]=us
 |x::xs=>∃v vs,v::vs=us/\a_ h U v x/\cw h U vs xs
def Yb(h:Heap)(U:Addr->Prop)(es:List (List Int×Addr×Value)):aN->Prop
 |[]=>[]=es
 |p::l=>∃a aq n v r,(p.1,a,v)::r=es/\¬U a/\IsT h a aq n/\IntsAre aq.toList p.1/\a_ h U v p.2/\et h U r l
def Yc(h:Heap)(U:Addr->Prop)(o:Obj):V->Prop
 |.a9 l=>∃aq n,{cls:=.type "list",data:=.seq aq n}=o/\cw h U aq.toList l
 |.bC l=>∃es n xs,{cls:=.type "dict",data:=.dict es n}=o/\es.toList=xs.map ic/\et h U xs l/\(l.map (·.1)).Nodup
 |_=>False
def IxI(h:Heap)(U:Addr->Prop):Ix->Prop
 |.v u x=>Qd h U u x
 |.l us xs=>Ya h U us xs
 |.d es l=>Yb h U es l
 |.o o x=>Yc h U o x
theorem k5.inv{i:Ix}(r:k5 h U i):IxI h U i:=
 k5.casesOn (motive:=λi Z=>IxI h U i) r rfl (λZ=>rfl) (λZ t=>⟨t,rfl⟩) (λZ t=>⟨t,rfl⟩) (λZ=>rfl) (λu e r=>⟨_,_,_,rfl,u,e,r⟩) (λu e r=>⟨_,_,rfl,u,e,r⟩) (λu s e r=>⟨_,_,rfl,u,s,e,r⟩)
  rfl (λa r=>⟨_,_,rfl,a,r⟩) rfl (λu e i r d=>⟨_,_,_,_,_,rfl,u,e,i,r,d⟩) (λr=>⟨_,_,rfl,r⟩) (λe d n=>⟨_,_,_,rfl,e,d,n⟩)
end
section
variable{h:Heap}{U:Addr->Prop}{u:Value}{x:V}{P:Value->Prop}
theorem a_.OJ(r:a_ h U u x)(e:x=.none):.none=u:=by subst e;exact r.inv
theorem a_.j_{i:Int}(r:a_ h U u x)(e:x=.int i):∃t,.int i t=u:=by subst e;exact r.inv
theorem a_.kr{b:Bool}(r:a_ h U u x)(e:x=.bool b):.bool b=u:=by subst e;exact r.inv
theorem a_.LX{b:Str}(r:a_ h U u x)(e:x=.str b):∃t,.str b t=u:=by subst e;exact r.inv
theorem a_.yE{a:Addr}(r:a_ h U u x)(e:x=.ref a):.ref a=u:=by subst e;exact r.inv
@[elab_as_elim] theorem a_.f7{i:Int}(r:a_ h U u (.int i))(H:∀t,P (.int i t)):P u:=(r.j_ rfl).elim λt e=>e▸H t
@[elab_as_elim] theorem a_.ie{b:Bool}(r:a_ h U u (.bool b))(H:P (.bool b)):P u:=r.kr rfl▸H
@[elab_as_elim] theorem a_.oR(r:a_ h U u .none)(H:P .none):P u:=r.OJ rfl▸H
@[elab_as_elim] theorem a_.AM{b:Str}(r:a_ h U u (.str b))(H:∀t,P (.str b t)):P u:=(r.LX rfl).elim λt e=>e▸H t
@[elab_as_elim] theorem a_.AN{a:Addr}(r:a_ h U u (.ref a))(H:P (.ref a)):P u:=r.yE rfl▸H
@[elab_as_elim] theorem a_.ot{l:List V}(r:a_ h U u (.bZ l))(H:∀a aq n,¬U a->IsT h a aq n->cw h U aq.toList l->P (.ref a)):P u:=by
 obtain⟨a,aq,n,e,u,t,r⟩:=(r.inv:Qd h U u (.bZ l))
 exact e▸H a aq n u t r
@[elab_as_elim] theorem fH.tx{o:Obj}{l:List V}{P:Obj->Prop}(r:fH h U o (.a9 l))(H:∀aq n,cw h U aq.toList l->P {cls:=.type "list",data:=.seq aq n}):P o:=by
 obtain⟨aq,n,e,r⟩:=(r.inv:Yc h U o (.a9 l))
 exact e▸H aq n r
@[elab_as_elim] theorem fH.tA{o:Obj}{l:aN}{P:Obj->Prop}(r:fH h U o (.bC l))(H:∀es n xs,es.toList=xs.map ic->et h U xs l->(l.map (·.1)).Nodup->P {cls:=.type "dict",data:=.dict es n}):P o:=by
 obtain⟨es,n,xs,e,k,r,nd⟩:=(r.inv:Yc h U o (.bC l))
 exact e▸H es n xs k r nd
@[elab_as_elim] theorem a_.tx{l:List V}(r:a_ h U u (.a9 l))(H:∀a o,¬U a->h.get? a=some o->fH h U o (.a9 l)->P (.ref a)):P u:=by
 obtain⟨a,o,e,n,q,r⟩:=(r.inv:Qd h U u (.a9 l))
 exact e▸H a o n q r
@[elab_as_elim] theorem a_.tA{l:aN}(r:a_ h U u (.bC l))(H:∀a o,¬U a->(a==sysModules)=false->h.get? a=some o->fH h U o (.bC l)->P (.ref a)):P u:=by
 obtain⟨a,o,e,n,s,q,r⟩:=(r.inv:Qd h U u (.bC l))
 exact e▸H a o n s q r
@[elab_as_elim] theorem cw.cN{xs:List V}{P:List Value->Prop}{vs:List Value}(r:cw h U vs (x::xs))(H:∀v vs,a_ h U v x->cw h U vs xs->P (v::vs)):P vs:=by
 obtain⟨v,vs,e,a,r⟩:=(r.inv:Ya h U vs (x::xs))
 exact e▸H v vs a r
@[elab_as_elim] theorem cw.dD{P:List Value->Prop}{vs:List Value}(r:cw h U vs [])(H:P []):P vs:=(r.inv:[]=vs)▸H
@[elab_as_elim] theorem et.dD{P:List (List Int×Addr×Value)->Prop}{xs:List (List Int×Addr×Value)}(r:et h U xs [])(H:P []):P xs:=(r.inv:[]=xs)▸H
@[elab_as_elim] theorem et.cN{p:List Int×V}{l:aN}{P:List (List Int×Addr×Value)->Prop}{xs:List (List Int×Addr×Value)}(r:et h U xs (p::l))
  (H:∀a aq n v es,¬U a->IsT h a aq n->IntsAre aq.toList p.1->a_ h U v p.2->et h U es l->P ((p.1,a,v)::es)):P xs:=by
 obtain⟨a,aq,n,v,es,e,u,t,i,r,d⟩:=(r.inv:Yb h U xs (p::l))
 exact e▸H a aq n v es u t i r d
end
structure ft(h h':Heap)(U U':Addr->Prop):Prop where
 old:∀b o,¬U b->h.get? b=some o->h'.get? b=some o
 new:∀b,U' b->U b\/h.get? b=none
theorem ft.refl(h:Heap)(U:Addr->Prop):ft h h U U:=⟨λZ Z Z e=>e,λZ u=>.inl u⟩
theorem ft.none{h h':Heap}{U U':Addr->Prop}(k:ft h h' U U'){b:Addr}(e:h'.get? b=none):U b\/h.get? b=none:=by
 cases q:h.get? b with
 |none=>exact .inr rfl
 |some o=>exact Classical.byCases (p:=U b) .inl λn=>nn (e.symm.trans (k.old b o n q))
theorem ft.off{h h':Heap}{U U':Addr->Prop}(k:ft h h' U U'){b:Addr}{o:Obj}(n:¬U b)(e:h.get? b=some o):¬U' b:=
 λu=>(k.new b u).elim n λq=>nn (q.symm.trans e)
theorem ft.trans{h h' LY:Heap}{U U' U'':Addr->Prop}(k:ft h h' U U')(k':ft h' LY U' U''):ft h LY U U'' where
 old b o n e:=k'.old b o (k.off n e) (k.old b o n e)
 new b u:=(k'.new b u).elim (k.new b) k.none
section
variable{h h':Heap}{U U':Addr->Prop}
theorem k5.keep(k:ft h h' U U'){i:Ix}(r:k5 h U i):k5 h' U' i:=
 k5.rec (motive:=λi Z=>k5 h' U' i) .OF .OG .TX .TY .TZ (λn e Z r=>.T1 (k.off n e) (k.old _ _ n e) r) (λn e Z r=>.T2 (k.off n e) (k.old _ _ n e) r) (λn q e Z r=>.T3 (k.off n e) q (k.old _ _ n e) r)
  .T4 (λZ Z a r=>.OH a r) .T5 (λn e i Z Z a r=>.OI (k.off n e) (k.old _ _ n e) i a r) (λZ r=>.T6 r) (λe Z n r=>.T7 e r n) r
theorem a_.keep(k:ft h h' U U'){v:Value}{x:V}(r:a_ h U v x):a_ h' U' v x:=k5.keep k r
theorem cw.keep(k:ft h h' U U'){v:List Value}{x:List V}(r:cw h U v x):cw h' U' v x:=k5.keep k r
theorem et.keep(k:ft h h' U U'){v:List (List Int×Addr×Value)}{x:aN}(r:et h U v x):et h' U' v x:=k5.keep k r
theorem fH.keep(k:ft h h' U U'){v:Obj}{x:V}(r:fH h U v x):fH h' U' v x:=k5.keep k r
end
theorem fH.out{h:Heap}{U:Addr->Prop}{a:Addr}{o:Obj}{z:V}(r:fH h U o z)(n:¬U a)(hs:(a==sysModules)=false)(ho:h.get? a=some o):a_ h U (.ref a) z:=by
 cases z with
 |a9 l=>exact .a9 n ho r
 |bC l=>exact .bC n hs ho r
 |_=>exact(r.inv:False).elim
noncomputable abbrev St:=List (Addr×Obj×V)
noncomputable def aY:St->Addr->Option (Obj×V)
 |[],_=>none
 |(b,p)::r,a=>if a=b then some p else aY r a
noncomputable def gN:St->Addr->Obj->V->St
 |[],_,_,_=>[]
 |(b,p)::r,a,o,x=>if a=b then(b,o,x)::r else(b,p)::gN r a o x
noncomputable def del:St->Addr->St
 |[],_=>[]
 |(b,p)::r,a=>if a=b then del r a else(b,p)::del r a
def cf(J:St)(fr:Addr->Prop)(b:Addr):Prop:=(aY J b).isSome=true\/fr b
def b6(J:St):V->Option V
 |.ref a=>(aY J a).map (·.2)
 |x=>some x
theorem CS{a:Addr}{p:Obj×V}{J:St}:aY ((a,p)::J) a=some p:=ai rfl
theorem gf{a b:Addr}{p:Obj×V}{J:St}(n:¬a=b):aY ((b,p)::J) a=aY J a:=ah n
theorem xc{a:Addr}{p:Obj×V}{o:Obj}{x:V}{J:St}:gN ((a,p)::J) a o x=(a,o,x)::J:=ai rfl
theorem G9{a b:Addr}{p:Obj×V}{o:Obj}{x:V}{J:St}(n:¬a=b):gN ((b,p)::J) a o x=(b,p)::gN J a o x:=ah n
theorem G_{a b:Addr}{p:Obj×V}{J:St}(n:¬a=b):del ((b,p)::J) a=(b,p)::del J a:=ah n
theorem kc{a:Addr}{o:Obj}{x:V}{J:St}:(aY J a).isSome=true->aY (gN J a o x) a=some (o,x):=by
 induction J with
 |nil=>exactλh=>no h
 |cons q r ih=>
  intro h
  by_cases e:a=q.1
  ·rw[e];exact(ao (aY · q.1) xc).trans CS
  ·rw[gf e]at h
   exact(ao (aY · a) (G9 e)).trans ((gf e).trans (ih h))
theorem fJ{a b:Addr}{o:Obj}{x:V}(n:b≠a){J:St}:aY (gN J a o x) b=aY J b:=by
 induction J with
 |nil=>rfl
 |cons q r ih=>
  by_cases e:a=q.1
  ·exact((ao (aY · b) (ai e)).trans (gf λh=>n (h.trans e.symm))).trans (gf λh=>n (h.trans e.symm)).symm
  ·refine(ao (aY · b) (G9 e)).trans ?_
   by_cases e2:b=q.1
   ·exact(ai e2).trans (ai e2).symm
   ·exact(gf e2).trans (ih.trans (gf e2).symm)
theorem n6{a:Addr}{J:St}:aY (del J a) a=none:=by
 induction J with
 |nil=>rfl
 |cons q r ih=>
  by_cases e:a=q.1
  ·exact(ao (aY · a) (ai e)).trans ih
  ·exact(ao (aY · a) (G_ e)).trans ((gf e).trans ih)
theorem e9{a b:Addr}(n:b≠a){J:St}:aY (del J a) b=aY J b:=by
 induction J with
 |nil=>rfl
 |cons q r ih=>
  by_cases e:a=q.1
  ·exact(ao (aY · b) (ai e)).trans (ih.trans (gf λh=>n (h.trans e.symm)).symm)
  ·refine(ao (aY · b) (G_ e)).trans ?_
   by_cases e2:b=q.1
   ·exact(ai e2).trans (ai e2).symm
   ·exact(gf e2).trans (ih.trans (gf e2).symm)
theorem yF{a b:Addr}{q p:Obj×V}{J:St}{P:Prop}(e:aY ((a,q)::J) b=some p)(h1:b=a->q=p->P)(h2:aY J b=some p->P):P:=by
 by_cases n:b=a
 ·exact h1 n (aW ((ai n).symm.trans e))
 ·exact h2 ((gf n).symm.trans e)
theorem iP{a b:Addr}{p:Obj×V}{J:St}(h:aY (del J a) b=some p):aY J b=some p:=by
 by_cases e:b=a
 ·subst e;rw[n6]at h;cases h
 ·rwa[e9 e]at h
structure dR(X:Heap)(fr:Addr->Prop)(h:Heap)(J:St):Prop where
 own:∀a o x,aY J a=some (o,x)->h.get? a=some o/\fH h (cf J fr) o x
 off:∀a,(aY J a).isSome=true->¬fr a
 base:∀b o,X.get? b=some o->h.get? b=some o
 low:∀b,cf J fr b->X.get? b=none
 live:∀b,fr b->∃o,h.get? b=some o
 sys:∃o,X.get? sysModules=some o
section
variable{X h h':Heap}{fr:Addr->Prop}{J σ':St}
theorem dR.fresh(I:dR X fr h J){a:Addr}(e:h.get? a=none):aY J a=none:=by
 cases q:aY J a with
 |none=>rfl
 |some p=>rw[(I.own a p.1 p.2 q).1]at e;cases e
theorem dR.yG(I:dR X fr h J){a:Addr}(e:h.get? a=none):¬fr a:=λf=>by
 obtain⟨o,q⟩:=I.live a f;rw[q]at e;cases e
theorem dR.G'(I:dR X fr h J)(k:∀b o,h.get? b=some o->h'.get? b=some o):dR X fr h' J:=
 ⟨λa o x e=>⟨k _ _ (I.own a o x e).1,(I.own a o x e).2.keep ⟨λb o Z e=>k b o e,λZ u=>.inl u⟩⟩,I.off,λb o e=>k b o (I.base b o e),I.low,
  λb f=>(I.live b f).imp λo e=>k b o e,I.sys⟩
end
section
inductive Ha|add|sub|mul|fdiv|mod|pow
inductive GP|eq|ne|lt|gt|ge|GQ|EJ|CT|n7
inductive Bi|len|sum|max|min|abs|any|all|tuple|dict|list|sorted
inductive Me|append|extend|pop|rB|rC|rD|yH|sort
inductive Tg|one(i:Nat)|two(i j:Nat)
mutual
inductive E
 |aE (i:Nat)
 |ck (v:V)
 |yI (n:Str)
 |bin (o:Ha) (a b:E)
 |cat (own:Bool) (a b:E)
 |neg (a:E)
 |not (a:E)
 |and (a b:E)
 |or (a b:E)
 |cmp (o:GP) (a b:E)
 |ite (c a b:E)
 |bZ (l:List E)
 |a9 (own:Bool) (l:List E)
 |ou (own:Bool)
 |qu (own:Bool) (a b:E)
 |lc (own:Bool) (e:E) (g:List G)
 |dc (own:Bool) (a b:E) (g:List G)
 |sub (a i:E)
 |qs (own:Bool) (a:E) (lo hi:Option E)
 |rev (a:E)
 |call (f:Str) (l:List E)
 |bi (b:Bi) (own:Bool) (l:List E)
 |met (m:Me) (o:E) (l:List E)
 |CU (a:E)
inductive yy
 |val (e:E)
 |enum (e:E)
 |range (e:E)
inductive G
 |mk (t:Tg) (s:yy) (ifs:List E)
end
inductive dJ6
 |asg (i:Nat) (e:E)
 |iF (is:List Nat) (e:E)
 |put (a i e:E)
 |aug (i:Nat) (e:E)
 |ex (e:E)
 |ret (e:E)
 |ifs (c:E) (t f:List dJ6)
 |OK (c:E) (b:List dJ6)
 |fr (t:Tg) (s:yy) (b:List dJ6)
 |cont
 |bad
 |yJ (i:Nat)
 |free (i:Nat)
noncomputable abbrev du:=List (Option V)
inductive Fl|next|brk|cont|ret(v:V)
noncomputable def AO:Int->Bool
 |.ofNat n=>Nat.ble n 1000000000
 |.negSucc _=>false
theorem ku{i:Int}(h:AO i=true):0<=i/\i<2^60:=by
 cases i with
 |ofNat n=>
  have:n<=1000000000:=aX h
  exact⟨bg n,by show(n:Int)<_;omega⟩
 |negSucc n=>cases h
noncomputable def LC(a:Int):Bool:=Nat.ble (Nat.log2 a.natAbs) 4000
section
variable{α:Type}
noncomputable def oS{β:Type}(o:Option β)(f:β->Option α):Option α:=match o with
 |some a=>f a
 |none=>none
noncomputable def fQ(x:V)(f:Int->Option α):Option α:=match x with
 |.int a=>f a
 |_=>none
noncomputable def oT(x:V)(f:List V->Option α):Option α:=match x with
 |.bZ a=>f a
 |_=>none
noncomputable def AP(x:V)(f:List V->Option α):Option α:=match x with
 |.a9 a=>f a
 |_=>none
noncomputable def Hb(x:V)(f:aN->Option α):Option α:=match x with
 |.bC a=>f a
 |_=>none
noncomputable def CV(x:V)(f:Bool->Option α):Option α:=match x with
 |.bool a=>f a
 |_=>none
noncomputable def T8(x:V)(f:Str->Option α):Option α:=match x with
 |.str a=>f a
 |_=>none
noncomputable def CW(x:V)(f:Option α):Option α:=match x with
 |.none=>f
 |_=>none
noncomputable def S4(x:V)(f:Int->Option α)(g:List V->Option α):Option α:=match x with
 |.int a=>f a
 |.bZ a=>g a
 |_=>none
noncomputable def tB(x:Option V)(f g:List V->Option α)(d:aN->Option α):Option α:=match x with
 |some (.a9 a)=>f a
 |some (.bZ a)=>g a
 |some (.bC a)=>d a
 |_=>none
noncomputable def l0{β:Type}(l:List β)(o:Option α):Option α:=match l with
 |[]=>o
 |_::_=>none
def l1{β:Type}(l:List β)(f:β->Option α):Option α:=match l with
 |[]=>none
 |x::r=>l0 r (f x)
def l2{β:Type}(l:List β)(f:β->β->Option α):Option α:=match l with
 |[]=>none
 |x::r=>l1 r (f x)
noncomputable def lC{β:Type}(l:List β)(f:β->List β->Option α):Option α:=match l with
 |[]=>none
 |x::r=>f x r
theorem eM{β:Type}{o:Option β}{f:β->Option α}{z:α}{P:Prop}(h:oS o f=some z)(H:∀a,o=some a->f a=some z->P):P:=by
 cases o with
 |none=>exact nn h
 |some a=>exact H a rfl h
variable{P:V->Prop}{x:V}{z:α}
@[elab_as_elim] theorem d_{f}(h:fQ x f=some z)(H:∀a,f a=some z->P (.int a)):P x:=by
 cases x with
 |int a=>exact H a h
 |_=>exact nn h
@[elab_as_elim] theorem gS{f}(h:oT x f=some z)(H:∀a,f a=some z->P (.bZ a)):P x:=by
 cases x with
 |bZ a=>exact H a h
 |_=>exact nn h
@[elab_as_elim] theorem jZ{f}(h:AP x f=some z)(H:∀a,f a=some z->P (.a9 a)):P x:=by
 cases x with
 |a9 a=>exact H a h
 |_=>exact nn h
@[elab_as_elim] theorem nc{f}(h:Hb x f=some z)(H:∀a,f a=some z->P (.bC a)):P x:=by
 cases x with
 |bC a=>exact H a h
 |_=>exact nn h
@[elab_as_elim] theorem oU{f}(h:CV x f=some z)(H:∀a,f a=some z->P (.bool a)):P x:=by
 cases x with
 |bool a=>exact H a h
 |_=>exact nn h
@[elab_as_elim] theorem CX{f}(h:T8 x f=some z)(H:∀a,f a=some z->P (.str a)):P x:=by
 cases x with
 |str a=>exact H a h
 |_=>exact nn h
@[elab_as_elim] theorem oV{f}(h:CW x f=some z)(H:f=some z->P .none):P x:=by
 cases x with
 |none=>exact H h
 |_=>exact nn h
@[elab_as_elim] theorem xd{f g}(h:S4 x f g=some z)(H1:∀a,f a=some z->P (.int a))(H2:∀a,g a=some z->P (.bZ a)):P x:=by
 cases x with
 |int a=>exact H1 a h
 |bZ a=>exact H2 a h
 |_=>exact nn h
theorem gg{o:Option V}{f g d}{R:Prop}(h:tB o f g d=some z)(H1:∀a,o=some (.a9 a)->f a=some z->R)(H2:∀a,o=some (.bZ a)->g a=some z->R)(H3:∀a,o=some (.bC a)->d a=some z->R):R:=by
 cases o with
 |none=>exact nn h
 |some x=>cases x with
  |a9 a=>exact H1 a rfl h
  |bZ a=>exact H2 a rfl h
  |bC a=>exact H3 a rfl h
  |_=>exact nn h
variable{β:Type}{L:List β->Prop}{l:List β}
@[elab_as_elim] theorem n8{o:Option α}(h:l0 l o=some z)(H:o=some z->L []):L l:=by
 cases l with
 |nil=>exact H h
 |cons=>exact nn h
@[elab_as_elim] theorem yK{f}(h:l1 l f=some z)(H:∀x,f x=some z->L [x]):L l:=by
 cases l with
 |nil=>exact nn h
 |cons x r=>exact n8 (L:=λr=>L (x::r)) h (H x)
@[elab_as_elim] theorem vS{f}(h:l2 l f=some z)(H:∀x y,f x y=some z->L [x,y]):L l:=by
 cases l with
 |nil=>exact nn h
 |cons x r=>exact yK (L:=λr=>L (x::r)) h (H x)
@[elab_as_elim] theorem vT{f}(h:lC l f=some z)(H:∀x r,f x r=some z->L (x::r)):L l:=by
 cases l with
 |nil=>exact nn h
 |cons x r=>exact H x r h
end
def ig(o:Ha)(x y:V):Option V:=match o with
 |.add=>S4 x (λa=>fQ y λb=>some (.int (a+b))) λl=>oT y λm=>if l.length+m.length<=1000 then some (.bZ (l++m))else none
 |.sub=>fQ x λa=>fQ y λb=>some (.int (a- b))
 |.mul=>S4 x (λa=>fQ y λb=>if LC a&&LC b then some (.int (a*b))else none) λl=>fQ y λn=>if AO n&&(Nat.ble n.toNat 1000&&Nat.ble l.length 1000)then some (.bZ (List.replicate n.toNat l).flatten)else none
 |.fdiv=>fQ x λa=>fQ y λb=>if b !=0&&Nat.ble (Nat.log2 a.natAbs) 8100&&Nat.ble (Nat.log2 b.natAbs) 8100 then some (.int (a.fdiv b))else none
 |.mod=>fQ x λa=>fQ y λb=>if b !=0 then some (.int (a.fmod b))else none
 |.pow=>fQ x λa=>fQ y λn=>if AO n&&(Nat.ble n.toNat 100&&Nat.ble a.natAbs 1000000000)then some (.int (a^n.toNat))else none
noncomputable def dp(l:aN)(k:List Int):Option V:=match l with
 |[]=>none
 |(k',v)::r=>if k'=k then some v else dp r k
noncomputable def sC(f:V->V->Option Bool):List V->List V->Option Bool
 |[],m=>some m.isEmpty
 |x::xs,m=>match m with
  |[]=>some false
  |y::ys=>oS (f x y) λb=>oS (sC f xs ys) λc=>some (b&&c)
noncomputable def tC(f:V->V->Option Bool):aN->aN->Option Bool
 |[],_=>some true
 |p::r,m=>match dp m p.1 with
  |none=>some false
  |some y=>oS (f p.2 y) λb=>if b=true then tC f r m else some false
def Xv(fl:List V->List V->Option Bool)(fd:aN->aN->Option Bool)(x y:V):Option Bool:=match x with
 |.none=>CW y (some true)
 |.bool a=>CV y λb=>some (a==b)
 |.int a=>fQ y λb=>some (a==b)
 |.str a=>T8 y λb=>some (a==b)
 |.bZ l=>oT y (fl l)
 |.a9 l=>AP y (fl l)
 |.bC l=>Hb y (fd l)
 |.ref _=>none
noncomputable def iS:Nat->V->V->Option Bool
 |0=>Xv (λZ Z=>none) λZ Z=>none
 |n+1=>Xv (sC (iS n)) λl m=>if l.length=m.length then tC (iS n) l m else some false
noncomputable def sD(up:Bool)(f g:V->V->Option Bool):List V->List V->Option Bool
 |[],m=>some (bif m.isEmpty then false else up)
 |x::xs,m=>match m with
  |[]=>some (!up)
  |y::ys=>oS (f x y) λb=>if b=true then sD up f g xs ys else g x y
def Yd(up:Bool)(a:Int)(y:V):Option Bool:=fQ y λb=>some (if up then decide (a<b)else decide (b<a))
noncomputable def s6(up:Bool):Nat->V->V->Option Bool
 |0,x,y=>fQ x λa=>Yd up a y
 |n+1,x,y=>S4 x (λa=>Yd up a y) λl=>oT y λm=>sD up (iS n) (s6 up n) l m
noncomputable def dN:List V->Option (List Int)
 |[]=>some []
 |x::r=>fQ x λi=>oS (dN r) λk=>some (i::k)
noncomputable def fA(l:aN)(k:List Int)(v:V):aN:=match l with
 |[]=>[(k,v)]
 |(k',v')::r=>if k'=k then(k',v)::r else(k',v')::fA r k v
noncomputable def jA(l:aN)(k:List Int):aN:=match l with
 |[]=>[]
 |(k',v')::r=>if k'=k then r else(k',v')::jA r k
noncomputable def ox:List V->Option (aM)
 |[]=>some []
 |x::r=>oT x λks=>oS (dN ks) λk=>oS (ox r) λm=>some (k::m)
def S5(x:V)(l:List V):Option Bool:=S4 x (λi=>oS (dN l) λk=>some (k.contains i)) λks=>oS (dN ks) λk=>oS (ox l) λm=>some (m.contains k)
def Xw(J:St)(x y:V):Option Bool:=tB (b6 J y) (S5 x) (S5 x) λl=>oT x λks=>oS (dN ks) λk=>some (dp l k).isSome
noncomputable def Hc:V->Bool
 |.none=>true
 |_=>false
def EK(o:Option Bool):Option Bool:=oS o λb=>some (!b)
def iG(J:St)(o:GP)(x y:V):Option Bool:=match o with
 |.eq=>iS 5 x y
 |.ne=>match x with
  |.int a=>fQ y λb=>some (!(a==b))
  |.bool a=>CV y λb=>some (!(a==b))
  |.bZ a=>oT y λb=>EK (iS 5 (.bZ a) (.bZ b))
  |_=>none
 |.lt=>s6 true 5 x y
 |.gt=>s6 false 5 x y
 |.ge=>fQ x λa=>fQ y λb=>some (decide (b<=a))
 |.GQ=>CW y (some (Hc x))
 |.EJ=>CW y (some (!Hc x))
 |.CT=>Xw J x y
 |.n7=>tB (b6 J y) (λl=>EK (S5 x l)) (λZ=>none) λZ=>none
def iT(J:St)(x i:V):Option V:=tB (b6 J x) (λl=>fQ i λi=>if AO i then l[i.toNat]? else none) (λl=>fQ i λi=>if AO i then l[i.toNat]? else none) λl=>oT i λks=>oS (dN ks) (dp l)
def T9{α:Type}(l:List α)(lo hi:Option V):Option (List α):=match lo with
 |none=>match hi with
  |none=>none
  |some b=>fQ b λb=>if 0<=b then some (l.take b.toNat)else none
 |some a=>match hi with
  |none=>fQ a λa=>if 0<=a then some (l.drop a.toNat)else none
  |some _=>none
def kz(J:St)(x:V)(lo hi:Option V):Option V:=tB (b6 J x) (λl=>if l.length<=100000 then(T9 l lo hi).map .a9 else none) (λl=>if l.length<=100000 then(T9 l lo hi).map .bZ else none) λZ=>none
noncomputable def xe:List V->Option Int
 |[]=>some 0
 |x::r=>fQ x λi=>oS (xe r) λs=>some (i+s)
noncomputable def qw:List V->Option (List Bool)
 |[]=>some []
 |x::r=>CV x λb=>oS (qw r) λs=>some (b::s)
noncomputable def iU(l:aN):List V:=l.map λx=>.bZ (x.1.map .int)
noncomputable def AQ{α:Type}(cmp:Nat->Nat->Option Bool):KasT α->Option α
 |.ret a=>some a
 |.ask i j k=>oS (cmp i j) λb=>AQ cmp (k b)
noncomputable def LZ(x:V):Bool:=match x with
 |.int _=>true
 |_=>false
noncomputable def isT(x:V):Bool:=match x with
 |.bZ _=>true
 |_=>false
noncomputable def head(K:V->Bool)(x:V):Bool:=match x with
 |.bZ l=>(match l with
  |[]=>false
  |y::_=>K y)
 |_=>false
def Ye(l:List V):Bool:=l.all (head LZ)
def T_(l:List V):Bool:=l.all (head isT)
def iV(l:List V):Option V:=
 if l.length<2 then some (.a9 l)
 else if l.length<64/\(Ye l||T_ l)=true then
  oS (AQ (λi j=>s6 true 5 (l.getD i .none) (l.getD j .none)) (kas_sort l.length)) λp=>some (.a9 (p.toList.map λi=>l.getD i .none))
 else none
def xf(J:St)(x:V):Option V:=tB (b6 J x) (λl=>if l.length<=100000 then some (.int l.length)else none) (λl=>if l.length<=100000 then some (.int l.length)else none) λl=>if l.length<=100000 then some (.int l.length)else none
def tD{α:Type}(J:St)(x:V)(f:List V->Option α):Option α:=tB (b6 J x) f (λZ=>none) λZ=>none
def Ua(J:St)(x:V):Option V:=tB (b6 J x) (λl=>(xe l).map .int) (λl=>(xe l).map .int) λZ=>none
def Ub(J:St)(x:V):Option V:=tB (b6 J x) (λl=>some (.a9 l)) (λZ=>none) λl=>some (.a9 (iU l))
def yL(J:St)(x:V):Option V:=tB (b6 J x) (λZ=>none) (λZ=>none) λl=>if(l.map λx=>Hk x.1).Nodup then some (.bC l)else none
def vp(J:St)(b:Bi)(l:List V):Option V:=match b with
 |.len=>l1 l (xf J)
 |.sum=>l1 l (Ua J)
 |.max=>l2 l λx y=>fQ x λa=>fQ y λb=>some (.int (if b>a then b else a))
 |.min=>l2 l λx y=>fQ x λa=>fQ y λb=>some (.int (if b<a then b else a))
 |.abs=>l1 l λx=>fQ x λa=>some (.int (if a<0 then -a else a))
 |.any=>l1 l λx=>tD J x λl=>(qw l).map λbs=>.bool (bs.any id)
 |.all=>l1 l λx=>tD J x λl=>(qw l).map λbs=>.bool (bs.all id)
 |.tuple=>l1 l λx=>tD J x λl=>some (.bZ l)
 |.dict=>l1 l (yL J)
 |.list=>l1 l (Ub J)
 |.sorted=>l1 l λx=>tD J x iV
noncomputable def Uc:Me->Bool
 |.append=>true
 |.extend=>true
 |.pop=>true
 |.rB=>true
 |.sort=>true
 |_=>false
def rE(m:Me):V->Bool
 |.a9 _=>Uc m
 |.bC _=> !Uc m
 |_=>false
def Hd(J:St)(m:Me):V->Bool
 |.ref a=>(match aY J a with
  |some (_,c)=>rE m c
  |none=>false)
 |_=>false
def mu(J:St)(m:Me)(c:V)(ys:List V):Option (V×V):=match m with
 |.append=>AP c λl=>l1 ys λx=>some (.a9 (l++[x]),.none)
 |.extend=>AP c λl=>l1 ys λy=>tD J y λm=>some (.a9 (l++m),.none)
 |.pop=>AP c λl=>l0 ys (oS l.getLast? λx=>some (.a9 l.dropLast,x))
 |.rB=>AP c λl=>l1 ys λy=>fQ y λi=>if i=0 then lC l λx r=>some (.a9 r,x)else none
 |.rC=>Hb c λl=>l1 ys λy=>oT y λks=>oS (dN ks) λk=>oS (dp l k) λv=>some (.bC (jA l k),v)
 |.rD=>Hb c λl=>l2 ys λy d=>oT y λks=>oS (dN ks) λk=>some (.bC (jA l k),(dp l k).getD d)
 |.yH=>Hb c λl=>l2 ys λy d=>oT y λks=>oS (dN ks) λk=>some (.bC l,(dp l k).getD d)
 |.sort=>AP c λl=>l0 ys (oS (iV l) λs=>some (s,.none))
def nU(c i x:V):Option V:=match c with
 |.a9 l=>fQ i λi=>if AO i&&Nat.blt i.toNat l.length then some (.a9 (l.set i.toNat x))else none
 |.bC l=>oT i λks=>oS (dN ks) λk=>some (.bC (fA l k x))
 |_=>none
noncomputable def fB:Nat->List V->List V
 |_,[]=>[]
 |n,x::r=>.bZ [.int n,x]::fB (n+1) r
noncomputable def fj(n:Nat):List V:=(List.range n).map λ(i:Nat)=>.int (i:Int)
def ey:V->Prop
 |.a9 l=>l.length<=100000
 |.bC l=>l.length<=100000
 |.bZ l=>l.length<=100000
 |_=>True
def gG(own:Bool)(z:V)(J:St)(Q:V->St->Prop):Prop:=
 if own then∀(a:Addr) (o:Obj),aY J a=none->Q (.ref a) ((a,o,z)::J)else Q z J
def gI(own:Bool)(z:V)(J:St)(Q:V->St->Prop):Prop:=match z with
 |.a9 _=>gG own z J Q
 |.bC _=>gG own z J Q
 |_=>Q z J
def e_(J:St)(x:V)(σ':St):Prop:=match x with
 |.ref a=>aY σ' a=aY J a
 |_=>True
def n9(Y:du)(t:Tg)(x:V):Option du:=match t with
 |.one i=>some (Y.set i (some x))
 |.two i j=>oT x λl=>l2 l λx y=>some ((Y.set i (some x)).set j (some y))
noncomputable def fb(Y:du):List Nat->List V->Option du
 |[],l=>l0 l (some Y)
 |i::r,l=>lC l λx s=>fb (Y.set i (some x)) r s
noncomputable def tE:Tg->List Nat
 |.one i=>[i]
 |.two i j=>[i,j]
noncomputable def hZ:List G->List Nat
 |[]=>[]
 |⟨t,_,_⟩::r=>tE t++hZ r
noncomputable def xg:Option (Option V)->Bool
 |some none=>true
 |_=>false
def iH(gs:List G)(Y:du):Bool:=(hZ gs).all λi=>xg Y[i]?
noncomputable def iter{α:Type}(body:V->St->α->(St->α->Prop)->Prop):List V->St->α->(St->α->Prop)->Prop
 |[],J,a,K=>K J a
 |x::xs,J,a,K=>body x J a λJ a=>iter body xs J a K
noncomputable def eg(body:V->du->St->(Fl->du->St->Prop)->Prop):List V->du->St->(Fl->du->St->Prop)->Prop
 |[],Y,J,Q=>Q .next Y J
 |x::xs,Y,J,Q=>body x Y J λf Y J=>match f with
  |.next=>eg body xs Y J Q
  |.cont=>eg body xs Y J Q
  |.brk=>Q .next Y J
  |.ret v=>Q (.ret v) Y J
noncomputable def iI(test:du->St->(Bool->St->Prop)->Prop)(body:du->St->(Fl->du->St->Prop)->Prop):Nat->du->St->(Fl->du->St->Prop)->Prop
 |0,_,_,_=>False
 |n+1,Y,J,Q=>test Y J λb J=>if b then body Y J λf Y J=>match f with
   |.next=>iI test body n Y J Q
   |.cont=>iI test body n Y J Q
   |.brk=>Q .next Y J
   |.ret v=>Q (.ret v) Y J
  else Q .next Y J
structure Wd where
 call:Nat->Str->List V->St->(V->St->Prop)->Prop
 He:Str->Option V
structure SG where
 t:Tg
 src:du->St->(V->List V->St->Prop)->Prop
 ifs:du->St->(Bool->St->Prop)->Prop
noncomputable def mv{α:Type}:List SG->(du->St->α->(St->α->Prop)->Prop)->du->St->α->(St->α->Prop)->Prop
 |[],dI,Y,J,a,K=>dI Y J a K
 |g::gs,dI,Y,J,a,K=>g.src Y J λx aq σ₀=>iter (λy J a K=>match n9 Y g.t y with
   |some dT=>g.ifs dT J λok J=>if ok then mv gs dI dT J a λJ a=>e_ σ₀ x J/\K J a else e_ σ₀ x J/\K J a
   |none=>False) aq σ₀ a K
section
variable(W:Wd)(k:Nat)
mutual
noncomputable def wE:E->du->St->(V->St->Prop)->Prop
 |.aE i,Y,J,Q=>match Y[i]? with
  |some (some x)=>Q x J
  |_=>False
 |.ck v,_,J,Q=>Q v J
 |.yI n,_,J,Q=>match W.He n with
  |some x=>Q x J
  |none=>False
 |.bin o a b,Y,J,Q=>wE a Y J λx J=>wE b Y J λy J=>match ig o x y with
  |some z=>Q z J
  |none=>False
 |.cat own a b,Y,J,Q=>wE a Y J λx J=>wE b Y J λy J=>match b6 J x,b6 J y with
  |some (.a9 l),some (.a9 m)=>l.length+m.length<=100000/\gG own (.a9 (l++m)) J Q
  |_,_=>False
 |.neg a,Y,J,Q=>wE a Y J λx J=>match x with
  |.int i=>Q (.int (-i)) J
  |_=>False
 |.not a,Y,J,Q=>wE a Y J λx J=>match x with
  |.bool b=>Q (.bool (!b)) J
  |_=>False
 |.and a b,Y,J,Q=>wE a Y J λx J=>match x with
  |.bool true=>wE b Y J λy J=>match y with
   |.bool c=>Q (.bool c) J
   |_=>False
  |.bool false=>Q (.bool false) J
  |_=>False
 |.or a b,Y,J,Q=>wE a Y J λx J=>match x with
  |.bool false=>wE b Y J λy J=>match y with
   |.bool c=>Q (.bool c) J
   |_=>False
  |.bool true=>Q (.bool true) J
  |_=>False
 |.cmp o a b,Y,J,Q=>wE a Y J λx J=>wE b Y J λy J=>match iG J o x y with
  |some z=>Q (.bool z) J
  |none=>False
 |.ite c a b,Y,J,Q=>wE c Y J λx J=>match x with
  |.bool true=>wE a Y J Q
  |.bool false=>wE b Y J Q
  |_=>False
 |.bZ l,Y,J,Q=>vq l Y J λxs J=>xs.length<=100000/\Q (.bZ xs) J
 |.a9 own l,Y,J,Q=>vq l Y J λxs J=>xs.length<=100000/\gG own (.a9 xs) J Q
 |.ou own,_,J,Q=>gG own (.bC []) J Q
 |.qu own a b,Y,J,Q=>wE a Y J λx J=>wE b Y J λy J=>match x with
  |.bZ ks=>match dN ks with
   |some k=>gG own (.bC [(k,y)]) J Q
   |none=>False
  |_=>False
 |.lc own e gs,Y,J,Q=>iH gs Y=true/\mv (α:=List V) (mw gs) (λY J cB K=>wE e Y J λv J=>cB.length<=100000/\K J (cB++[v])) Y J [] λJ cB=>gG own (.a9 cB) J Q
 |.dc own a b gs,Y,J,Q=>iH gs Y=true/\mv (α:=aN) (mw gs) (λY J cB K=>wE a Y J λx J=>wE b Y J λy J=>match x with
   |.bZ ks=>match dN ks with
    |some k=>cB.length<=100000/\K J (fA cB k y)
    |none=>False
   |_=>False) Y J [] λJ cB=>gG own (.bC cB) J Q
 |.sub a i,Y,J,Q=>wE a Y J λx J=>wE i Y J λy J=>match iT J x y with
  |some z=>Q z J
  |none=>False
 |.qs own a lo hi,Y,J,Q=>wE a Y J λx J=>wO lo Y J λl J=>wO hi Y J λu J=>match kz J x l u with
  |some z=>ey z/\gI own z J Q
  |none=>False
 |.rev a,Y,J,Q=>wE a Y J λx J=>match x with
  |.bZ l=>l.length<=100000/\Q (.bZ l.reverse) J
  |_=>False
 |.call f l,Y,J,Q=>vq l Y J λxs J=>W.call k f xs J Q
 |.bi b own l,Y,J,Q=>vq l Y J λxs J=>match vp J b xs with
  |some z=>ey z/\gI own z J Q
  |none=>False
 |.met m o l,Y,J,Q=>wE o Y J λx J=>Hd J m x=true/\vq l Y J λys J=>match x with
  |.ref a=>match aY J a with
   |some (_,c)=>match mu J m c ys with
    |some (c',r)=>ey c/\ey c'/\∀o',Q r (gN J a o' c')
    |none=>False
   |none=>False
  |_=>False
 |.CU a,Y,J,Q=>wE a Y J λx J=>match x with
  |.ref d=>match aY J d with
   |some (_,z)=>Q z (del J d)
   |none=>False
  |x=>Q x J
noncomputable def vq:List E->du->St->(List V->St->Prop)->Prop
 |[],_,J,Q=>Q [] J
 |e::r,Y,J,Q=>wE e Y J λx J=>vq r Y J λxs J=>Q (x::xs) J
noncomputable def wO:Option E->du->St->(Option V->St->Prop)->Prop
 |none,_,J,Q=>Q none J
 |some e,Y,J,Q=>wE e Y J λx J=>Q (some x) J
noncomputable def Qe:yy->du->St->(V->List V->St->Prop)->Prop
 |.val e,Y,J,Q=>wE e Y J λx J=>match b6 J x with
  |some (.a9 l)=>Q x l J
  |some (.bZ l)=>Q x l J
  |some (.bC l)=>Q x (iU l) J
  |_=>False
 |.enum e,Y,J,Q=>wE e Y J λx J=>match b6 J x with
  |some (.a9 l)=>Q x (fB 0 l) J
  |some (.bZ l)=>Q x (fB 0 l) J
  |_=>False
 |.range e,Y,J,Q=>wE e Y J λx J=>match x with
  |.int n=>(0<=n/\n<=100000)/\Q (.int n) (fj n.toNat) J
  |_=>False
noncomputable def EL:List E->du->St->(Bool->St->Prop)->Prop
 |[],_,J,Q=>Q true J
 |c::r,Y,J,Q=>wE c Y J λx J=>match x with
  |.bool true=>EL r Y J Q
  |.bool false=>Q false J
  |_=>False
noncomputable def mw:List G->List SG
 |[]=>[]
 |⟨t,s,cs⟩::gs=>⟨t,Qe s,EL cs⟩::mw gs
end
abbrev Yf{α:Type}(gs:List G)(dI:du->St->α->(St->α->Prop)->Prop)(Y:du)(J:St)(a:α)(K:St->α->Prop):Prop:=mv (mw W k gs) dI Y J a K
def dW(c:E)(Y:du)(J:St)(Q:Bool->St->Prop):Prop:=wE W k c Y J λx J=>match x with
 |.bool b=>Q b J
 |_=>False
mutual
noncomputable def wS:dJ6->du->St->(Fl->du->St->Prop)->Prop
 |.asg i e,Y,J,Q=>wE W k e Y J λx J=>Q .next (Y.set i (some x)) J
 |.iF is e,Y,J,Q=>wE W k e Y J λx J=>match x with
  |.bZ xs=>match fb Y is xs with
   |some dT=>Q .next dT J
   |none=>False
  |_=>False
 |.put a i e,Y,J,Q=>wE W k e Y J λv J=>wE W k a Y J λx J=>wE W k i Y J λy J=>match x with
  |.ref d=>match aY J d with
   |some (_,c)=>match nU c y v with
    |some c'=>ey c/\∀o',Q .next Y (gN J d o' c')
    |none=>False
   |none=>False
  |_=>False
 |.aug i e,Y,J,Q=>match Y[i]? with
  |some (some (.int a))=>wE W k e Y J λy J=>match y with
   |.int b=>Q .next (Y.set i (some (.int (a+b)))) J
   |_=>False
  |_=>False
 |.ex e,Y,J,Q=>wE W k e Y J λZ J=>Q .next Y J
 |.ret e,Y,J,Q=>wE W k e Y J λx J=>Q (.ret x) Y J
 |.ifs c t f,Y,J,Q=>dW W k c Y J λb J=>if b then fN t Y J Q else fN f Y J Q
 |.OK c b,Y,J,Q=>∃n,iI (dW W k c) (fN b) n Y J Q
 |.fr t s b,Y,J,Q=>Qe W k s Y J λx aq σ₀=>eg (λy Y J Q=>match n9 Y t y with
   |some dT=>fN b dT J λf Y J=>(match f with|.next=>e_ σ₀ x J|.cont=>e_ σ₀ x J|_=>True)/\Q f Y J
   |none=>False) aq Y σ₀ Q
 |.cont,Y,J,Q=>Q .cont Y J
 |.bad,_,_,_=>False
 |.yJ i,Y,J,Q=>match Y[i]? with
  |some (some (.ref d))=>match aY J d with
   |some (_,z)=>Q .next (Y.set i (some z)) (del J d)
   |none=>False
  |_=>False
 |.free i,Y,J,Q=>match Y[i]? with
  |some (some (.ref d))=>Q .next Y (del J d)
  |_=>False
noncomputable def fN:List dJ6->du->St->(Fl->du->St->Prop)->Prop
 |[],Y,J,Q=>Q .next Y J
 |s::r,Y,J,Q=>wS s Y J λf Y J=>match f with
  |.next=>fN r Y J Q
  |f=>Q f Y J
end
end
end
def nV(J:St)(b:Addr):Prop:=(aY J b).isSome=true
abbrev vU(h:Heap)(J:St)(h':Heap)(σ':St):Prop:=ft h h' (nV J) (nV σ')
theorem vU.own{h h':Heap}{J σ':St}(k:vU h J h' σ')(fr:Addr->Prop):ft h h' (cf J fr) (cf σ' fr)where
 old b o n e:=k.old b o (λx=>n (.inl x)) e
 new b u:=u.elim (λx=>(k.new b x).imp .inl id) λf=>.inl (.inr f)
structure Pe(X:Heap)(fr:Addr->Prop)(s:Shared)(J:St)(s':Shared)(σ':St):Prop where
 same:∃h' tk,s'={s with heap:=h',toks:=tk}
 keep:vU s.heap J s'.heap σ'
 inv:dR X fr s'.heap σ'
section
variable{X:Heap}{fr:Addr->Prop}{s s' L0:Shared}{J σ' fm:St}
theorem Pe.refl(I:dR X fr s.heap J):Pe X fr s J s J:=⟨⟨s.heap,s.toks,rfl⟩,ft.refl _ _,I⟩
theorem Pe.trans(p:Pe X fr s J s' σ')(q:Pe X fr s' σ' L0 fm):Pe X fr s J L0 fm:=by
 obtain⟨h',tk,rfl⟩:=p.same
 obtain⟨LY,GR,rfl⟩:=q.same
 exact⟨⟨LY,GR,rfl⟩,p.keep.trans q.keep,q.inv⟩
theorem Pe.rep(p:Pe X fr s J s' σ'){v:Value}{x:V}(r:a_ s.heap (cf J fr) v x):a_ s'.heap (cf σ' fr) v x:=r.keep (p.keep.own fr)
theorem Pe.Ud(p:Pe X fr s J s' σ'){v:List Value}{x:List V}(r:cw s.heap (cf J fr) v x):cw s'.heap (cf σ' fr) v x:=r.keep (p.keep.own fr)
theorem Pe.gT(I:dR X fr s.heap J){h':Heap}{tk:Nat}(k:∀b o,s.heap.get? b=some o->h'.get? b=some o):Pe X fr s J {s with heap:=h',toks:=tk} J:=
 ⟨⟨_,_,rfl⟩,⟨λb o Z e=>k b o e,λZ u=>.inl u⟩,I.G' k⟩
theorem Pe.toks(p:Pe X fr s J s' σ')(tk:Nat):Pe X fr s J {s' with toks:=tk} σ':=by
 obtain⟨h',GR,rfl⟩:=p.same
 exact⟨⟨_,_,rfl⟩,p.keep,p.inv⟩
theorem dR.Hf{h:Heap}(I:dR X fr h J)(b:Addr)(u:cf J fr b):∃o,h.get? b=some o:=u.elim (λx=>by
 obtain⟨⟨o,y⟩,e⟩:=bA.mp x
 exact⟨o,(I.own b o y e).1⟩) (I.live b)
theorem dR.AR{h:Heap}(I:dR X fr h J){b:Addr}(e:h.get? b=none):¬cf J fr b:=λu=>by
 obtain⟨o,q⟩:=I.Hf b u
 rw[e]at q;cases q
theorem dR.xh{h:Heap}(I:dR X fr h J){a:Addr}(e:(aY J a).isSome=true):(a==sysModules)=false:=by
 obtain⟨o,q⟩:=I.sys
 refine bX.mpr λea=>?_
 have:=I.low a (.inl e)
 rw[ea,q]at this;cases this
theorem gA(h:Heap){a:Addr}(ha:h.objs.size<=a):h.get? a=none:=by
 cases e:h.get? a with
 |none=>rfl
 |some o'=>exact aG (bq e) (Nat.not_lt.mpr ha)
section
variable{h h':Heap}{kg:Addr->Prop}{D:Addr}{o:Obj}{z:V}
theorem dR.Yg(I:dR X fr h J){b:Addr}(e:h.get? b=none):X.get? b=none:=by
 cases q:X.get? b with
 |none=>rfl
 |some o=>exact nn (e.symm.trans (I.base b o q))
theorem dR.Qg(I:dR X fr h J){a:Addr}(e:X.get? a=none):(a==sysModules)=false:=
 bX.mpr λq=>I.sys.elim λo s=>nn ((q▸e:X.get? sysModules=none).symm.trans s)
theorem nV.el{q:Obj×V}{a b:Addr}{P:Prop}(u:nV ((a,q)::J) b)(h1:b=a->P)(h2:nV J b->P):P:=
 (bA.mp u).elim λp e=>yF e (λn Z=>h1 n) λe=>h2 (bA.mpr ⟨p,e⟩)
theorem dR.narrow{h:Heap}(I:dR X kg h J)(hf:∀b,fr b->kg b):dR X fr h J where
 own a o x e:=⟨(I.own a o x e).1,(I.own a o x e).2.keep ⟨λZ Z Z e=>e,λb u=>.inl (u.imp id (hf b))⟩⟩
 off a e f:=I.off a e (hf a f)
 base:=I.base
 low b u:=I.low b (u.imp id (hf b))
 live b f:=I.live b (hf b f)
 sys:=I.sys
theorem dR.widen{h h':Heap}(I:dR X fr h J)(k:∀b o,h.get? b=some o->h'.get? b=some o)(hw:∀b,kg b->fr b\/(h.get? b=none/\∃o,h'.get? b=some o)):dR X kg h' J where
 own a o x e:=⟨k _ _ (I.own a o x e).1,(I.own a o x e).2.keep ⟨λb o Z e=>k b o e,λb u=>u.elim (λu=>.inl (.inl u)) λu=>(hw b u).imp .inr And.left⟩⟩
 off a e f:=(hw a f).elim (I.off a e) λu=>I.AR u.1 (.inl e)
 base b o e:=k _ _ (I.base b o e)
 low b u:=u.elim (λu=>I.low b (.inl u)) λu=>(hw b u).elim (λu=>I.low b (.inr u)) λu=>I.Yg u.1
 live b f:=(hw b f).elim (λu=>(I.live b u).imp λo e=>k _ _ e) And.right
 sys:=I.sys
theorem fH.less{h:Heap}{U U':Addr->Prop}{o:Obj}{x:V}(hu:∀b,U' b->U b)(r:fH h U o x):fH h U' o x:=r.keep ⟨λZ Z Z e=>e,λb u=>.inl (hu b u)⟩
theorem dR.give(I:dR X kg h J)(hf:∀b,fr b\/b=D->kg b)(nf:¬fr D)(ho:h.get? D=some o)(r:fH h (cf J kg) o z):dR X fr h ((D,o,z)::J):=by
 have hfo:∀b,cf ((D,o,z)::J) fr b->cf J kg b:=λb u=>u.elim (λu=>nV.el u (λq=>.inr (hf b (.inr q))) .inl) λf=>.inr (hf b (.inl f))
 have K:ft h h (cf J kg) (cf ((D,o,z)::J) fr):=⟨λZ Z Z e=>e,λb u=>.inl (hfo b u)⟩
 exact⟨λc o' x e=>yF e (λq e=>by cases e;exact⟨q▸ho,r.keep K⟩) λe=>⟨(I.own c o' x e).1,(I.own c o' x e).2.keep K⟩,λc e f=>nV.el e (λq=>nf (q▸f)) λe=>I.off c e (hf c (.inl f)),
  I.base,λb u=>I.low b (hfo b u),λb f=>I.live b (hf b (.inl f)),I.sys⟩
theorem xi{own:Bool}{Q:V->St->Prop}(I:dR X kg h J)(hf:∀b,fr b\/b=D->kg b)(nf:¬fr D)(ho:h.get? D=some o)(r:fH h (cf J kg) o z)(q:gG own z J Q):
  ∃x σ',(∀b,nV σ' b->nV J b\/b=D)/\dR X fr h σ'/\a_ h (cf σ' fr) (.ref D) x/\Q x σ':=by
 have n:¬nV J D:=λu=>I.off D u (hf D (.inr rfl))
 cases own with
 |true=>exact⟨.ref D,_,λb u=>nV.el u .inr .inl,I.give hf nf ho r,.ref D,q D o (Option.not_isSome_iff_eq_none.mp n)⟩
 |false=>exact⟨z,J,λb u=>.inl u,I.narrow λb f=>hf b (.inl f),(r.less λb u=>u.imp id λf=>hf b (.inl f)).out (λu=>u.elim n nf) (I.Qg (I.low D (.inr (hf D (.inr rfl))))) ho,q⟩
end
theorem Pe.turn(I:dR X fr s.heap J){a:Addr}{o o':Obj}{x x':V}{h':Heap}{tk:Nat}(e:aY J a=some (o,x))(hs:∀b,b≠a->∀q,s.heap.get? b=some q->h'.get? b=some q)
  (hg:h'.get? a=some o') (r:fH s.heap (cf J fr) o' x'):Pe X fr s J {s with heap:=h',toks:=tk} (gN J a o' x'):=by
 have mx:(aY J a).isSome=true:=by rw[e];rfl
 have Yh:∀b,(aY (gN J a o' x') b).isSome=(aY J b).isSome:=λb=>by
  by_cases hb:b=a
  ·subst hb;rw[kc mx,mx];rfl
  ·rw[fJ hb]
 have k:vU s.heap J h' (gN J a o' x'):=⟨λb q n eq=>hs b (λhb=>n (hb▸mx)) q eq,λb u=>.inl (by unfold nV at u⊢;rwa[Yh]at u)⟩
 refine⟨⟨_,_,rfl⟩,k,⟨λb p y eb=>?_,λb eb=>I.off b (by rwa[Yh]at eb),λb q eq=>?_,λb u=>I.low b (by unfold cf at u⊢;rwa[Yh]at u),λb f=>?_,I.sys⟩⟩
 ·by_cases hb:b=a
  ·subst hb
   rw[kc mx]at eb
   cases eb
   exact⟨hg,r.keep (k.own fr)⟩
  ·rw[fJ hb]at eb
   exact⟨hs b hb _ (I.own b p y eb).1,(I.own b p y eb).2.keep (k.own fr)⟩
 ·exact hs b (λhb=>by have:=I.low a (.inl mx);rw[hb]at eq;rw[this]at eq;cases eq) q (I.base b q eq)
 ·obtain⟨q,hq⟩:=I.live b f
  exact⟨q,hs b (λhb=>I.off a mx (hb▸f)) q hq⟩
theorem dR.sub(I:dR X fr s.heap J)(hs:∀b p,aY σ' b=some p->aY J b=some p):dR X fr s.heap σ':=by
 have ow:∀b,cf σ' fr b->cf J fr b:=λb u=>u.imp (λx=>by
  obtain⟨p,e⟩:=bA.mp x
  rw[hs b p e];rfl) id
 refine⟨λa o x e=>⟨(I.own a o x (hs a _ e)).1,(I.own a o x (hs a _ e)).2.keep ⟨λZ Z Z e=>e,λb u=>.inl (ow b u)⟩⟩,λa e=>I.off a ?_,I.base,λb u=>I.low b (ow b u),I.live,I.sys⟩
 obtain⟨p,q⟩:=bA.mp e
 rw[hs a p q];rfl
theorem Pe.sub(p:Pe X fr s J s' σ')(hs:∀b q,aY fm b=some q->aY σ' b=some q):Pe X fr s J s' fm:=
 ⟨p.same,⟨p.keep.old,λb u=>p.keep.new b (by
  obtain⟨q,e⟩:=bA.mp u
  unfold nV;rw[hs b q e];rfl)⟩,p.inv.sub hs⟩
end
structure h_(k:Nat)(A:Around):Prop where
 hh:A.handled=none
 dep:A.depth+k<=600
 uni:A.units+10*k<=9000
theorem h_.room{k:Nat}{A:Around}(a:h_ k A):A.units+500<cLine:=aB (cn (ae (aS _ _) a.uni) 500) (by decide)
theorem h_.Hg{k:Nat}{A:Around}(a:h_ k A):A.units<cLine:=aB (aS _ _) a.room
theorem h_.rm{k:Nat}{A:Around}(a:h_ k A){m:Nat}(h:m<=500):A.units+m<cLine:=aB (aF h _) a.room
structure EnvOk(fr:Addr->Prop)(O:Env)(sc:List (Str×NameKind)):Prop where
 names:O.scope.names=sc
 kind:O.scope.kind=.function
 glob:O.globals=mainGlobals
 blt:O.builtins=builtinsNs
 loc:fr O.locals
 L1:∀n c,O.cells.lookup n=some c->fr c
 has:∀n,sc.lookup n=some .cell\/sc.lookup n=some .free->∃c,O.cells.lookup n=some c
theorem EnvOk.kindOf{fr:Addr->Prop}{O:Env}{sc:List (Str×NameKind)}(h:EnvOk fr O sc)(n:Str):O.kindOf n=sc.lookup n:=by
 unfold Env.kindOf;rw[h.names]
structure cU(h:Heap)(U:Addr->Prop)(O:Env)(nm:List Str)(Y:du):Prop where
 ns:∃m,h.Ns O.locals m/\∀(i:Nat) (x:V) (n:Str),Y[i]?=some (some x)->nm[i]?=some n->O.kindOf n=some .local->∃v,m n=some v/\a_ h U v x
 cell:∀(i:Nat) (x:V) (n:Str),Y[i]?=some (some x)->nm[i]?=some n->O.kindOf n=some .cell\/O.kindOf n=some .free->
  ∃c v,O.cells.lookup n=some c/\h.IsCell c (some v)/\a_ h U v x
 cells:∀n c,O.cells.lookup n=some c->∃v,h.IsCell c v
section
variable{X:Heap}{fr:Addr->Prop}{s s':Shared}{J σ':St}{O:Env}{sc:List (Str×NameKind)}{nm:List Str}{Y:du}
theorem cU.pe(L:cU s.heap (cf J fr) O nm Y)(EO:EnvOk fr O sc)(I:dR X fr s.heap J)(p:Pe X fr s J s' σ'):cU s'.heap (cf σ' fr) O nm Y:=by
 have st:∀b o,fr b->s.heap.get? b=some o->s'.heap.get? b=some o:=λb o f e=>p.keep.old b o (λx=>I.off b x f) e
 obtain⟨m,hn,hv⟩:=L.ns
 refine⟨⟨m,?_,λi x n a b c=>?_⟩,λi x n a b c=>?_,λn c e=>?_⟩
 ·obtain⟨o,es,ep,ho,r⟩:=hn
  exact⟨o,es,ep,st _ _ EO.loc ho,r⟩
 ·obtain⟨v,e,r⟩:=hv i x n a b c
  exact⟨v,e,p.rep r⟩
 ·obtain⟨q,v,e,⟨o,ho,hd⟩,r⟩:=L.cell i x n a b c
  exact⟨q,v,e,⟨o,st _ _ (EO.L1 n q e) ho,hd⟩,p.rep r⟩
 ·obtain⟨v,o,ho,hd⟩:=L.cells n c e
  exact⟨v,o,st _ _ (EO.L1 n c e) ho,hd⟩
end
def cO(X:Heap)(fr:Addr->Prop)(s:Shared)(J:St)(Q:V->St->Prop)(v:Value)(s':Shared):Prop:=
 ∃x σ',Pe X fr s J s' σ'/\a_ s'.heap (cf σ' fr) v x/\Q x σ'
def CY(X:Heap)(fr:Addr->Prop)(s:Shared)(J:St)(Q:List V->St->Prop)(v:List Value)(s':Shared):Prop:=
 ∃x σ',Pe X fr s J s' σ'/\cw s'.heap (cf σ' fr) v x/\Q x σ'
def oW(X:Heap)(fr:Addr->Prop)(s:Shared)(J:St)(Q:Bool->St->Prop)(b:Bool)(s':Shared):Prop:=
 ∃σ',Pe X fr s J s' σ'/\Q b σ'
theorem cO.pre{X:Heap}{fr:Addr->Prop}{s bV:Shared}{J a6:St}{Q:V->St->Prop}{v:Value}{s':Shared}(p:Pe X fr s J bV a6)(h:cO X fr bV a6 Q v s'):cO X fr s J Q v s':=
 h.imp λx h=>h.imp λσ' h=>⟨p.trans h.1,h.2⟩
theorem CY.pre{X:Heap}{fr:Addr->Prop}{s bV:Shared}{J a6:St}{Q:List V->St->Prop}{v:List Value}{s':Shared}(p:Pe X fr s J bV a6)(h:CY X fr bV a6 Q v s'):CY X fr s J Q v s':=
 h.imp λx h=>h.imp λσ' h=>⟨p.trans h.1,h.2⟩
theorem oW.pre{X:Heap}{fr:Addr->Prop}{s bV:Shared}{J a6:St}{Q:Bool->St->Prop}{v:Bool}{s':Shared}(p:Pe X fr s J bV a6)(h:oW X fr bV a6 Q v s'):oW X fr s J Q v s':=
 h.imp λσ' h=>⟨p.trans h.1,h.2⟩
end
section
open PySem PySem.W PyProof.Rows PySem.Calls
section
variable{h:Heap}{U:Addr->Prop}
theorem cw.length{xs:List V}:∀{vs:List Value},cw h U vs xs->vs.length=xs.length:=by
 induction xs with
 |nil=>exactλr=>r.dD rfl
 |cons x xs ih=>exactλr=>r.cN λv vs a r=>ao Nat.succ (ih r)
theorem cw.size{xs:List V}{aq:Array Value}(r:cw h U aq.toList xs):aq.size=xs.length:=aV.symm.trans r.length
theorem cw.get{xs:List V}:∀{vs:List Value},cw h U vs xs->∀{i:Nat} {x:V},xs[i]?=some x->∃v,vs[i]?=some v/\a_ h U v x:=by
 induction xs with
 |nil=>exactλr i x e=>nn e
 |cons y xs ih=>
  exactλ{Z} r {i x} e=>cw.cN (P:=λvs=>∃v,vs[i]?=some v/\a_ h U v x) r λv vs a r=>by
   cases i with
   |zero=>cases e;exact⟨v,rfl,a⟩
   |succ i=>exact ih r e
theorem cw.append{xs:List V}{ws:List Value}{ys:List V}(q:cw h U ws ys):∀{vs:List Value},cw h U vs xs->cw h U (vs++ws) (xs++ys):=by
 induction xs with
 |nil=>exactλr=>r.dD q
 |cons x xs ih=>exactλr=>r.cN λv vs a r=>.cons a (ih r)
theorem cw.reverse{xs:List V}:∀{vs:List Value},cw h U vs xs->cw h U vs.reverse xs.reverse:=by
 induction xs with
 |nil=>exactλr=>r.dD .nil
 |cons x xs ih=>exactλr=>r.cN λv vs a r=>by rw[List.reverse_cons,List.reverse_cons];exact(cw.cons a .nil).append (ih r)
theorem cw.take{xs:List V}:∀{vs:List Value},cw h U vs xs->∀n:Nat,cw h U (vs.take n) (xs.take n):=by
 induction xs with
 |nil=>exactλr n=>r.dD (by rw[List.take_nil,List.take_nil];exact .nil)
 |cons x xs ih=>
  exactλr n=>r.cN λv vs a r=>by
   cases n with
   |zero=>exact .nil
   |succ n=>exact .cons a (ih r n)
theorem cw.drop{xs:List V}:∀{vs:List Value},cw h U vs xs->∀n:Nat,cw h U (vs.drop n) (xs.drop n):=by
 induction xs with
 |nil=>exactλr n=>r.dD (by rw[List.drop_nil,List.drop_nil];exact .nil)
 |cons x xs ih=>
  exactλr n=>r.cN λv vs a r=>by
   cases n with
   |zero=>exact .cons a r
   |succ n=>exact ih r n
theorem cw.set{v:Value}{x:V}(q:a_ h U v x){xs:List V}:∀{vs:List Value},cw h U vs xs->∀n:Nat,cw h U (vs.set n v) (xs.set n x):=by
 induction xs with
 |nil=>exactλr n=>r.dD .nil
 |cons y xs ih=>
  exactλr n=>r.cN λv vs a r=>by
   cases n with
   |zero=>exact .cons q r
   |succ n=>exact .cons a (ih r n)
theorem cw.ofInts{vs:List Value}{k:List Int}(i:IntsAre vs k):cw h U vs (k.map .int):=by
 induction i with
 |nil=>exact .nil
 |cons n t _ ih=>exact .cons (.int n t) ih
theorem cw.ints{xs:List V}:∀{vs:List Value} {k:List Int},cw h U vs xs->dN xs=some k->IntsAre vs k:=by
 induction xs with
 |nil=>exactλr e=>r.dD (by cases e;exact .nil)
 |cons x xs ih=>
  exactλ{vs k} r e=>r.cN λv vs a r=>d_ (P:=λx=>a_ h U v x->IntsAre (v::vs) k) e (λi e a=>eM e λk' hk e=>by
   cases e
   exact a.f7 λt=>.cons _ _ (ih r hk)) a
theorem yM{vs:List Value}{k k':List Int}(i:IntsAre vs k)(i':IntsAre vs k'):k=k':=by
 induction i generalizing k' with
 |nil=>cases i';rfl
 |cons n t r ih=>cases i' with
  |cons _ _ r'=>rw[ih r']
theorem gY(k:List Int):dN (k.map .int)=some k:=by
 induction k with
 |nil=>rfl
 |cons i r ih=>show oS (dN (r.map .int)) (λk=>some (i::k))=_;rw[ih];rfl
theorem yN{xs:List V}:∀{k:List Int},dN xs=some k->xs=k.map .int:=by
 induction xs with
 |nil=>exactλe=>by cases e;rfl
 |cons x xs ih=>exactλ{k} e=>d_ (P:=λx=>x::xs=k.map .int) e λi e=>eM e λk' hk e=>by cases e;rw[ih hk];rfl
theorem Hh(S:Program)(w:World){vs:List Value}{k:List Int}(i:IntsAre vs k):ItemsAre (intKind S w) k vs:=by
 induction i with
 |nil=>exact .nil
 |cons n t _ ih=>exact .cons (by show Value.isInt n (.int n t)=true;exact cv n) ih
theorem n_(S:Program)(w:World){a:Addr}{aq:Array Value}{n:Nat}{k:List Int}(e:IsT h a aq n)(i:IntsAre aq.toList k):IsTupleKey (intKind S w) h k a:=
 ⟨_,aq,n,e,rfl,rfl,Hh S w i⟩
theorem et.keys{l:aN}:∀{xs:List (List Int×Addr×Value)},et h U xs l->xs.map (·.1)=l.map (·.1):=by
 induction l with
 |nil=>exactλr=>r.dD rfl
 |cons p l ih=>exactλr=>r.cN λa aq n v es Z Z Z Z r=>ao (p.1::·) (ih r)
theorem et.length{xs:List (List Int×Addr×Value)}{l:aN}(r:et h U xs l):xs.length=l.length:=by
 have:=ao List.length r.keys
 rwa[ag,ag]at this
theorem et.xj(S:Program)(w:World){l:aN}:∀{xs:List (List Int×Addr×Value)},et h U xs l->∀x∈xs,IsTupleKey (intKind S w) h x.1 x.2.1:=by
 induction l with
 |nil=>exactλr=>r.dD λZ hx=>(a7 hx).elim
 |cons p l ih=>exactλr=>r.cN λa aq n v es Z e i Z r x hx=>(au.mp hx).elim (λq=>q▸n_ S w e i) (ih r x)
theorem eC{k:List Int}{x:V}{l:aN}:dp ((k,x)::l) k=some x:=ai rfl
theorem dU{k k':List Int}{x:V}{l:aN}(n:¬k'=k):dp ((k',x)::l) k=dp l k:=ah n
theorem et.at{l:aN}:∀{xs:List (List Int×Addr×Value)},et h U xs l->∀{k:List Int},
  (dp l k=none/\∀(j:Nat) (p:Addr×Value),xs[j]?≠some (k,p))\/∃(j:Nat) (p:Addr×Value) (x:V),dp l k=some x/\xs[j]?=some (k,p)/\a_ h U p.2 x:=by
 induction l with
 |nil=>exactλr k=>r.dD (.inl ⟨rfl,λj p e=>nn e⟩)
 |cons p l ih=>
  exactλr k=>r.cN λa aq n v es Z e i rv r=>by
   by_cases hk:p.1=k
   ·subst hk
    exact .inr ⟨0,(_,v),p.2,eC,rfl,rv⟩
   ·rcases ih r (k:=k)with⟨h1,h2⟩|⟨j,q,x',h1,h2,h3⟩
    ·refine .inl ⟨(dU hk).trans h1,λj q e=>?_⟩
     cases j with
     |zero=>exact hk (Prod.mk.inj (aW e)).1
     |succ j=>exact h2 j q e
    ·exact .inr ⟨j+1,q,x',(dU hk).trans h1,h2,h3⟩
theorem fH.k7{o:Obj}{l:List V}(r:fH h U o (.a9 l)):∃aq n,o={cls:=.type "list",data:=.seq aq n}/\cw h U aq.toList l:=r.tx λaq n r=>⟨_,_,rfl,r⟩
theorem fH.my{o:Obj}{l:aN}(r:fH h U o (.bC l)):
  ∃es n xs,o={cls:=.type "dict",data:=.dict es n}/\es.toList=xs.map ic/\et h U xs l/\(l.map (·.1)).Nodup:=r.tA λes n xs e r d=>⟨_,_,_,rfl,e,r,d⟩
theorem eD{v:Value}{l:List V}(r:a_ h U v (.bZ l)):∃a aq n,v=.ref a/\¬U a/\IsT h a aq n/\cw h U aq.toList l:=r.ot λa aq n u e r=>⟨a,aq,n,rfl,u,e,r⟩
theorem oX{v:Value}{l:List V}(r:a_ h U v (.a9 l)):∃a aq n,v=.ref a/\¬U a/\h.get? a=some {cls:=.type "list",data:=.seq aq n}/\cw h U aq.toList l:=
 r.tx λa o u e r=>r.tx (P:=λo=>h.get? a=some o->_) (λaq n r e=>⟨a,aq,n,rfl,u,e,r⟩) e
theorem oY{v:Value}{l:aN}(r:a_ h U v (.bC l)):∃a es n xs,v=.ref a/\¬U a/\(a==sysModules)=false/\h.get? a=some {cls:=.type "dict",data:=.dict es n}/\es.toList=xs.map ic/\et h U xs l/\(l.map (·.1)).Nodup:=
 r.tA λa o u q e r=>r.tA (P:=λo=>h.get? a=some o->_) (λes n xs k r d e=>⟨a,es,n,xs,rfl,u,q,e,k,r,d⟩) e
theorem xk{c c':Value}{i i':Array Value}{n n':Nat}{o:Option Obj}(t:o=some {cls:=c,data:=.seq i n})(t':o=some {cls:=c',data:=.seq i' n'}):i=i':=by
 cases t.symm.trans t';rfl
theorem Hi{c c':Value}{i i':Array DictEntry}{n n':Nat}{o:Option Obj}(t:o=some {cls:=c,data:=.dict i n})(t':o=some {cls:=c',data:=.dict i' n'}):i=i':=by
 cases t.symm.trans t';rfl
theorem EM{f:V->V->Option Bool}(hf:∀v x y b,a_ h U v x->a_ h U v y->f x y=some b->b=true){xs:List V}:
  ∀{vs:List Value} {ys:List V} {b:Bool},cw h U vs xs->cw h U vs ys->sC f xs ys=some b->b=true:=by
 induction xs with
 |nil=>
  exactλ{vs ys b} r q e=>by
   have h1:=r.length.symm.trans q.length
   have e:some ys.isEmpty=some b:=e
   rw[List.eq_nil_of_length_eq_zero h1.symm]at e
   cases e;rfl
 |cons x xs ih=>
  exactλ{vs ys b} r=>r.cN λv vs a r q e=>by
   cases ys with
   |nil=>exact Nat.noConfusion q.length
   |cons y ys=>
    obtain⟨_,_,e1,a',r'⟩:=(q.inv:Ya h U (v::vs) (y::ys))
    cases e1
    exact eM e λc hc e=>eM e λd hd e=>by
     cases e
     rw[hf _ _ _ _ a a' hc,ih r r' hd];rfl
theorem vV{l:aN}:(l.map (·.1)).Nodup->∀{k:List Int} {x:V},(k,x)∈l->dp l k=some x:=by
 induction l with
 |nil=>exactλZ Z Z h=>nomatch h
 |cons p r ih=>
  exactλhn k x h=>by
   rw[bP,aZ]at hn
   rcases au.mp h with e|h
   ·cases e;exact eC
   ·exact(dU (λ(e:p.1=k)=>hn.1 (e▸aQ.mpr ⟨(k,x),h,rfl⟩))).trans (ih hn.2 h)
theorem EN{f:V->V->Option Bool}(hf:∀v x y b,a_ h U v x->a_ h U v y->f x y=some b->b=true){m:aN}{l:aN}:
  ∀{xs:List (List Int×Addr×Value)} {l':aN} {b:Bool},et h U xs l->et h U xs l'->(∀k x,(k,x)∈l'->dp m k=some x)->tC f l m=some b->b=true:=by
 induction l with
 |nil=>exactλZ Z Z e=>by cases e;rfl
 |cons p l ih=>
  exactλ{xs l' b} r=>r.cN λa aq n v es Z Z Z rv r q hm e=>by
   cases l' with
   |nil=>exact Nat.noConfusion q.length
   |cons p' l'=>
    have hk:p.1=p'.1:=List.head_eq_of_cons_eq q.keys
    have e:(match dp m p.1 with|none=>some false|some y=>oS (f p.2 y) λb=>if b=true then tC f l m else some false)=some b:=e
    rw[hm p.1 p'.2 (hk▸List.mem_cons_self ..)]at e
    obtain⟨_,_,_,_,_,e1,_,_,_,a',r'⟩:=(q.inv:Yb h U ((p.1,a,v)::es) (p'::l'))
    obtain⟨e2,rfl⟩:=cH e1
    obtain rfl:=(Prod.mk.inj (Prod.mk.inj e2).2).2
    exact eM e λc hc e=>by
     rw[hf _ _ _ _ rv a' hc,ai rfl]at e
     exact ih r r' (λk x hx=>hm k x (cD _ hx)) e
theorem Hj{l:aN}:∀{xs ys:List (List Int×Addr×Value)} {m:aN},et h U xs l->et h U ys m->xs.map ic=ys.map ic->xs=ys:=by
 induction l with
 |nil=>exactλr Z=>r.dD λe=>(List.map_eq_nil_iff.mp e.symm).symm
 |cons p l ih=>
  exactλ{xs ys m} r=>r.cN λa aq n v es Z t i Z r q=>by
   cases m with
   |nil=>exact q.dD λe=>nomatch e
   |cons p' m=>
    exact q.cN λa' mz n' v' EP Z t' i' Z q e=>by
     obtain⟨e1,e2⟩:=cH e
     obtain⟨_,ea,ev⟩:=DictEntry.mk.inj e1
     obtain rfl:a=a':=Value.ref.inj ea
     obtain rfl:v=v':=ev
     rw[<-xk t t']at i'
     rw[yM i i',ih r q e2]
theorem yO{fl:List V->List V->Option Bool}{fd:aN->aN->Option Bool}(hl:∀{vs l m b},cw h U vs l->cw h U vs m->fl l m=some b->b=true)
  (hd:∀{xs l m b},et h U xs l->et h U xs m->(m.map (·.1)).Nodup->fd l m=some b->b=true) {v:Value} {x y:V} {b:Bool} (r:a_ h U v x) (q:a_ h U v y) (e:Xv fl fd x y=some b):b=true:=by
 cases x with
 |none=>exact oV (P:=λZ=>b=true) e λe=>by cases e;rfl
 |bool c=>exact oU (P:=λy=>a_ h U v y->b=true) e (λd e q=>(aW e).symm.trans (beq_iff_eq.mpr (Value.bool.inj ((r.kr rfl).trans (q.kr rfl).symm)))) q
 |int c=>
  exact d_ (P:=λy=>a_ h U v y->b=true) e (λd e q=>by
   obtain⟨t,h1⟩:=r.j_ rfl
   obtain⟨t',h2⟩:=q.j_ rfl
   exact(aW e).symm.trans (beq_iff_eq.mpr (Value.int.inj (h1.trans h2.symm)).1)) q
 |str c=>
  exact CX (P:=λy=>a_ h U v y->b=true) e (λd e q=>by
   obtain⟨t,h1⟩:=r.LX rfl
   obtain⟨t',h2⟩:=q.LX rfl
   exact(aW e).symm.trans (beq_iff_eq.mpr (Value.str.inj (h1.trans h2.symm)).1)) q
 |bZ l=>
  exact gS (P:=λy=>a_ h U v y->b=true) e (λm e q=>by
   obtain⟨a,i1,n1,rfl,_,t1,r1⟩:=eD r
   obtain⟨a2,i2,n2,e2,_,t2,r2⟩:=eD q
   cases e2
   exact hl r1 (xk t1 t2▸r2) e) q
 |a9 l=>
  exact jZ (P:=λy=>a_ h U v y->b=true) e (λm e q=>by
   obtain⟨a,i1,n1,rfl,_,t1,r1⟩:=oX r
   obtain⟨a2,i2,n2,e2,_,t2,r2⟩:=oX q
   cases e2
   exact hl r1 (xk t1 t2▸r2) e) q
 |bC l=>
  exact nc (P:=λy=>a_ h U v y->b=true) e (λm e q=>by
   obtain⟨a,i1,n1,x1,rfl,_,_,t1,k1,r1,_⟩:=oY r
   obtain⟨a2,i2,n2,x2,e2,_,_,t2,k2,r2,d2⟩:=oY q
   cases e2
   have:x1=x2:=Hj r1 r2 (k1.symm.trans (Hi t1 t2▸k2))
   exact hd r1 (this▸r2) d2 e) q
 |ref a=>exact nn e
theorem Hl(n:Nat):∀(v:Value) (x y:V) (b:Bool),a_ h U v x->a_ h U v y->iS n x y=some b->b=true:=by
 induction n with
 |zero=>exactλv x y b r q e=>yO (λZ Z h=>nn h) (λZ Z Z h=>nn h) r q e
 |succ n ih=>
  exactλv x y b r q e=>yO (λr q e=>EM ih r q e) (λ{xs l m b} r q d e=>by
   rw[ai (r.length.symm.trans q.length)]at e
   exact EN ih r q (λk x hx=>vV d hx) e) r q e
end
end
section
open PySem PySem.W PyProof.Rows PySem.Calls SeqAt
theorem IsT.bZ{h:Heap}{a:Addr}{aq:Array Value}{n:Nat}(e:IsT h a aq n):h.IsTuple a aq:=⟨_,e,rfl,n,rfl⟩
theorem IsL.a9{h:Heap}{a:Addr}{aq:Array Value}{n:Nat}(e:IsL h a aq n):h.IsList a aq:=⟨_,e,rfl,n,rfl⟩
theorem tF(e:Nat->Bool)(n:Nat):(List.range (n+1)).all e=(e 0&&(List.range n).all λj=>e (j+1)):=by
 rw[List.range_succ_eq_map,List.all_cons,List.all_map];rfl
theorem xl{A:Around}{s:Shared}{U:Addr->Prop}{f:V->V->Option Bool}
  (hf:∀v x w y b,a_ s.heap U v x->a_ s.heap U w y->f x y=some b->EqAt A s v w b) {xs:List V}:
  ∀{vs ws:List Value} {ys:List V} {b:Bool},cw s.heap U vs xs->cw s.heap U ws ys->sC f xs ys=some b->
   ∃e:Nat->Bool,(∀j (h1:j<vs.length) (h2:j<ws.length),EqAt A s vs[j] ws[j] (e j))/\((List.range (min vs.length ws.length)).all e&&vs.length==ws.length)=b:=by
 induction xs with
 |nil=>
  exactλ{vs ws ys b} r q e=>r.dD ⟨λZ=>true,λj h1=>aG h1 (Nat.not_lt_zero _),by
   rw[List.length_nil,Nat.zero_min]
   cases ys with
   |nil=>cases e;exact q.dD rfl
   |cons=>cases e;exact q.cN λZ Z Z Z=>rfl⟩
 |cons x xs ih=>
  exactλ{vs ws ys b} r q e=>r.cN λv vs a r=>by
   cases ys with
   |nil=>cases e;exact q.dD ⟨λZ=>true,λj Z h2=>aG h2 (Nat.not_lt_zero _),rfl⟩
   |cons y ys=>
    exact q.cN λw ws a' r'=>eM e λc hc e=>eM e λd hd e=>by
     cases e
     obtain⟨g,h1,h2⟩:=ih r r' hd
     refine⟨λj=>match j with|0=>c|j+1=>g j,λj j1 j2=>?_,?_⟩
     ·cases j with
      |zero=>exact hf _ _ _ _ _ a a' hc
      |succ j=>exact h1 j (Nat.lt_of_succ_lt_succ j1) (Nat.lt_of_succ_lt_succ j2)
     ·rw[<-h2,cu,cu,Nat.succ_min_succ,tF,Bool.and_assoc,show(vs.length+1==ws.length+1)=(vs.length==ws.length) by simp]
theorem ER{M:Model}{A:Around}{E:Value->Shared->Prop}{s:Shared}{U:Addr->Prop}{xs₀:List (List Int×Addr×Value)}{β:Type}{qx:β}{body:Nat->β->Sem (ForInStep β)}{Q:β->Shared->Prop}{R:aN->Prop}(h0:R []->Q qx s)
  (h1:∀i k ad aq n v y l' (P:ForInStep β->Shared->Prop),xs₀[i]?=some (k,ad,v)->IsT s.heap ad aq n->IntsAre aq.toList k->a_ s.heap U v y->R ((k,y)::l')->(∀b,Q b s->P (.done b) s)->(R l'->P (.yield qx) s)->wpAny M A (body i qx) P E s)
  (l:aN):∀(xs:List (List Int×Addr×Value)) (i:Nat),et s.heap U xs l->xs₀.drop i=xs->R l->wpAny M A (forIn (List.range' i l.length) qx body) Q E s:=by
 induction l with
 |nil=>exactλxs i Z Z h=>aj (h0 h)
 |cons p l ih=>
  exactλxs i r=>r.cN λad aq n v es Z t ia rv r hd h=>by
   have hx:xs₀[i]?=some (p.1,ad,v):=by
    have:=ao (·[0]?) hd
    rwa[List.getElem?_drop]at this
   show wpAny M A (forIn (i::List.range' (i+1) l.length) qx body) Q E s
   rw[List.forIn_cons]
   exact aa (h1 i p.1 ad aq n v p.2 l _ hx t ia rv h (λb hb=>aj hb) λhr=>ih es (i+1) r ((List.tail_drop ..).symm.trans (ao List.tail hd)) hr)
theorem rF{h:Heap}{U:Addr->Prop}{es:Array DictEntry}{xs:List (List Int×Addr×Value)}{l:aN}(ke:es.toList=xs.map ic)(rd:et h U xs l):es.size=l.length:=by
 rw[<-aV,ke,ag,rd.length]
theorem xm{A:Around}{s:Shared}{U:Addr->Prop}{f:V->V->Option Bool}{S:Program}{w:World}{E:Value->Shared->Prop}
  (hf:∀v x w y b,a_ s.heap U v x->a_ s.heap U w y->f x y=some b->EqAt A s v w b) {nm:String} {a b:Addr}
  {es EP:Array DictEntry} {n n':Nat} {xs ys:List (List Int×Addr×Value)} {l m:aN} {r:Bool} {Q:Bool->Shared->Prop}
  (ha:(a==sysModules)=false) (hb:(b==sysModules)=false) (hu:A.units<cLine)
  (Qh:s.heap.get? a=some {cls:=.type "dict",data:=.dict es n}) (S6:s.heap.get? b=some {cls:=.type "dict",data:=.dict EP n'})
  (ka:es.toList=xs.map ic) (kb:EP.toList=ys.map ic) (ra:et s.heap U xs l) (rb:et s.heap U ys m) (na:(l.map (·.1)).Nodup) (nb:(m.map (·.1)).Nodup)
  (hr:(if l.length=m.length then tC f l m else some false)=some r) (h:Q r s):
  wpAny (model S w) A (Builtin.Dict.samePairs nm a b) Q E s:=by
 have Qi:=rF ka ra
 have hlb:=rF kb rb
 have nk:(ys.map (·.1)).Nodup:=by rw[rb.keys];exact nb
 unfold Builtin.Dict.samePairs Builtin.Dict.showsAll
 rw[ah (show¬(a==sysModules)=true by rw[ha];exact aJ),ah (show¬(b==sysModules)=true by rw[hb];exact aJ)]
 refine aa (aj (aa (aj ?_)))
 refine aa (bH Qh rfl ?_)
 dsimp only
 refine aa (bH S6 rfl ?_)
 by_cases ml:l.length=m.length
 case neg=>
  rw[ah ml]at hr
  cases hr
  rw[ai (by rw[Qi,hlb];simpa using ml)]
  exact aa (wpAny_rule (aj h))
 case pos=>
  rw[ai ml]at hr
  rw[ah (by rw[Qi,hlb,ml];simp)]
  refine aa (wpAny_dictEpoch Qh rfl ?_)
  refine aa ?_
  rw[Std.Legacy.Range.forIn_eq_forIn_range']
  show wpAny _ _ (forIn (List.range' 0 ((es.size- 0+1- 1)/1) 1) _ _) _ _ _
  rw[Nat.sub_zero,Nat.add_sub_cancel,Nat.div_one,Qi]
  refine ER (xs₀:=xs) (R:=λl'=>tC f l' m=some r) (λhr=>?_) (λi k ad aq nn v y l' P hx e1 i1 a1 oy Ue Qj=>?_) l xs 0 ra rfl hr
  ·cases hr;exact aj h
  have Xx:es[i]?=some (ic (k,ad,v)):=by rw[<-bk,ka,aA,hx];rfl
  have oy:(match dp m k with|none=>some false|some z=>oS (f y z) λb=>if b=true then tC f l' m else some false)=some r:=oy
  have Hm:∀{dJ9:Sem (ForInStep (Option Bool×Unit))},r=false->wpAny (model S w) A (if(!false)=true then pure (ForInStep.done (some false,()))else dJ9) P E s:=λe=>by
   rw[ai (by decide)];exact aj (Ue _ (aj (e▸h)))
  refine aa (bH Qh rfl ?_)
  rw[Xx]
  show wpAny _ _ (holding [Value.ref ad,v] _>>=_) _ _ _
  refine aa (b7 (aa (wpAny_dictFind_heap (knd:=tupleKind (intKind S w)) (k:=k) (xs:=ys) hu (n_ S w e1 i1) S6 rfl kb (rb.xj S w) nk (λno=>?_) λj p hj=>?_)))
  ·rcases rb.at (k:=k)with⟨h1,_⟩|⟨j,p,_,_,h2,_⟩
   ·rw[h1]at oy
    cases oy
    exact aj (Hm rfl)
   ·exact aG h2 (no j p)
  ·rcases rb.at (k:=k)with⟨_,h2⟩|⟨j',p',y',h1,h2,h3⟩
   ·exact aG hj (h2 j p)
   ·obtain rfl:=idxH_unique nk hj h2
    cases hj.symm.trans h2
    refine aa (bH S6 rfl ?_)
    rw[show EP[j]?=some (ic (k,p)) by rw[<-bk,kb,aA,hj];rfl]
    rw[h1]at oy
    refine eM oy λe hc oy=>b7 (hf _ _ _ _ _ a1 h3 hc S w _ _ ?_)
    cases e with
    |false=>cases oy;exact Hm rfl
    |true=>
     show wpAny _ _ (if(!true)=true then _ else _) _ _ _
     rw[ah (by decide)]
     refine aa (wpAny_dictEpoch Qh rfl ?_)
     rw[ah (by simp)]
     exact aj (Qj oy)
theorem L2{A:Around}{s:Shared}{U:Addr->Prop}{f:V->V->Option Bool}(hf:∀v x w y b,a_ s.heap U v x->a_ s.heap U w y->f x y=some b->EqAt A.in1 s v w b){a b:Addr}
  {es EP:Array DictEntry} {n n':Nat} {xs ys:List (List Int×Addr×Value)} {l m:aN} {r:Bool}
  (ha:(a==sysModules)=false) (hb:(b==sysModules)=false) (hu:A.units+1<cLine)
  (Qh:s.heap.get? a=some {cls:=.type "dict",data:=.dict es n}) (S6:s.heap.get? b=some {cls:=.type "dict",data:=.dict EP n'})
  (ka:es.toList=xs.map ic) (kb:EP.toList=ys.map ic) (ra:et s.heap U xs l) (rb:et s.heap U ys m) (na:(l.map (·.1)).Nodup) (nb:(m.map (·.1)).Nodup)
  (hr:(if l.length=m.length then tC f l m else some false)=some r):RcAt A s (.ref a) (.ref b) r:=λS w E Q h=>by
 have ta:s.TypeIs (.ref a) "dict":=⟨_,Qh,rfl⟩
 have tb:s.TypeIs (.ref b) "dict":=⟨_,S6,rfl⟩
 refine wpAny_richCompare_same_room (op:=.Eq) ta tb PySem.F.slot_dict_eq (bR PySem.F.slot_dict_eq ta PySem.F.entry_dict_eq ?_ (PySem.F.args_dict_eq_2 _ _)) (Nat.lt_of_succ_lt hu)
 show wpAny _ _ (Builtin.Dict.dictSlotArgs "__eq__" ⟨[.ref a,.ref b],[]⟩>>=_) _ _ s
 refine aa ?_
 unfold Builtin.Dict.dictSlotArgs
 refine aa (wpAny_notOrdered_dict ta ?_)
 show wpAny _ _ (pure (Value.ref a,Value.ref b)) _ _ s
 refine aj ?_
 refine aa (wpAny_isInstance (T:="dict") tb PySem.F.sub_dict_dict ?_)
 simp only[Bool.not_true,Bool.false_eq_true,if_false]
 refine aa (aj (aa (aj ?_)))
 refine aa (xm (A:=A.in1) hf ha hb hu Qh S6 ka kb ra rb na nb hr ?_)
 exact aj ⟨_,rfl,(λx=>nomatch x),by simpa using h⟩
theorem EqAt.refs{A:Around}{s:Shared}{U:Addr->Prop}{n:Nat}{a a':Addr}{x y:V}{b:Bool}(r:a_ s.heap U (.ref a) x)(q:a_ s.heap U (.ref a') y)(e:iS n x y=some b)(rc:RcAt A s (.ref a) (.ref a') b):RcAt A s (.ref a) (.ref a') b/\EqAt A s (.ref a) (.ref a') b:=by
 refine⟨rc,?_⟩
 by_cases xn:a=a'
 ·subst xn
  rw[Hl _ _ _ _ _ r q e];exact EqAt.same _
 ·exact EqAt.of_refs xn rc
theorem Yi{P:Value->Value->Bool->Prop}{i1 i2:Array Value}{g:Nat->Bool}(h:∀j (h1:j<i1.toList.length) (h2:j<i2.toList.length),P i1.toList[j] i2.toList[j] (g j)):∀j (h1:j<i1.size) (h2:j<i2.size),P i1[j] i2[j] (g j):=λj h1 h2=>by
 have:=h j (by rw[aV];exact h1) (by rw[aV];exact h2)
 rwa[Array.getElem_toList,Array.getElem_toList]at this
theorem tG{s:Shared}{U:Addr->Prop}(n:Nat):∀(A:Around) (v:Value) (x:V) (w:Value) (y:V) (b:Bool),A.units+n<cLine->a_ s.heap U v x->a_ s.heap U w y->iS n x y=some b->RcAt A s v w b/\EqAt A s v w b:=by
 have flat:∀{A:Around} {v w:Value} {x y:V} {b:Bool} {fl fd},a_ s.heap U v x->a_ s.heap U w y->Xv fl fd x y=some b->(∀l,x=.bZ l->RcAt A s v w b/\EqAt A s v w b)->(∀l,x=.a9 l->RcAt A s v w b/\EqAt A s v w b)->(∀l,x=.bC l->RcAt A s v w b/\EqAt A s v w b)->RcAt A s v w b/\EqAt A s v w b:=by
  intro A v w x y b fl fd r q e h1 h2 h3
  cases x with
  |none=>exact oV (P:=λy=>a_ s.heap U w y->RcAt A s v w b/\EqAt A s v w b) e (λe q=>by cases e;exact q.oR (r.oR ⟨RcAt.none_none,EqAt.same _⟩)) q
  |bool c=>exact oU (P:=λy=>a_ s.heap U w y->RcAt A s v w b/\EqAt A s v w b) e (λd e q=>by cases e;exact q.ie (r.ie ⟨RcAt.bool_bool _ _,EqAt.bool_bool _ _⟩)) q
  |int c=>exact d_ (P:=λy=>a_ s.heap U w y->RcAt A s v w b/\EqAt A s v w b) e (λd e q=>by cases e;exact q.f7 λt'=>r.f7 λt=>⟨RcAt.int_int _ _ _ _,EqAt.int_int _ _ _ _⟩) q
  |str c=>exact CX (P:=λy=>a_ s.heap U w y->RcAt A s v w b/\EqAt A s v w b) e (λd e q=>by cases e;exact q.AM λt'=>r.AM λt=>⟨RcAt.str_str _ _ _ _,EqAt.str_str _ _ _ _⟩) q
  |bZ l=>exact h1 l rfl
  |a9 l=>exact h2 l rfl
  |bC l=>exact h3 l rfl
  |ref a=>exact nn e
 induction n with
 |zero=>
  intro A v x w y b hu r q e
  refine flat r q e (λl h=>?_) (λl h=>?_) λl h=>?_
  ·subst h;exact gS (P:=λZ=>_) e λZ e=>nn e
  ·subst h;exact jZ (P:=λZ=>_) e λZ e=>nn e
  ·subst h;exact nc (P:=λZ=>_) e λZ e=>nn e
 |succ n ih=>
  intro A v x w y b hu r q e
  have S7:A.in1.units+n<cLine:=by show A.units+1+n<cLine;rw[bW];exact hu
  have OL:A.units<cLine:=aB (aS _ _) hu
  have hf:∀v x w y b,a_ s.heap U v x->a_ s.heap U w y->iS n x y=some b->EqAt A.in1 s v w b:=λv x w y b p q e=>(ih _ v x w y b S7 p q e).2
  refine flat r q e (λl h=>?_) (λl h=>?_) λl h=>?_
  ·subst h
   refine gS (P:=λy=>a_ s.heap U w y->iS (n+1) (.bZ l) y=some b->RcAt A s v w b/\EqAt A s v w b) e (λm he q e=>?_) q e
   obtain⟨a,i1,n1,rfl,_,e1,r1⟩:=eD r
   obtain⟨a',i2,n2,rfl,_,e2,r2⟩:=eD q
   refine EqAt.refs r q e ?_
   obtain⟨g,h1,h2⟩:=xl hf r1 r2 he
   have:=RcAt.tuples (A:=A) (s:=s) (e:=g) (IsT.bZ e1) (IsT.bZ e2) OL (Yi h1)
   rw[aV,aV]at h2
   rwa[h2]at this
  ·subst h
   refine jZ (P:=λy=>a_ s.heap U w y->iS (n+1) (.a9 l) y=some b->RcAt A s v w b/\EqAt A s v w b) e (λm he q e=>?_) q e
   obtain⟨a,i1,n1,rfl,_,e1,r1⟩:=oX r
   obtain⟨a',i2,n2,rfl,_,e2,r2⟩:=oX q
   refine EqAt.refs r q e ?_
   obtain⟨g,h1,h2⟩:=xl hf r1 r2 he
   rw[aV,aV]at h2
   by_cases ml:i1.size=i2.size
   ·have:=RcAt.lists (A:=A) (s:=s) (e:=g) (IsL.a9 e1) (IsL.a9 e2) ml OL (Yi h1)
    rw[<-ml,Nat.min_self,cv,Bool.and_true]at h2
    rwa[h2]at this
   ·have hb:(i1.size==i2.size)=false:=bX.mpr ml
    rw[hb,Bool.and_false]at h2
    rw[<-h2]
    exact RcAt.lists_lengths (IsL.a9 e1) (IsL.a9 e2) (bne_iff_ne.mpr ml) OL
  ·subst h
   refine nc (P:=λy=>a_ s.heap U w y->iS (n+1) (.bC l) y=some b->RcAt A s v w b/\EqAt A s v w b) e (λm he q e=>?_) q e
   obtain⟨a,i1,m1,x1,rfl,_,s1,e1,k1,q1,n1⟩:=oY r
   obtain⟨a',i2,m2,x2,rfl,_,s2,e2,k2,q2,n2⟩:=oY q
   exact EqAt.refs r q e (L2 hf s1 s2 (aB (aL (aS _ n)) hu) e1 e2 k1 k2 q1 q2 n1 n2 he)
def AS(up:Bool)(A:Around)(s:Shared)(y x:Value)(b:Bool):Prop:=
 ∀(S:Program) (w:World) (E:Value->Shared->Prop) (Q:Value->Shared->Prop),Q (.bool b) s->wpAny (model S w) A (richCompare (if up then .Lt else .Gt) y x) Q E s
noncomputable def Hn(up:Bool)(a b:Nat):Bool:=if up=true then decide (a<b)else decide (b<a)
theorem ES(up:Bool)(a b:Nat):Hn up (a+1) (b+1)=Hn up a b:=by
 cases up<;>exact decide_eq_decide.mpr Nat.succ_lt_succ_iff
theorem L3{M:Model}{A:Around}{E:Value->Shared->Prop}{s:Shared}{U:Addr->Prop}{f g:V->V->Option Bool}{up r:Bool}{β:Type}{qx:β}{body:Value×Value->β->Sem (ForInStep β)}{Q:β->Shared->Prop}
  (hb:∀u v x y c (P:ForInStep β->Shared->Prop),a_ s.heap U u x->a_ s.heap U v y->f x y=some c->(c=true->P (.yield qx) s)->(c=false->g x y=some r->∀b,Q b s->P (.done b) s)->(c=false->g x y=some r)->wpAny M A (body (u,v) qx) P E s) {xs:List V}:
  ∀{vs ws:List Value} {ys:List V},cw s.heap U vs xs->cw s.heap U ws ys->sD up f g xs ys=some r->(r=Hn up vs.length ws.length->Q qx s)->wpAny M A (forIn (vs.zip ws) qx body) Q E s:=by
 induction xs with
 |nil=>
  exactλ{vs ws ys} p q e=>p.dD λh=>aj (h (by
   cases ys with
   |nil=>cases e;exact q.dD (by cases up<;>rfl)
   |cons=>cases e;exact q.cN λZ Z Z Z=>by cases up<;>rfl))
 |cons x xs ih=>
  exactλ{vs ws ys} p q e=>p.cN λv vs a p h=>by
   cases ys with
   |nil=>cases e;exact q.dD (P:=λws=>(_=Hn up _ ws.length->_)->wpAny M A (forIn (List.zip _ ws) qx body) Q E s) (λh=>aj (h (by cases up<;>rfl))) h
   |cons y ys=>
    refine q.cN (P:=λws=>(_=Hn up _ ws.length->_)->wpAny M A (forIn (List.zip _ ws) qx body) Q E s) (λw ws a' q h=>?_) h
    refine eM e λc hc e=>?_
    show wpAny M A (forIn ((v,w)::vs.zip ws) qx body) Q E s
    rw[List.forIn_cons]
    have hg:c=false->g x y=some r:=λhc=>by rwa[hc,ah aJ]at e
    refine aa (hb v w x y c _ a a' hc (λhc=>?_) (λZ Z b hQ=>aj hQ) hg)
    rw[hc,ai rfl]at e
    exact ih p q e λhr=>h (hr.trans (ES ..).symm)
theorem vr{A:Around}{s:Shared}{U:Addr->Prop}{f g:V->V->Option Bool}{up:Bool}
  (hf:∀v x w y b,a_ s.heap U v x->a_ s.heap U w y->f x y=some b->EqAt A s v w b)
  (hg:∀v x w y b,a_ s.heap U v x->a_ s.heap U w y->g x y=some b->AS up A s v w b)
  {S:Program} {w:World} {E:Value->Shared->Prop} {P:PySem.Fin->Shared->Prop} {b c:Addr} {aq qy:Array Value} {n n2:Nat} {xs ys:List V} {r:Bool}
  (eb:IsT s.heap b aq n) (ec:IsT s.heap c qy n2) (rb:cw s.heap U aq.toList xs) (rc:cw s.heap U qy.toList ys)
  (hr:sD up f g xs ys=some r) (h:P (.done (.ret (.bool r))) s):
  wpAny (model S w) A ((if up then Builtin.«tuple.__lt__»else Builtin.«tuple.__gt__») ⟨[.ref b,.ref c],[]⟩) P E s:=by
 have main:∀op:CmpOp,op=(if up then CmpOp.Lt else CmpOp.Gt)->wpAny (model S w) A (isInstance (.ref c) (.type "tuple")>>=λt=>(if(!t)=true then ret .notImplemented else do
   let xs<-Builtin.Tuple.tupleItemsOf (.ref b)
   let ys<-Builtin.Tuple.tupleItemsOf (.ref c)
   for (x,y)in xs.toList.zip ys.toList do
    if !(<-eqBool x y)then
     match op with
     |.Eq=>return<-ret (.bool false)
     |.NotEq=>return<-ret (.bool true)
     |_=>rule "tuple.compare.by-the-first-pair-that-differs";return<-ret (<-richCompare op x y)
   ret (Builtin.Tuple.tupleCompareSizes op xs.size ys.size):Sem PySem.Fin)) P E s:=by
  intro op Xy
  refine aa (wpAny_isInstance ⟨_,ec,rfl⟩ isSubtype_tuple_tuple ?_)
  rw[ah (by decide)]
  refine aa (wpAny_tupleItemsOf eb rfl (aa (wpAny_tupleItemsOf ec rfl (aa ?_))))
  refine L3 (up:=up) (f:=f) (g:=g) (r:=r) (λu v x y e P' a1 a2 hc ht hd hg1=>aa (hf _ _ _ _ _ a1 a2 hc S w _ _ ?_)) rb rc hr λe=>aj ?_
  ·cases e with
   |true=>exact aj (ht rfl)
   |false=>
    have vm:=hg _ _ _ _ _ a1 a2 (hg1 rfl) S w
    rw[<-Xy]at vm
    have kq:op=.Lt\/op=.Gt:=by
     cases up with
     |true=>exact .inl Xy
     |false=>exact .inr Xy
    rcases kq with rfl|rfl<;>exact aa (wpAny_rule (aa (vm _ _ (aa (aj (aj (hd rfl (hg1 rfl) _ (aj h))))))))
  ·rw[aV,aV]at e
   rw[e]at h
   cases up<;>subst Xy<;>exact h
 cases up with
 |true=>exact main .Lt rfl
 |false=>exact main .Gt rfl
theorem AU{s:Shared}{U:Addr->Prop}(up:Bool)(n:Nat):∀(A:Around) (v:Value) (x:V) (w:Value) (y:V) (b:Bool),A.units+n<cLine->a_ s.heap U v x->a_ s.heap U w y->s6 up n x y=some b->AS up A s v w b:=by
 have Ug:∀{A:Around} {v w:Value} {i:Int} {y:V} {b:Bool},a_ s.heap U v (.int i)->a_ s.heap U w y->Yd up i y=some b->AS up A s v w b:=λ{A v w i y b} r q e=>
  d_ (P:=λy=>a_ s.heap U w y->AS up A s v w b) e (λj e q=>q.f7 λu=>r.f7 λt S w E Q h=>by
   cases e
   cases up with
   |true=>exact lt_int h
   |false=>exact gt_int h) q
 induction n with
 |zero=>exactλA v x w y b hu r q e=>d_ (P:=λx=>a_ s.heap U v x->AS up A s v w b) e (λi e r=>Ug r q e) r
 |succ n ih=>
  intro A v x w y b hu r q e
  have S7:A.in1.units+n<cLine:=by show A.units+1+n<cLine;rw[bW];exact hu
  have OL:A.units<cLine:=aB (aS _ _) hu
  refine xd (P:=λx=>a_ s.heap U v x->AS up A s v w b) e (λi e r=>Ug r q e) (λl e r=>gS (P:=λy=>a_ s.heap U w y->AS up A s v w b) e (λm e q=>?_) q) r
  obtain⟨a,i1,n1,rfl,_,e1,r1⟩:=eD r
  obtain⟨a',i2,n2,rfl,_,e2,r2⟩:=eD q
  intro S w E Q h
  have t1:s.TypeIs (.ref a) "tuple":=⟨_,e1,rfl⟩
  have t2:s.TypeIs (.ref a') "tuple":=⟨_,e2,rfl⟩
  have go:∀{P:PySem.Fin->Shared->Prop} {E':Value->Shared->Prop},P (.done (.ret (.bool b))) s->wpAny (model S w) A.in1 ((if up then Builtin.«tuple.__lt__»else Builtin.«tuple.__gt__») ⟨[.ref a,.ref a'],[]⟩) P E' s:=
   λhP=>vr (λv x w y b p q e=>(tG _ _ _ _ _ _ _ S7 p q e).2) (λv x w y b p q e=>ih _ _ _ _ _ _ S7 p q e) e1 e2 r1 r2 e hP
  cases up with
  |true=>exact wpAny_richCompare_same_room (op:=.Lt) t1 t2 F.slot_tuple_lt (bR F.slot_tuple_lt t1 F.entry_tuple_lt (go ⟨_,rfl,(λx=>nomatch x),h⟩) (F.args_tuple_lt_2 _ _)) OL
  |false=>exact wpAny_richCompare_same_room (op:=.Gt) t1 t2 F.slot_tuple_gt (bR F.slot_tuple_gt t1 F.entry_tuple_gt (go ⟨_,rfl,(λx=>nomatch x),h⟩) (F.args_tuple_gt_2 _ _)) OL
theorem yP{a:Int}(h:LC a=true):Builtin.Int.intBits a<=2^20:=by
 have:=aX h
 unfold Builtin.Int.intBits
 split
 ·exact bK _
 ·exact ae (aL this) (by decide)
theorem qz:fillsNumberSlot (.type "tuple") "mul"=pure false:=
 PySem.fillsNumberSlot_seq (id:="tuple.__mul__") (r:=some (.builtin "tuple.__rmul__")) F.slot_tuple_mul.lookup (by decide+kernel) F.slot_tuple_rmul.lookup (by decide+kernel)
theorem xo:seqRepeat? (.type "tuple")=pure (some (.builtin "tuple.__mul__")):=by
 unfold seqRepeat?
 rw[PySem.seqSlot_of (T:="tuple") (name:="__mul__") (id:="tuple.__mul__") F.slot_tuple_mul.lookup (by decide+kernel),PySem.seqSlot_of (T:="tuple") (name:="__rmul__") (id:="tuple.__rmul__") F.slot_tuple_rmul.lookup (by decide+kernel)]
 rfl
theorem tH(a:Int)(t:Tok)(l:Addr)(aq:Array Value)(n:Nat):
  Meets (Builtin.«int.__rmul__» ⟨[.int a t,.ref l],[]⟩) (λZ R s=>s.heap.get? l=some {cls:=.type "tuple",dict:=none,data:=.seq aq n,slots:=#[]}/\R (.ok (.ret Value.notImplemented)) s):=
 .of_wp λS w A R s h=>by obtain⟨hp,g,d,tk,os⟩:=s;obtain⟨hl,h⟩:=h;wp_walk;exact⟨_,rfl,h⟩
theorem kA(aq:Array Value):∀(n:Nat) (cB:Array Value),((List.replicate n aq).foldl (λx y=>x++y) cB).toList=cB.toList++(List.replicate n aq.toList).flatten
 |0,cB=>by simp
 |n+1,cB=>by
  rw[List.replicate_succ,List.foldl_cons,kA aq n,List.replicate_succ,List.flatten_cons,Array.toList_append,bx]
section
variable{S:Program}{w:World}{A:Around}{E:Value->Shared->Prop}{s:Shared}{X:Heap}{fr:Addr->Prop}{J:St}{Q:V->St->Prop}
theorem fx(I:dR X fr s.heap J){i:Int}{t tk:Nat}(q:Q (.int i) J):cO X fr s J Q (.int i t) {s with toks:=tk}:=
 ⟨_,J,(Pe.refl I).toks tk,.int i t,q⟩
theorem fc(I:dR X fr s.heap J){b:Bool}(q:Q (.bool b) J):cO X fr s J Q (.bool b) s:=
 ⟨_,J,Pe.refl I,.bool b,q⟩
theorem fE(I:dR X fr s.heap J){v:Value}{x:V}(r:a_ s.heap (cf J fr) v x)(q:Q x J):cO X fr s J Q v s:=
 ⟨_,J,Pe.refl I,r,q⟩
theorem kB(h:Heap)(o:Obj):∀b q,h.get? b=some q->(h.push o).get? b=some q:=λb q e=>aD _ e
theorem gZ(I:dR X fr s.heap J){aq:Array Value}{l:List V}{tk:Nat}(r:cw s.heap (cf J fr) aq.toList l)(q:Q (.bZ l) J):
  cO X fr s J Q (.ref s.heap.objs.size) {s with heap:=s.heap.push {cls:=.type "tuple",data:=.seq aq},toks:=tk}:=by
 have p:=Pe.gT (tk:=tk) I (kB s.heap {cls:=.type "tuple",data:=.seq aq})
 exact⟨_,J,p,.bZ (I.AR (gA _ (bc _))) (a8 _ rfl) (p.Ud r),q⟩
theorem tI(I:dR X fr s.heap J){own:Bool}{B:Addr}{o:Obj}{z:V}{h':Heap}{tk:Nat}(hn:s.heap.get? B=none)(hk:∀b o,s.heap.get? b=some o->h'.get? b=some o)(hg:h'.get? B=some o)
  (r:fH s.heap (cf J fr) o z) (q:gG own z J Q):cO X fr s J Q (.ref B) {s with heap:=h',toks:=tk}:=by
 have I':dR X (λb=>fr b\/b=B) h' J:=I.widen hk λb u=>u.imp id λ(e:b=B)=>by rw[e];exact⟨hn,_,hg⟩
 obtain⟨x,σ',h1,h2,h3,h4⟩:=xi (fr:=fr) I' (λb f=>f) (I.yG hn) hg (r.keep ⟨λb o Z e=>hk b o e,λb u=>u.elim (λu=>.inl (.inl u)) λu=>u.elim (λu=>.inl (.inr u)) λ(u:b=B)=>.inr (u▸hn)⟩) q
 exact⟨x,σ',⟨⟨_,_,rfl⟩,⟨λb o Z e=>hk b o e,λb u=>(h1 b u).imp id λ(e:b=B)=>e▸hn⟩,h2⟩,h3,h4⟩
theorem kC(I:dR X fr s.heap J){own:Bool}{o:Obj}{z:V}{tk:Nat}(hf:o.isFreed=false)(r:fH s.heap (cf J fr) o z)(q:gG own z J Q):
  cO X fr s J Q (.ref s.heap.objs.size) {s with heap:=s.heap.push o,toks:=tk}:=
 tI I (gA _ (bc _)) (kB s.heap o) (a8 _ hf) r q
theorem Ho{x c:V}(e:b6 J x=some c):x=c\/∃a o,x=.ref a/\aY J a=some (o,c):=by
 cases x with
 |ref a=>
  obtain⟨⟨o,y⟩,e1,e2⟩:=aO.mp e
  exact .inr ⟨a,o,rfl,e1.trans (ao (λy=>some (o,y)) e2)⟩
 |_=>exact .inl (aW e)
theorem eE(I:dR X fr s.heap J){v:Value}{x:V}{l:List V}(r:a_ s.heap (cf J fr) v x)(e:b6 J x=some (.a9 l)):
  ∃a aq n,v=.ref a/\IsL s.heap a aq n/\cw s.heap (cf J fr) aq.toList l:=by
 rcases Ho e with rfl|⟨a,o,rfl,h⟩
 ·obtain⟨a,aq,n,e,_,h,r⟩:=oX r
  exact⟨a,aq,n,e,h,r⟩
 ·obtain⟨h1,h2⟩:=I.own a o _ h
  obtain⟨aq,n,rfl,h3⟩:=h2.k7
  exact⟨a,aq,n,(r.yE rfl).symm,h1,h3⟩
theorem kD(I:dR X fr s.heap J){v:Value}{x:V}{l:aN}(r:a_ s.heap (cf J fr) v x)(e:b6 J x=some (.bC l)):
  ∃a es n xs,v=.ref a/\(a==sysModules)=false/\s.heap.get? a=some {cls:=.type "dict",data:=.dict es n}/\es.toList=xs.map ic/\et s.heap (cf J fr) xs l/\(l.map (·.1)).Nodup:=by
 rcases Ho e with rfl|⟨a,o,rfl,h⟩
 ·obtain⟨a,es,n,xs,e,_,r⟩:=oY r
  exact⟨a,es,n,xs,e,r⟩
 ·obtain⟨h1,h2⟩:=I.own a o _ h
  obtain⟨es,n,xs,rfl,h3⟩:=h2.my
  exact⟨a,es,n,xs,(r.yE rfl).symm,I.xh (by rw[h];rfl),h1,h3⟩
theorem jB(I:dR X fr s.heap J){v:Value}{x:V}{l:List V}(r:a_ s.heap (cf J fr) v x)(e:b6 J x=some (.bZ l)):
  ∃a aq n,v=.ref a/\IsT s.heap a aq n/\cw s.heap (cf J fr) aq.toList l/\x=.bZ l:=by
 rcases Ho e with rfl|⟨a,o,rfl,h⟩
 ·obtain⟨a,aq,n,e,_,h,r⟩:=eD r
  exact⟨a,aq,n,e,h,r,rfl⟩
 ·exact((I.own a o _ h).2.inv:False).elim
theorem jl{h:Heap}{U:Addr->Prop}{v:Value}{l:List V}{k:List Int}(r:a_ h U v (.bZ l))(e:dN l=some k):∃a aq n,v=.ref a/\¬U a/\IsT h a aq n/\IntsAre aq.toList k:=by
 obtain⟨a,aq,n,rfl,u,e1,r1⟩:=eD r
 exact⟨a,aq,n,rfl,u,e1,r1.ints e⟩
theorem CZ{α:Type}{h:Heap}{U:Addr->Prop}{u v:Value}{x y:V}{z:α}{f:Int->Int->Option α}{G:Value->Value->Prop}(ru:a_ h U u x)(rv:a_ h U v y)(e:(fQ x λa=>fQ y (f a))=some z)(H:∀a b t t',f a b=some z->G (.int a t) (.int b t')):G u v:=
 d_ (P:=λx=>a_ h U u x->G u v) e (λa e ru=>d_ (P:=λy=>a_ h U v y->G u v) e (λb e rv=>rv.f7 λt'=>ru.f7 λt=>H a b t t' e) rv) ru
theorem nh{α:Type}{h:Heap}{U:Addr->Prop}{v:Value}{y:V}{z:α}{f:List V->Option α}{G:Prop}(rv:a_ h U v y)(e:oT y f=some z)(H:∀m,a_ h U v (.bZ m)->f m=some z->G):G:=
 gS (P:=λy=>a_ h U v y->G) e (λm e rv=>H m rv e) rv
noncomputable def Yj:Ha->Operator
 |.add=>.Add
 |.sub=>.Sub
 |.mul=>.Mult
 |.fdiv=>.FloorDiv
 |.mod=>.Mod
 |.pow=>.Pow
theorem AV{a:Int}(h:Nat.ble (Nat.log2 a.natAbs) 8100=true)(b:Int):Builtin.divisionGoesByPylong b a=false:=by
 have:=aX h
 unfold Builtin.divisionGoesByPylong
 dsimp only
 rw[Bool.and_eq_false_iff]
 refine .inl (b9 ?_)
 split
 ·decide
 ·exact Nat.not_lt.mpr (ae (aL (Nat.div_le_div_right this)) (by decide))
theorem L4{l:List V}{aq:Array Value}(r:cw s.heap (cf J fr) aq.toList l)(h:aq.isEmpty=true):l=[]:=List.eq_nil_of_length_eq_zero (r.size.symm.trans (Array.isEmpty_iff_size_eq_zero.mp h))
theorem AW(I:dR X fr s.heap J){u v:Value}{l m:List V}(ru:a_ s.heap (cf J fr) u (.bZ l))(rv:a_ s.heap (cf J fr) v (.bZ m))(hm:l.length+m.length<=1000)(q:Q (.bZ (l++m)) J):wpAny (model S w) A (binaryOp .Add u v) (cO X fr s J Q) E s:=by
 obtain⟨a,aq,n,rfl,ua,ea,ra⟩:=eD ru
 obtain⟨b,qy,n2,rfl,ub,eb,rb⟩:=eD rv
 have ta:s.TypeIs (.ref a) "tuple":=⟨_,ea,rfl⟩
 have tb:s.TypeIs (.ref b) "tuple":=⟨_,eb,rfl⟩
 by_cases h1:aq.isEmpty=true
 ·rw[L4 ra h1]at q
  exact concat_meets ta tb noFill_tuple_add seq_tuple_add F.slot_tuple_add F.entry_tuple_add (F.args_tuple_add_2 _ _) (AutoSeq1.tuple___add___tuple_tuple_0 a aq n b qy n2 h1) ⟨ea,eb,fE I rv q⟩
 ·by_cases h2:qy.isEmpty=true
  ·rw[L4 rb h2,bD]at q
   exact concat_meets ta tb noFill_tuple_add seq_tuple_add F.slot_tuple_add F.entry_tuple_add (F.args_tuple_add_2 _ _) (AutoSeq1.tuple___add___tuple_tuple_1 a aq n b qy n2 h1 h2) ⟨ea,eb,fE I ru q⟩
  ·exact P.add_tuple ea eb h1 h2 (gZ (tk:=s.toks) I (by rw[Array.toList_append];exact cw.append rb ra) q) (by rw[ra.size,rb.size];exact ae hm (by decide))
theorem AX(I:dR X fr s.heap J){u:Value}{l:List V}{n':Int}{t:Tok}(ru:a_ s.heap (cf J fr) u (.bZ l))(h0:0<=n')(OM:n'<=1000)(hl:l.length<=1000)(q:Q (.bZ (List.replicate n'.toNat l).flatten) J):wpAny (model S w) A (binaryOp .Mult u (.int n' t)) (cO X fr s J Q) E s:=by
 obtain⟨a,aq,n,rfl,ua,ea,ra⟩:=eD ru
 have ta:s.TypeIs (.ref a) "tuple":=⟨_,ea,rfl⟩
 have la:=ra.size
 refine wpAny_binaryOp_repeat_ref (T:="tuple") (U:="int") (by decide) ta (λs'=>typeIs_int s' _ t) qz F.fills_int_mul F.slot_int_rmul xo F.slot_int_index.lookup
  (call_meets F.slot_int_rmul (typeIs_int s _ t) F.entry_int_rmul (F.args_int_rmul_2 _ _) (tH _ t a aq n) ⟨ea,rfl,ta,?_⟩)
 refine bR F.slot_tuple_mul ta F.entry_tuple_mul ?_ (F.args_tuple_mul_2 _ _)
 show wpAny _ _ (asIndex (.int n' t)>>=_) _ _ s
 refine aa (aj ?_)
 rw[ah (by simp;exact⟨Int.le_trans (by decide) h0,Int.lt_of_le_of_lt OM (by decide)⟩)]
 refine aa (wpAny_tupleItemsOf ea rfl ?_)
 by_cases h1:(aq.isEmpty||n'==1)=true
 ·rw[ai h1]
  unfold Builtin.Tuple.tupleIsExact
  refine aa (aa (wpAny_typeOf ta (aj ?_)))
  rw[ai (by decide)]
  refine aa (wpAny_rule (aa (aj (aj ⟨_,rfl,fE I ru ?_⟩))))
  rcases(Bool.or_eq_true_iff ..).mp h1 with h|h
  ·rw[L4 ra h,List.flatten_replicate_nil]at q
   rwa[L4 ra h]
  ·obtain rfl:n'=1:=bt h
   rwa[show(1:Int).toNat=1 from rfl,List.replicate_one,List.flatten_singleton]at q
 ·rw[ah h1]
  by_cases h2:(decide (n'<=0)||aq.isEmpty)=true
  ·rw[ai h2]
   have hz:n'.toNat=0:=by
    rcases(Bool.or_eq_true_iff ..).mp h2 with h2|h2
    ·exact Int.toNat_of_nonpos (bh h2)
    ·exact aG ((Bool.or_eq_true_iff ..).mpr (.inl h2)) h1
   rw[hz]at q
   exact aa (cZ (aa (aj (aj ⟨_,rfl,gZ (tk:=s.toks) I (aq:=#[]) .nil q⟩))) (bK _))
  ·rw[ah h2]
   have hbound:n'.toNat*aq.size<=1000000:=bE (Int.toNat_le.mpr OM) (la▸hl:aq.size<=1000)
   have yQ:(aq.size:Int)*n'<=1000000:=by
    have:=cJ.mpr hbound
    rw[Int.natCast_mul,Int.toNat_of_nonneg h0,Int.mul_comm]at this
    exact this
   rw[ah (cc.mpr (Int.le_trans yQ (by decide)))]
   rw[ah (c:=Builtin.Tuple.tupleTooMany (aq.size*n')=true) (λh=>aG (bh h) (cc.mpr (Int.le_trans yQ (show(1000000:Int)<=(sizeLine:Int) by decide))))]
   have Yk:=kA aq n'.toNat #[]
   rw[cq]at Yk
   have Qk:∀m:Nat,cw s.heap (cf J fr) (List.replicate m aq.toList).flatten (List.replicate m l).flatten:=λm=>by
    induction m with
    |zero=>exact .nil
    |succ m ih=>exact cw.append ih ra
   refine aa (cZ (aa (aj (aj ⟨_,rfl,?_⟩))) ?_)
   ·show((List.replicate n'.toNat aq).foldl (λx y=>x++y) #[]).size<=sizeLine
    rw[<-aV,Yk,List.length_flatten,List.map_replicate,List.sum_replicate_nat,aV]
    exact ae hbound (by decide)
   ·exact gZ (tk:=s.toks) I (by rw[Yk];exact Qk _) q
theorem Ql{k:Nat}(ak:h_ k A)(I:dR X fr s.heap J){o:Ha}{u v:Value}{x y z:V}(ru:a_ s.heap (cf J fr) u x)(rv:a_ s.heap (cf J fr) v y)(e:ig o x y=some z)(q:Q z J):
  wpAny (model S w) A (binaryOp (Yj o) u v) (cO X fr s J Q) E s:=by
 have ii:∀{f:Int->Int->Option V} {o:Operator},(fQ x λa=>fQ y (f a))=some z->(∀a b t t',f a b=some z->wpAny (model S w) A (binaryOp o (.int a t) (.int b t')) (cO X fr s J Q) E s)->wpAny (model S w) A (binaryOp o u v) (cO X fr s J Q) E s:=
  λe H=>CZ (G:=λu v=>wpAny (model S w) A (binaryOp _ u v) (cO X fr s J Q) E s) ru rv e H
 have it:∀{f:Int->Option V} {g:List V->Option V} {R:Prop},S4 x f g=some z->(fQ x f=some z->R)->(∀l,a_ s.heap (cf J fr) u (.bZ l)->g l=some z->R)->R:=
  λ{f g R} e H1 H2=>xd (P:=λx=>a_ s.heap (cf J fr) u x->(fQ x f=some z->R)->R) e (λa e Z H=>H e) (λl e ru Z=>H2 l ru e) ru H1
 cases o with
 |add=>exact it e (λe=>ii e λa b t t' e=>by cases e;exact add_int (fx I q)) λl ru e=>nh rv e λm rv e=>qr e λhm e=>by cases e;exact AW I ru rv hm q
 |sub=>exact ii e λa b t t' e=>by cases e;exact sub_int (fx I q)
 |mul=>
  exact it e (λe=>ii e λa b t t' e=>qr e λhm e=>by cases e;exact an hm λh1 h2=>mul_int (fx I q) (IntMulOk.of_bits (yP h1) (yP h2))) λl ru e=>
   d_ (P:=λy=>a_ s.heap (cf J fr) v y->wpAny (model S w) A (binaryOp .Mult u v) (cO X fr s J Q) E s) e (λn e rv=>qr e λhm e=>by
    cases e
    exact vo hm λh1 h2 h3=>rv.f7 λt=>AX I ru (ku h1).1 (Int.toNat_le.mp (aX h2)) (aX h3) q) rv
 |fdiv=>exact ii e λa b t t' e=>qr e λhm e=>by cases e;exact an hm λh1 h2=>an h1 λh1 Z=>floordiv_int (bne_iff_ne.mp h1) (fx I q) (.inl (AV h2 _))
 |mod=>exact ii e λa b t t' e=>qr e λhm e=>by cases e;exact mod_int' (bne_iff_ne.mp hm) (fx I q)
 |pow=>exact ii e λa b t t' e=>qr e λhm e=>by
                                  cases e
                                  exact vo hm λh1 h2 h3=>pow_int_small (ku h1).1 (Int.le_trans (Int.toNat_le.mp (aX h2)) (by decide)) (aB (aX h3) (by decide)) (fx I q)
end
theorem ET(n:Nat)(k:List Int):∀m:List Int,sC (iS n) (k.map .int) (m.map .int)=some (decide (k=m)):=by
 induction k with
 |nil=>exactλm=>by cases m<;>rfl
 |cons i k ih=>
  exactλm=>by
   cases m with
   |nil=>rfl
   |cons j m=>
    show oS (iS n (.int i) (.int j)) (λb=>oS (sC (iS n) (k.map .int) (m.map .int)) λc=>some (b&&c))=_
    rw[show iS n (.int i) (.int j)=some (i==j) by cases n<;>rfl,ih]
    show some ((i==j)&&decide (k=m))=_
    by_cases h1:i=j<;>by_cases h2:k=m<;>simp[h1,h2]
noncomputable def yR:Value->Option Int
 |.int i _=>some i
 |_=>none
noncomputable def oZ:List Value->Option (List Int)
 |[]=>some []
 |v::r=>oS (yR v) λi=>oS (oZ r) λk=>some (i::k)
theorem AY{vs:List Value}{k:List Int}(i:IntsAre vs k):oZ vs=some k:=by
 induction i with
 |nil=>rfl
 |cons n t r ih=>show oS (oZ _) (λk=>some (n::k))=_;rw[ih];rfl
noncomputable def ON:Data->List Value
 |.seq aq _=>aq.toList
 |_=>[]
def o6(h:Heap):Value->Option (List Int)
 |.ref a=>oS (h.get? a) λo=>oZ (ON o.data)
 |_=>none
theorem tJ{h:Heap}{U:Addr->Prop}{v:Value}{l:List V}{k:List Int}(r:a_ h U v (.bZ l))(e:dN l=some k):o6 h v=some k:=by
 obtain⟨a,aq,n,rfl,u,e1,i⟩:=jl r e
 show oS (h.get? a) (λo=>oZ (ON o.data))=_
 rw[e1]
 exact AY i
section
variable{h:Heap}{U:Addr->Prop}
theorem AZ{xs:List V}:∀{vs:List Value} {m:aM},cw h U vs xs->ox xs=some m->∀v∈vs,∃l k,a_ h U v (.bZ l)/\dN l=some k:=by
 induction xs with
 |nil=>exactλr Z=>r.dD λZ hv=>(a7 hv).elim
 |cons x xs ih=>
  exactλ{vs m} r e=>r.cN λv vs a r=>nh a e λl a e=>eM e λk hk e=>eM e λm' hm e w hw=>by
   rcases au.mp hw with rfl|hw
   ·exact⟨l,k,a,hk⟩
   ·exact ih r hm w hw
theorem A1{k:List Int}{xs:List V}:∀{vs:List Value} {m:aM},cw h U vs xs->ox xs=some m->(vs.any λv=>decide (o6 h v=some k))=m.contains k:=by
 induction xs with
 |nil=>exactλr e=>by cases e;exact r.dD rfl
 |cons x xs ih=>
  exactλ{vs m} r e=>r.cN λv vs a r=>nh a e λl a e=>eM e λk' hk e=>eM e λm' hm e=>by
   cases e
   rw[List.any_cons,ih r hm,tJ a hk,List.contains_cons]
   refine ao (·||m'.contains k) ?_
   rw[Bool.eq_iff_iff,decide_eq_true_eq,beq_iff_eq,Option.some.injEq]
   exact⟨Eq.symm,Eq.symm⟩
theorem Hp{i:Int}{vs:List Value}{k:List Int}(r:IntsAre vs k):(vs.any λv=>decide (yR v=some i))=k.contains i:=by
 induction r with
 |nil=>rfl
 |cons n t r ih=>
  rw[List.any_cons,ih,List.contains_cons]
  refine ao (·||_) ?_
  rw[Bool.eq_iff_iff,decide_eq_true_eq,beq_iff_eq]
  exact⟨λh=>(aW h).symm,λh=>ao some h.symm⟩
theorem Hq{vs:List Value}{k:List Int}(r:IntsAre vs k):∀v∈vs,∃n t,v=.int n t:=by
 induction r with
 |nil=>exactλZ hv=>(a7 hv).elim
 |cons n t r ih=>exactλv hv=>(au.mp hv).elim (λe=>⟨n,t,e⟩) (ih v)
end
section
variable{S:Program}{w:World}{A:Around}{E:Value->Shared->Prop}{s:Shared}{X:Heap}{fr:Addr->Prop}{J:St}{Q:V->St->Prop}
noncomputable def Xz:GP->CmpOp
 |.eq=>.Eq
 |.ne=>.NotEq
 |.lt=>.Lt
 |.gt=>.Gt
 |.ge=>.GtE
 |.GQ=>.Is
 |.EJ=>.IsNot
 |.CT=>.In
 |.n7=>.NotIn
theorem Hr{U:Addr->Prop}(hu:A.units+6<cLine){u:Value}{x:V}{aq:Array Value}{l:List V}{b:Bool}(ru:a_ s.heap U u x)(rl:cw s.heap U aq.toList l)(e:S5 x l=some b):
  ∃e:Value->Bool,(∀y,y∈aq->EqAt A.in1 s y u (e y))/\aq.any e=b:=by
 have hu1:A.in1.units+5<cLine:=hu
 refine xd (P:=λx=>a_ s.heap U u x->∃e:Value->Bool,(∀y,y∈aq->EqAt A.in1 s y u (e y))/\aq.any e=b) e (λi e ru=>eM e λk hk e=>?_) (λks e ru=>eM e λk hk e=>eM e λm hm e=>?_) ru
 ·cases e
  have hi:=rl.ints hk
  refine⟨λv=>decide (yR v=some i),λy hy=>?_,(Array.any_toList).symm.trans (Hp hi)⟩
  obtain⟨n,t',rfl⟩:=Hq hi y (Array.mem_toList_iff.mpr hy)
  have:decide (yR (.int n t')=some i)=(n==i):=by
   rw[Bool.eq_iff_iff,decide_eq_true_eq,beq_iff_eq]
   exact⟨aW,ao some⟩
  show EqAt A.in1 s _ u (decide (yR (.int n t')=some i))
  rw[this]
  exact ru.f7 λt=>EqAt.int_int _ _ _ _
 ·cases e
  refine⟨λv=>decide (o6 s.heap v=some k),λy hy=>?_,(Array.any_toList).symm.trans (A1 rl hm)⟩
  obtain⟨l',k',r',GS⟩:=AZ rl hm y (Array.mem_toList_iff.mpr hy)
  have hq:iS 5 (.bZ l') (.bZ ks)=some (decide (k'=k)):=by
   rw[yN GS,yN hk];exact ET 4 k' k
  have:decide (o6 s.heap y=some k)=decide (k'=k):=by
   rw[tJ r' GS]
   exact decide_eq_decide.mpr ⟨aW,ao some⟩
  show EqAt A.in1 s y u (decide (o6 s.heap y=some k))
  rw[this]
  exact(tG 5 A.in1 _ _ _ _ _ hu1 r' ru hq).2
theorem Hs{k:Nat}(ak:h_ k A)(I:dR X fr s.heap J){u v:Value}{x y:V}{l:List V}{b:Bool}(ru:a_ s.heap (cf J fr) u x)(rv:a_ s.heap (cf J fr) v y)(hv:b6 J y=some (.a9 l))(e:S5 x l=some b)(q:Q (.bool (!b)) J):
  wpAny (model S w) A (compareOp .NotIn u v) (cO X fr s J Q) E s:=by
 have hu:A.units+6<cLine:=ak.rm (by decide)
 obtain⟨a,aq,n,rfl,hl,rl⟩:=eE I rv hv
 obtain⟨g,h1,h2⟩:=Hr (A:=A) hu ru rl e
 exact SeqAt.notIn_listAt g (IsL.a9 hl) h1 (by rw[h2];exact fc I q)
theorem vW(S:Program)(w:World){h:Heap}{U:Addr->Prop}{d:Addr}{es:Array DictEntry}{n:Nat}{xs:List (List Int×Addr×Value)}{l:aN}
  (hd:h.get? d=some {cls:=.type "dict",data:=.dict es n}) (ke:es.toList=xs.map ic) (rd:et h U xs l) (nd:(l.map (·.1)).Nodup):h.DictOfH (tupleKind (intKind S w)) d xs:=
 ⟨_,es,n,hd,⟨rfl,rfl,rfl⟩,rfl,ke,rd.xj S w,by rw[rd.keys];exact nd⟩
theorem et.aY{h:Heap}{U:Addr->Prop}{xs:List (List Int×Addr×Value)}{l:aN}(rd:et h U xs l)(nd:(l.map (·.1)).Nodup)(k:List Int):
  (dp l k=none/\atKey xs k=none)\/∃(p:Addr×Value) (x:V),dp l k=some x/\atKey xs k=some p/\a_ h U p.2 x:=by
 rcases rd.at (k:=k)with⟨g1,g2⟩|⟨j,p,x',g1,g2,g3⟩
 ·exact .inl ⟨g1,atKey_none_of_get g2⟩
 ·exact .inr ⟨p,x',g1,atKey_of_get (by rw[rd.keys];exact nd) g2,g3⟩
theorem Uh{k:Nat}(ak:h_ k A)(I:dR X fr s.heap J){u v:Value}{x y:V}{b:Bool}(ru:a_ s.heap (cf J fr) u x)(rv:a_ s.heap (cf J fr) v y)(e:Xw J x y=some b)(q:Q (.bool b) J):
  wpAny (model S w) A (compareOp .In u v) (cO X fr s J Q) E s:=by
 have hu:A.units+6<cLine:=ak.rm (by decide)
 refine gg e (λl hv e=>?_) (λl hv e=>?_) λl hv e=>nh ru e λks ru e=>eM e λk hk e=>?_
 ·obtain⟨a,aq,n,rfl,hl,rl⟩:=eE I rv hv
  obtain⟨g,h1,h2⟩:=Hr (A:=A) hu ru rl e
  exact SeqAt.in_listAt g (IsL.a9 hl) h1 (by rw[h2];exact fc I q)
 ·obtain⟨a,aq,n,rfl,hl,rl,rfl⟩:=jB I rv hv
  obtain⟨g,h1,h2⟩:=Hr (A:=A) hu ru rl e
  exact SeqAt.in_tupleAt g (IsT.bZ hl) h1 (by rw[h2];exact fc I q)
 ·obtain⟨d,es,n,xs,rfl,hs,hd,ke,rd,nd⟩:=kD I rv hv
  cases e
  obtain⟨a,aq,m,rfl,ua,ea,ia⟩:=jl ru hk
  have yS:(tupleKind (intKind S w)).room A.in1:=ak.rm (m:=1) (by decide)
  have Yl:(atKey xs k).isSome=(dp l k).isSome:=by
   rcases rd.aY nd k with⟨g1,g2⟩|⟨p,x',g1,g2,g3⟩<;>rw[g1,g2]<;>rfl
  exact wpAny_in_heap yS (n_ S w ea ia) hs (vW S w hd ke rd nd) ⟨_,J,(Pe.refl I).toks _,.bool _,by rw[Yl];exact q⟩
theorem yT{h:Heap}{U:Addr->Prop}{u:Value}{x:V}(r:a_ h U u x):(u==Value.none)=Hc x:=by
 cases x with
 |none=>exact r.oR rfl
 |bool b=>exact r.ie rfl
 |int i=>exact r.f7 λZ=>rfl
 |str s=>exact r.AM λZ=>rfl
 |ref a=>exact r.AN rfl
 |bZ l=>exact r.ot λZ Z Z Z Z Z=>rfl
 |a9 l=>exact r.tx λZ Z Z Z Z=>rfl
 |bC l=>exact r.tA λZ Z Z Z Z Z=>rfl
theorem Qm{k:Nat}(ak:h_ k A)(I:dR X fr s.heap J){u v:Value}{l m:List V}{c:Bool}(ru:a_ s.heap (cf J fr) u (.bZ l))(rv:a_ s.heap (cf J fr) v (.bZ m))(e:iS 5 (.bZ l) (.bZ m)=some c)(q:Q (.bool (!c)) J):
  wpAny (model S w) A (compareOp .NotEq u v) (cO X fr s J Q) E s:=by
 obtain⟨a,aq,n,rfl,ua,ea,ra⟩:=eD ru
 obtain⟨a',mz,n',rfl,ua',ea',ra'⟩:=eD rv
 have S7:A.in1.units+4<cLine:=ak.rm (m:=5) (by decide)
 obtain⟨g,h1,h2⟩:=xl (A:=A.in1) (λv x w y b p q e=>(tG 4 _ v x w y b S7 p q e).2) ra ra' e
 have:=RcNeAt.tuples (A:=A) (s:=s) (e:=g) (IsT.bZ ea) (IsT.bZ ea') ak.Hg (Yi h1)
 rw[aV,aV]at h2
 rw[h2]at this
 exact this S w _ _ (fc I q)
theorem Ht{k:Nat}(ak:h_ k A)(I:dR X fr s.heap J){o:GP}{u v:Value}{x y:V}{b:Bool}(ru:a_ s.heap (cf J fr) u x)(rv:a_ s.heap (cf J fr) v y)(e:iG J o x y=some b)(q:Q (.bool b) J):
  wpAny (model S w) A (compareOp (Xz o) u v) (cO X fr s J Q) E s:=by
 have hu:A.units+5<cLine:=ak.rm (by decide)
 cases o with
 |eq=>exact(tG 5 A _ _ _ _ _ hu ru rv e).1 S w _ _ (fc I q)
 |ne=>
  cases x with
  |int a=>exact d_ (P:=λy=>a_ s.heap (cf J fr) v y->wpAny (model S w) A (compareOp .NotEq u v) (cO X fr s J Q) E s) e (λc e rv=>by cases e;exact rv.f7 λt'=>ru.f7 λt=>RcNeAt.int_int _ _ _ _ S w _ _ (fc I q)) rv
  |bool a=>exact oU (P:=λy=>a_ s.heap (cf J fr) v y->wpAny (model S w) A (compareOp .NotEq u v) (cO X fr s J Q) E s) e (λc e rv=>by cases e;exact rv.ie (ru.ie (RcNeAt.bool_bool _ _ S w _ _ (fc I q)))) rv
  |bZ a=>exact nh rv e λm rv e=>eM e λc hc e=>by cases e;exact Qm ak I ru rv hc q
  |_=>exact nn e
 |lt=>exact AU true 5 A _ _ _ _ _ hu ru rv e S w _ _ (fc I q)
 |gt=>exact AU false 5 A _ _ _ _ _ hu ru rv e S w _ _ (fc I q)
 |ge=>exact CZ (G:=λu v=>wpAny (model S w) A (compareOp .GtE u v) (cO X fr s J Q) E s) ru rv e λa b t t' e=>by cases e;exact ge_int (fc I q)
 |GQ=>exact oV (P:=λy=>a_ s.heap (cf J fr) v y->wpAny (model S w) A (compareOp .Is u v) (cO X fr s J Q) E s) e (λe rv=>by cases e;exact rv.oR (is_none (by rw[yT ru];exact fc I q))) rv
 |EJ=>exact oV (P:=λy=>a_ s.heap (cf J fr) v y->wpAny (model S w) A (compareOp .IsNot u v) (cO X fr s J Q) E s) e (λe rv=>by cases e;exact rv.oR (isNot_none (by rw[yT ru];exact fc I q))) rv
 |CT=>exact Uh ak I ru rv e q
 |n7=>exact gg e (λl hv e=>eM e λc hc e=>by cases e;exact Hs ak I ru rv hv hc q) (λZ Z e=>nn e) λZ Z e=>nn e
end
theorem xp(aq:Array Value)(a m:Nat):(List.range m).filterMap (λ(k:Nat)=>aq[((a:Int)+(k:Int)*1).toNat]?)=(aq.toList.drop a).take m:=by
 rw[show(λ(k:Nat)=>aq[((a:Int)+(k:Int)*1).toNat]?)=(λx=>aq[x]?)∘(λx=>a+x)from funext λk=>by rw[Int.mul_one];rfl,<-List.filterMap_map]
 exact pick_run aq a m
theorem yU(aq:Array Value):(List.range aq.size).filterMap (λ(k:Nat)=>aq[((0:Int)+(k:Int)*1).toNat]?)=aq.toList:=
 (xp aq 0 aq.size).trans (List.take_of_length_le (bc aq.size))
theorem EU(aq:Array Value)(m:Nat):(List.range m).filterMap (λ(k:Nat)=>aq[((0:Int)+(k:Int)*1).toNat]?)=aq.toList.take m:=xp aq 0 m
theorem EV(aq:Array Value)(a:Nat):(List.range (aq.size- a)).filterMap (λ(k:Nat)=>aq[((a:Int)+(k:Int)*1).toNat]?)=aq.toList.drop a:=
 (xp aq a _).trans (List.take_of_length_le (aP List.length_drop))
theorem Hu(aq:Array Value):(List.range aq.size).filterMap (λ(k:Nat)=>aq[((aq.size:Int)- 1+(k:Int)* -1).toNat]?)=aq.toList.reverse:=by
 rw[show(λ(k:Nat)=>aq[((aq.size:Int)- 1+(k:Int)* -1).toNat]?)=(λx=>aq[x]?)∘(λx=>0+aq.size- 1- x)from funext λk=>by
  show _=aq[0+aq.size- 1- k]?
  rw[Int.mul_neg,Int.mul_one,<-Int.sub_eq_add_neg,Int.sub_sub,bS,Nat.sub_sub]
  exact ao (aq[·]?) (Int.toNat_sub aq.size (1+k)),<-List.filterMap_map,<-List.reverse_range',List.filterMap_reverse,<-List.range_eq_range']
 refine ao List.reverse (Eq.trans ?_ (yU aq))
 exact ao (λf=>List.filterMap f (List.range aq.size)) (funext λk=>by rw[bU,Int.mul_one];rfl)
section
variable{S:Program}{w:World}{A:Around}{E:Value->Shared->Prop}{s:Shared}
theorem ni{value slice:Expr}{o i:Value}{T id:String}{ops:List Value}{Q:Value->Shared->Prop}(hT:s.TypeIs o T)
  (hl:typeLookup (.type T) "__getitem__"=pure (some (.builtin id))) (h:wpAny (model S w) A (getItem o i) Q E s)
  (hs:subscripted slice false o i=operate ops (getItem o i)):
  wpAny (model S w) A (subscriptTail value slice o i) Q E s:=by
 unfold subscriptTail
 refine aa ?_
 rw[getitemInPython_of_ne hT.not_modules]
 refine aa (wpAny_specialOf hT hl ?_)
 have fin:wpAny (model S w) A (subscripted slice false o i) (λr gU=>wpAny (model S w) A (letTemporaryGo value o r>>=λZ=>pure r) Q E gU) E s:=by
  rw[hs]
  exact wpAny_operating (ay h (λr gU gB=>aa (wpAny_letTemporaryGo (aj gB))) λZ Z x=>x)
 first
  |exact aj (aa fin)
  |exact aa (aj (aa fin))
  |exact aa fin
theorem k8{v:Value}{p:Option Int}{Q:Option Int->Shared->Prop}(hp:IsPart v p)(h:Q p s):wpAny (model S w) A (Builtin.Slice.slicePartIndex v) Q E s:=by
 cases hp with
 |none=>exact slicePart_none h
 |int i t=>exact slicePart_int h
theorem sE{sl:Addr}{va vb vc:Value}{a b c:Option Int}{n:Int}{Q:Int×Int×Nat->Shared->Prop}(hs:s.heap.IsSliceOf sl va vb vc)(pa:IsPart va a)(pb:IsPart vb b)(pc:IsPart vc c)(h0:c.getD 1≠0)
  (h:Q ((Builtin.Slice.sliceAdjust a b (c.getD 1) n).1,c.getD 1,Builtin.Slice.slicePlaces (Builtin.Slice.sliceAdjust a b (c.getD 1) n).1 (Builtin.Slice.sliceAdjust a b (c.getD 1) n).2 (c.getD 1)) s):
  wpAny (model S w) A (Builtin.Slice.sliceApplied (.ref sl) (pure n)) Q E s:=by
 obtain⟨os,Ui,mn,S8⟩:=id hs
 unfold Builtin.Slice.sliceApplied Builtin.Slice.sliceFields
 refine aa (aa (c_ Ui S8 (x:=va) rfl (aa (c_ Ui S8 (x:=vb) rfl (aa (c_ Ui S8 (x:=vc) rfl (aj ?_)))))))
 refine aa (k8 pc ?_)
 rw[ah (by simpa using h0)]
 exact aa (k8 pa (aa (k8 pb (aa (aj (aj h))))))
theorem iJ{t sl:Addr}{aq:Array Value}{n:Nat}{va vb vc:Value}{a b c:Option Int}{Q:Value->Shared->Prop}(ht:IsT s.heap t aq n)(hs:s.heap.IsSliceOf sl va vb vc)(pa:IsPart va a)(pb:IsPart vb b)(pc:IsPart vc c)
  (h0:c.getD 1≠0) {lo:Int} {m:Nat} (Ym:(Builtin.Slice.sliceAdjust a b (c.getD 1) (aq.size:Int)).1=lo)
  (s7:Builtin.Slice.slicePlaces lo (Builtin.Slice.sliceAdjust a b (c.getD 1) (aq.size:Int)).2 (c.getD 1)=m) {out:List Value}
  (Uj:(List.range m).filterMap (λ(k:Nat)=>aq[(lo+(k:Int)*c.getD 1).toNat]?)=out) (fR:out.length<=aq.size) (ml:aq.size<=sizeLine)
  (hw:out=aq.toList->Q (.ref t) s) (hn:Q (.ref s.heap.objs.size) {s with heap:=s.heap.push {cls:=.type "tuple",data:=.seq out.toArray}}):
  wpAny (model S w) A (getItem (.ref t) (.ref sl)) Q E s:=by
 obtain⟨os,Ui,mn,S8⟩:=id hs
 have S9:s.TypeIs (.ref sl) "slice":=⟨os,Ui,mn⟩
 have hT:s.TypeIs (.ref t) "tuple":=⟨_,ht,rfl⟩
 unfold getItem
 try with_reducible refine b7 ?_
 first|refine aa (aj ?_)|skip
 refine aa (wpAny_sequenceKey hT (by decide) ?_)
 refine aa (wpAny_callSpecial?_slot (name:=Str.ofString "__getitem__") hT slot_tuple_getitem
  (bR slot_tuple_getitem hT entry_tuple_getitem ?_ (args_tuple_getitem _ _)))
 show wpAny _ _ (Builtin.Tuple.tupleItemsOf (.ref t)>>=_) _ _ s
 refine aa (wpAny_tupleItemsOf ht rfl ?_)
 refine aa (wpAny_typeOf S9 ?_)
 rw[ai (by decide)]
 refine aa (sE hs pa pb pc h0 ?_)
 rw[Ym,s7]
 show wpAny _ _ (if(lo==0&&c.getD 1==1&&m==aq.size)=true then _ else _) _ _ s
 by_cases Yn:(lo==0&&c.getD 1==1&&m==aq.size)=true
 ·rw[ai Yn]
  have e1:=cK.mp Yn
  have e2:=cK.mp e1.1
  have h0:=bt e2.1
  have h1:=bt e2.2
  have h2:=bt e1.2
  subst h0 h2
  unfold Builtin.Tuple.tupleIsExact
  refine aa (aa (wpAny_typeOf hT (aj ?_)))
  rw[ai (by decide)]
  refine aa (wpAny_rule (aa (aj (aj ⟨_,rfl,aj (hw ?_)⟩))))
  rw[<-Uj,h1]
  exact yU aq
 ·rw[ah Yn,Uj]
  have AB:sizeOk (.seq out.toArray):=ae (aP List.size_toArray) (ae fR ml)
  first
   |exact aa (m:=Builtin.Tuple.tupleExact _) (cZ (aj ⟨_,rfl,aj hn⟩) AB)
   |exact aa (m:=Builtin.Tuple.tupleExact _) (cZ (aa (aj (aj ⟨_,rfl,aj hn⟩))) AB)
   |exact aa (aa (m:=Builtin.Tuple.tupleExact _) (cZ (aj (aj ⟨_,rfl,aj hn⟩)) AB))
   |exact aa (aa (m:=Builtin.Tuple.tupleExact _) (cZ (aj ⟨_,rfl,aj hn⟩) AB))
end
section
variable{S:Program}{w:World}{A:Around}{E:Value->Shared->Prop}{s:Shared}{X:Heap}{fr:Addr->Prop}{J:St}{Q:V->St->Prop}
theorem Hw{aq:Array Value}{i:Nat}{v:Value}(h:aq[i]?=some v):i<aq.size:=(Array.getElem?_eq_some_iff.mp h).1
theorem rG{i:Int}{n:Nat}(h0:0<=i)(h:i.toNat<n):seqIndex? i n=some i.toNat:=by
 unfold seqIndex?
 rw[ah (cc.mpr h0),ai (cK.mpr ⟨bF h0,bF (Int.lt_of_toNat_lt h)⟩)]
theorem Qn{k:Nat}(ak:h_ k A)(I:dR X fr s.heap J){value slice:Expr}{u v:Value}{x y z:V}(ru:a_ s.heap (cf J fr) u x)(rv:a_ s.heap (cf J fr) v y)(e:iT J x y=some z)(q:Q z J)
  (hs:∀o i,subscripted slice false o i=operate [o,i] (getItem o i)):
  wpAny (model S w) A (subscriptTail value slice u v) (cO X fr s J Q) E s:=by
 have ix:∀{u:Value} {aq:Array Value} {l:List V},cw s.heap (cf J fr) aq.toList l->(fQ y λi=>if AO i then l[i.toNat]? else none)=some z->(∀i t v',0<=i->i<2^60->aq[i.toNat]?=some v'->a_ s.heap (cf J fr) v' z->wpAny (model S w) A (subscriptTail value slice u (.int i t)) (cO X fr s J Q) E s)->wpAny (model S w) A (subscriptTail value slice u v) (cO X fr s J Q) E s:=
  λ{u aq l} rl e H=>d_ (P:=λy=>a_ s.heap (cf J fr) v y->wpAny (model S w) A (subscriptTail value slice u v) (cO X fr s J Q) E s) e (λi e rv=>qr e λhi e=>rv.f7 λt=>by
   obtain⟨v',GU,Uk⟩:=rl.get e
   rw[bk]at GU
   exact H i t v' (ku hi).1 (ku hi).2 GU Uk) rv
 refine gg e (λl hv e=>?_) (λl hv e=>?_) λl hv e=>nh rv e λks rv e=>eM e λk hk e=>?_
 ·obtain⟨a,aq,n,rfl,hl,rl⟩:=eE I ru hv
  exact ix rl e λi t v' h0 h1 hv Uk=>ni ⟨_,hl,rfl⟩ slot_list_getitem.lookup (wpAny_getItem_list (IsL.a9 hl) h0 (Int.lt_trans h1 (by decide)) hv (fE I Uk q)) (hs _ _)
 ·obtain⟨a,aq,n,rfl,hl,rl,rfl⟩:=jB I ru hv
  exact ix rl e λi t v' h0 h1 hv Uk=>ni ⟨_,hl,rfl⟩ slot_tuple_getitem.lookup (PyProof.Rows.getItem_tuple (IsT.bZ hl) (Int.le_trans (by decide) h0) (Int.lt_trans h1 (by decide)) (rG h0 (Hw hv)) hv (fE I Uk q)) (hs _ _)
 ·obtain⟨d,es,n,xs,rfl,hsy,hd,ke,rd,nd⟩:=kD I ru hv
  obtain⟨a,aq,m,rfl,ua,ea,ia⟩:=jl rv hk
  have yS:(tupleKind (intKind S w)).room A.in1:=ak.rm (m:=1) (by decide)
  rcases rd.aY nd k with⟨g1,g2⟩|⟨p,x',g1,g2,g3⟩
  ·rw[g1]at e;exact nn e
  ·rw[g1]at e;cases e
   exact ni ⟨_,hd,rfl⟩ slot_dict_getitem.lookup (wpAny_getItem_heap yS (n_ S w ea ia) (vW S w hd ke rd nd) g2 ⟨_,J,(Pe.refl I).toks _,g3,q⟩) (hs _ _)
theorem C0(a b:Nat):Builtin.Slice.slicePlaces a b 1=b- a:=by
 show(if(1:Int)>0 then(if(a:Int)<b then((b:Int)- a- 1)/1+1 else 0)else _:Int).toNat=b- a
 rw[ai (by decide),Int.ediv_one]
 by_cases h:(a:Int)<b
 ·rw[ai h,Int.sub_add_cancel];exact Int.toNat_sub b a
 ·rw[ah h];exact(Nat.sub_eq_zero_of_le (cJ.mp (cc.mp h))).symm
theorem Ul(k n:Nat):(if(k:Int)<0 then max ((k:Int)+n) (if(1:Int)<0 then -1 else 0)else min (k:Int) (if(1:Int)<0 then(n:Int)- 1 else n))=((min k n:Nat):Int):=by
 rw[ah (cc.mpr (bg k)),ah (by decide)]
 exact(Lean.Omega.Int.ofNat_min k n).symm
theorem Qo{b:Int}(hb:0<=b)(n:Nat):Builtin.Slice.slicePlaces 0 (Builtin.Slice.sliceAdjust none (some b) 1 (n:Int)).2 1=min b.toNat n:=by
 obtain⟨k,rfl⟩:=cA hb
 exact(ao (Builtin.Slice.slicePlaces 0 · 1) (Ul k n)).trans (C0 0 _)
theorem Qp{a:Int}(ha:0<=a)(n:Nat):(Builtin.Slice.sliceAdjust (some a) none 1 (n:Int)).1=((min a.toNat n:Nat):Int):=by
 obtain⟨k,rfl⟩:=cA ha
 exact Ul k n
theorem L5(a:Int)(n:Nat):Builtin.Slice.slicePlaces ((min a.toNat n:Nat):Int) (Builtin.Slice.sliceAdjust (some a) none 1 (n:Int)).2 1=n- min a.toNat n:=C0 _ n
theorem Hx{α:Type}(l:List α)(n:Nat):l.take (min n l.length)=l.take n:=by
 rcases Nat.le_total n l.length with h|h
 ·rw[Nat.min_eq_left h]
 ·rw[Nat.min_eq_right h,List.take_length,List.take_of_length_le h]
theorem Hy{α:Type}(l:List α)(n:Nat):l.drop (min n l.length)=l.drop n:=by
 rcases Nat.le_total n l.length with h|h
 ·rw[Nat.min_eq_left h]
 ·rw[Nat.min_eq_right h,List.drop_length,List.drop_eq_nil_of_le h]
section
variable{a sl:Addr}{aq:Array Value}{n:Nat}{vl vu:Value}{l:List V}{t:Tok}{b:Int}
theorem Qq(I:dR X fr s.heap J)(ru:a_ s.heap (cf J fr) (.ref a) (.bZ l))(hl:IsT s.heap a aq n)(rl:cw s.heap (cf J fr) aq.toList l)(oc:l.length<=100000)(nW:s.heap.IsSliceOf sl .none (.int b t) .none)(hb:0<=b)(q:Q (.bZ (l.take b.toNat)) J):
  wpAny (model S w) A (getItem (.ref a) (.ref sl)) (cO X fr s J Q) E s:=by
 have la:=rl.size
 have e:aq.toList.take (min b.toNat aq.size)=aq.toList.take b.toNat:=by rw[<-aV,Hx]
 refine iJ (m:=min b.toNat aq.size) (lo:=0) (out:=aq.toList.take b.toNat) hl nW .none (.int b t) .none (by decide) rfl (Qo hb _) ((EU aq _).trans e) (by rw[List.length_take,aV];exact Nat.min_le_right _ _) (by rw[la];exact ae oc (by decide)) (λhw=>fE I ru ?_) (gZ (tk:=s.toks) I (rl.take _) q)
 have:l.take b.toNat=l:=List.take_of_length_le (by
  have:=ao List.length hw
  rw[List.length_take,aV,la]at this
  exact this▸Nat.min_le_left ..)
 rwa[this]at q
theorem Qr(I:dR X fr s.heap J)(ru:a_ s.heap (cf J fr) (.ref a) (.bZ l))(hl:IsT s.heap a aq n)(rl:cw s.heap (cf J fr) aq.toList l)(oc:l.length<=100000)(nW:s.heap.IsSliceOf sl (.int b t) .none .none)(hb:0<=b)(q:Q (.bZ (l.drop b.toNat)) J):
  wpAny (model S w) A (getItem (.ref a) (.ref sl)) (cO X fr s J Q) E s:=by
 have la:=rl.size
 have e:aq.toList.drop (min b.toNat aq.size)=aq.toList.drop b.toNat:=by rw[<-aV,Hy]
 refine iJ (m:=aq.size- min b.toNat aq.size) (out:=aq.toList.drop b.toNat) hl nW (.int b t) .none .none (by decide) (Qp hb _) (L5 _ _) ((EV aq _).trans e) (by rw[List.length_drop,aV];exact Nat.sub_le _ _) (by rw[la];exact ae oc (by decide)) (λhw=>fE I ru ?_) (gZ (tk:=s.toks) I (rl.drop _) q)
 have h0:=ao List.length hw
 rw[List.length_drop,aV]at h0
 have:l.drop b.toNat=l:=by
  rcases Nat.eq_zero_or_pos b.toNat with h|h
  ·rw[h];rfl
  ·rw[List.eq_nil_of_length_eq_zero (l:=l) (la▸Nat.eq_zero_of_not_pos λp=>aG h0 (bB (Nat.sub_lt p h))),List.drop_nil]
 rwa[this]at q
end
theorem Qt{k:Nat}(ak:h_ k A){own:Bool}{value slice:Expr}{u:Value}{x z:V}{lo hi:Option V}{vl vu:Value}{sl:Addr}
  (I:dR X fr s.heap J) (ru:a_ s.heap (cf J fr) u x) (nW:s.heap.IsSliceOf sl vl vu .none)
  (rl:match lo with|none=>vl=.none|some y=>a_ s.heap (cf J fr) vl y) (rh:match hi with|none=>vu=.none|some y=>a_ s.heap (cf J fr) vu y)
  (e:kz J x lo hi=some z) (hz:ey z) (q:gI own z J Q)
  (hs:∀o i,∃ops,subscripted slice false o i=operate ops (getItem o i)):
  wpAny (model S w) A (subscriptTail value slice u (.ref sl)) (cO X fr s J Q) E s:=by
 refine gg e (λl hv e=>qr e λoc e=>?_) (λl hv e=>qr e λoc e=>?_) λZ Z e=>nn e
 ·obtain⟨l',hc,e⟩:=aO.mp e
  subst e
  obtain⟨a,aq,n,rfl,hl,vX⟩:=eE I ru hv
  have ml:aq.size<=sizeLine:=by rw[vX.size];exact ae oc (by decide)
  obtain⟨ops,Hz⟩:=hs (.ref a) (.ref sl)
  refine ni ⟨_,hl,rfl⟩ slot_list_getitem.lookup ?_ Hz
  cases lo with
  |none=>
   subst rl
   cases hi with
   |none=>exact nn hc
   |some b=>
    refine d_ (P:=λb=>a_ s.heap (cf J fr) vu b->wpAny (model S w) A (getItem (.ref a) (.ref sl)) (cO X fr s J Q) E s) hc (λb e rh=>qr e λhb e=>?_) rh
    cases e
    obtain⟨t,rfl⟩:=rh.j_ rfl
    refine wpAny_getItem_list_slice (IsL.a9 hl) nW .none (.int b t) .none (by decide) ?_ ml
    have e1:=slicePick_upto' aq b.toNat
    rw[Int.toNat_of_nonneg hb]at e1
    rw[e1]
    exact kC (tk:=s.toks) I rfl (.a9 (vX.take _)) q
  |some b=>
   cases hi with
   |some _=>exact nn hc
   |none=>
    subst rh
    refine d_ (P:=λb=>a_ s.heap (cf J fr) vl b->wpAny (model S w) A (getItem (.ref a) (.ref sl)) (cO X fr s J Q) E s) hc (λb e rl=>qr e λhb e=>?_) rl
    cases e
    obtain⟨t,rfl⟩:=rl.j_ rfl
    refine wpAny_getItem_list_slice (IsL.a9 hl) nW (.int b t) .none .none (by decide) ?_ ml
    have e1:=slicePick_from' aq b.toNat
    rw[Int.toNat_of_nonneg hb]at e1
    rw[e1]
    exact kC (tk:=s.toks) I rfl (.a9 (vX.drop _)) q
 ·obtain⟨l',hc,e⟩:=aO.mp e
  subst e
  obtain⟨a,aq,n,rfl,hl,vX,rfl⟩:=jB I ru hv
  obtain⟨ops,Hz⟩:=hs (.ref a) (.ref sl)
  refine ni ⟨_,hl,rfl⟩ slot_tuple_getitem.lookup ?_ Hz
  cases lo with
  |none=>
   subst rl
   cases hi with
   |none=>exact nn hc
   |some b=>
    refine d_ (P:=λb=>a_ s.heap (cf J fr) vu b->wpAny (model S w) A (getItem (.ref a) (.ref sl)) (cO X fr s J Q) E s) hc (λb e rh=>qr e λhb e=>?_) rh
    cases e
    obtain⟨t,rfl⟩:=rh.j_ rfl
    exact Qq I ru hl vX oc nW hb q
  |some b=>
   cases hi with
   |some _=>exact nn hc
   |none=>
    subst rh
    refine d_ (P:=λb=>a_ s.heap (cf J fr) vl b->wpAny (model S w) A (getItem (.ref a) (.ref sl)) (cO X fr s J Q) E s) hc (λb e rl=>qr e λhb e=>?_) rl
    cases e
    obtain⟨t,rfl⟩:=rl.j_ rfl
    exact Qr I ru hl vX oc nW hb q
theorem Qu{k:Nat}(ak:h_ k A){value slice:Expr}{u:Value}{l:List V}{sl:Addr}{t:Tok}
  (I:dR X fr s.heap J) (ru:a_ s.heap (cf J fr) u (.bZ l)) (nW:s.heap.IsSliceOf sl .none .none (.int (-1) t)) (GV:l.length<=10000000) (q:Q (.bZ l.reverse) J)
  (hs:∀o i,∃ops,subscripted slice false o i=operate ops (getItem o i)):
  wpAny (model S w) A (subscriptTail value slice u (.ref sl)) (cO X fr s J Q) E s:=by
 obtain⟨a,aq,n,rfl,ua,hl,vX⟩:=eD ru
 have la:=vX.size
 obtain⟨ops,Hz⟩:=hs (.ref a) (.ref sl)
 refine ni ⟨_,hl,rfl⟩ slot_tuple_getitem.lookup ?_ Hz
 have ha:(Builtin.Slice.sliceAdjust none none (-1) (aq.size:Int)).1=(aq.size:Int)- 1:=by
  rfl
 have hm:Builtin.Slice.slicePlaces ((aq.size:Int)- 1) (Builtin.Slice.sliceAdjust none none (-1) (aq.size:Int)).2 (-1)=aq.size:=by
  show(if(-1:Int)>0 then _ else if(aq.size:Int)- 1> -1 then((aq.size:Int)- 1 - -1- 1)/1+1 else 0:Int).toNat=aq.size
  rw[ah (by decide),Int.ediv_one,Int.sub_add_cancel,Int.sub_neg,Int.sub_add_cancel]
  by_cases h:(aq.size:Int)- 1> -1
  ·rw[ai h];rfl
  ·rw[ah h]
   exact(Nat.eq_zero_of_not_pos λp=>h (Int.sub_lt_sub_right (cp.mpr p) 1)).symm
 refine iJ (m:=aq.size) (out:=aq.toList.reverse) hl nW .none .none (.int (-1) t) (by decide) ha hm (Hu aq) (aP List.length_reverse) (by rw[la];exact ae GV (by decide)) (λhw=>?_) ?_
 ·refine fE I ?_ q
  have hr:cw s.heap (cf J fr) aq.toList l.reverse:=by
   have:=vX.reverse
   rwa[hw]at this
  exact .bZ ua hl hr
 ·refine gZ (tk:=s.toks) I ?_ q
  show cw _ _ aq.toList.reverse.toArray.toList _
  exact vX.reverse
end
theorem jT{n:Nat}(h:n<=100000):n<=sizeLine:=ae h (by decide)
theorem HA{n:Nat}(h:n<=100000):(n:Int)<2^63:=Int.lt_of_le_of_lt (cJ.mpr h) (by decide)
section
variable{s:Shared}{X:Heap}{fr:Addr->Prop}{J:St}{Q:V->St->Prop}
theorem ij(h:Heap):h.get? h.objs.size=none:=gA _ (bc _)
end
theorem L6{l:List V}:∀{i:Int},xe l=some i->∃k,dN l=some k/\k.sum=i:=by
 induction l with
 |nil=>exactλe=>by cases e;exact⟨[],rfl,rfl⟩
 |cons x l ih=>
  exactλ{i} e=>d_ (P:=λx=>∃k,dN (x::l)=some k/\k.sum=i) e λa e=>eM e λj hs e=>by
   cases e
   obtain⟨k,h1,h2⟩:=ih hs
   refine⟨a::k,?_,by rw[List.sum_cons,h2]⟩
   show oS (dN l) (λk=>some (a::k))=_
   rw[h1];rfl
theorem vY{vs:Array Value}{k:List Int}(h:IntsAre vs.toList k):∃xs,vs=intItems xs/\preSum (numAt xs) xs.size=k.sum:=by
 obtain⟨xs,hx⟩:=h.allInts.items
 have S_:vs=intItems xs:=by rw[<-hx]
 refine⟨xs,S_,?_⟩
 have hn:numsOf vs.toList=k:=h.numsOf
 rw[S_,nums_intItems]at hn
 rw[preSum_eq,List.take_of_length_le (by simp),hn]
noncomputable def tK(bs:List Bool)(i:Nat):Bool:=(bs[i]?).getD false
theorem tL:∀bs:List Bool,(List.range bs.length).any (tK bs)=bs.any id
 |[]=>rfl
 |b::bs=>by
  have:=tL bs
  rw[cu,List.range_succ_eq_map,List.any_cons,List.any_map,List.any_cons,<-this]
  rfl
theorem tM:∀bs:List Bool,(List.range bs.length).all (tK bs)=bs.all id
 |[]=>rfl
 |b::bs=>by
  have:=tM bs
  rw[cu,List.range_succ_eq_map,List.all_cons,List.all_map,List.all_cons,<-this]
  rfl
theorem C3{h:Heap}{U:Addr->Prop}{xs:List V}:∀{vs:List Value} {bs:List Bool},cw h U vs xs->qw xs=some bs->vs.length=bs.length/\∀i v,vs[i]?=some v->v=Value.bool (tK bs i):=by
 induction xs with
 |nil=>exactλr e=>by cases e;exact r.dD ⟨rfl,λi v h=>nn h⟩
 |cons x xs ih=>
  exactλ{vs bs} r e=>r.cN λv vs a r=>oU (P:=λx=>a_ h U v x->_) e (λb e a=>eM e λs hb e=>by
   cases e
   obtain⟨h1,h2⟩:=ih r hb
   refine⟨ao Nat.succ h1,λi w h=>?_⟩
   cases i with
   |zero=>cases h;exact(a.kr rfl).symm
   |succ i=>exact h2 i w h) a
section
variable{S:Program}{w:World}{A:Around}{E:Value->Shared->Prop}{s:Shared}{X:Heap}{fr:Addr->Prop}{J:St}{Q:V->St->Prop}
theorem Qv(I:dR X fr s.heap J){own:Bool}{u v:Value}{x y:V}{l m:List V}(ru:a_ s.heap (cf J fr) u x)(rv:a_ s.heap (cf J fr) v y)
  (hx:b6 J x=some (.a9 l)) (hy:b6 J y=some (.a9 m)) (hz:l.length+m.length<=100000) (q:gG own (.a9 (l++m)) J Q):
  wpAny (model S w) A (binaryOp .Add u v) (cO X fr s J Q) E s:=by
 obtain⟨a,aq,n,rfl,hl,rl⟩:=eE I ru hx
 obtain⟨b,mz,n',rfl,GV,vX⟩:=eE I rv hy
 refine PySem.P.add_list hl GV ?_ (by rw[rl.size,vX.size];exact jT hz)
 exact kC (tk:=s.toks) I rfl (.a9 (by rw[Array.toList_append];exact cw.append vX rl)) q
theorem Qw{k:Nat}(ak:h_ k A)(I:dR X fr s.heap J){u:Value}{x:V}{l:List V}{bs:List Bool}(ru:a_ s.heap (cf J fr) u x)(hx:b6 J x=some (.a9 l))(e:qw l=some bs)(q:Q (.bool (bs.any id)) J):
  wpAny (model S w) A (call (.builtin "any") [u]) (cO X fr s J Q) E s:=by
 obtain⟨a,aq,n,rfl,hl,rl⟩:=eE I ru hx
 obtain⟨h1,h2⟩:=C3 rl e
 have hL:=IsL.a9 hl
 have gO:a≠s.heap.objs.size:=bB (bq hl)
 refine call_any_walk (wpAny_pyIter_list hL ⟨s.heap.objs.size,_,_,_,_,_,tK bs,rfl,Walks.list (A:=A.in1) ak.hh s.heap.objs.size a gO aq,
  ⟨⟨_,a8 _ rfl,rfl,rfl⟩,hL.at λo e=>aD _ e⟩,λi v s' Q' E' hp hq=>?_,λh' tk hk=>?_⟩)
 ·rw[h2 i v (by rw[bk];exact hp)]
  exact cY hq
 ·have e1:aq.size=bs.length:=by rw[<-h1,aV]
  rw[e1,tL]
  exact⟨_,J,Pe.gT I λb o hb=>hk b o (λhm=>by
   have:=bq hb
   rw[az.mp hm]at this;exact Nat.lt_irrefl _ this) (aD _ hb),.bool _,q⟩
theorem Qx{k:Nat}(ak:h_ k A)(I:dR X fr s.heap J){u:Value}{x:V}{l:List V}{bs:List Bool}(ru:a_ s.heap (cf J fr) u x)(hx:b6 J x=some (.a9 l))(e:qw l=some bs)(q:Q (.bool (bs.all id)) J):
  wpAny (model S w) A (call (.builtin "all") [u]) (cO X fr s J Q) E s:=by
 obtain⟨a,aq,n,rfl,hl,rl⟩:=eE I ru hx
 obtain⟨h1,h2⟩:=C3 rl e
 have hL:=IsL.a9 hl
 have gO:a≠s.heap.objs.size:=bB (bq hl)
 refine call_all_walk (wpAny_pyIter_list hL ⟨s.heap.objs.size,_,_,_,_,_,tK bs,rfl,Walks.list (A:=A.in1) ak.hh s.heap.objs.size a gO aq,
  ⟨⟨_,a8 _ rfl,rfl,rfl⟩,hL.at λo e=>aD _ e⟩,λi v s' Q' E' hp hq=>?_,λh' tk hk=>?_⟩)
 ·rw[h2 i v (by rw[bk];exact hp)]
  exact cY hq
 ·have e1:aq.size=bs.length:=by rw[<-h1,aV]
  rw[e1,tM]
  exact⟨_,J,Pe.gT I λb o hb=>hk b o (λhm=>by
   have:=bq hb
   rw[az.mp hm]at this;exact Nat.lt_irrefl _ this) (aD _ hb),.bool _,q⟩
theorem HB{k:Nat}(ak:h_ k A)(I:dR X fr s.heap J){u:Value}{x:V}{i:Int}{l:List V}(ru:a_ s.heap (cf J fr) u x)(hx:b6 J x=some (.a9 l)\/b6 J x=some (.bZ l))(e:xe l=some i)(q:Q (.int i) J):
  wpAny (model S w) A (call (.builtin "sum") [u]) (cO X fr s J Q) E s:=by
 obtain⟨ks,hk,rfl⟩:=L6 e
 rcases hx with hx|hx
 ·obtain⟨a,aq,n,rfl,hl,rl⟩:=eE I ru hx
  obtain⟨xs,rfl,hs⟩:=vY (rl.ints hk)
  have hL:=IsL.a9 hl
  have gO:a≠s.heap.objs.size:=bB (bq hl)
  have ml:(intItems xs).size=xs.size:=by simp[intItems]
  have W:=@Walks.list S w A.in1 ak.hh s.heap.objs.size a gO (intItems xs)
  rw[ml]at W
  refine call_sum_walkG (wpAny_pyIter_list hL ⟨s.heap.objs.size,_,_,_,_,_,numAt xs,rfl,W,
   ⟨⟨_,a8 _ rfl,rfl,rfl⟩,hL.at λo e=>aD _ e⟩,λb hb=>?_,λi v hP=>intItems_at hP,λh' tk t' hk=>?_⟩)
  ·rcases au.mp hb with rfl|hb
   ·exact bq (a8 _ rfl)
   ·obtain rfl:=az.mp hb
    exact bq (aD _ hl)
  ·rw[hs]
   exact⟨_,J,Pe.gT I λb o hb=>hk b o (λhm=>by
    have:=bq hb
    rw[az.mp hm]at this;exact Nat.lt_irrefl _ this) (aD _ hb),.int _ _,q⟩
 ·obtain⟨a,aq,n,rfl,hl,rl,rfl⟩:=jB I ru hx
  obtain⟨xs,rfl,hs⟩:=vY (rl.ints hk)
  refine ktm_sumG ak.hh (IsT.bZ hl) λh' tk t' hk=>?_
  rw[hs]
  exact⟨_,J,Pe.gT I hk,.int _ _,q⟩
theorem HC(I:dR X fr s.heap J){u:Value}{x:V}{l:List V}(ru:a_ s.heap (cf J fr) u x)(hx:b6 J x=some (.a9 l))(hz:l.length<=100000)(q:Q (.bZ l) J):
  wpAny (model S w) A (call (.type "tuple") [u]) (cO X fr s J Q) E s:=by
 obtain⟨a,aq,n,rfl,hl,rl⟩:=eE I ru hx
 refine call_tuple_list (IsL.a9 hl) (λh' hk=>?_) (by rw[rl.size];exact jT hz)
 have p:=Pe.gT (tk:=s.toks) I hk
 exact cO.pre p (gZ (s:={s with heap:=h'}) (tk:=s.toks) p.inv (p.Ud rl) q)
theorem HD(I:dR X fr s.heap J){own:Bool}{u:Value}{x:V}{l:List V}(ru:a_ s.heap (cf J fr) u x)(hx:b6 J x=some (.a9 l))(hz:l.length<=100000)(q:gG own (.a9 l) J Q):
  wpAny (model S w) A (call (.type "list") [u]) (cO X fr s J Q) E s:=by
 obtain⟨a,aq,n,rfl,hl,rl⟩:=eE I ru hx
 refine call_list_seq a (T:="list") (.inl rfl) hl rfl rfl (λh' c' hk EW=>?_) (by rw[rl.size];exact jT hz)
 exact tI (tk:=s.toks) I (ij _) hk EW (.a9 rl) q
end
section
variable{S:Program}{w:World}{A:Around}{E:Value->Shared->Prop}{s:Shared}
noncomputable abbrev tk(S:Program)(w:World):=tupleKind (intKind S w)
theorem xq{h:Heap}{d:Addr}{xs:List (List Int×Addr×Value)}(x:h.DictOfH (tk S w) d xs):∃es n,h.get? d=some {cls:=.type "dict",data:=.dict es n}/\es.toList=xs.map ic:=by
 obtain⟨o,es,ep,ho,⟨c1,c2,c3⟩,hd,he,_⟩:=x
 refine⟨es,ep,?_,he⟩
 rw[ho]
 obtain⟨cls,dict,data,slots⟩:=o
 dsimp only at c1 c2 c3 hd
 subst c1 c2 c3 hd
 rfl
theorem EX{d:Addr}{es:Array DictEntry}{n:Nat}{Q:Value->Shared->Prop}(hd:(d==sysModules)=false)(ho:s.heap.get? d=some {cls:=.type "dict",data:=.dict es n})(L7:(es.size:Int)<2^63)
  (h:Q (.int es.size (s.toks+1)) {s with toks:=s.toks+1+1}):wpAny (model S w) A (call (.builtin "len") [.ref d]) Q E s:=by
 refine Calls.call_function_entry kind_len plain_len entry_len (args_len1 _) ?_
 have hT:s.TypeIs (.ref d) "dict":=⟨_,ho,rfl⟩
 have hm:MeetsIn S w (Builtin.«dict.__len__» ⟨[.ref d],[]⟩) (λZ R s=>s.heap.get? d=some {cls:=.type "dict",data:=.dict es n}/\R (.ok (.ret (.int es.size s.toks))) {s with toks:=s.toks+1}):=
  .of_wp λA R s h=>by
   obtain⟨ho,h⟩:=h
   show wpAny _ _ (dictSize d>>=_) _ _ s
   unfold dictSize
   refine aa (aa (bH ho rfl (aj ?_)))
   show wpAny _ _ (Builtin.Dict.pendingCount d>>=_) _ _ s
   refine aa (wpAny_pendingCount_other hd ?_)
   refine wpAny_ret_mkInt ?_
   rw[Nat.add_zero];exact h
 unfold Builtin.«len»
 refine aa (m:=oneArg "len" _) (aj ?_)
 refine aa (m:=callSpecial? (.ref d) (Str.ofString "__len__")) (wpAny_callSpecial?_slot (name:=Str.ofString "__len__") hT F.slot_dict_len
  (call_meetsIn F.slot_dict_len hT F.entry_dict_len (F.args_dict_len_1 _) hm ⟨ho,?_⟩))
 show wpAny _ _ _ _ _ {s with toks:=s.toks+1}
 refine aa (b7 (aj ?_))
 refine aa (wpAny_letGo ?_)
 show wpAny _ _ (if((es.size:Nat):Int)<0 then _ else _) _ _ _
 rw[ah (cc.mpr (bg _))]
 show wpAny _ _ (if((es.size:Nat):Int)>=2^63 then _ else _) _ _ _
 rw[ah (Int.not_le.mpr L7)]
 exact aa (wpAny_mkInt (aj ⟨_,rfl,h⟩))
theorem A2{l:List DictEntry}(hn:(l.map (·.hash)).Nodup){e:DictEntry}(he:e∈l):(l.filter (λ(x:DictEntry)=>x.hash==e.hash)).length<=1:=by
 induction l with
 |nil=>cases he
 |cons x r ih=>
  rw[bP,aZ]at hn
  by_cases hx:(x.hash==e.hash)=true
  ·simp only[List.filter_cons,hx,if_true]
   have:r.filter (λ(x:DictEntry)=>x.hash==e.hash)=[]:=by
    rw[List.filter_eq_nil_iff]
    intro y hy hye
    refine hn.1 (aQ.mpr ⟨y,hy,?_⟩)
    rw[bt hye,bt hx]
   rw[this];simp
  ·simp only[List.filter_cons,hx]
   rcases au.mp he with rfl|he
   ·simp at hx
   ·exact ih hn.2 he
theorem vt{a:Addr}{Q:Bool->Shared->Prop}(h:∀b,Q b s)(hT:s.TypeIs (.ref a) "tuple"):wpAny (model S w) A (Builtin.Dict.quietEq (.ref a)) Q E s:=by
 unfold Builtin.Dict.quietEq
 refine aa (wpAny_specialOf hT F.slot_tuple_eq.lookup ?_)
 exact aj (h _)
theorem HE{nm:String}{d o:Addr}{es:Array DictEntry}{n m:Nat}{Q:Unit->Shared->Prop}(Yo:d≠o)(Yp:(o==sysModules)=false)
  (hd:s.heap.get? d=some {cls:=.type "dict",data:=.dict #[] m}) (ho:s.heap.get? o=some {cls:=.type "dict",data:=.dict es n})
  (hk:∀e∈es,∃a,e.key=.ref a/\s.TypeIs (.ref a) "tuple") (hn:(es.toList.map (·.hash)).Nodup) (hz:es.size<=sizeLine)
  (hQ:∀h' n',h'.get? d=some {cls:=.type "dict",data:=.dict es n'}->Heap.SameBut d s.heap h'->Q () {s with heap:=h'}):
  wpAny (model S w) A (Builtin.Dict.mergeDict nm d o) Q E s:=by
 unfold Builtin.Dict.mergeDict
 rw[ah (λh=>Yo (bt h))]
 unfold Builtin.Dict.showsAll
 rw[ah (by rw[Yp];exact aJ)]
 refine aa (aj ?_)
 refine aa (bH ho rfl ?_)
 dsimp only
 by_cases h0:es=#[]
 ·subst h0
  rw[ah (by simp)]
  refine aa (wpAny_dictEpoch ho rfl ?_)
  refine aa (bH ho rfl ?_)
  refine aa ?_
  rw[Std.Legacy.Range.forIn_eq_forIn_range']
  exact aj (aj (hQ _ _ hd (Heap.SameBut.refl _ _)))
 ·have qA:(decide (es.size<=8)&&es.all λe=>(keyPart e.key).isSome)=false:=by
   rw[Bool.and_eq_false_iff]
   right
   rw[Bool.eq_false_iff]
   intro jC
   rw[<-Array.all_toList,av]at jC
   obtain⟨l⟩:=es
   cases l with
   |nil=>exact h0 rfl
   |cons e r=>
    obtain⟨a,ha,_⟩:=hk e (Array.mem_toList_iff.mp (.head _))
    have:=jC e (.head _)
    rw[ha]at this
    cases this
  rw[qA]
  rw[ai (by decide)]
  refine aa (bH hd rfl ?_)
  rw[ai (by rfl)]
  refine aa ?_
  unfold Builtin.Dict.entriesForEmpty
  refine aa (bH ho rfl ?_)
  refine aa ?_
  rw[<-Array.forIn_toList]
  refine wpAny_forIn_list _ (λrest Z s'=>s'=s/\∀e∈rest,e∈es.toList) _ ?_ ?_ _ _ ⟨rfl,λe he=>he⟩
  ·rintro e rest b s' ⟨rfl,hr⟩
   obtain⟨a,ha,hT⟩:=hk e (Array.mem_toList_iff.mp (hr e (List.mem_cons_self ..)))
   rw[ha]
   refine aa (vt (λb=>?_) hT)
   have xr:¬(es.filter (λ(x:DictEntry)=>x.hash==e.hash)).size>1:=by
    have:=A2 hn (hr e (List.mem_cons_self ..))
    rw[<-aV,Array.toList_filter];exact Nat.not_lt.mpr this
   cases b with
   |true=>
    rw[ah (by decide)]
    exact aj ⟨rfl,λe he=>hr e (cD _ he)⟩
   |false=>
    rw[ai (by decide),ah xr]
    exact aj ⟨rfl,λe he=>hr e (cD _ he)⟩
  ·rintro b s' ⟨rfl,_⟩
   refine aj ?_
   have gO:(!es.isEmpty)=true:=by
    simp only[Bool.not_eq_true',Array.isEmpty_eq_false_iff];exact h0
   rw[ai gO]
   refine aa (wpAny_updateDictKeysTo hd rfl (aj ?_) (cR hz))
   refine hQ _ (m+1) ?_ (Heap.SameBut.update ..)
   rw[Heap.get?_update_self _ hd rfl]
   rfl
end
section
variable{S:Program}{w:World}{A:Around}{E:Value->Shared->Prop}{s:Shared}
theorem A3{o:Addr}{es:Array DictEntry}{n:Nat}{Q:Value->Shared->Prop}(Yp:(o==sysModules)=false)(ho:s.heap.get? o=some {cls:=.type "dict",data:=.dict es n})
  (hk:∀e∈es,∃a,e.key=.ref a/\s.TypeIs (.ref a) "tuple") (hn:(es.toList.map (·.hash)).Nodup) (hz:es.size<=sizeLine)
  (h:∀h' n',h'.get? s.heap.objs.size=some {cls:=.type "dict",data:=.dict es n'}->(∀b q,s.heap.get? b=some q->h'.get? b=some q)->Q (.ref s.heap.objs.size) {s with heap:=h'}):
  wpAny (model S w) A (call (.type "dict") [.ref o]) Q E s:=by
 refine callType_codes (Q₁:=λobj bV=>obj=.ref s.heap.objs.size/\bV={s with heap:=s.heap.push {cls:=.type "dict",data:=.dict #[]}}) PySem.F.kt_called_dict (PySem.F.kt_typeCall_dict_1 _) F.entry_dict_init (kt_code_dict_new _ ⟨rfl,rfl⟩) ?_
 rintro obj bV ⟨rfl,rfl⟩
 have EW:(s.heap.push {cls:=.type "dict",data:=.dict #[]}).get? s.heap.objs.size=some {cls:=.type "dict",data:=.dict #[]}:=a8 _ rfl
 have OO:Shared.TypeIs {s with heap:=s.heap.push {cls:=.type "dict",data:=.dict #[]}} (.ref s.heap.objs.size) "dict":=⟨_,EW,rfl⟩
 have XA:(s.heap.push {cls:=.type "dict",data:=.dict #[]}).get? o=some {cls:=.type "dict",data:=.dict es n}:=aD _ ho
 have Yq:Shared.TypeIs {s with heap:=s.heap.push {cls:=.type "dict",data:=.dict #[]}} (.ref o) "dict":=⟨_,XA,rfl⟩
 have Yo:s.heap.objs.size≠o:=λe=>aG (bq ho) (by rw[e];exact Nat.lt_irrefl _)
 refine⟨OO,F.args_dict_init_2 _ _,?_⟩
 unfold Builtin.«dict.__init__»
 refine aa ?_
 unfold Builtin.Dict.selfAndRest
 refine aa (wpAny_notOrdered_dict OO ?_)
 show wpAny _ _ (pure (s.heap.objs.size,[Value.ref o])) _ _ _
 refine aj ?_
 show wpAny _ _ (Builtin.Dict.updateFrom "dict.__init__" s.heap.objs.size (.ref o) [] .none) _ _ _
 unfold Builtin.Dict.updateFrom
 refine aa (wpAny_typeOf Yq ?_)
 rw[ah (by decide)]
 refine aa ?_
 unfold Builtin.Dict.merge
 refine aa ?_
 unfold Builtin.Dict.readDirectly
 refine aa (wpAny_isInstance Yq isSubtype_dict_dict ?_)
 refine aa (wpAny_specialOf Yq F.slot_dict_iter.lookup (aj ?_))
 simp only[beq_self_eq_true,if_true]
 refine aa (aj ?_)
 refine HE (s:={s with heap:=s.heap.push {cls:=.type "dict",data:=.dict #[]}}) Yo Yp EW XA (λe he=>?_) hn hz λh' n' hg tN=>?_
 ·obtain⟨a,ha,oa,h1,h2⟩:=hk e he
  exact⟨a,ha,oa,aD _ h1,h2⟩
 ·show wpAny _ _ (Builtin.Dict.addKeywords s.heap.objs.size []>>=_) _ _ _
  refine aa (aj (aj ⟨rfl,h h' n' hg λb q hb=>?_⟩))
  exact(tN.2 b (bB (bq hb))).trans (aD _ hb)
theorem C4{α:Type}{Q:α->Shared->Prop}(hh:A.handled=none)(h:∀h' e,(∀b o,s.heap.get? b=some o->h'.get? b=some o)->(∃o,h'.get? e=some o/\o.cls=.type "StopIteration")->E (.ref e) {s with heap:=h'}):
  wpAny (model S w) A (newExc (.type "StopIteration") []>>=λe=>(raiseNew e:Sem α)) Q E s:=by
 refine aa ?_
 unfold newExc newTuple
 refine aa (cZ ?_ (by size_fits))
 refine aa (m:=firstArgMember _ _) (wpAny_of_eq (a:=Value.none) (by first|rfl|(simp only[firstArgMember];rfl)) ?_)
 refine cZ ?_ (by size_fits)
 exact wpAny_raiseNew_none hh (h _ _ (λb o e=>aD _ (aD _ e)) ⟨_,a8 _ rfl,rfl⟩)
theorem o7{d:Addr}{es:Array DictEntry}{n:Nat}{Q:Value->Shared->Prop}(hd:(d==sysModules)=false)(ho:s.heap.get? d=some {cls:=.type "dict",data:=.dict es n})
  (hQ:Q (.ref s.heap.objs.size) {s with heap:=s.heap.push {cls:=.type "dict_keyiterator",data:=.fields #[.ref d,.int 0 0,.int es.size 0,.int n 0]}}):
  wpAny (model S w) A (pyIter (.ref d)) Q E s:=by
 have hT:s.TypeIs (.ref d) "dict":=⟨_,ho,rfl⟩
 refine wpAny_pyIter_slot hT F.slot_dict_iter (bR F.slot_dict_iter hT F.entry_dict_iter ?_ (F.args_dict_iter_1 _))
 unfold Builtin.«dict.__iter__»
 refine aa ?_
 unfold Builtin.Dict.dictSlotNone
 refine aa (wpAny_notOrdered_dict hT ?_)
 show wpAny _ _ (pure (Value.ref d)) _ _ s
 refine aj ?_
 show wpAny _ _ (Builtin.Dict.showsAll d>>=_) _ _ s
 unfold Builtin.Dict.showsAll
 rw[ah (by rw[hd];exact aJ)]
 refine aa (aj ?_)
 refine aa (bH ho rfl ?_)
 refine aa (wpAny_dictEpoch ho rfl ?_)
 refine aa (cZ (aj ⟨_,rfl,"dict_keyiterator",_,⟨_,a8 _ rfl,rfl⟩,F.slot_dict_keyiterator_next.lookup,?_⟩))
 exact hQ
theorem xt{it d:Addr}{i:Nat}{es:Array DictEntry}{n:Nat}{k:Value}{Q:Option Value->Shared->Prop}(jd:s.heap.IsKeyIter it d i es.size n)
  (Um:s.heap.get? d=some {cls:=.type "dict",data:=.dict es n}) (hx:(es[i]?).map (·.key)=some k)
  (hQ:∀h',h'.IsKeyIter it d (i+1) es.size n->Heap.SameBut it s.heap h'->Q (some k) {s with heap:=h'}):
  wpAny (model S w) A (pyNext (.ref it)) Q E s:=by
 obtain⟨o,ho,hc,hd⟩:=id jd
 unfold pyNext
 refine aa (wpAny_attempt (wpAny_callSpecial?_slot (name:=Str.ofString "__next__") jd.typeIs F.slot_dict_keyiterator_next
  (bR F.slot_dict_keyiterator_next jd.typeIs F.entry_dict_keyiterator_next ?_ (F.args_dict_keyiterator_next_1 _))))
 refine aa (aj ?_)
 refine aa ?_
 refine aa ?_
 first|refine aa (wpAny_typeNameOfWhole_keyiter jd.typeIs (aj ?_))|refine aa (wpAny_typeNameOf_keyiter jd.typeIs (aj ?_))
 refine aa (wpAny_fieldsOf ho hd ?_)
 show wpAny _ _ (if(Value.ref d==Value.none)=true then _ else _) _ _ s
 rw[ah (show¬((Value.ref d==Value.none)=true)from aJ)]
 refine aa (aj ?_)
 refine aa (bH Um rfl ?_)
 rw[ah (by rw[bne_self_eq_false];exact aJ)]
 refine aa (aj ?_)
 refine aa (wpAny_dictEpoch Um rfl ?_)
 rw[ah (by rw[bne_self_eq_false];exact aJ)]
 refine aj ?_
 obtain⟨e,he,rfl⟩:=aO.mp hx
 dsimp only
 rw[show(if(i:Int)<0 then none else es[(i:Int).toNat]?)=some e from(ah (cc.mpr (bg i))).trans he]
 refine aa ?_
 first|refine aa (wpAny_typeNameOfWhole_keyiter jd.typeIs (aj ?_))|refine aa (wpAny_typeNameOf_keyiter jd.typeIs (aj ?_))
 refine aa (wpAny_isOneOf_keyiter jd.typeIs ?_)
 show wpAny _ _ (setField (.ref it) 1 (rawInt ((i:Int)+1))>>=_) _ _ s
 refine aa (wpAny_setField ho hd (aX rfl) ?_)
 have EY:(s.heap.update it (Obj.mapFields (·.setIfInBounds 1 (rawInt ((i:Int)+1))))).IsKeyIter it d (i+1) es.size n:=
  ⟨_,Heap.get?_update_self _ ho (Obj.isFreed_of_fields (Obj.data_mapFields hd _)),(Obj.cls_mapFields ..).trans hc,by rw[Obj.data_mapFields hd];rfl⟩
 refine aa (b7 ?_)
 refine aa (wpAny_isOneOf_keyiter (s:={s with heap:=s.heap.update it (Obj.mapFields (·.setIfInBounds 1 (rawInt ((i:Int)+1))))}) EY.typeIs ?_)
 show wpAny _ _ (pure e.key) _ _ _
 exact aj (aj ⟨_,rfl,aj (hQ _ EY (Heap.SameBut.update ..))⟩)
theorem qC{it d:Addr}{es:Array DictEntry}{n:Nat}{Q:Option Value->Shared->Prop}(hh:A.handled=none)(jd:s.heap.IsKeyIter it d es.size es.size n)
  (Um:s.heap.get? d=some {cls:=.type "dict",data:=.dict es n})
  (hQ:∀h',Heap.ExtBut it s.heap h'->Q none {s with heap:=h'}):wpAny (model S w) A (pyNext (.ref it)) Q E s:=by
 obtain⟨o,ho,hc,hd⟩:=id jd
 unfold pyNext
 refine aa (wpAny_attempt (wpAny_callSpecial?_slot (name:=Str.ofString "__next__") jd.typeIs F.slot_dict_keyiterator_next
  (bR F.slot_dict_keyiterator_next jd.typeIs F.entry_dict_keyiterator_next ?_ (F.args_dict_keyiterator_next_1 _))))
 refine aa (aj ?_)
 refine aa ?_
 refine aa ?_
 first|refine aa (wpAny_typeNameOfWhole_keyiter jd.typeIs (aj ?_))|refine aa (wpAny_typeNameOf_keyiter jd.typeIs (aj ?_))
 refine aa (wpAny_fieldsOf ho hd ?_)
 show wpAny _ _ (if(Value.ref d==Value.none)=true then _ else _) _ _ s
 rw[ah (show¬((Value.ref d==Value.none)=true)from aJ)]
 refine aa (aj ?_)
 refine aa (bH Um rfl ?_)
 rw[ah (by rw[bne_self_eq_false];exact aJ)]
 refine aa (aj ?_)
 refine aa (wpAny_dictEpoch Um rfl ?_)
 rw[ah (by rw[bne_self_eq_false];exact aJ)]
 refine aj ?_
 dsimp only
 rw[show(if(es.size:Int)<0 then none else es[(es.size:Int).toNat]?)=none from(ah (cc.mpr (bg _))).trans (Array.getElem?_eq_none (bc _))]
 refine aa ?_
 first|refine aa (wpAny_typeNameOfWhole_keyiter jd.typeIs (aj ?_))|refine aa (wpAny_typeNameOf_keyiter jd.typeIs (aj ?_))
 show wpAny _ _ (setField (.ref it) 0 .none>>=_) _ _ s
 refine aa (wpAny_setField ho hd (aX rfl) ?_)
 refine C4 (A:=A.in1) hh λh' e hk he=>aa (wpAny_isInstance (T:="StopIteration") (b:=true) he isSubtype_stop ?_)
 exact aj (hQ _ λb o n q=>hk b o ((Heap.SameBut.update ..).extBut b o n q))
end
theorem sF{S:Program}{w:World}{A:Around}{E:Value->Shared->Prop}{s:Shared}{it d:Addr}{i m n:Nat}{Q:Value->Shared->Prop}(jd:s.heap.IsKeyIter it d i m n)(h:Q (.ref it) s):wpAny (model S w) A (pyIter (.ref it)) Q E s:=by
 refine wpAny_pyIter_slot jd.typeIs F.slot_dict_keyiterator_iter (bR F.slot_dict_keyiterator_iter jd.typeIs F.entry_dict_keyiterator_iter ?_ (F.args_dict_keyiterator_iter_1 _))
 show wpAny _ _ (ret (.ref it)) _ _ s
 exact aj ⟨_,rfl,"dict_keyiterator",_,jd.typeIs,F.slot_dict_keyiterator_next.lookup,h⟩
theorem vZ{S:Program}{w:World}{A:Around}(hh:A.handled=none)(I d:Addr)(gO:d≠I)(es:Array DictEntry)(n:Nat):
  Walks S w A I [I,d] [I] es.size (λi v=>(es[i]?).map (·.key)=some v) (λi h=>h.IsKeyIter I d i es.size n/\h.get? d=some {cls:=.type "dict",data:=.dict es n})where
 sub:=λb hb=>(az.mp hb)▸.head _
 frame:=λZ Z Z st hk=>⟨st.1.imp λo h=>⟨hk I (.head _) o h.1,h.2⟩,hk d (.tail _ (.head _)) _ st.2⟩
 item:=λi s Q E hi st hQ=>by
  refine xt (k:=es[i].key) st.1 st.2 (by rw[Array.getElem?_eq_getElem hi];rfl) λh' EY tN=>?_
  exact hQ _ h' s.toks (by rw[Array.getElem?_eq_getElem hi];rfl) ⟨EY,(tN.2 d gO).trans st.2⟩ λb o hb e=>tN.extBut b o (λh=>hb (h▸.head _)) e
 done:=λs Q E st hQ=>qC hh st.1 st.2 λh' GW=>hQ h' s.toks λb o hb e=>GW b o (λh=>hb (h▸.head _)) e
 self:=λZ Z Z Z st hQ=>sF st.1 hQ
theorem Yr{S:Program}{w:World}{d:Addr}{es:Array DictEntry}{n:Nat}(lo:(d==sysModules)=false):
  KdlSrc S w "dict" d d es.size (λi v=>(es[i]?).map (·.key)=some v) (λh=>h.get? d=some {cls:=.type "dict",data:=.dict es n})where
 type:=λZ hm=>⟨_,hm,rfl⟩
 there:=λZ hm=>⟨bq hm,bq hm⟩
 keep:=λZ Z hm hk=>hk d (.inl rfl) _ hm
 notList:=by decide
 notTuple:=by decide
 hint:=λZ Z Z Z hm hq=>kdl_hint_dict ⟨_,hm,rfl⟩ hq
 iter:=λZ Z hh hm=>⟨_,_,(λZ Z hq=>o7 lo hm hq),vZ hh _ d (bB (bq hm)) es n,⟨⟨_,a8 _ rfl,rfl,rfl⟩,aD _ hm⟩⟩
noncomputable def xu:Me->String
 |.append=>"list.append"
 |.extend=>"list.extend"
 |.pop=>"list.pop"
 |.rB=>"list.pop"
 |.rC=>"dict.pop"
 |.rD=>"dict.pop"
 |.yH=>"dict.get"
 |.sort=>"list.sort"
theorem xw:∀(xs:List (List Int×Addr×Value)) (k:List Int) (v:Value),k∉xs.map (·.1)->xs.map (putAt k v)=xs:=λxs k v hn=>map_putAt_of_not_mem xs k v hn
section
variable{h:Heap}{U:Addr->Prop}
theorem o8{k:List Int}{x y:V}{r:aN}:fA ((k,y)::r) k x=(k,x)::r:=ai rfl
theorem kE{k k':List Int}{x y:V}{r:aN}(n:¬k'=k):fA ((k',y)::r) k x=(k',y)::fA r k x:=ah n
theorem tO{k:List Int}{y:V}{r:aN}:jA ((k,y)::r) k=r:=ai rfl
theorem o9{k k':List Int}{y:V}{r:aN}(n:¬k'=k):jA ((k',y)::r) k=(k',y)::jA r k:=ah n
theorem XB{p:List Int×V}{r:aN}(h:((p::r).map (·.1)).Nodup):p.1∉r.map (·.1)/\(r.map (·.1)).Nodup:=by
 rwa[bP,aZ]at h
theorem et.A4{v:Value}{x:V}{k:List Int}(r:a_ h U v x){l:aN}:∀{xs:List (List Int×Addr×Value)},et h U xs l->(l.map (·.1)).Nodup->(dp l k).isSome=true->
  et h U (xs.map (putAt k v)) (fA l k x):=by
 induction l with
 |nil=>exactλZ Z e=>no e
 |cons p l ih=>
  exactλd nd e=>d.cN λa aq n w es u t i rv d=>by
   by_cases hk:p.1=k
   ·subst hk
    have vw:p.1∉es.map (·.1):=by rw[d.keys];exact(XB nd).1
    rw[bP,xw es p.1 v vw,show putAt p.1 v (p.1,a,w)=(p.1,a,v)from ai rfl]
    rw[show fA (p::l) p.1 x=(p.1,x)::l from o8 (y:=p.2)]
    exact .cons u t i r d
   ·rw[show dp (p::l) k=dp l k from dU hk]at e
    rw[bP,show putAt k v (p.1,a,w)=(p.1,a,w)from ah hk]
    exact kE (y:=p.2) hk▸.cons u t i rv (ih d (XB nd).2 e)
theorem et.kh{v:Value}{x:V}{k:List Int}{a:Addr}{aq:Array Value}{m:Nat}(u:¬U a)(t:IsT h a aq m)(i:IntsAre aq.toList k)(r:a_ h U v x){l:aN}:
  ∀{xs:List (List Int×Addr×Value)},et h U xs l->dp l k=none->et h U (xs++[(k,a,v)]) (fA l k x):=by
 induction l with
 |nil=>exactλd Z=>d.dD (.cons u t i r .nil)
 |cons p l ih=>
  exactλd e=>d.cN λa' mz n' w es u' t' i' rv d=>by
   by_cases hk:p.1=k
   ·subst hk;exact nn (e.symm.trans (eC (x:=p.2)))
   ·exact kE (y:=p.2) hk▸.cons u' t' i' rv (ih d ((dU hk).symm.trans e))
theorem v5{k:List Int}{x:V}{l:aN}:(fA l k x).map (·.1)=if(dp l k).isSome then l.map (·.1)else l.map (·.1)++[k]:=by
 induction l with
 |nil=>rfl
 |cons p l ih=>
  by_cases hk:p.1=k
  ·subst hk
   rw[show fA (p::l) p.1 x=(p.1,x)::l from o8 (y:=p.2),show dp (p::l) p.1=some p.2 from eC (x:=p.2)];rfl
  ·rw[show fA (p::l) k x=p::fA l k x from kE (y:=p.2) hk,show dp (p::l) k=dp l k from dU (x:=p.2) hk,bP,ih]
   cases(dp l k).isSome<;>rfl
theorem tP{k:List Int}{l:aN}:dp l k=none->k∉l.map (·.1):=by
 induction l with
 |nil=>exactλZ h=>(a7 h).elim
 |cons p l ih=>
  exactλe hm=>by
   by_cases hk:p.1=k
   ·subst hk;exact nn (e.symm.trans (eC (x:=p.2)))
   ·rcases au.mp hm with q|q
    ·exact hk q.symm
    ·exact ih ((dU (x:=p.2) hk).symm.trans e) q
theorem iK{k:List Int}{x:V}{l:aN}(nd:(l.map (·.1)).Nodup):((fA l k x).map (·.1)).Nodup:=by
 rw[v5]
 cases e:dp l k with
 |some=>exact nd
 |none=>
  have:=tP e
  show(l.map (·.1)++[k]).Nodup
  rw[List.nodup_append]
  exact⟨nd,aZ.mpr ⟨a7,.nil⟩,λa ha b hb e=>this (az.mp hb▸e▸ha)⟩
theorem yV{k:List Int}{x:V}{l:aN}:(fA l k x).length<=l.length+1:=by
 induction l with
 |nil=>exact bc _
 |cons p l ih=>
  by_cases hk:p.1=k
  ·subst hk;rw[show fA (p::l) p.1 x=(p.1,x)::l from o8 (y:=p.2)];exact Nat.le_succ _
  ·rw[show fA (p::l) k x=p::fA l k x from kE (y:=p.2) hk];exact aL ih
theorem et.del{k:List Int}{l:aN}:∀{xs:List (List Int×Addr×Value)},et h U xs l->∀{j:Nat} {p:Addr×Value},xs[j]?=some (k,p)->(l.map (·.1)).Nodup->et h U (xs.eraseIdx j) (jA l k):=by
 induction l with
 |nil=>exactλ{Z} d {j p}=>d.dD λe Z=>nn e
 |cons p l ih=>
  exactλ{Z} d {j q}=>d.cN λa aq n w es u t i rv d e nd=>by
   cases j with
   |zero=>
    have hk:p.1=k:=(Prod.mk.inj (aW e)).1
    subst hk
    exact tO (y:=p.2)▸d
   |succ j=>
    have e:es[j]?=some (k,q):=e
    have hk:p.1≠k:=λhk=>(XB nd).1 (by rw[<-d.keys,hk];exact aQ.mpr ⟨_,List.mem_of_getElem? e,rfl⟩)
    exact o9 (y:=p.2) hk▸.cons u t i rv (ih d e (XB nd).2)
theorem EZ{k:List Int}{l:aN}:dp l k=none->jA l k=l:=by
 induction l with
 |nil=>exactλZ=>rfl
 |cons p l ih=>
  exactλe=>by
   by_cases hk:p.1=k
   ·subst hk;exact nn (e.symm.trans (eC (x:=p.2)))
   ·exact(o9 (y:=p.2) hk).trans (ao (p::·) (ih ((dU (x:=p.2) hk).symm.trans e)))
theorem yW{k:List Int}{l:aN}:((jA l k).map (·.1)).Sublist (l.map (·.1)):=by
 induction l with
 |nil=>exact .slnil
 |cons p l ih=>
  by_cases hk:p.1=k
  ·subst hk;rw[show jA (p::l) p.1=l from tO (y:=p.2)];exact .cons _ (.refl _)
  ·rw[show jA (p::l) k=p::jA l k from o9 (y:=p.2) hk];exact ih.cons_cons _
end
section
variable{S:Program}{w:World}{A:Around}{E:Value->Shared->Prop}{s:Shared}
theorem yX{d a:Addr}{es:Array DictEntry}{n:Nat}{xs:List (List Int×Addr×Value)}{k:List Int}{Q:Option DictEntry->Shared->Prop}(hu:(tk S w).room A)(tQ:(tk S w).is s.heap k a)
  (ho:s.heap.get? d=some {cls:=.type "dict",data:=.dict es n}) (he:es.toList=xs.map ic) (vn:∀x∈xs,(tk S w).is s.heap x.1 x.2.1) (hn:(xs.map (·.1)).Nodup) (hz:es.size<=sizeLine)
  (HF:(∀(j:Nat) (p:Addr×Value),xs[j]?≠some (k,p))->Q none {s with toks:=s.toks+(tk S w).draws k})
  (mx:∀(j:Nat) (p:Addr×Value),xs[j]?=some (k,p)->Q (some (ic (k,p))) {s with heap:=s.heap.update d (Obj.mapDictKeys (·.eraseIdxIfInBounds j)),toks:=s.toks+(tk S w).draws k}):
  wpAny (model S w) A (Builtin.Dict.takeOut d (.ref a)) Q E s:=by
 unfold Builtin.Dict.takeOut
 try with_reducible refine b7 ?_
 refine aa ((tk S w).pyHash hu tQ ?_)
 refine aa (wpAny_dictFind_heap (s:={s with toks:=s.toks+(tk S w).draws k}) hu tQ ho rfl he vn hn ?_ ?_)
 ·intro Hm
  exact aj (HF Hm)
 ·intro j p hj
  refine aa (bH (s:={s with toks:=s.toks+(tk S w).draws k}) ho rfl ?_)
  have:es[j]?=some (ic (k,p)):=by rw[<-bk,he,aA,hj];rfl
  rw[this]
  exact aa (wpAny_updateDictKeys (hz:=hz) (s:={s with toks:=s.toks+(tk S w).draws k}) ho rfl (aj (mx j p hj)))
theorem A5(d a:Addr)(es:Array DictEntry)(n:Nat)(xs:List (List Int×Addr×Value))(k:List Int)(j:Nat)(p:Addr×Value)(hj:xs[j]?=some (k,p))(he:es.toList=xs.map ic)(hn:(xs.map (·.1)).Nodup)(hz:es.size<=sizeLine)(rest:List Value)(HG:rest=[]\/∃x,rest=[x]):
  MeetsIn S w (Builtin.«dict.pop» ⟨.ref d::.ref a::rest,[]⟩) (λA R s=>(tk S w).room A.in1/\(tk S w).is s.heap k a/\s.heap.get? d=some {cls:=.type "dict",data:=.dict es n}/\(∀x∈xs,(tk S w).is s.heap x.1 x.2.1)/\
   R (.ok (.ret p.2)) {s with heap:=s.heap.update d (Obj.mapDictKeys (·.eraseIdxIfInBounds j)),toks:=s.toks+(tk S w).draws k}):=
 .of_wp λA R s h=>by
  obtain⟨hu,tQ,ho,vn,h⟩:=h
  have hT:s.TypeIs (.ref d) "dict":=⟨_,ho,rfl⟩
  have gO:es.isEmpty=false:=by
   rw[Array.isEmpty_eq_false_iff]
   intro e0
   rw[e0]at he
   rw[List.map_eq_nil_iff.mp he.symm]at hj
   exact nn hj
  have K:∀{j':Nat} {p':Addr×Value},xs[j']?=some (k,p')->j'=j/\p'=p:=λQy=>by
   obtain rfl:=idxH_unique hn Qy hj
   exact⟨rfl,(Prod.mk.inj (aW (Qy.symm.trans hj))).2⟩
  have T:∀{α:Type} {f:Option DictEntry->Sem α} {Q E},wpAny (model S w) A.in1 (f (some (ic (k,p)))) Q E {s with heap:=s.heap.update d (Obj.mapDictKeys (·.eraseIdxIfInBounds j)),toks:=s.toks+(tk S w).draws k}->wpAny (model S w) A.in1 (Builtin.Dict.takeOut d (.ref a)>>=f) Q E s:=λh=>
   aa (yX hu tQ ho he vn hn hz (λHm=>aG hj (Hm j p)) λj' p' Qy=>by
    obtain⟨rfl,rfl⟩:=K Qy
    exact h)
  unfold Builtin.«dict.pop»
  refine aa ?_
  unfold Builtin.Dict.keyAndDefault
  refine aa (wpAny_notOrdered_dict hT ?_)
  rcases HG with rfl|⟨x,rfl⟩
  ·show wpAny _ _ (pure (d,Value.ref a,none)) _ _ s
   refine aj ?_
   refine aa (bH ho rfl ?_)
   refine aa (aj ?_)
   rw[gO]
   exact T (aa (wpAny_letGo (aj ⟨_,rfl,h⟩)))
  ·show wpAny _ _ (pure (d,Value.ref a,some x)) _ _ s
   refine aj ?_
   refine aa (bH ho rfl ?_)
   refine aa (aj ?_)
   rw[gO]
   exact T (aa (wpAny_letGo (aj ⟨_,rfl,h⟩)))
theorem A6(d a:Addr)(x:Value)(es:Array DictEntry)(n:Nat)(xs:List (List Int×Addr×Value))(k:List Int)(hd:(d==sysModules)=false)(Hm:∀(j:Nat) (p:Addr×Value),xs[j]?≠some (k,p))(he:es.toList=xs.map ic)(hn:(xs.map (·.1)).Nodup)(hz:es.size<=sizeLine):
  MeetsIn S w (Builtin.«dict.pop» ⟨[.ref d,.ref a,x],[]⟩) (λA R s=>(tk S w).room A.in1/\(tk S w).is s.heap k a/\s.heap.get? d=some {cls:=.type "dict",data:=.dict es n}/\(∀x∈xs,(tk S w).is s.heap x.1 x.2.1)/\
   ∀GR,R (.ok (.ret x)) {s with toks:=GR}):=
 .of_wp λA R s h=>by
  obtain⟨hu,tQ,ho,vn,h⟩:=h
  have hT:s.TypeIs (.ref d) "dict":=⟨_,ho,rfl⟩
  unfold Builtin.«dict.pop»
  refine aa ?_
  unfold Builtin.Dict.keyAndDefault
  refine aa (wpAny_notOrdered_dict hT ?_)
  show wpAny _ _ (pure (d,Value.ref a,some x)) _ _ s
  refine aj ?_
  refine aa (bH ho rfl ?_)
  refine aa (aj ?_)
  have rest:∀GR,wpAny (model S w) A.in1 (Builtin.Dict.missedRemoval d (.ref a)>>=λZ=>rule "dict.pop.default">>=λZ=>ret x) (λfin s'=>∃v,fin=Fin.done (Flow.ret v)/\R (Except.ok (Flow.ret v)) s') (λe s'=>R (Except.error e) s') {s with toks:=GR}:=λGR=>by
   refine aa (wpAny_missedRemoval_other hd ?_)
   exact aa (wpAny_rule (aj ⟨x,rfl,h GR⟩))
  by_cases hem:es.isEmpty=true
  ·rw[hem]
   refine aa (wpAny_rule (aa (aj ?_)))
   exact rest s.toks
  ·rw[Bool.eq_false_iff.mpr hem]
   refine aa (yX hu tQ ho he vn hn hz (λZ=>?_) λj p hj=>aG hj (Hm j p))
   exact rest _
end
section
variable{S:Program}{w:World}{A:Around}{E:Value->Shared->Prop}{s:Shared}{X:Heap}{fr:Addr->Prop}{J:St}{Q:V->St->Prop}
theorem lY{α β:Type}(f:α->β):∀(l:List α) (i:Nat),(l.map f).eraseIdx i=(l.eraseIdx i).map f
 |[],_=>rfl
 |_::_,0=>rfl
 |x::l,i+1=>by simp[lY f l i]
theorem yY{l:Addr}{aq:Array Value}{n:Nat}{k:Int}{t:Tok}{v:Value}{P:Unit->Shared->Prop}(hl:IsL s.heap l aq n)
  (h0:0<=k) (L7:k<2^63) (hn:k<aq.size)
  (hQ:P () {s with heap:=s.heap.update l (Obj.mapSeq (·.setIfInBounds k.toNat v))}):
  wpAny (model S w) A (setItem (.ref l) (.int k t) v) P E s:=by
 have hL:=IsL.a9 hl
 unfold setItem
 try with_reducible refine b7 ?_
 first|refine aa (aj ?_)|skip
 refine aa (wpAny_sequenceKey hL.typeIs (by decide) ?_)
 refine aa (wpAny_callSpecial?_slot (name:=Str.ofString "__setitem__") hL.typeIs slot_list_setitem
  (bR slot_list_setitem hL.typeIs entry_list_setitem ?_ (args_list_setitem _ _ _)))
 show wpAny _ _ (Builtin.List.listSubscript? (.int k t)>>=_) _ _ s
 refine aa (wpAny_listSubscript_int (fitsIndex_of h0 L7) ?_)
 clear L7
 obtain⟨j,rfl⟩:=cA h0
 have hj:j<aq.size:=cp.mp hn
 have S_:aq[j]?=some aq[j]:=Array.getElem?_eq_getElem hj
 show wpAny _ _ ((seqItemAt l j>>=λr=>pure (r.map (j,·)))>>=_) _ _ s
 refine aa (aa (wpAny_seqItemAt hl rfl (aj ?_)))
 rw[S_]
 show wpAny _ _ (setSeqItemAt l j v>>=_) _ _ s
 refine aa (wpAny_setSeqItemAt hl rfl ?_)
 first
  |exact aa (aj (aj ⟨.none,rfl,aj hQ⟩))
  |exact aj ⟨.none,rfl,aj hQ⟩
theorem et.types{h:Heap}{U:Addr->Prop}{l:aN}:∀{xs:List (List Int×Addr×Value)},et h U xs l->∀x∈xs,∃aq n,IsT h x.2.1 aq n/\IntsAre aq.toList x.1/\¬U x.2.1:=by
 induction l with
 |nil=>exactλd=>d.dD λZ hx=>(a7 hx).elim
 |cons p l ih=>
  exactλd=>d.cN λa aq n v es u t i Z d x hx=>by
   rcases au.mp hx with rfl|hx
   ·exact⟨_,_,t,i,u⟩
   ·exact ih d x hx
theorem et.OP{h:Heap}{U:Addr->Prop}{l:aN}:∀{xs:List (List Int×Addr×Value)},et h U xs l->cw h U (xs.map λx=>Value.ref x.2.1) (iU l):=by
 induction l with
 |nil=>exactλd=>d.dD .nil
 |cons p l ih=>exactλd=>d.cN λa aq n v es u t i Z d=>.cons (.bZ u t (cw.ofInts i)) (ih d)
theorem Qz{h:Heap}{U:Addr->Prop}{es:Array DictEntry}{xs:List (List Int×Addr×Value)}{l:aN}(ke:es.toList=xs.map ic)(rd:et h U xs l):es.toList.map (·.hash)=l.map λx=>Hk x.1:=by
 rw[ke,b_,show((λ(x:DictEntry)=>x.hash)∘ic)=Hk∘λx=>x.1 from rfl,<-b_,rd.keys,b_];rfl
theorem L8(I:dR X fr s.heap J){own:Bool}{u:Value}{x:V}{l:aN}(ru:a_ s.heap (cf J fr) u x)(hx:b6 J x=some (.bC l))(hn:(l.map λx=>Hk x.1).Nodup)(hz:l.length<=100000)(q:gG own (.bC l) J Q):
  wpAny (model S w) A (call (.type "dict") [u]) (cO X fr s J Q) E s:=by
 obtain⟨d,es,n,xs,rfl,hs,hd,ke,rd,nd⟩:=kD I ru hx
 refine A3 hs hd (λe he=>?_) (by rw[Qz ke rd];exact hn) (by rw[rF ke rd];exact jT hz) λh' n' hg hk=>?_
 ·have:e∈xs.map ic:=ke▸Array.mem_toList_iff.mpr he
  obtain⟨y,hy,rfl⟩:=aQ.mp this
  obtain⟨aq,m,ht,_,_⟩:=rd.types y hy
  exact⟨y.2.1,rfl,_,ht,rfl⟩
 ·exact tI (tk:=s.toks) I (ij _) hk hg (.bC ke rd nd) q
theorem HH{k:Nat}(ak:h_ k A)(I:dR X fr s.heap J){own:Bool}{u:Value}{x:V}{l:aN}(ru:a_ s.heap (cf J fr) u x)(hx:b6 J x=some (.bC l))(hz:l.length<=100000)(q:gG own (.a9 (iU l)) J Q):
  wpAny (model S w) A (call (.type "list") [u]) (cO X fr s J Q) E s:=by
 obtain⟨d,es,n,xs,rfl,hs,hd,ke,rd,nd⟩:=kD I ru hx
 have ml:=rF ke rd
 refine kdl_call (Yr (es:=es) (n:=n) hs) ak.hh hd (by rw[ml];exact jT hz) λh' tk cB c hk hg fe=>?_
 refine tI I (ij _) hk hg (.a9 ?_) q
 have:cB.toList=xs.map λx=>Value.ref x.2.1:=by
  apply List.ext_getElem?
  intro i
  rcases cM i es.size with hi|hi
  ·have h1:i<cB.size:=by rw[fe.1];exact hi
   have h2:=fe.2 i cB[i] (by simp[h1])
   dsimp only at h2
   rw[<-bk,ke,aA]at h2
   rw[bk,Array.getElem?_eq_getElem h1,<-h2,aA]
   cases xs[i]?<;>rfl
  ·rw[bu (by rw[aV,fe.1];exact hi),bu (by rw[ag,rd.length,<-ml];exact hi)]
 rw[this]
 exact rd.OP
theorem QA(I:dR X fr s.heap J){u:Value}{x:V}{z:V}(ru:a_ s.heap (cf J fr) u x)(e:xf J x=some z)(q:Q z J):
  wpAny (model S w) A (call (.builtin "len") [u]) (cO X fr s J Q) E s:=by
 refine gg e (λl hx e=>qr e λhz e=>?_) (λl hx e=>qr e λhz e=>?_) λl hx e=>qr e λhz e=>?_
 ·cases e
  obtain⟨a,aq,n,rfl,hl,rl⟩:=eE I ru hx
  exact call_len_list (IsL.a9 hl) (by rw[rl.size];exact HA hz) (by rw[rl.size];exact fx I q)
 ·cases e
  obtain⟨a,aq,n,rfl,hl,rl,rfl⟩:=jB I ru hx
  exact PySem.P.len_tuple hl (by rw[rl.size];exact Int.not_le.mpr (HA hz)) (by rw[rl.size];exact fx I q)
 ·cases e
  obtain⟨d,es,n,xs,rfl,hs,hd,ke,rd,nd⟩:=kD I ru hx
  exact EX hs hd (by rw[rF ke rd];exact HA hz) (by rw[rF ke rd];exact fx I q)
theorem ik(I:dR X fr s.heap J){a:Addr}{o o':Obj}{c c':V}{h':Heap}{tk:Nat}{v:Value}{x:V}(e:aY J a=some (o,c))(hs:∀b,b≠a->∀q,s.heap.get? b=some q->h'.get? b=some q)
  (hg:h'.get? a=some o') (r:fH s.heap (cf J fr) o' c') (rv:a_ s.heap (cf J fr) v x) (q:Q x (gN J a o' c')):cO X fr s J Q v {s with heap:=h',toks:=tk}:=
 have p:=Pe.turn (tk:=tk) I e hs hg r
 ⟨x,_,p,p.rep rv,q⟩
theorem jD{h:Heap}{a:Addr}{f:Obj->Obj}:∀b,b≠a->∀q,h.get? b=some q->(h.update a f).get? b=some q:=λb n q e=>(Heap.get?_update_other _ _ (Ne.symm n)).trans e
theorem HI{es:Array DictEntry}{xs:List (List Int×Addr×Value)}{j:Nat}{q:List Int×Addr×Value}(ke:es.toList=xs.map ic)(g:xs[j]?=some q):(es.eraseIdxIfInBounds j).toList=(xs.eraseIdx j).map ic:=by
 have kq:j<es.size:=by
  rw[<-aV,ke,ag];exact(cg.mp g).1
 rw[Array.eraseIdxIfInBounds,dif_pos kq,Array.toList_eraseIdx,<-lY,ke]
section
variable{k:Nat}{a:Addr}{o:Obj}{vs:List Value}{l m:List V}{d:aN}{x y:V}{v v':Value}{ks:List V}{k':List Int}
theorem A7(I:dR X fr s.heap J)(e:aY J a=some (o,.a9 l))(rx:a_ s.heap (cf J fr) v x)(hc:l.length<=100000)(q:∀o',Q .none (gN J a o' (.a9 (l++[x])))):
  wpAny (model S w) A (call (.builtin "list.append") [.ref a,v]) (cO X fr s J Q) E s:=by
 obtain⟨ho,ro⟩:=I.own a o _ e
 obtain⟨aq,n,rfl,rl⟩:=ro.k7
 refine call_meets F.slot_list_append ⟨_,ho,rfl⟩ F.entry_list_append (F.args_list_append_2 _ _) (list_append a aq n v (by rw[rl.size];exact jT hc)) ⟨ho,?_⟩
 exact ik (tk:=s.toks) I e jD (IsL.update ho _) (.a9 (by rw[Array.toList_push];exact cw.append (.cons rx .nil) rl)) .none (q _)
theorem A8(I:dR X fr s.heap J)(e:aY J a=some (o,.a9 l))(rx:a_ s.heap (cf J fr) v x)(hy:b6 J x=some (.a9 m))(hc:(l++m).length<=100000)(q:∀o',Q .none (gN J a o' (.a9 (l++m)))):
  wpAny (model S w) A (call (.builtin "list.extend") [.ref a,v]) (cO X fr s J Q) E s:=by
 obtain⟨ho,ro⟩:=I.own a o _ e
 obtain⟨aq,n,rfl,rl⟩:=ro.k7
 obtain⟨b,mz,n',rfl,GV,vX⟩:=eE I rx hy
 rw[aC,<-rl.size,<-vX.size]at hc
 have Un:¬(!aq.isEmpty&&Builtin.List.listTooLong (aq.size+mz.size))=true:=λh=>
  aG (bh (cK.mp h).2) (Nat.not_lt.mpr (ae hc (aX rfl)))
 refine call_meets F.slot_list_extend ⟨_,ho,rfl⟩ F.entry_list_extend (F.args_list_extend_2 _ _) (AutoSeq1.list_extend_list_list_0 a aq n b mz n' Un (jT (ae (aS _ _) hc)) (cR (jT hc))) ⟨ho,GV,?_⟩
 exact ik (tk:=s.toks) I e jD (IsL.update ho _) (.a9 (by rw[Array.toList_append];exact cw.append vX rl)) .none (q _)
theorem o_{α:Type}{l:Array α}{i:Nat}(h:i<l.size):(l.eraseIdxIfInBounds i).toList=l.toList.eraseIdx i:=by
 rw[Array.eraseIdxIfInBounds,dif_pos h,Array.toList_eraseIdx]
theorem L9(I:dR X fr s.heap J)(e:aY J a=some (o,.a9 l))(hx:l.getLast?=some x)(hc:l.length<=100000)(q:∀o',Q x (gN J a o' (.a9 l.dropLast))):
  wpAny (model S w) A (call (.builtin "list.pop") [.ref a]) (cO X fr s J Q) E s:=by
 obtain⟨ho,ro⟩:=I.own a o _ e
 obtain⟨aq,n,rfl,rl⟩:=ro.k7
 rw[List.getLast?_eq_getElem?]at hx
 obtain⟨v,hv,rx⟩:=rl.get hx
 rw[<-rl.size,bk]at hv
 have kq:=(Array.getElem?_eq_some_iff.mp hv).1
 refine call_meets F.slot_list_pop ⟨_,ho,rfl⟩ F.entry_list_pop (F.args_list_pop_1 _) (MeetsSeq.list_pop_last a aq n v hv (by rw[rl.size];exact jT hc)) ⟨ho,?_⟩
 refine ik (tk:=s.toks) I e jD (IsL.update ho _) (.a9 ?_) rx (q _)
 rw[o_ kq,List.eraseIdx_eq_take_drop_succ,List.drop_of_length_le (by rw[aV];exact Nat.le_add_of_sub_le (bc _)),bD,List.dropLast_eq_take,<-rl.size]
 exact rl.take _
theorem E0(I:dR X fr s.heap J)(e:aY J a=some (o,.a9 (x::l)))(rx:a_ s.heap (cf J fr) v (.int 0))(hc:(x::l).length<=100000)(q:∀o',Q x (gN J a o' (.a9 l))):
  wpAny (model S w) A (call (.builtin "list.pop") [.ref a,v]) (cO X fr s J Q) E s:=by
 obtain⟨ho,ro⟩:=I.own a o _ e
 obtain⟨aq,n,rfl,rl⟩:=ro.k7
 obtain⟨t,rfl⟩:=rx.j_ rfl
 obtain⟨v,hv,rx⟩:=rl.get (i:=0) (x:=x) rfl
 rw[bk]at hv
 have kq:=(Array.getElem?_eq_some_iff.mp hv).1
 have hj:seqIndex? 0 aq.size=some 0:=rG (Int.le_refl 0) kq
 refine call_meets F.slot_list_pop ⟨_,ho,rfl⟩ F.entry_list_pop (F.args_list_pop_2 _ _) (MeetsSeq.list_pop_at a aq n 0 t 0 v (by decide) hj hv (by rw[rl.size];exact jT hc)) ⟨ho,?_⟩
 refine ik (tk:=s.toks) I e jD (IsL.update ho _) (.a9 ?_) rx (q _)
 rw[o_ kq,List.eraseIdx_zero,<-List.drop_one]
 exact rl.drop 1
theorem C5{k:Nat}(ak:h_ k A):(tupleKind (intKind S w)).room A.in1:=aB (aF (by decide) _) ak.room
theorem C6{k:Nat}(ak:h_ k A){d:aN}{y:V}(I:dR X fr s.heap J)(e:aY J a=some (o,.bC d))(rx:a_ s.heap (cf J fr) v (.bZ ks))(hk:dN ks=some k')(hy:dp d k'=some y)(hc:d.length<=100000)
  {r:List Value} (hr:r=[]\/∃x,r=[x]) (q:∀o',Q y (gN J a o' (.bC (jA d k')))):wpAny (model S w) A (call (.builtin "dict.pop") (.ref a::v::r)) (cO X fr s J Q) E s:=by
 obtain⟨ho,ro⟩:=I.own a o _ e
 obtain⟨es,n,xs,rfl,ke,rd,nd⟩:=ro.my
 obtain⟨b,aq,m,rfl,ub,eb,ib⟩:=jl rx hk
 rcases rd.at (k:=k')with⟨g1,g2⟩|⟨j,p,y',g1,g2,g3⟩
 ·exact nn (g1.symm.trans hy)
 ·cases g1.symm.trans hy
  refine call_meetsIn F.slot_dict_pop ⟨_,ho,rfl⟩ F.entry_dict_pop (by rcases hr with rfl|⟨x,rfl⟩;exact F.args_dict_pop_2 _ _;exact F.args_dict_pop_3 _ _ _) (A5 a b es n xs k' j p g2 ke (by rw[rd.keys];exact nd) (by rw[rF ke rd];exact jT hc) r hr) ⟨C5 ak,n_ S w eb ib,ho,rd.xj S w,?_⟩
  exact ik (o':={cls:=.type "dict",data:=.dict (es.eraseIdxIfInBounds j) (n+1)}) I e jD (by rw[Heap.get?_update_self _ ho rfl];rfl) (.bC (xs:=xs.eraseIdx j) (HI ke g2) (rd.del g2 nd) (yW.nodup nd)) g3 (q _)
theorem E3{k:Nat}(ak:h_ k A){d:aN}(I:dR X fr s.heap J)(e:aY J a=some (o,.bC d))(rx:a_ s.heap (cf J fr) v (.bZ ks))(QB:a_ s.heap (cf J fr) v' x)(hk:dN ks=some k')(hc:d.length<=100000)
  (q:∀o',Q ((dp d k').getD x) (gN J a o' (.bC (jA d k')))):wpAny (model S w) A (call (.builtin "dict.pop") [.ref a,v,v']) (cO X fr s J Q) E s:=by
 cases hy:dp d k' with
 |some y=>rw[hy]at q;exact C6 ak I e rx hk hy hc (.inr ⟨_,rfl⟩) q
 |none=>
  rw[hy,EZ hy]at q
  obtain⟨ho,ro⟩:=I.own a o _ e
  obtain⟨es,n,xs,rfl,ke,rd,nd⟩:=ro.my
  obtain⟨b,aq,m,rfl,ub,eb,ib⟩:=jl rx hk
  have g2:∀(j:Nat) (p:Addr×Value),xs[j]?≠some (k',p):=by
   rcases rd.at (k:=k')with⟨g1,g2⟩|⟨j,p,y',g1,g2,g3⟩
   ·exact g2
   ·exact nn (hy.symm.trans g1)
  refine call_meetsIn F.slot_dict_pop ⟨_,ho,rfl⟩ F.entry_dict_pop (F.args_dict_pop_3 _ _ _) (A6 a b v' es n xs k' (I.xh (by rw[e];rfl)) g2 ke (by rw[rd.keys];exact nd) (by rw[rF ke rd];exact jT hc)) ⟨C5 ak,n_ S w eb ib,ho,rd.xj S w,λGR=>?_⟩
  exact ik (h':=s.heap) I e (λb Z q e=>e) ho (.bC ke rd nd) QB (q _)
theorem HJ{k:Nat}(ak:h_ k A){d:aN}(I:dR X fr s.heap J)(e:aY J a=some (o,.bC d))(rx:a_ s.heap (cf J fr) v (.bZ ks))(QB:a_ s.heap (cf J fr) v' x)(hk:dN ks=some k')
  (q:∀o',Q ((dp d k').getD x) (gN J a o' (.bC d))):wpAny (model S w) A (call (.builtin "dict.get") [.ref a,v,v']) (cO X fr s J Q) E s:=by
 obtain⟨ho,ro⟩:=I.own a o _ e
 obtain⟨es,n,xs,rfl,ke,rd,nd⟩:=ro.my
 obtain⟨b,aq,m,rfl,ub,eb,ib⟩:=jl rx hk
 refine call_meetsIn F.slot_dict_get ⟨_,ho,rfl⟩ F.entry_dict_get (F.args_dict_get_3 _ _ _) (meetsH_dict_get_default (tk S w) a b (I.xh (by rw[e];rfl)) v') ⟨C5 ak,k',xs,n_ S w eb ib,vW S w ho ke rd nd,?_⟩
 rcases rd.aY nd k' with⟨g1,g2⟩|⟨p,y',g1,g2,g3⟩
 ·rw[g2];rw[g1]at q
  exact ik (h':=s.heap) I e (λb Z q e=>e) ho (.bC ke rd nd) QB (q _)
 ·rw[g2];rw[g1]at q
  exact ik (h':=s.heap) I e (λb Z q e=>e) ho (.bC ke rd nd) g3 (q _)
end
theorem QC{k:Nat}(ak:h_ k A)(I:dR X fr s.heap J){m:Me}{a:Addr}{o:Obj}{c c' z:V}{vs:List Value}{ys:List V}(e:aY J a=some (o,c))(rv:cw s.heap (cf J fr) vs ys)(hm:mu J m c ys=some (c',z))(s8:m≠.sort)
  (hc:ey c) (C7:ey c') (q:∀o',Q z (gN J a o' c')):wpAny (model S w) A (call (.builtin (xu m)) (.ref a::vs)) (cO X fr s J Q) E s:=by
 have G:∀{c ys},aY J a=some (o,c)->cw s.heap (cf J fr) vs ys->mu J m c ys=some (c',z)->ey c->wpAny (model S w) A (call (.builtin (xu m)) (.ref a::vs)) (cO X fr s J Q) E s:=λ{c ys} e rv hm hc=>by
  cases m with
  |append=>
   exact jZ (P:=λc=>aY J a=some (o,c)->ey c->_) hm (λl hm e hc=>yK (L:=λys=>cw s.heap (cf J fr) vs ys->_) hm (λx hm rv=>by
    cases hm
    exact rv.cN λv vs rx r=>r.dD (A7 I e rx hc q)) rv) e hc
  |extend=>
   exact jZ (P:=λc=>aY J a=some (o,c)->ey c->_) hm (λl hm e hc=>yK (L:=λys=>cw s.heap (cf J fr) vs ys->_) hm (λx hm rv=>gg hm (λm hx hm=>by
    cases hm
    exact rv.cN λv vs rx r=>r.dD (A8 I e rx hx C7 q)) (λZ Z h=>nn h) λZ Z h=>nn h) rv) e hc
  |pop=>
   exact jZ (P:=λc=>aY J a=some (o,c)->ey c->_) hm (λl hm e hc=>n8 (L:=λys=>cw s.heap (cf J fr) vs ys->_) hm (λhm rv=>eM hm λx hx hm=>by
    cases hm
    exact rv.dD (L9 I e hx hc q)) rv) e hc
  |rB=>
   exact jZ (P:=λc=>aY J a=some (o,c)->ey c->_) hm (λl hm e hc=>yK (L:=λys=>cw s.heap (cf J fr) vs ys->_) hm (λx hm rv=>d_ (P:=λx=>cw s.heap (cf J fr) vs [x]->_) hm (λi hm rv=>qr hm λhi hm=>
    vT (L:=λl=>aY J a=some (o,.a9 l)->l.length<=100000->_) hm (λx r hm e hc=>by
     cases hm;subst hi
     exact rv.cN λv vs rx r=>r.dD (E0 I e rx hc q)) e hc) rv) rv) e hc
  |rC=>
   exact nc (P:=λc=>aY J a=some (o,c)->ey c->_) hm (λl hm e hc=>yK (L:=λys=>cw s.heap (cf J fr) vs ys->_) hm (λx hm rv=>gS (P:=λx=>cw s.heap (cf J fr) vs [x]->_) hm (λks hm rv=>eM hm λk hk hm=>eM hm λy hy hm=>by
    cases hm
    exact rv.cN λv vs rx r=>r.dD (C6 ak I e rx hk hy hc (.inl rfl) q)) rv) rv) e hc
  |rD=>
   exact nc (P:=λc=>aY J a=some (o,c)->ey c->_) hm (λl hm e hc=>vS (L:=λys=>cw s.heap (cf J fr) vs ys->_) hm (λx d hm rv=>gS (P:=λx=>cw s.heap (cf J fr) vs [x,d]->_) hm (λks hm rv=>eM hm λk hk hm=>by
    cases hm
    exact rv.cN λv vs rx r=>r.cN λv' vs QB r=>r.dD (E3 ak I e rx QB hk hc q)) rv) rv) e hc
  |yH=>
   exact nc (P:=λc=>aY J a=some (o,c)->ey c->_) hm (λl hm e hc=>vS (L:=λys=>cw s.heap (cf J fr) vs ys->_) hm (λx d hm rv=>gS (P:=λx=>cw s.heap (cf J fr) vs [x,d]->_) hm (λks hm rv=>eM hm λk hk hm=>by
    cases hm
    exact rv.cN λv vs rx r=>r.cN λv' vs QB r=>r.dD (HJ ak I e rx QB hk q)) rv) rv) e hc
  |sort=>exact aG rfl s8
 exact G e rv hm hc
theorem QD{k:Nat}(ak:h_ k A)(I:dR X fr s.heap J){a:Addr}{o:Obj}{c c' y x:V}{u v:Value}{P:Unit->Shared->Prop}(e:aY J a=some (o,c))(ru:a_ s.heap (cf J fr) u y)(rv:a_ s.heap (cf J fr) v x)(hm:nU c y x=some c')
  (hc:ey c) (q:∀o' s',Pe X fr s J s' (gN J a o' c')->P () s'):
  wpAny (model S w) A (setItem (.ref a) u v) P E s:=by
 obtain⟨ho,ro⟩:=I.own a o c e
 cases c with
 |a9 l=>
  exact d_ (P:=λy=>a_ s.heap (cf J fr) u y->_) hm (λi hm ru=>qr hm λhi hm=>an hi λhi hl=>by
   cases hm
   obtain⟨aq,n,rfl,rl⟩:=ro.k7
   obtain⟨t,rfl⟩:=ru.j_ rfl
   have hl:=aX hl
   have h0:=(ku hi).1
   have h1:i<(aq.size:Int):=by
    rw[rl.size];exact Int.lt_of_lt_of_le (Int.lt_succ i) (by rw[<-Int.toNat_of_nonneg h0];exact cJ.mpr hl)
   refine yY ho h0 (Int.lt_trans (ku hi).2 (by decide)) h1 ?_
   refine q _ _ (Pe.turn (tk:=s.toks) I e jD (IsL.update ho _) (.a9 ?_))
   rw[Array.toList_setIfInBounds]
   exact cw.set rv rl _) ru
 |bC l=>
  exact gS (P:=λy=>a_ s.heap (cf J fr) u y->_) hm (λks hm ru=>eM hm λk hk hm=>by
   cases hm
   obtain⟨es,n,xs,rfl,ke,rd,nd⟩:=ro.my
   obtain⟨b,aq,m,rfl,ub,eb,ib⟩:=jl ru hk
   refine wpAny_setItem_heap (C5 ak) (n_ S w eb ib) (vW S w ho ke rd nd) (λh' hg hs=>?_) (by rw[rd.length];exact jT hc)
   obtain⟨EP,n',vm,Uo⟩:=xq hg
   refine q {cls:=.type "dict",data:=.dict EP n'} _ (Pe.turn I e (λb hb q e=>(hs.2 b hb).trans e) vm (.bC Uo ?_ (iK nd)))
   rcases rd.aY nd k with⟨g1,g2⟩|⟨p,y',g1,g2,g3⟩
   ·rw[storedH_new g2]
    exact rd.kh ub eb ib rv g1
   ·rw[storedH_old g2]
    exact rd.A4 rv nd (by rw[g1];rfl)) ru
 |_=>exact nn hm
end
section
variable{α:Type}{P:α->Prop}
theorem yZ{a b:α}[Decidable (a=b)]{r:Bool}(h:(decide (a=b)&&r)=true)(H:r=true->P b):P a:=an h λh1 h2=>bh h1▸H h2
noncomputable def LD(l:List α)(f:α->Bool):Bool:=match l with
 |[]=>false
 |x::r=>match r with
  |[]=>f x
  |_::_=>false
def OQ(l:List α)(f:α->α->Bool):Bool:=match l with
 |[]=>false
 |x::r=>LD r (f x)
noncomputable def LF(l:List α)(b:Bool):Bool:=match l with
 |[]=>b
 |_::_=>false
noncomputable def E4(l:List α)(f:α->List α->Bool):Bool:=match l with
 |[]=>false
 |x::r=>f x r
noncomputable def OR(o:Option α)(f:α->Bool):Bool:=match o with
 |some a=>f a
 |none=>false
noncomputable def Up(o:Option α)(b:Bool):Bool:=match o with
 |some _=>false
 |none=>b
end
section
variable{α:Type}{P:List α->Prop}{R:Option α->Prop}
@[elab_as_elim] theorem k9{l:List α}{f}(h:LD l f=true)(H:∀x,f x=true->P [x]):P l:=by
 cases l with
 |nil=>exact no h
 |cons x r=>cases r with
  |nil=>exact H x h
  |cons=>exact no h
@[elab_as_elim] theorem xx{l:List α}{f}(h:OQ l f=true)(H:∀x y,f x y=true->P [x,y]):P l:=by
 cases l with
 |nil=>exact no h
 |cons x r=>exact k9 (P:=λr=>P (x::r)) h (H x)
@[elab_as_elim] theorem ki{l:List α}{b}(h:LF l b=true)(H:b=true->P []):P l:=by
 cases l with
 |nil=>exact H h
 |cons=>exact no h
@[elab_as_elim] theorem k_{l:List α}{f}(h:E4 l f=true)(H:∀x r,f x r=true->P (x::r)):P l:=by
 cases l with
 |nil=>exact no h
 |cons x r=>exact H x r h
@[elab_as_elim] theorem tR{o:Option α}{f}(h:OR o f=true)(H:∀x,f x=true->R (some x)):R o:=by
 cases o with
 |none=>exact no h
 |some x=>exact H x h
@[elab_as_elim] theorem xy{o:Option α}{b}(h:Up o b=true)(H:b=true->R none):R o:=by
 cases o with
 |none=>exact H h
 |some=>exact no h
end
noncomputable def yz(x:Expr)(k:Nat)(g:x.ctorIdx=k->Bool):Bool:=if h:x.ctorIdx=k then g h else false
theorem gJ{x:Expr}{k:Nat}{g:x.ctorIdx=k->Bool}{P:Prop}(h:yz x k g=true)(H:∀e,g e=true->P):P:=by
 unfold yz at h
 by_cases e:x.ctorIdx=k
 ·rw[dif_pos e]at h;exact H e h
 ·rw[dif_neg e]at h;exact no h
def sG(x:Expr)(f:Str->Bool):Bool:=yz x 23 λh=>Expr.Name.elim (motive_1:=λZ=>Bool) x h λn Z=>f n
def HK(x:Expr)(f:Const->Bool):Bool:=yz x 19 λh=>Expr.Constant.elim (motive_1:=λZ=>Bool) x h λc Z Z=>f c
def HL(x:Expr)(f:Expr->Operator->Expr->Bool):Bool:=yz x 2 λh=>Expr.BinOp.elim (motive_1:=λZ=>Bool) x h λa b c Z=>f a b c
def C8(x:Expr)(f:UnaryOp->Expr->Bool):Bool:=yz x 3 λh=>Expr.UnaryOp.elim (motive_1:=λZ=>Bool) x h λa b Z=>f a b
def HM(x:Expr)(f:BoolOp->List Expr->Bool):Bool:=yz x 0 λh=>Expr.BoolOp.elim (motive_1:=λZ=>Bool) x h λa b Z=>f a b
def HN(x:Expr)(f:Expr->List CmpOp->List Expr->Bool):Bool:=yz x 15 λh=>Expr.Compare.elim (motive_1:=λZ=>Bool) x h λa b c Z=>f a b c
def OS(x:Expr)(f:Expr->Expr->Expr->Bool):Bool:=yz x 5 λh=>Expr.IfExp.elim (motive_1:=λZ=>Bool) x h λa b c Z=>f a b c
def y0(x:Expr)(f:List Expr->Bool):Bool:=yz x 25 λh=>Expr.Tuple.elim (motive_1:=λZ=>Bool) x h λl Z Z=>f l
def OT(x:Expr)(f:List Expr->Bool):Bool:=yz x 24 λh=>Expr.List.elim (motive_1:=λZ=>Bool) x h λl Z=>f l
def A9(x:Expr)(f:List (Option Expr)->List Expr->Bool):Bool:=yz x 6 λh=>Expr.Dict.elim (motive_1:=λZ=>Bool) x h λa b Z=>f a b
def HO(x:Expr)(f:Expr->List Comprehension->Scope->Bool):Bool:=yz x 8 λh=>Expr.ListComp.elim (motive_1:=λZ=>Bool) x h λa b c Z=>f a b c
def HP(x:Expr)(f:Expr->Expr->List Comprehension->Scope->Bool):Bool:=yz x 10 λh=>Expr.DictComp.elim (motive_1:=λZ=>Bool) x h λa b c d Z=>f a b c d
def y4(x:Expr)(f:Expr->Expr->Bool):Bool:=yz x 21 λh=>Expr.Subscript.elim (motive_1:=λZ=>Bool) x h λa b Z=>f a b
def C9(x:Expr)(f:Expr->List Expr->List Keyword->Pos->Bool):Bool:=yz x 16 λh=>Expr.Call.elim (motive_1:=λZ=>Bool) x h λa b c d=>f a b c d
def OU(x:Expr)(f:Expr->Str->Pos->Bool):Bool:=yz x 20 λh=>Expr.Attribute.elim (motive_1:=λZ=>Bool) x h λa b c=>f a b c
def A_(x:Expr)(f:Option Expr->Option Expr->Option Expr->Bool):Bool:=yz x 26 λh=>Expr.Slice.elim (motive_1:=λZ=>Bool) x h λa b c Z=>f a b c
def HQ(x:Expr)(f:BoolOp->Expr->Expr->Bool):Bool:=HM x λa l=>OQ l λb c=>f a b c
def OV(x:Expr)(f:Expr->CmpOp->Expr->Bool):Bool:=HN x λa l m=>LD l λb=>LD m λc=>f a b c
def HR(x:Expr):Bool:=A9 x λk v=>LF k (LF v true)
def HS(x:Expr)(f:Expr->Expr->Bool):Bool:=A9 x λk v=>LD k λa=>OR a λa=>LD v λb=>f a b
def Uq(x:Expr)(f:Expr->Comprehension->List Comprehension->Scope->Bool):Bool:=HO x λe l s=>E4 l λc g=>f e c g s
def Ur(x:Expr)(f:Expr->Expr->Comprehension->List Comprehension->Scope->Bool):Bool:=HP x λa b l s=>E4 l λc g=>f a b c g s
def OW(x:Expr)(f:Option Expr->Option Expr->Bool):Bool:=A_ x λa b c=>Up c (f a b)
def Us(x:Expr)(f:Expr->Bool):Bool:=A_ x λa b c=>Up a (Up b (OR c f))
def qD(x:Expr)(f:Expr->List Expr->Pos->Bool):Bool:=C9 x λa b c p=>LF c (f a b p)
section
variable{x:Expr}{P:Expr->Prop}
@[elab_as_elim] theorem il{f}(h:sG x f=true)(H:∀n p,f n=true->P (.Name n p)):P x:=
 gJ h λe=>Expr.Name.elim (motive_1:=λx=>∀e,Expr.Name.elim (motive_1:=λZ=>Bool) x e (λn Z=>f n)=true->P x) x e (λn p Z=>H n p) e
@[elab_as_elim] theorem y5{f}(h:HK x f=true)(H:∀c k p,f c=true->P (.Constant c k p)):P x:=
 gJ h λe=>Expr.Constant.elim (motive_1:=λx=>∀e,Expr.Constant.elim (motive_1:=λZ=>Bool) x e (λc Z Z=>f c)=true->P x) x e (λc k p Z=>H c k p) e
@[elab_as_elim] theorem y6{f}(h:HL x f=true)(H:∀a b c p,f a b c=true->P (.BinOp a b c p)):P x:=
 gJ h λe=>Expr.BinOp.elim (motive_1:=λx=>∀e,Expr.BinOp.elim (motive_1:=λZ=>Bool) x e (λa b c Z=>f a b c)=true->P x) x e (λa b c p Z=>H a b c p) e
@[elab_as_elim] theorem tS{f}(h:C8 x f=true)(H:∀a b p,f a b=true->P (.UnaryOp a b p)):P x:=
 gJ h λe=>Expr.UnaryOp.elim (motive_1:=λx=>∀e,Expr.UnaryOp.elim (motive_1:=λZ=>Bool) x e (λa b Z=>f a b)=true->P x) x e (λa b p Z=>H a b p) e
@[elab_as_elim] theorem E5{f}(h:HM x f=true)(H:∀a b p,f a b=true->P (.BoolOp a b p)):P x:=
 gJ h λe=>Expr.BoolOp.elim (motive_1:=λx=>∀e,Expr.BoolOp.elim (motive_1:=λZ=>Bool) x e (λa b Z=>f a b)=true->P x) x e (λa b p Z=>H a b p) e
@[elab_as_elim] theorem E6{f}(h:HN x f=true)(H:∀a b c p,f a b c=true->P (.Compare a b c p)):P x:=
 gJ h λe=>Expr.Compare.elim (motive_1:=λx=>∀e,Expr.Compare.elim (motive_1:=λZ=>Bool) x e (λa b c Z=>f a b c)=true->P x) x e (λa b c p Z=>H a b c p) e
@[elab_as_elim] theorem HT{f}(h:OS x f=true)(H:∀a b c p,f a b c=true->P (.IfExp a b c p)):P x:=
 gJ h λe=>Expr.IfExp.elim (motive_1:=λx=>∀e,Expr.IfExp.elim (motive_1:=λZ=>Bool) x e (λa b c Z=>f a b c)=true->P x) x e (λa b c p Z=>H a b c p) e
@[elab_as_elim] theorem mA{f}(h:y0 x f=true)(H:∀l q p,f l=true->P (.Tuple l q p)):P x:=
 gJ h λe=>Expr.Tuple.elim (motive_1:=λx=>∀e,Expr.Tuple.elim (motive_1:=λZ=>Bool) x e (λl Z Z=>f l)=true->P x) x e (λl q p Z=>H l q p) e
@[elab_as_elim] theorem HU{f}(h:OT x f=true)(H:∀l p,f l=true->P (.List l p)):P x:=
 gJ h λe=>Expr.List.elim (motive_1:=λx=>∀e,Expr.List.elim (motive_1:=λZ=>Bool) x e (λl Z=>f l)=true->P x) x e (λl p Z=>H l p) e
@[elab_as_elim] theorem v7{f}(h:A9 x f=true)(H:∀a b p,f a b=true->P (.Dict a b p)):P x:=
 gJ h λe=>Expr.Dict.elim (motive_1:=λx=>∀e,Expr.Dict.elim (motive_1:=λZ=>Bool) x e (λa b Z=>f a b)=true->P x) x e (λa b p Z=>H a b p) e
@[elab_as_elim] theorem y7{f}(h:HO x f=true)(H:∀a b c p,f a b c=true->P (.ListComp a b c p)):P x:=
 gJ h λe=>Expr.ListComp.elim (motive_1:=λx=>∀e,Expr.ListComp.elim (motive_1:=λZ=>Bool) x e (λa b c Z=>f a b c)=true->P x) x e (λa b c p Z=>H a b c p) e
@[elab_as_elim] theorem y8{f}(h:HP x f=true)(H:∀a b c d p,f a b c d=true->P (.DictComp a b c d p)):P x:=
 gJ h λe=>Expr.DictComp.elim (motive_1:=λx=>∀e,Expr.DictComp.elim (motive_1:=λZ=>Bool) x e (λa b c d Z=>f a b c d)=true->P x) x e (λa b c d p Z=>H a b c d p) e
@[elab_as_elim] theorem pd{f}(h:y4 x f=true)(H:∀a b p,f a b=true->P (.Subscript a b p)):P x:=
 gJ h λe=>Expr.Subscript.elim (motive_1:=λx=>∀e,Expr.Subscript.elim (motive_1:=λZ=>Bool) x e (λa b Z=>f a b)=true->P x) x e (λa b p Z=>H a b p) e
@[elab_as_elim] theorem A'{f}(h:C9 x f=true)(H:∀a b c d,f a b c d=true->P (.Call a b c d)):P x:=
 gJ h λe=>Expr.Call.elim (motive_1:=λx=>∀e,Expr.Call.elim (motive_1:=λZ=>Bool) x e (λa b c d=>f a b c d)=true->P x) x e (λa b c d Z=>H a b c d) e
@[elab_as_elim] theorem HV{f}(h:OU x f=true)(H:∀a b c,f a b c=true->P (.Attribute a b c)):P x:=
 gJ h λe=>Expr.Attribute.elim (motive_1:=λx=>∀e,Expr.Attribute.elim (motive_1:=λZ=>Bool) x e (λa b c=>f a b c)=true->P x) x e (λa b c Z=>H a b c) e
@[elab_as_elim] theorem v8{f}(h:A_ x f=true)(H:∀a b c p,f a b c=true->P (.Slice a b c p)):P x:=
 gJ h λe=>Expr.Slice.elim (motive_1:=λx=>∀e,Expr.Slice.elim (motive_1:=λZ=>Bool) x e (λa b c Z=>f a b c)=true->P x) x e (λa b c p Z=>H a b c p) e
@[elab_as_elim] theorem y9{f}(h:HQ x f=true)(H:∀a b c p,f a b c=true->P (.BoolOp a [b,c] p)):P x:=
 E5 h λa Z p h=>xx (P:=λl=>P (.BoolOp a l p)) h λb c=>H a b c p
@[elab_as_elim] theorem HW{f}(h:OV x f=true)(H:∀a b c p,f a b c=true->P (.Compare a [b] [c] p)):P x:=
 E6 h λa l m p h=>k9 (P:=λl=>P (.Compare a l m p)) h λb h=>k9 (P:=λm=>P (.Compare a [b] m p)) h λc=>H a b c p
@[elab_as_elim] theorem E7(h:HR x=true)(H:∀p,P (.Dict [] [] p)):P x:=
 v7 h λk v p h=>ki (P:=λk=>P (.Dict k v p)) h λh=>ki (P:=λv=>P (.Dict [] v p)) h λZ=>H p
@[elab_as_elim] theorem E8{f}(h:HS x f=true)(H:∀a b p,f a b=true->P (.Dict [some a] [b] p)):P x:=
 v7 h λk v p h=>k9 (P:=λk=>P (.Dict k v p)) h λa h=>tR (R:=λa=>P (.Dict [a] v p)) h λa h=>k9 (P:=λv=>P (.Dict [some a] v p)) h λb=>H a b p
@[elab_as_elim] theorem C_{f}(h:Uq x f=true)(H:∀e c g s p,f e c g s=true->P (.ListComp e (c::g) s p)):P x:=
 y7 h λe l s p h=>k_ (P:=λl=>P (.ListComp e l s p)) h λc g=>H e c g s p
@[elab_as_elim] theorem C'{f}(h:Ur x f=true)(H:∀a b c g s p,f a b c g s=true->P (.DictComp a b (c::g) s p)):P x:=
 y8 h λa b l s p h=>k_ (P:=λl=>P (.DictComp a b l s p)) h λc g=>H a b c g s p
@[elab_as_elim] theorem HX{f}(h:OW x f=true)(H:∀a b p,f a b=true->P (.Slice a b none p)):P x:=
 v8 h λa b c p h=>xy (R:=λc=>P (.Slice a b c p)) h (H a b p)
@[elab_as_elim] theorem L_{f}(h:Us x f=true)(H:∀a p,f a=true->P (.Slice none none (some a) p)):P x:=
 v8 h λa b c p h=>xy (R:=λa=>P (.Slice a b c p)) h λh=>xy (R:=λb=>P (.Slice none b c p)) h λh=>tR (R:=λc=>P (.Slice none none c p)) h λa=>H a p
@[elab_as_elim] theorem kF{f}(h:qD x f=true)(H:∀a b p,f a b p=true->P (.Call a b [] p)):P x:=
 A' h λa b c p h=>ki (P:=λc=>P (.Call a b c p)) h (H a b p)
end
inductive Dr
 |it (v:Value)
 |en (i:Int) (v:Value)
 |nm (i:Int)
def Dr.Is(h h':Heap):Dr->Value->Prop
 |.it v,u=>u=v
 |.en i v,u=>∃a t,u=.ref a/\h.get? a=none/\IsT h' a #[.int i t,v] 0
 |.nm i,u=>∃t,u=.int i t
def rH(h:Heap)(U:Addr->Prop):Dr->V->Prop
 |.it v,x=>a_ h U v x
 |.en i v,x=>∃y,x=.bZ [.int i,y]/\a_ h U v y
 |.nm i,x=>x=.int i
def eZ(h:Heap)(U:Addr->Prop)(ds:List Dr)(xs:List V):Prop:=ds.length=xs.length/\∀{i:Nat} {d x},ds[i]?=some d->xs[i]?=some x->rH h U d x
theorem eZ.nil{h:Heap}{U:Addr->Prop}:eZ h U [] []:=⟨rfl,λe=>nn e⟩
theorem eZ.cons{h:Heap}{U:Addr->Prop}{d x ds xs}(a:rH h U d x)(r:eZ h U ds xs):eZ h U (d::ds) (x::xs):=⟨ao Nat.succ r.1,λ{i}=>by
 cases i with
 |zero=>exactλe f=>by cases e;cases f;exact a
 |succ i=>exact r.2⟩
theorem eZ.length{h:Heap}{U:Addr->Prop}{ds xs}(r:eZ h U ds xs):ds.length=xs.length:=r.1
theorem eZ.get{h:Heap}{U:Addr->Prop}{ds xs}(r:eZ h U ds xs){i:Nat}{d x}:ds[i]?=some d->xs[i]?=some x->rH h U d x:=r.2
theorem rH.keep{h h':Heap}{U U':Addr->Prop}(k:ft h h' U U'){d x}(r:rH h U d x):rH h' U' d x:=by
 cases d with
 |it v=>exact a_.keep k r
 |en i v=>exact r.imp λy q=>⟨q.1,q.2.keep k⟩
 |nm i=>exact r
theorem eZ.keep{h h':Heap}{U U':Addr->Prop}(k:ft h h' U U'){ds xs}(r:eZ h U ds xs):eZ h' U' ds xs:=⟨r.1,λe f=>(r.2 e f).keep k⟩
theorem rH.drawn{h h':Heap}{U:Addr->Prop}{d:Dr}{x:V}{v:Value}(r:rH h' U d x)(i:d.Is h h' v)(hf:∀a,h.get? a=none->¬U a):a_ h' U v x:=by
 cases d with
 |it u=>rw[show v=u from i];exact r
 |en k u=>
  obtain⟨a,t,rfl,hn,ht⟩:=i
  obtain⟨y,rfl,q⟩:=r
  exact .bZ (hf a hn) ht (.cons (.int k t) (.cons q .nil))
 |nm k=>
  obtain⟨t,rfl⟩:=i
  rw[show x=.int k from r];exact .int k t
theorem xA{h:Heap}{U:Addr->Prop}{xs:List V}:∀{vs:List Value},cw h U vs xs->eZ h U (vs.map .it) xs:=by
 induction xs with
 |nil=>exactλr=>r.dD .nil
 |cons x xs ih=>exactλr=>r.cN λv vs a r=>.cons a (ih r)
noncomputable def E9:Nat->List Value->List Dr
 |_,[]=>[]
 |n,v::r=>.en n v::E9 (n+1) r
theorem y_(vs:List Value):∀n:Nat,(E9 n vs).length=vs.length:=by
 induction vs with
 |nil=>exactλZ=>rfl
 |cons v r ih=>exactλn=>ao Nat.succ (ih (n+1))
theorem HY(vs:List Value):∀(n i:Nat),(E9 n vs)[i]?=(vs[i]?).map λv=>.en ((n+i:Nat):Int) v:=by
 induction vs with
 |nil=>exactλZ Z=>rfl
 |cons v r ih=>
  exactλn i=>by
   cases i with
   |zero=>rfl
   |succ i=>exact(ih (n+1) i).trans (by rw[bo];rfl)
theorem E_{vs:List Value}{i:Nat}{d:Dr}(e:(E9 0 vs)[i]?=some d):∃x,vs[i]?=some x/\.en i x=d:=by
 rw[HY,bS]at e
 exact aO.mp e
theorem Ys{h:Heap}{U:Addr->Prop}{xs:List V}:∀{vs:List Value} (n:Nat),cw h U vs xs->eZ h U (E9 n vs) (fB n xs):=by
 induction xs with
 |nil=>exactλZ r=>r.dD .nil
 |cons x xs ih=>exactλn r=>r.cN λv vs a r=>.cons ⟨_,rfl,a⟩ (ih (n+1) r)
theorem Yt{h:Heap}{U:Addr->Prop}(l:List Nat):eZ h U (l.map λ(i:Nat)=>.nm (i:Int)) (l.map λ(i:Nat)=>.int (i:Int)):=by
 induction l with
 |nil=>exact .nil
 |cons a r ih=>exact .cons rfl ih
structure Tn(S:Program)(w:World)(A:Around)(aR:Expr)(I:Addr)(fp wr:List Addr)(ds:List Dr)(St:Nat->Heap->Prop)(Md:Nat->Value->Heap->Prop):Prop where
 sub:∀b∈wr,b∈fp
 frame:∀i h h',St i h->(∀b∈fp,∀o,h.get? b=some o->h'.get? b=some o)->St i h'
 item:∀i d (s:Shared) (Q:Option Value->Shared->Prop) (E:Value->Shared->Prop),ds[i]?=some d->St i s.heap->
  (∀v h' tk,d.Is s.heap h' v->Md i v h'->(∀b o,b∉wr->s.heap.get? b=some o->h'.get? b=some o)->Q (some v) {s with heap:=h',toks:=tk})->wpAny (model S w) A (pyNext (.ref I)) Q E s
 go:∀i v (s:Shared) (Q:Unit->Shared->Prop) (E:Value->Shared->Prop),Md i v s.heap->
  (∀h',St (i+1) h'->(∀b o,b∉wr->s.heap.get? b=some o->h'.get? b=some o)->Q () {s with heap:=h'})->wpAny (model S w) A (letOwnedTupleGo aR (.ref I) v) Q E s
 done:∀(s:Shared) (Q:Option Value->Shared->Prop) (E:Value->Shared->Prop),St ds.length s.heap->
  (∀h' tk,(∀b o,b∉wr->s.heap.get? b=some o->h'.get? b=some o)->Q none {s with heap:=h',toks:=tk})->wpAny (model S w) A (pyNext (.ref I)) Q E s
 self:∀i (s:Shared) (Q:Value->Shared->Prop) (E:Value->Shared->Prop),St i s.heap->Q (.ref I) s->wpAny (model S w) A (pyIter (.ref I)) Q E s
 live:∀i h,St i h->∀b∈wr,∃o,h.get? b=some o
 OX:∀i v h,Md i v h->∀b∈wr,∃o,h.get? b=some o
def tT(e:Expr):Bool:=y0 e λZ=>true
def sH(e:Expr):Bool:=sG e (λZ=>true)||tT e
noncomputable def ph(T:String):Bool:=["enumerate","zip","dict_itemiterator","dict_reverseitemiterator","odict_iterator","itertools.zip_longest","itertools.pairwise"].contains T
theorem Fb{M:Model}{A:Around}{E:Value->Shared->Prop}{s:Shared}{l:List Expr}{q p}{I:Addr}{v:Value}{T:String}{o:Obj}{Q:Unit->Shared->Prop}
  (ho:s.heap.get? I=some o) (hc:o.cls=.type T) (hT:ph T=false) (h:Q () s):wpAny M A (letOwnedTupleGo (.Tuple l q p) (.ref I) v) Q E s:=by
 cases v with
 |ref a=>
  refine aa (wpAny_load ho ?_)
  obtain⟨cls,dict,data,slots⟩:=o
  dsimp only at hc
  subst hc
  cases data with
  |fields vs=>
   show wpAny M A (if((ph T&&vs[0]?==some (rawInt a))=true)then _ else _) Q E s
   rw[hT,Bool.false_and,ah aJ]
   exact aj h
  |_=>exact aj h
 |_=>exact aj h
theorem za{M:Model}{A:Around}{E:Value->Shared->Prop}{s:Shared}{aR:Expr}{I:Addr}{v:Value}{T:String}{o:Obj}{Q:Unit->Shared->Prop}(ht:sH aR=true)
  (ho:s.heap.get? I=some o) (hc:o.cls=.type T) (hT:ph T=false) (h:Q () s):
  wpAny M A (letOwnedTupleGo aR (.ref I) v) Q E s:=
 (Bool.or_eq_true_iff.mp ht).elim (λht=>il ht λn p Z=>aj h) λht=>mA ht λl q p Z=>Fb ho hc hT h
section
variable{S:Program}{w:World}{A:Around}{E:Value->Shared->Prop}{s:Shared}
theorem Tn.ofWalks{aR:Expr}{I:Addr}{fp wr:List Addr}{n:Nat}{P:Nat->Value->Prop}{St:Nat->Heap->Prop}{ds:List Dr}{T:String}(W:Walks S w A I fp wr n P St)(ht:sH aR=true)
  (hn:ds.length=n) (hd:∀i v,P i v->∀d,ds[i]?=some d->∀h h',d.Is h h' v) (hI:∀i h,St i h->∃o,h.get? I=some o/\o.cls=.type T)
  (hT:ph T=false) (S':wr=[I]):
  Tn S w A aR I fp wr ds St (λi Z h=>St (i+1) h)where
 sub:=W.sub
 frame:=W.frame
 item:=λi d s Q E hi st hQ=>W.item i s Q E (by
   rw[<-hn]
   rcases cM i ds.length with h|h
   ·exact h
   ·rw[bu h]at hi;cases hi) st λv h' tk hP Ta hk=>hQ v h' tk (hd i v hP d hi _ _) Ta hk
 go:=λi v s Q E hm hQ=>by
  obtain⟨o,ho,hc⟩:=hI _ _ hm
  exact za ht ho hc hT (hQ s.heap hm λZ Z Z e=>e)
 done:=λs Q E st hQ=>W.done s Q E (hn▸st) hQ
 self:=W.self
 live:=λi h st b hb=>by
  rw[S']at hb
  obtain⟨o,ho,_⟩:=hI _ _ st
  rw[az.mp hb];exact⟨o,ho⟩
 OX:=λi v h st b hb=>by
  rw[S']at hb
  obtain⟨o,ho,_⟩:=hI _ _ st
  rw[az.mp hb];exact⟨o,ho⟩
theorem Ma{aR:Expr}(ht:sH aR=true)(hh:A.handled=none)(I ax:Addr)(gO:ax≠I)(aq:Array Value):
  Tn S w A aR I [I,ax] [I] (aq.toList.map .it) (λi h=>h.IsListIter I ax i/\h.IsList ax aq) (λi Z h=>h.IsListIter I ax (i+1)/\h.IsList ax aq):=
 Tn.ofWalks (T:="list_iterator") (Walks.list hh I ax gO aq) ht (by simp) (λi v hP d hd h h'=>by
  rw[aA,bk,hP]at hd
  cases hd;exact rfl) (λi h st=>st.1.imp λo h=>⟨h.1,h.2.1⟩) (by decide) rfl
theorem HZ{aR:Expr}(ht:sH aR=true)(hh:A.handled=none)(I ax:Addr)(gO:ax≠I)(aq:Array Value):
  Tn S w A aR I [I,ax] [I] (aq.toList.map .it) (λi h=>h.IsTupleIter I ax i/\h.IsTuple ax aq) (λi Z h=>h.IsTupleIter I ax (i+1)/\h.IsTuple ax aq):=
 Tn.ofWalks (T:="tuple_iterator") (Walks.tuple hh I ax gO aq) ht (by simp) (λi v hP d hd h h'=>by
  rw[aA,bk,hP]at hd
  cases hd;exact rfl) (λi h st=>st.1.imp λo h=>⟨h.1,h.2.1⟩) (by decide) rfl
theorem Mb{aR:Expr}(ht:sH aR=true)(hh:A.handled=none)(I d:Addr)(gO:d≠I)(es:Array DictEntry)(n:Nat):
  Tn S w A aR I [I,d] [I] (es.toList.map λe=>.it e.key) (λi h=>h.IsKeyIter I d i es.size n/\h.get? d=some {cls:=.type "dict",data:=.dict es n})
   (λi Z h=>h.IsKeyIter I d (i+1) es.size n/\h.get? d=some {cls:=.type "dict",data:=.dict es n}):=
 Tn.ofWalks (T:="dict_keyiterator") (vZ hh I d gO es n) ht (by simp) (λi v hP e he h h'=>by
  rw[aA,bk]at he
  cases hx:es[i]? with
  |none=>rw[hx]at hP;cases hP
  |some y=>
   rw[hx]at hP he
   cases hP;cases he;exact rfl) (λi h st=>st.1.imp λo h=>⟨h.1,h.2.1⟩) (by decide) rfl
theorem H0{aR:Expr}(ht:sH aR=true)(hh:A.handled=none)(I:Addr)(n:Nat):
  Tn S w A aR I [I] [I] ((List.range n).map λ(i:Nat)=>.nm (i:Int)) (λi h=>IsRangeIter h I ((0:Int)+(i:Nat)*1) ((n:Int)- (i:Nat)) 1) (λi Z h=>IsRangeIter h I ((0:Int)+((i+1:Nat))*1) ((n:Int)- (i+1:Nat)) 1):=
 Tn.ofWalks (T:="range_iterator") (Walks.range hh I 0 1 n) ht (by simp) (λi v hP d hd h h'=>by
  obtain⟨t,rfl⟩:=hP
  rw[aA]at hd
  rcases cM i n with kq|hge
  ·rw[List.getElem?_range kq]at hd
   cases hd
   exact⟨t,by simp⟩
  ·rw[bu (by simpa using hge)]at hd;cases hd) (λi h st=>⟨_,st,rfl⟩) (by decide) rfl
end
end
section
open PySem PySem.W PyProof.Rows PySem.Calls SeqAt
open AutoSeq1 (wpAny_loadPart')
structure QE(S:Program)(w:World)(A:Around)(it l:Addr)(vs:List Value)(Si:Nat->Heap->Prop):Prop where
 item:∀i x (s:Shared) (Q:Value->Shared->Prop) (E:Value->Shared->Prop),vs[i]?=some x->Si i s.heap->
  (∀h',Si (i+1) h'->Heap.SameBut it s.heap h'->Q x {s with heap:=h'})->wpAny (model S w) A (Builtin.SmallTypes.nextOf (.ref it)) Q E s
 done:∀(s:Shared) (Q:Value->Shared->Prop) (E:Value->Shared->Prop),Si vs.length s.heap->
  (∀h' e,Heap.ExtBut it s.heap h'->(∃o,h'.get? e=some o/\o.cls=.type "StopIteration")->E (.ref e) {s with heap:=h'})->wpAny (model S w) A (Builtin.SmallTypes.nextOf (.ref it)) Q E s
 frame:∀i h h',Si i h->(∀b,b=it\/b=l->∀o,h.get? b=some o->h'.get? b=some o)->Si i h'
 live:∀i h,Si i h->∃o,h.get? it=some o
section
variable{S:Program}{w:World}{A:Around}{E:Value->Shared->Prop}{s:Shared}
theorem pj{it l:Addr}{i:Nat}{aq}{x:Value}{Q:Value->Shared->Prop}(jd:s.heap.IsTupleIter it l i)
  (hl:s.heap.IsTuple l aq) (hx:aq[i]?=some x)
  (hQ:∀h',h'.IsTupleIter it l (i+1)->Heap.SameBut it s.heap h'->Q x {s with heap:=h'}):
  wpAny (model S w) A (Builtin.SmallTypes.nextOf (.ref it)) Q E s:=by
 obtain⟨o,ho,hc,hd⟩:=id jd
 obtain⟨ol,Tb,_,nl,OY⟩:=hl
 unfold Builtin.SmallTypes.nextOf
 refine aa (wpAny_callSpecial?_slot (name:=Str.ofString "__next__") jd.typeIs F.slot_tuple_iterator_next
  (bR F.slot_tuple_iterator_next jd.typeIs F.entry_tuple_iterator_next ?_ (F.args_tuple_iterator_next_1 _)))
 show wpAny _ _ (field (.ref it) 0>>=_) _ _ s
 refine aa (c_ ho hd (x:=.ref l) rfl ?_)
 show wpAny _ _ (if(Value.ref l==Value.none)=true then _ else _) _ _ s
 rw[ah (show¬((Value.ref l==Value.none)=true)from aJ)]
 show wpAny _ _ (field (.ref it) 1>>=_) _ _ s
 refine aa (c_ ho hd (x:=.int i 0) rfl ?_)
 show wpAny _ _ (seqItems? (.ref l)>>=_) _ _ s
 refine aa (wpAny_seqItems Tb OY ?_)
 dsimp only
 rw[show aq[(i:Int).toNat]?=some x from hx]
 refine aa (wpAny_setField ho hd (aX rfl) (aj ⟨x,rfl,aj (hQ _ ?_ (Heap.SameBut.update ..))⟩))
 exact⟨_,Heap.get?_update_self _ ho (Obj.isFreed_of_fields (Obj.data_mapFields hd _)),(Obj.cls_mapFields ..).trans hc,by
  rw[Obj.data_mapFields hd];rfl⟩
theorem qE{it l:Addr}{i:Nat}{aq}{Q:Value->Shared->Prop}(hh:A.handled=none)
  (jd:s.heap.IsTupleIter it l i) (hl:s.heap.IsTuple l aq) (hx:aq[i]?=none)
  (hE:∀h' e,Heap.ExtBut it s.heap h'->(∃o,h'.get? e=some o/\o.cls=.type "StopIteration")->E (.ref e) {s with heap:=h'}):
  wpAny (model S w) A (Builtin.SmallTypes.nextOf (.ref it)) Q E s:=by
 obtain⟨o,ho,hc,hd⟩:=id jd
 obtain⟨ol,Tb,_,nl,OY⟩:=hl
 unfold Builtin.SmallTypes.nextOf
 refine aa (wpAny_callSpecial?_slot (name:=Str.ofString "__next__") jd.typeIs F.slot_tuple_iterator_next
  (bR F.slot_tuple_iterator_next jd.typeIs F.entry_tuple_iterator_next ?_ (F.args_tuple_iterator_next_1 _)))
 show wpAny _ _ (field (.ref it) 0>>=_) _ _ s
 refine aa (c_ ho hd (x:=.ref l) rfl ?_)
 show wpAny _ _ (if(Value.ref l==Value.none)=true then _ else _) _ _ s
 rw[ah (show¬((Value.ref l==Value.none)=true)from aJ)]
 show wpAny _ _ (field (.ref it) 1>>=_) _ _ s
 refine aa (c_ ho hd (x:=.int i 0) rfl ?_)
 show wpAny _ _ (seqItems? (.ref l)>>=_) _ _ s
 refine aa (wpAny_seqItems Tb OY ?_)
 dsimp only
 rw[show aq[(i:Int).toNat]?=none from hx]
 refine aa (wpAny_rule (aa (wpAny_setField ho hd (Nat.succ_pos _) ?_)))
 exact C4 hh λh' e hk he=>hE _ e (λb o n q=>hk b o ((Heap.SameBut.update ..).extBut b o n q)) he
theorem H4(hh:A.handled=none)(it l:Addr)(XC:l≠it)(aq:Array Value):QE S w A it l aq.toList (λi h=>h.IsListIter it l i/\h.IsList l aq)where
 item:=λi x s Q E hx st hQ=>wpAny_nextOf_list_item st.1 st.2 ((bk ..).symm.trans hx) λh' a b=>hQ h' ⟨a,st.2.at λo e=>(b.2 l XC).trans e⟩ b
 done:=λs Q E st hE=>wpAny_nextOf_list_end hh st.1 st.2 (Array.getElem?_eq_none (bc _)) hE
 frame:=λi h h' st k=>⟨st.1.at λo e=>k it (.inl rfl) o e,st.2.at λo e=>k l (.inr rfl) o e⟩
 live:=λi h st=>st.1.imp λo e=>e.1
theorem Fc(hh:A.handled=none)(it l:Addr)(XC:l≠it)(aq:Array Value):QE S w A it l aq.toList (λi h=>h.IsTupleIter it l i/\h.IsTuple l aq)where
 item:=λi x s Q E hx st hQ=>pj st.1 st.2 ((bk ..).symm.trans hx) λh' a b=>hQ h' ⟨a,st.2.at λo e=>(b.2 l XC).trans e⟩ b
 done:=λs Q E st hE=>qE hh st.1 st.2 (Array.getElem?_eq_none (bc _)) hE
 frame:=λi h h' st k=>⟨st.1.at λo e=>k it (.inl rfl) o e,st.2.at λo e=>k l (.inr rfl) o e⟩
 live:=λi h st=>st.1.imp λo e=>e.1
theorem fY{it l e:Addr}{h h':Heap}(hs:Heap.SameBut e h h')(h1:it≠e)(h2:l≠e):∀b,b=it\/b=l->∀o,h.get? b=some o->h'.get? b=some o:=λb hb o x=>by
 rcases hb with rfl|rfl
 ·exact(hs.2 _ h1).trans x
 ·exact(hs.2 _ h2).trans x
theorem Fd{e it l:Addr}{i:Nat}{vs:List Value}{Si:Nat->Heap->Prop}{x old:Value}{Q:Value->Shared->Prop}(N:QE S w A it l vs Si)
  (he:IsEnum s.heap e it i old) (jd:Si i s.heap) (hx:vs[i]?=some x) (gO:e≠it) (rI:l≠e)
  (hQ:∀h',IsEnumOut h' e it ((i:Int)+1) x s.heap.objs.size->Si (i+1) h'->
   h'.get? s.heap.objs.size=some {cls:=.type "tuple",data:=.seq #[.int i s.toks,x]}->h'.objs.size=s.heap.objs.size+1->
   (∀b o,b≠e->b≠it->s.heap.get? b=some o->h'.get? b=some o)->Q (.ref s.heap.objs.size) {s with heap:=h',toks:=s.toks+1}):
  wpAny (model S w) A (Builtin.«enumerate.__next__» ⟨[.ref e],[]⟩) (λfin s'=>∃v,fin=.done (.ret v)/\Q v s') E s:=by
 obtain⟨hp,g,d,tk,os⟩:=s
 show wpAny _ _ (field (.ref e) 2>>=_) _ _ _
 refine aa (c_ he rfl (x:=.ref it) rfl ?_)
 refine aa (N.item i x _ _ _ hx jd λdO H5 v9=>?_)
 replace v9:Heap.SameBut it hp dO:=v9
 have Dc:IsEnum dO e it i old:=(v9.2 e gO).trans he
 show wpAny _ _ (field (.ref e) 3>>=_) _ _ ⟨dO,g,d,tk,os⟩
 refine aa (c_ Dc rfl (x:=rawInt i) rfl ?_)
 show wpAny _ _ (field (.ref e) 4>>=_) _ _ ⟨dO,g,d,tk,os⟩
 refine aa (c_ Dc rfl (x:=.none) rfl ?_)
 show wpAny _ _ (mkInt i>>=_) _ _ ⟨dO,g,d,tk,os⟩
 refine aa (wpAny_mkInt ?_)
 show wpAny _ _ (setField (.ref e) 3 (rawInt ((i:Int)+1))>>=_) _ _ ⟨dO,g,d,tk+1,os⟩
 refine aa (wpAny_setField_rec Dc (aX rfl) λdB De v_=>?_)
 replace v_:Heap.SameBut e dO dB:=v_
 replace De:IsEnum dB e it ((i:Int)+1) old:=De
 show wpAny _ _ (setField (.ref e) 4 .none>>=_) _ _ ⟨dB,g,d,tk+1,os⟩
 refine aa (wpAny_setField_rec De (aX rfl) λgB Df wa=>?_)
 replace wa:Heap.SameBut e dB gB:=wa
 replace Df:IsEnum gB e it ((i:Int)+1) old:=Df
 show wpAny _ _ (newTuple [.int i tk,x]>>=_) _ _ ⟨gB,g,d,tk+1,os⟩
 refine aa (wpAny_newTuple ?_)
 have Dg:IsEnum (gB.push {cls:=.type "tuple",data:=.seq #[.int i tk,x]}) e it ((i:Int)+1) old:=aD _ Df
 generalize zb:gB.push {cls:=.type "tuple",data:=.seq #[.int i tk,x]}=fu at Dg
 have ml:gB.objs.size=hp.objs.size:=by rw[wa.1,v_.1,v9.1]
 have Yu:e<hp.objs.size:=bq he
 have Ut:fu.get? hp.objs.size=some {cls:=.type "tuple",data:=.seq #[.int i tk,x]}:=by rw[<-zb,<-ml];exact a8 _ rfl
 have Uu:fu.objs.size=hp.objs.size+1:=by rw[<-zb,Heap.size_push,ml]
 have Uv:∀b o,b≠e->b≠it->hp.get? b=some o->fu.get? b=some o:=λb o QF Yv hb=>by
  rw[<-zb];exact aD _ (wa.extBut b o QF (v_.extBut b o QF (v9.extBut b o Yv hb)))
 have QG:Si (i+1) fu:=by
  have h2:=N.frame _ _ dB H5 (fY v_ (Ne.symm gO) rI)
  have h3:=N.frame _ _ gB h2 (fY wa (Ne.symm gO) rI)
  exact N.frame _ _ fu h3 λb hb o x=>by rw[<-zb];exact aD _ x
 show wpAny _ _ (Builtin.SmallTypes.ownedTupleIsFree (.ref e)>>=_) _ _ ⟨fu,g,d,tk+1,os⟩
 rw[ml]
 clear zb Df wa De v_ Dc v9 H5 ml gB dB dO
 refine aa ?_
 ·unfold Builtin.SmallTypes.ownedTupleIsFree
  refine aa (c_ Dg rfl (x:=.none) rfl (aj ?_))
  simp only[if_true]
  refine aa (wpAny_rule ?_)
  refine aa (c_ Dg rfl (x:=old) rfl ?_)
  refine aa (wpAny_setField_rec Dg (aX rfl) λoz H6 wb=>?_)
  replace wb:Heap.SameBut e fu oz:=wb
  replace H6:IsEnum oz e it ((i:Int)+1) x:=H6
  show wpAny _ _ (Builtin.SmallTypes.ownedTupleHandOut (.ref e) (.ref hp.objs.size)>>=_) _ _ ⟨oz,g,d,tk+1,os⟩
  refine aa ?_
  ·unfold Builtin.SmallTypes.ownedTupleHandOut
   refine aa (wpAny_setField_rec H6 (aX rfl) λxB H7 wc=>?_)
   replace wc:Heap.SameBut e oz xB:=wc
   replace H7:IsEnumOut xB e it ((i:Int)+1) x hp.objs.size:=H7
   refine wpAny_setField_rec H7 (aX rfl) λtU H8 wd=>?_
   replace wd:Heap.SameBut e xB tU:=wd
   replace H8:IsEnumOut tU e it ((i:Int)+1) x hp.objs.size:=H8
   refine aa (wpAny_letGo (aj ⟨_,rfl,hQ tU H8 ?_ ?_ ?_ ?_⟩))
   ·exact N.frame _ _ _ (N.frame _ _ _ (N.frame _ _ _ QG (fY wb (Ne.symm gO) rI)) (fY wc (Ne.symm gO) rI)) (fY wd (Ne.symm gO) rI)
   ·exact wd.extBut _ _ (bJ Yu) (wc.extBut _ _ (bJ Yu) (wb.extBut _ _ (bJ Yu) Ut))
   ·rw[wd.1,wc.1,wb.1,Uu]
   ·exactλb o QF Yv hb=>wd.extBut b o QF (wc.extBut b o QF (wb.extBut b o QF (Uv b o QF Yv hb)))
theorem qF{e it l:Addr}{i:Nat}{vs:List Value}{Si:Nat->Heap->Prop}{x old:Value}{Q:Option Value->Shared->Prop}(N:QE S w A.in1 it l vs Si)
  (he:IsEnum s.heap e it i old) (jd:Si i s.heap) (hx:vs[i]?=some x) (gO:e≠it) (rI:l≠e)
  (hQ:∀h',IsEnumOut h' e it ((i:Int)+1) x s.heap.objs.size->Si (i+1) h'->
   h'.get? s.heap.objs.size=some {cls:=.type "tuple",data:=.seq #[.int i s.toks,x]}->h'.objs.size=s.heap.objs.size+1->
   (∀b o,b≠e->b≠it->s.heap.get? b=some o->h'.get? b=some o)->Q (some (.ref s.heap.objs.size)) {s with heap:=h',toks:=s.toks+1}):
  wpAny (model S w) A (pyNext (.ref e)) Q E s:=by
 have hT:s.TypeIs (.ref e) "enumerate":=⟨_,he,rfl⟩
 unfold pyNext
 exact aa (wpAny_attempt (wpAny_callSpecial?_slot (name:=Str.ofString "__next__") hT F.slot_enumerate_next
  (bR F.slot_enumerate_next hT F.entry_enumerate_next
   (Fd N he jd hx gO rI λh' a b c d k=>aj (hQ h' a b c d k)) (F.args_enumerate_next_1 _))))
theorem sI{e it l:Addr}{vs:List Value}{Si:Nat->Heap->Prop}{old:Value}{Q:Option Value->Shared->Prop}(N:QE S w A.in1 it l vs Si)
  (he:IsEnum s.heap e it vs.length old) (jd:Si vs.length s.heap)
  (hQ:∀h',Heap.ExtBut it s.heap h'->Q none {s with heap:=h'}):wpAny (model S w) A (pyNext (.ref e)) Q E s:=by
 have hT:s.TypeIs (.ref e) "enumerate":=⟨_,he,rfl⟩
 unfold pyNext
 refine aa (wpAny_attempt (wpAny_callSpecial?_slot (name:=Str.ofString "__next__") hT F.slot_enumerate_next
  (bR F.slot_enumerate_next hT F.entry_enumerate_next ?_ (F.args_enumerate_next_1 _))))
 show wpAny _ _ (field (.ref e) 2>>=_) _ _ _
 refine aa (c_ he rfl (x:=.ref it) rfl ?_)
 refine aa (N.done _ _ _ jd λh' x GW S_=>?_)
 obtain⟨o,ho,hc⟩:=S_
 refine aa (wpAny_isInstance (T:="StopIteration") (b:=true) ⟨o,ho,hc⟩ isSubtype_stop ?_)
 exact aj (hQ _ GW)
theorem Mc{aR:Expr}(ht:tT aR=true)(e it l:Addr)(Xx:e≠it)(rI:l≠e)(XC:l≠it){vs:List Value}{Si:Nat->Heap->Prop}(N:QE S w A.in1 it l vs Si):
  Tn S w A aR e [e,it,l] [e,it] (E9 0 vs) (λi h=>(∃old,IsEnum h e it i old)/\Si i h)
   (λi v h=>∃T x,v=.ref T/\IsEnumOut h e it ((i:Int)+1) x T/\Si (i+1) h)where
 sub:=λb hb=>List.mem_append_left [l] hb
 frame:=λi h h' i9 hk=>⟨i9.1.imp λold he=>hk e (.head _) _ he,N.frame _ _ _ i9.2 λb hb o x=>hk b (hb.elim (λq=>q▸.tail _ (.head _)) λq=>q▸.tail _ (.tail _ (.head _))) o x⟩
 item:=λi d s Q E hd i9 hQ=>by
  obtain⟨⟨old,he⟩,jd⟩:=i9
  obtain⟨x,hx,rfl⟩:=E_ hd
  exact qF N he jd hx Xx rI λh' ho EY hT ml hk=>
   hQ _ h' _ ⟨_,s.toks,rfl,ij _,hT⟩ ⟨_,x,rfl,ho,EY⟩ λb o hb y=>hk b o (λe'=>hb (e'▸.head _)) (λe'=>hb (e'▸.tail _ (.head _))) y
 go:=λi v s Q E hm hQ=>by
  obtain⟨T,x,rfl,ho,jd⟩:=hm
  exact mA ht λl' q p Z=>wpAny_letOwnedTupleGo_enum ho λh' GW tN=>hQ h' ⟨⟨x,GW⟩,N.frame _ _ _ jd (fY tN Xx.symm rI)⟩ λb o hb y=>
   (tN.2 b λe'=>hb (e'▸.head _)).trans y
 done:=λs Q E i9 hQ=>by
  rw[y_]at i9
  obtain⟨⟨old,he⟩,jd⟩:=i9
  exact sI N he jd λh' hx=>hQ h' s.toks λb o hb y=>hx b o (λe'=>hb (e'▸.tail _ (.head _))) y
 self:=λi s Q E i9 hQ=>i9.1.elim λold he=>wpAny_pyIter_enum he hQ
 live:=λi h i9 b hb=>(au.mp hb).elim (λq=>q▸i9.1.elim λold he=>⟨_,he⟩) λhb=>az.mp hb▸N.live _ _ i9.2
 OX:=λi v h i9 b hb=>by
  obtain⟨T,x,rfl,he,jd⟩:=i9
  exact(au.mp hb).elim (λq=>q▸⟨_,he⟩) λhb=>az.mp hb▸N.live _ _ jd
theorem Uw{M:Model}{x:Bool}{Q:Bool->Shared->Prop}(h:∀b,Q b s):wpAny M A (pure x) Q E s:=aj (h x)
theorem nX(l:Addr)(aq:Array Value)(n:Nat):
  Meets (Builtin.«enumerate.__new__» ⟨[.type "enumerate",.ref l],[]⟩) (λZ R s=>s.heap.get? l=some {cls:=.type "tuple",dict:=none,data:=.seq aq n,slots:=#[]}/\
   R (.ok (.ret (.ref (s.heap.push {cls:=.type "tuple_iterator",data:=.fields #[.ref l,.int 0 0]}).objs.size)))
    {s with heap:=(s.heap.push {cls:=.type "tuple_iterator",data:=.fields #[.ref l,.int 0 0]}).push {cls:=.type "enumerate",data:=.fields #[.none,.bool false,.ref s.heap.objs.size,rawInt 0,.none,.none]}}):=
 .of_wp λS w A R s h=>by
  obtain⟨hp,g,d,tk,os⟩:=s;obtain⟨hl,h⟩:=h
  have nY:=sub_enumerate
  have hL:Heap.IsTuple (Shared.heap ⟨hp,g,d,tk,os⟩) l aq:=⟨_,hl,rfl,n,rfl⟩
  wp_walk using wpAny_loadPart' hl
  refine wpAny_stack_any λst=>Uw λb=>?_
  cases b
  ·wp_walk using wpAny_loadPart' hl,wpAny_pyIter_tuple hL
   exact⟨_,rfl,h⟩
  ·wp_walk using wpAny_loadPart' hl,wpAny_pyIter_tuple hL
   exact⟨_,rfl,h⟩
theorem oA{l:Addr}{aq:Array Value}{n:Nat}{Q:Value->Shared->Prop}
  (hl:s.heap.get? l=some {cls:=.type "tuple",dict:=none,data:=.seq aq n,slots:=#[]})
  (h:∀h',IsEnum h' (s.heap.objs.size+1) s.heap.objs.size 0 .none->h'.IsTupleIter s.heap.objs.size l 0->h'.objs.size=s.heap.objs.size+2->
   (∀b o,s.heap.get? b=some o->h'.get? b=some o)->Q (.ref (s.heap.objs.size+1)) {s with heap:=h'}):
  wpAny (model S w) A (call (.type "enumerate") [.ref l]) Q E s:=by
 refine callType_new F.called_enumerate (by decide) (F.typeCall_enumerate_1 _) (F.newCall_enumerate_1 _) (λobj=>F.args_object_init_2 obj _) F.entry_enumerate_new
  (nX l aq n) ⟨hl,?_⟩
 have hz:(s.heap.push {cls:=.type "tuple_iterator",data:=.fields #[.ref l,.int 0 0]}).objs.size=s.heap.objs.size+1:=Heap.size_push ..
 show _/\_
 rw[hz]
 have he:IsEnum ((s.heap.push {cls:=.type "tuple_iterator",data:=.fields #[.ref l,.int 0 0]}).push
   {cls:=.type "enumerate",data:=.fields #[.none,.bool false,.ref s.heap.objs.size,rawInt 0,.none,.none]}) (s.heap.objs.size+1) s.heap.objs.size 0 .none:=by
  have:=a8 (s.heap.push {cls:=.type "tuple_iterator",data:=.fields #[.ref l,.int 0 0]})
   (o:={cls:=.type "enumerate",data:=.fields #[.none,.bool false,.ref s.heap.objs.size,rawInt 0,.none,.none]}) rfl
  rw[hz]at this;exact this
 refine⟨⟨_,he,rfl⟩,h _ he ⟨_,aD _ (a8 _ rfl),rfl,rfl⟩ (by rw[Heap.size_push,hz]) λb o x=>aD _ (aD _ x)⟩
end
end
section
open PySem PySem.W PyProof.Rows PySem.Calls SeqAt
theorem zc{α:Type}{l:List α}{d:α}{i:Nat}(h:l.length<=i):l.getD i d=d:=by
 rw[aK,bu h];rfl
section
variable{S:Program}{w:World}{A:Around}{E:Value->Shared->Prop}{s:Shared}
theorem Mf{α:Type}{cmp:Nat->Nat->Option Bool}{ask:Nat->Nat->(Bool->Shared->Prop)->Shared->Prop}(hc:∀i j b,cmp i j=some b->∀C:Bool->Shared->Prop,C b s->ask i j C s){p:α}{Q:α->Shared->Prop}(q:Q p s)(t:KasT α):
  AQ cmp t=some p->t.kasWp ask Q s:=by
 induction t with
 |ret a=>exactλe=>by cases e;exact q
 |ask i j k ih=>exactλe=>eM e λb hb e=>hc i j b hb _ (ih b e)
@[elab_as_elim] theorem Ba{x:V}{P:V->Prop}(h:LZ x=true)(H:∀i,P (.int i)):P x:=by
 cases x with
 |int i=>exact H i
 |_=>exact no h
@[elab_as_elim] theorem QH{x:V}{P:V->Prop}(h:isT x=true)(H:∀i,P (.bZ i)):P x:=by
 cases x with
 |bZ i=>exact H i
 |_=>exact no h
theorem Mg{K:V->Bool}{x:V}(h:head K x=true):∃y r,x=.bZ (y::r)/\K y=true:=by
 cases x with
 |bZ l=>cases l with
  |nil=>exact no h
  |cons y r=>exact⟨y,r,rfl,h⟩
 |_=>exact no h
theorem QJ{U:Addr->Prop}{n:Nat}{bb fin:Bool}{Q:Bool->Shared->Prop}(hu:A.units+(n+1)<cLine){r:Bool}(q:Q r s){xs:List V}:∀{vs ws:List Value} {ys:List V} (i:Nat),cw s.heap U vs xs->cw s.heap U ws ys->
  (i=0->bb=true->head LZ (.bZ xs)=true/\head LZ (.bZ ys)=true)->(fin=decide (vs.length<ws.length))->sD true (iS n) (s6 true n) xs ys=some r->KatLex S w A bb fin Q (vs.zip ws) i s:=by
 induction xs with
 |nil=>
  exactλ{vs ws ys} i rv rw h0 hf e=>cw.dD (P:=λvs=>fin=decide (vs.length<ws.length)->KatLex S w A bb fin Q (vs.zip ws) i s) rv (λhf=>kat_nil (by
   cases e
   rw[hf,rw.length]
   cases ys with
   |nil=>exact q
   |cons=>exact q)) hf
 |cons x xs ih=>
  exactλ{vs ws ys} i rv rw h0 hf e=>cw.cN (P:=λvs=>fin=decide (vs.length<ws.length)->KatLex S w A bb fin Q (vs.zip ws) i s) rv (λv vs a ra hf=>by
   cases ys with
   |nil=>
    exact cw.dD (P:=λws=>fin=decide ((v::vs).length<ws.length)->KatLex S w A bb fin Q ((v::vs).zip ws) i s) rw (λhf=>kat_nil (by
     cases e
     rw[hf]
     exact q)) hf
   |cons y ys=>
    exact cw.cN (P:=λws=>fin=decide ((v::vs).length<ws.length)->KatLex S w A bb fin Q ((v::vs).zip ws) i s) rw (λu us b rb hf=>kat_cons (eM e λc hq e=>(tG n A _ _ _ _ _ (Nat.lt_trans (ct _) hu) a b hq).2 S w _ _ (by
     cases c with
     |true=>exact kat_yes (ih (i+1) ra rb (λh=>aG h (Nat.succ_ne_zero i)) (hf.trans (decide_eq_decide.mpr Nat.succ_lt_succ_iff)) e)
     |false=>
      refine kat_no ?_
      cases hb:(bb&&i==0)with
      |true=>
       exact an hb λh1 h2=>Ba (P:=λx=>s6 true n x y=some r->a_ s.heap U v x->_) (h0 (bt h2) h1).1 (λc1 e a=>Ba (P:=λy=>s6 true n (.int c1) y=some r->a_ s.heap U u y->_) (h0 (bt h2) h1).2 (λc2 e b=>by
        obtain⟨t,rfl⟩:=a.j_ rfl
        obtain⟨t',rfl⟩:=b.j_ rfl
        exact oneLt_int (by rw[show decide (c1<c2)=r by cases n<;>exact aW e];exact q)) e b) e a
      |false=>exact kat_one _ _ (AU true n A _ _ _ _ _ (Nat.lt_trans (ct _) hu) a b e S w (λZ Z=>False) (W.BoolBack Q) q)))) hf) hf
theorem Mh{U:Addr->Prop}{bb:Bool}(hu:A.units+6<cLine){u v:Value}{l m:List V}{r:Bool}{C:Bool->Shared->Prop}(ru:a_ s.heap U u (.bZ l))(rv:a_ s.heap U v (.bZ m))
  (hb:bb=true->head LZ (.bZ l)=true/\head LZ (.bZ m)=true) (e:s6 true 5 (.bZ l) (.bZ m)=some r) (q:C r s):
  wpAny (model S w) A (keyLt' (tuples' bb) u v) C E s:=by
 obtain⟨a,aq,n,rfl,ua,ea,ra⟩:=eD ru
 obtain⟨b,mz,n',rfl,ub,eb,rb⟩:=eD rv
 exact kat_lt ea rfl eb rfl (QJ (n:=4) (Nat.lt_trans (ct _) hu) q 0 ra rb (λZ h=>hb h) rfl e)
theorem firsts{h:Heap}{U:Addr->Prop}{K:V->Bool}{G:Value->Prop}(hG:∀v y,K y=true->a_ h U v y->G v){xs:List V}:∀{vs:List Value},cw h U vs xs->xs.all (head K)=true->
  ∃fs,KatTups h vs fs/\(∀v∈fs,G v)/\fs.length=vs.length/\∀x∈xs,∃y r,x=.bZ (y::r)/\K y=true:=by
 induction xs with
 |nil=>exactλr Z=>r.dD ⟨[],trivial,λZ h=>(a7 h).elim,rfl,λZ h=>(a7 h).elim⟩
 |cons x xs ih=>
  exactλr e=>an e λe1 e2=>r.cN λv vs a r=>by
   obtain⟨fs,h1,h2,h3,h4⟩:=ih r e2
   obtain⟨y,l,rfl,hy⟩:=Mg e1
   obtain⟨b,aq,n,rfl,ub,eb,rb⟩:=eD a
   obtain⟨w1,hw,r1⟩:=rb.get (i:=0) (x:=y) rfl
   rw[bk]at hw
   exact⟨w1::fs,KatTups.cons eb rfl rfl hw h1,λv hv=>(au.mp hv).elim (λq=>q▸hG _ _ hy r1) (h2 v),ao Nat.succ h3,λx hx=>(au.mp hx).elim (λq=>⟨y,l,q,hy⟩) (h4 x)⟩
theorem cw.getD{h:Heap}{U:Addr->Prop}{vs:List Value}{xs:List V}(r:cw h U vs xs)(i:Nat):a_ h U (vs.getD i Value.none) (xs.getD i V.none):=by
 rw[aK,aK]
 cases hx:xs[i]? with
 |none=>
  rw[bu (r.length▸List.getElem?_eq_none_iff.mp hx:vs.length<=i)]
  exact .none
 |some x=>
  obtain⟨v,hv,rv⟩:=r.get hx
  rw[hv];exact rv
theorem cw.Yw{h:Heap}{U:Addr->Prop}{vs:List Value}{xs:List V}(r:cw h U vs xs)(p:List Nat):cw h U (p.map λi=>vs.getD i Value.none) (p.map λi=>xs.getD i V.none):=by
 induction p with
 |nil=>exact .nil
 |cons i p ih=>exact .cons (r.getD i) ih
theorem we{r:Bool}{xs:List V}{i j:Nat}(e:s6 true 5 (xs.getD i .none) (xs.getD j .none)=some r):i<xs.length/\j<xs.length:=by
 refine⟨Nat.lt_of_not_le λh=>?_,Nat.lt_of_not_le λh=>?_⟩
 ·rw[zc h]at e;exact nn e
 ·rw[zc h]at e
  exact xd (P:=λZ=>False) e (λZ h=>nn h) λZ h=>nn h
theorem pk{U:Addr->Prop}{a:Addr}{vs:List Value}{n:Nat}{l:List V}{z:V}{P:PySem.Fin->Shared->Prop}(hu:A.units+8<cLine)(ho:s.heap.get? a=some (seqObj "list" vs.toArray n))(hU:U a)(rl:cw s.heap U vs l)(e:iV l=some z)(ml:vs.length<=100000)
  (h:∀h' H9 n' l',z=.a9 l'->(∀b,b≠a->∀q,s.heap.get? b=some q->h'.get? b=some q)->h'.get? a=some (seqObj "list" H9.toArray n')->cw s.heap U H9 l'->P (.done (.ret .none)) {s with heap:=h'}):
  wpAny (model S w) A (Builtin.«list.sort» ⟨[.ref a],[]⟩) P E s:=by
 have oc:=rl.length
 have ha:a<s.heap.objs.size:=bq ho
 rw[list_sort_plain]
 refine aa (listItems_at ho rfl ?_)
 refine aa (listUpdate_at ho rfl ?_ (jT ml) (bK _))
 obtain⟨e1,ho1⟩:∃e1,(s.heap.update a (Obj.mapSeq λZ=>(#[]:Array Value))).get? a=some (seqObj "list" #[] e1):=⟨_,get?_update_seq ho (λZ=>#[])⟩
 refine aa (seqEpoch_at ho1 rfl ?_)
 refine aa (wpAny_newTuple ?_ (jT ml))
 refine aa (wpAny_newList ?_ (bK _))
 refine b7 ?_
 have Tc:(((s.heap.update a (Obj.mapSeq λZ=>#[])).push (seqObj "tuple" vs.toArray 0)).push (seqObj "list" #[] 0)).get? a=some (seqObj "list" #[] e1):=
  aD _ (aD _ ho1)
 have k6:∀b,b≠a->∀q,s.heap.get? b=some q->(((s.heap.update a (Obj.mapSeq λZ=>#[])).push (seqObj "tuple" vs.toArray 0)).push (seqObj "list" #[] 0)).get? b=some q:=λb hb q eq=>
  aD _ (aD _ ((Heap.get?_update_other _ _ (Ne.symm hb)).trans eq))
 show wpAny (model S w) A _ P E {s with heap:=((s.heap.update a (Obj.mapSeq λZ=>#[])).push (seqObj "tuple" vs.toArray 0)).push (seqObj "list" #[] 0)}
 dsimp only
 generalize((s.heap.update a (Obj.mapSeq λZ=>#[])).push (seqObj "tuple" vs.toArray 0)).push (seqObj "list" #[] 0)=h6 at Tc k6
 have XD:cw h6 U vs l:=rl.keep ⟨λb o hb e=>k6 b (λq=>hb (q▸hU)) o e,λb u=>.inl u⟩
 have fin:∀H9 l',z=.a9 l'->cw s.heap U H9 l'->wpAny (model S w) A (pure (.done (.ret .none))) P E {s with heap:=h6.update a (Obj.mapSeq λZ=>H9.toArray)}:=λH9 l' e r'=>
  aj (h _ H9 _ l' e (λb hb q eq=>(Heap.get?_update_other _ _ (Ne.symm hb)).trans (k6 b hb q eq)) (get?_update_seq Tc λZ=>H9.toArray) r')
 by_cases h2:l.length<2
 ·have qG:vs.toArray.size<2:=aB (aP oc) h2
  rw[ai qG,ai qG]
  refine aa (aj ?_)
  rw[StateT.run_pure]
  refine aa (aj ?_)
  dsimp only
  refine aa (seqEpoch_at Tc rfl ?_)
  have Yx:(arrOf (SortSt.mk' general' (vs.toArray.zip vs.toArray) #[] 7 none)).map (·.2)=vs.toArray:=by
   show(vs.toArray.zip vs.toArray).map (·.2)=_
   apply Array.toList_inj.mp
   simp[List.map_snd_zip]
  rw[Yx]
  refine aa (listUpdate_at Tc rfl ?_ (bK _) (cR (jT ml)))
  rw[bne_self_eq_false,ah aJ]
  have e:(if l.length<2 then some (.a9 l)else _)=some z:=e
  rw[ai h2]at e
  exact fin vs l (aW e).symm rl
 ·have qG:¬vs.toArray.size<2:=λq=>h2 (aB (aP oc.symm) q)
  rw[ah qG,ah qG]
  have e:(if l.length<2 then some (.a9 l)else _)=some z:=e
  rw[ah h2]at e
  refine qr e λhk e=>eM e λp hp e=>?_
  rw[<-oc]at hp hk
  have run:∀bb:Bool,(bb=true->∀x∈l,head LZ x=true)->(∀x∈l,∃m,x=.bZ m)->
    (kas_sort vs.length).kasWp (kas_ask S w A (tuples' bb) vs) (λp' L0=>p'=p/\L0={s with heap:=h6}) {s with heap:=h6}:=λbb h1 hx=>by
   refine Mf (s:={s with heap:=h6}) (λi j b hb C hC=>?_) ⟨rfl,rfl⟩ (kas_sort vs.length) hp
   have G:∀i,i<l.length->∃m,l.getD i V.none=.bZ m/\(bb=true->head LZ (.bZ m)=true):=λi hi=>by
    have gi:l.getD i V.none∈l:=by rw[aK,aH hi];exact List.getElem_mem hi
    obtain⟨m,e⟩:=hx _ gi
    exact⟨m,e,λq=>e▸h1 q _ gi⟩
   obtain⟨m1,e1,q1⟩:=G i (we hb).1
   obtain⟨m2,e2,q2⟩:=G j (we hb).2
   rw[e1,e2]at hb
   exact Mh (s:={s with heap:=h6}) (U:=U) (aB (aF (by decide) _) hu) (e1▸XD.getD i) (e2▸XD.getD j) (λq=>⟨q1 q,q2 q⟩) hb hC
  have h0:0<vs.length:=Nat.lt_of_not_le λq=>qG (aB q (by decide))
  have kind:∃bb:Bool,wpAny (model S w) A (keyKind' vs.toArray) (λκ s'=>κ=tuples' bb/\s'={s with heap:=h6}) E {s with heap:=h6}/\(bb=true->∀x∈l,head LZ x=true)/\(∀x∈l,∃m,x=.bZ m):=by
   refine(Bool.or_eq_true_iff.mp hk.2).elim (λhi=>?_) λhT=>?_
   ·obtain⟨fs,h1,h3,h4,h5⟩:=firsts (G:=λv=>∃i t,v=.int i t) (λv y k r=>Ba (P:=λy=>a_ h6 U v y->_) k (λi r=>(r.j_ rfl).elim λt e=>⟨i,t,e.symm⟩) r) XD hi
    refine⟨true,kat_kind (s:={s with heap:=h6}) (T:=.type "int") h1 (h4▸h0) (λv hv=>?_) (by decide) ⟨rfl,rfl⟩,λZ=>av.mp hi,λx hx=>(h5 x hx).elim λy h=>h.elim λr q=>⟨_,q.1⟩⟩
    obtain⟨i,t,rfl⟩:=h3 v hv
    exact Looks.of_pure rfl
   ·obtain⟨fs,h1,h3,h4,h5⟩:=firsts (G:=λv=>∃a aq n,v=.ref a/\IsT h6 a aq n) (λv y k r=>QH (P:=λy=>a_ h6 U v y->_) k (λi r=>by
     obtain⟨a,it,n,e,_,ec,_⟩:=eD r
     exact⟨a,it,n,e,ec⟩) r) XD hT
    refine⟨false,kat_kind (s:={s with heap:=h6}) (T:=.type "tuple") h1 (h4▸h0) (λv hv=>?_) (by decide) ⟨rfl,rfl⟩,λh=>no h,λx hx=>(h5 x hx).elim λy h=>h.elim λr q=>⟨_,q.1⟩⟩
    obtain⟨b,it,m,rfl,hb⟩:=h3 v hv
    exact(Looks.ld hb).andThen .now
  obtain⟨bb,k1,k2,k3⟩:=kind
  refine aa (ay k1 ?_ λZ Z x=>x)
  rintro κ s' ⟨rfl,rfl⟩
  refine aa (ay (kat_run (κ:=tuples' bb) (vs:=vs) (ks:=vs) (s:={s with heap:=h6})
   (Q:=λTa s'=>∃p':Array Nat,p'.size=vs.length/\arrOf Ta=p'.map (kas_item (vs.toArray.zip vs.toArray))/\failedOf Ta=none/\p'=p/\s'={s with heap:=h6})
   rfl (Nat.le_of_not_lt qG) hk.1 (λp' Ta s' a1 a2 a3 a4=>⟨p',a1,a2,a3,a4⟩) (run bb k2 k3)) ?_ λZ Z e=>e)
  rintro⟨⟨⟩,Ta⟩ s' ⟨p',GX,har,hf,rfl,rfl⟩
  dsimp only
  rw[kat_snds (ks:=vs) (vs:=vs) rfl har]
  refine aa (seqEpoch_at Tc rfl ?_)
  refine aa (listUpdate_at Tc rfl ?_ (bK _) (ae (aP (by rw[List.size_toArray,ag,aV,GX])) (cR (jT ml))))
  rw[hf,bne_self_eq_false,ah aJ]
  exact fin _ _ (aW e).symm (rl.Yw _)
end
abbrev fi:Value->Shared->Prop:=λZ Z=>False
def fS(O:Env)(b:Addr):Prop:=b=O.locals\/∃n,O.cells.lookup n=some b
structure Ps(X:Heap)(fr Lc:Addr->Prop)(s:Shared)(J:St)(s':Shared)(σ':St):Prop where
 same:∃h' tk,s'={s with heap:=h',toks:=tk}
 old:∀b o,¬nV J b->¬Lc b->s.heap.get? b=some o->s'.heap.get? b=some o
 new:∀b,nV σ' b->nV J b\/s.heap.get? b=none
 inv:dR X fr s'.heap σ'
 sub:∀b,Lc b->fr b
section
variable{X:Heap}{fr kg Lc Yy:Addr->Prop}{s s' L0:Shared}{J σ' fm:St}
theorem Ps.refl(I:dR X fr s.heap J)(hs:∀b,Lc b->fr b):Ps X fr Lc s J s J:=⟨⟨s.heap,s.toks,rfl⟩,λZ Z Z Z e=>e,λZ u=>.inl u,I,hs⟩
theorem Ps.trans(p:Ps X fr Lc s J s' σ')(q:Ps X kg Lc s' σ' L0 fm):Ps X kg Lc s J L0 fm:=by
 obtain⟨h',tk,rfl⟩:=p.same
 obtain⟨LY,GR,rfl⟩:=q.same
 refine⟨⟨LY,GR,rfl⟩,λb o n l e=>q.old b o (λx=>?_) l (p.old b o n l e),λb u=>?_,q.inv,q.sub⟩
 ·rcases p.new b x with h|h
  ·exact n h
  ·rw[h]at e;cases e
 ·rcases q.new b u with h|h
  ·exact p.new b h
  ·cases e:s.heap.get? b with
   |none=>exact .inr rfl
   |some o=>
    by_cases n:nV J b
    ·exact .inl n
    ·by_cases l:Lc b
     ·obtain⟨o',e'⟩:=p.inv.live b (p.sub b l)
      rw[h]at e';cases e'
     ·have:=p.old b o n l e;rw[h]at this;cases this
theorem Pe.ps(p:Pe X fr s J s' σ')(hs:∀b,Lc b->fr b):Ps X fr Lc s J s' σ':=⟨p.same,λb o n Z e=>p.keep.old b o n e,p.keep.new,p.inv,hs⟩
theorem Ps.keep(p:Ps X fr Lc s J s' σ'):ft s.heap s'.heap (cf J fr) (cf σ' fr):=
 ⟨λb o n e=>p.old b o (λx=>n (.inl x)) (λl=>n (.inr (p.sub b l))) e,λb u=>u.elim (λx=>(p.new b x).imp .inl id) λf=>.inl (.inr f)⟩
theorem Ps.widen(p:Ps X fr Lc s J s' σ')(hl:∀b,Lc b->Yy b)(hs:∀b,Yy b->fr b):Ps X fr Yy s J s' σ':=⟨p.same,λb o n l e=>p.old b o n (λx=>l (hl b x)) e,p.new,p.inv,hs⟩
theorem Ps.toks(p:Ps X fr Lc s J s' σ')(tk:Nat):Ps X fr Lc s J {s' with toks:=tk} σ':=by
 obtain⟨h',GR,rfl⟩:=p.same
 exact⟨⟨_,_,rfl⟩,p.old,p.new,p.inv,p.sub⟩
theorem a_.less{h:Heap}{U U':Addr->Prop}{v:Value}{x:V}(hu:∀b,U' b->U b)(r:a_ h U v x):a_ h U' v x:=r.keep ⟨λZ Z Z e=>e,λb u=>.inl (hu b u)⟩
theorem cw.less{h:Heap}{U U':Addr->Prop}{v:List Value}{x:List V}(hu:∀b,U' b->U b)(r:cw h U v x):cw h U' v x:=r.keep ⟨λZ Z Z e=>e,λb u=>.inl (hu b u)⟩
end
structure dd(fr:Addr->Prop)(O:Env)(sc:List (Str×NameKind)):Prop extends EnvOk fr O sc where
 apart:∀n n' c,O.cells.lookup n=some c->O.cells.lookup n'=some c->n=n'
 locs:∀n,O.cells.lookup n≠some O.locals
theorem dd.sub{fr:Addr->Prop}{O:Env}{sc:List (Str×NameKind)}(h:dd fr O sc):∀b,fS O b->fr b:=λb l=>by
 rcases l with rfl|⟨n,e⟩
 ·exact h.loc
 ·exact h.L1 n b e
theorem dd.more{fr kg:Addr->Prop}{O:Env}{sc:List (Str×NameKind)}(h:dd fr O sc)(k:∀b,fr b->kg b):dd kg O sc:=
 {h with loc:=k _ h.loc,L1:=λn c e=>k _ (h.L1 n c e)}
inductive mB(h:Heap)(U:Addr->Prop):Flow->Fl->Prop
 |next:mB h U .next .next
 |brk:mB h U .brk .brk
 |cont:mB h U .cont .cont
 |ret {v x}:a_ h U v x->mB h U (.ret v) (.ret x)
@[elab_as_elim] theorem mB.el{h:Heap}{U:Addr->Prop}{P:Flow->Fl->Prop}{fl:Flow}{f:Fl}(r:mB h U fl f)(h1:P .next .next)(h2:P .brk .brk)(h3:P .cont .cont)(h4:∀v x,a_ h U v x->P (.ret v) (.ret x)):P fl f:=
 mB.rec (motive:=λfl f Z=>P fl f) h1 h2 h3 (λr=>h4 _ _ r) r
def iC(X:Heap)(fr Lc:Addr->Prop)(O:Env)(nm:List Str)(s:Shared)(J:St)(Q:Fl->du->St->Prop)(fl:Flow)(s':Shared):Prop:=
 ∃f dT σ',Ps X fr Lc s J s' σ'/\mB s'.heap (cf σ' fr) fl f/\cU s'.heap (cf σ' fr) O nm dT/\Q f dT σ'
theorem iC.pre{X:Heap}{fr Lc:Addr->Prop}{O:Env}{nm:List Str}{s bV:Shared}{J a6:St}{Q:Fl->du->St->Prop}{fl:Flow}{s':Shared}(p:Ps X fr Lc s J bV a6)(h:iC X fr Lc O nm bV a6 Q fl s'):
  iC X fr Lc O nm s J Q fl s':=
 h.imp λf h=>h.imp λY h=>h.imp λσ' h=>⟨p.trans h.1,h.2⟩
def wg(X:Heap)(fr Lc:Addr->Prop)(O:Env)(nm:List Str)(s:Shared)(J:St)(Y:du)(_:Unit)(s':Shared):Prop:=
 Ps X fr Lc s J s' J/\cU s'.heap (cf J fr) O nm Y
section
variable{S:Program}{w:World}{A:Around}{s:Shared}{X:Heap}{fr:Addr->Prop}{J:St}{O:Env}{sc:List (Str×NameKind)}{nm:List Str}{Y:du}
theorem cU.less{h:Heap}{U U':Addr->Prop}(L:cU h U O nm Y)(hu:∀b,U' b->U b):cU h U' O nm Y:=by
 obtain⟨m,hn,hv⟩:=L.ns
 refine⟨⟨m,hn,λi x n a b c=>?_⟩,λi x n a b c=>?_,L.cells⟩
 ·obtain⟨v,e,r⟩:=hv i x n a b c
  exact⟨v,e,r.less hu⟩
 ·obtain⟨q,v,e,r1,r⟩:=L.cell i x n a b c
  exact⟨q,v,e,r1,r.less hu⟩
theorem cU.keep{h h':Heap}{U U':Addr->Prop}(L:cU h U O nm Y)(k:ft h h' U U')(hl:∀b o,fS O b->h.get? b=some o->h'.get? b=some o):cU h' U' O nm Y:=by
 obtain⟨m,hn,hv⟩:=L.ns
 refine⟨⟨m,?_,λi x n a b c=>?_⟩,λi x n a b c=>?_,λn c e=>?_⟩
 ·obtain⟨o,es,ep,ho,r⟩:=hn
  exact⟨o,es,ep,hl _ _ (.inl rfl) ho,r⟩
 ·obtain⟨v,e,r⟩:=hv i x n a b c
  exact⟨v,e,r.keep k⟩
 ·obtain⟨q,v,e,⟨o,ho,hd⟩,r⟩:=L.cell i x n a b c
  exact⟨q,v,e,⟨o,hl _ _ (.inr ⟨n,e⟩) ho,hd⟩,r.keep k⟩
 ·obtain⟨v,o,ho,hd⟩:=L.cells n c e
  exact⟨v,o,hl _ _ (.inr ⟨n,e⟩) ho,hd⟩
theorem fZ{α:Type}{l:List α}{i j:Nat}{x:α}(h:i≠j):(l.set i x)[j]?=l[j]?:=by rw[List.getElem?_set_ne h]
def jm(Lc:Addr->Prop)(O:Env)(n:Str):Prop:=(O.kindOf n=some .local/\Lc O.locals)\/(O.kindOf n=some .cell/\∀c,O.cells.lookup n=some c->Lc c)
theorem H_{Lc:Addr->Prop}{a:Addr}{h':Heap}{tk:Nat}(hs:∀b,Lc b->fr b)(I:dR X fr s.heap J)(hl:Lc a)(kk:∀b o,b≠a->s.heap.get? b=some o->h'.get? b=some o)(hn:∃o,h'.get? a=some o):
  Ps X fr Lc s J {s with heap:=h',toks:=tk} J:=by
 have fa:=hs a hl
 refine⟨⟨_,_,rfl⟩,λb o Z l e=>kk b o (λq=>l (q▸hl)) e,λb u=>.inl u,?_,hs⟩
 refine⟨λb o y e=>⟨kk _ _ (λq=>I.off b (by rw[e];rfl) (q▸fa)) (I.own b o y e).1,(I.own b o y e).2.keep ⟨λb o n e=>kk b o (λq=>n (.inr (q▸fa))) e,λb u=>.inl u⟩⟩,I.off,
  λb o e=>kk b o (λq=>?_) (I.base b o e),I.low,λb f=>?_,I.sys⟩
 ·have:=I.low b (.inr (q▸fa));rw[this]at e;cases e
 ·by_cases q:b=a
  ·subst q;exact hn
  ·obtain⟨o,e⟩:=I.live b f;exact⟨o,kk b o q e⟩
theorem pn{Lc:Addr->Prop}{i:Nat}{n:Str}{v:Value}{x:V}(hs:∀b,Lc b->fr b)(L:cU s.heap (cf J fr) O nm Y)(EO:dd fr O sc)(I:dR X fr s.heap J)(hi:nm[i]?=some n)(uq:∀j,nm[j]?=some n->j=i)(hk:jm Lc O n)(r:a_ s.heap (cf J fr) v x):
  wpAny (model S w) A (storeName O n v) (wg X fr Lc O nm s J (Y.set i (some x))) fi s:=by
 have nmi:∀j n',nm[j]?=some n'->n'=n->j=i:=λj n' hj e=>by
  subst e
  exact uq j hj
 obtain⟨m,hn,hv⟩:=L.ns
 have self:∀{j y},(Y.set i (some x))[j]?=some (some y)->j=i->y=x:=λ{j y} hj e=>by
  subst e
  have kq:j<Y.length:=by
   rcases cM j (Y.set j (some x)).length with h|h
   ·simpa using h
   ·rw[bu h]at hj;cases hj
  rw[List.getElem?_set_self kq]at hj
  cases hj;rfl
 rcases hk with⟨hk,Qi⟩|⟨hk,Qi⟩
 ·refine wpAny_storeName_local hk hn (λh' XE tN=>?_) (by rw[EO.kind];rfl)
  have kk:∀b o,b≠O.locals->s.heap.get? b=some o->h'.get? b=some o:=λb o q e=>tN.extBut b o q e
  have ps:Ps X fr Lc s J {s with heap:=h',toks:=s.toks+1} J:=H_ hs I Qi kk (by obtain⟨o,_,_,e,_⟩:=XE;exact⟨o,e⟩)
  refine⟨ps,⟨_,XE,λj y n' hj qG s9=>?_⟩,λj y n' hj qG s9=>?_,λn' c e=>?_⟩
  ·by_cases q:n'=n
   ·rw[ai q]
    rw[self hj (nmi j n' qG q)]
    exact⟨v,rfl,r.keep ps.keep⟩
   ·rw[ah q]
    have Mi:i≠j:=λe=>q (by subst e;rw[hi]at qG;cases qG;rfl)
    rw[fZ Mi]at hj
    obtain⟨u,e,ru⟩:=hv j y n' hj qG s9
    exact⟨u,e,ru.keep ps.keep⟩
  ·have q:n'≠n:=λe=>by
    subst e;rw[hk]at s9;rcases s9 with h|h<;>cases h
   have Mi:i≠j:=λe=>q (by subst e;rw[hi]at qG;cases qG;rfl)
   rw[fZ Mi]at hj
   obtain⟨c,u,e,⟨o,ho,hd⟩,ru⟩:=L.cell j y n' hj qG s9
   exact⟨c,u,e,⟨o,kk c o (λe'=>EO.locs n' (e'▸e)) ho,hd⟩,ru.keep ps.keep⟩
  ·obtain⟨u,o,ho,hd⟩:=L.cells n' c e
   exact⟨u,o,kk c o (λe'=>EO.locs n' (e'▸e)) ho,hd⟩
 ·obtain⟨c,hc⟩:=EO.has n (.inl (by rw[<-EO.kindOf];exact hk))
  obtain⟨ac7,Ux⟩:=L.cells n c hc
  refine wpAny_storeName_cell EO.kind hk hc Ux λh' C7 tN=>?_
  have kk:∀b o,b≠c->s.heap.get? b=some o->h'.get? b=some o:=λb o q e=>tN.extBut b o q e
  have ps:Ps X fr Lc s J {s with heap:=h'} J:=H_ (tk:=s.toks) hs I (Qi c hc) kk (by obtain⟨o,e,_⟩:=C7;exact⟨o,e⟩)
  refine⟨ps,⟨m,?_,λj y n' hj qG s9=>?_⟩,λj y n' hj qG s9=>?_,λn' c' e=>?_⟩
  ·obtain⟨o,es,ep,ho,r2⟩:=hn
   exact⟨o,es,ep,kk _ _ (λe=>EO.locs n (by rw[hc,e])) ho,r2⟩
  ·have q:n'≠n:=λe=>by
    subst e;rw[hk]at s9;cases s9
   have Mi:i≠j:=λe=>q (by subst e;rw[hi]at qG;cases qG;rfl)
   rw[fZ Mi]at hj
   obtain⟨u,e,ru⟩:=hv j y n' hj qG s9
   exact⟨u,e,ru.keep ps.keep⟩
  ·by_cases q:n'=n
   ·rw[self hj (nmi j n' qG q)]
    subst q
    exact⟨c,v,hc,C7,r.keep ps.keep⟩
   ·have Mi:i≠j:=λe=>q (by subst e;rw[hi]at qG;cases qG;rfl)
    rw[fZ Mi]at hj
    obtain⟨c2,u,e,⟨o,ho,hd⟩,ru⟩:=L.cell j y n' hj qG s9
    exact⟨c2,u,e,⟨o,kk c2 o (λe'=>q (EO.apart n' n c (e'▸e) hc)) ho,hd⟩,ru.keep ps.keep⟩
  ·by_cases q:c'=c
   ·subst q;exact⟨_,C7⟩
   ·obtain⟨u,o,ho,hd⟩:=L.cells n' c' e
    exact⟨u,o,kk c' o q ho,hd⟩
end
noncomputable def fF(k:Option NameKind):Bool:=match k with
 |some .local=>true
 |some .cell=>true
 |_=>false
theorem j3{k:Option NameKind}(h:fF k=true):k=some .local\/k=some .cell:=by
 cases k with
 |none=>exact no h
 |some k=>cases k<;>first|exact .inl rfl|exact .inr rfl|exact no h
noncomputable def XF(nm:List Str)(i:Nat)(id:Str):Bool:=(List.range nm.length).all λj=> !(decide (nm[j]?=some id))||Nat.beq j i
theorem pw{nm:List Str}{i:Nat}{id:Str}(h:XF nm i id=true):∀j,nm[j]?=some id->j=i:=λj hj=>
 (Bool.or_eq_true_iff.mp (av.mp h j (List.mem_range.mpr (cg.mp hj).1))).elim (λh=>by rw[bF hj]at h;exact no h) bf
def zd(sc:List (Str×NameKind))(nm:List Str)(i:Nat)(y:Str):Bool:=decide (nm[i]?=some y)&&(XF nm i y&&fF (sc.lookup y))
theorem kG{sc:List (Str×NameKind)}{nm:List Str}{i:Nat}{y:Str}(h:zd sc nm i y=true):nm[i]?=some y/\XF nm i y=true/\fF (sc.lookup y)=true:=vo h λh1 h2 h3=>⟨bh h1,h2,h3⟩
noncomputable def px(sc:List (Str×NameKind))(nm:List Str):List Expr->List Nat->Bool
 |[],is=>LF is true
 |e::r,is=>E4 is λi is=>sG e λid=>zd sc nm i id&&px sc nm r is
def md(sc:List (Str×NameKind))(nm:List Str)(e:Expr)(t:Tg):Bool:=match t with
 |.one i=>sG e (zd sc nm i)
 |.two i j=>y0 e λl=>px sc nm l [i,j]
noncomputable def XG(x:Expr):Str:=if h:x.ctorIdx=23 then Expr.Name.elim (motive_1:=λZ=>Str) x h λn Z=>n else""
def mC(l:List Expr):List Str:=l.map XG
theorem qH{sc:List (Str×NameKind)}{nm:List Str}{P:List Expr->List Nat->Prop}(h0:P [] [])(h1:∀id p l i is,zd sc nm i id=true->P l is->P (.Name id p::l) (i::is)){l:List Expr}:∀{is:List Nat},px sc nm l is=true->P l is:=by
 induction l with
 |nil=>exactλh=>ki (P:=P []) h λZ=>h0
 |cons e l ih=>exactλh=>k_ (P:=P (e::l)) h λi is h=>il (P:=λe=>P (e::l) (i::is)) h λid p h=>an h λa b=>h1 id p l i is a (ih b)
section
variable{S:Program}{w:World}{A:Around}{s:Shared}{X:Heap}{fr:Addr->Prop}{J:St}{O:Env}{sc kH:List (Str×NameKind)}{Lc:Addr->Prop}{nm:List Str}{Y:du}
def QK(S:Program)(w:World)(A:Around)(O:Env)(kH:List (Str×NameKind))(nm:List Str)(f:Value->Sem Unit)(i:Nat):Prop:=
 ∃n,zd kH nm i n=true/\∀v (s:Shared) (Q:Unit->Shared->Prop),wpAny (model S w) A (storeName O n v) Q fi s->wpAny (model S w) A (f v) Q fi s
theorem Ib(hs:∀b,Lc b->fr b)(i9:∀n,fF (kH.lookup n)=true->jm Lc O n)(EO:dd fr O sc)(fs:List (Value->Sem Unit)):
  ∀(is:List Nat) (xs:List V) (vs:List Value) (s:Shared) {J:St} (Y dT:du),fs.length=is.length->(∀(j:Nat) f i,fs[j]?=some f->is[j]?=some i->QK S w A O kH nm f i)->
   fb Y is xs=some dT->cw s.heap (cf J fr) vs xs->cU s.heap (cf J fr) O nm Y->dR X fr s.heap J->
   wpAny (model S w) A (assignInOrder fs vs) (wg X fr Lc O nm s J dT) fi s:=by
 induction fs with
 |nil=>
  exactλis xs vs s J Y dT hl hc hb r L I=>by
   cases is with
   |cons=>exact Nat.noConfusion hl
   |nil=>
    have e:Y=dT:=n8 (L:=λZ=>Y=dT) hb aW
    exact aj ⟨Ps.refl I hs,e▸L⟩
 |cons f fs ih=>
  exactλis xs vs s J Y dT hl hc hb r L I=>by
   cases is with
   |nil=>exact Nat.noConfusion hl
   |cons i is=>
    refine vT (L:=λxs=>cw s.heap (cf J fr) vs xs->_) hb (λx xs hb r=>cw.cN (P:=λvs=>wpAny (model S w) A (assignInOrder (f::fs) vs) (wg X fr Lc O nm s J dT) fi s) r λv vs rv rr=>?_) r
    obtain⟨n,h1,hf⟩:=hc 0 f i rfl rfl
    obtain⟨h1,h2,h3⟩:=kG h1
    exact aa (b7 (hf v s _ (ay (pn hs L EO I h1 (pw h2) (i9 _ h3) rv) (λu s' hp=>
     ay (ih is xs vs s' _ dT (Nat.succ.inj hl) (λj=>hc (j+1)) hb (rr.keep hp.1.keep) hp.2 hp.1.inv) (λZ L0 hq=>⟨hp.1.trans hq.1,hq.2⟩) λZ Z x=>x) λZ Z x=>x)))
theorem Ic(hs:∀b,Lc b->fr b)(i9:∀n,fF (kH.lookup n)=true->jm Lc O n)(EO:dd fr O sc)(f:Str->Value->Sem Unit)(hf:∀n v (s:Shared) (Q:Unit->Shared->Prop),wpAny (model S w) A (storeName O n v) Q fi s->wpAny (model S w) A (f n v) Q fi s)
  (ns:List Str) (is:List Nat) (xs:List V) (vs:List Value) (s:Shared) (Y dT:du) (hl:ns.length=is.length) (hc:∀(j:Nat) (n:Str) (i:Nat),ns[j]?=some n->is[j]?=some i->zd kH nm i n=true):
   fb Y is xs=some dT->cw s.heap (cf J fr) vs xs->cU s.heap (cf J fr) O nm Y->dR X fr s.heap J->
   wpAny (model S w) A (assignInOrder (ns.map f) vs) (wg X fr Lc O nm s J dT) fi s:=
 Ib hs i9 EO _ is xs vs s Y dT ((ag ..).trans hl) λj g i a b=>by
  rw[aA]at a
  obtain⟨n,hn,rfl⟩:=aO.mp a
  exact⟨n,hc j n i hn b,hf n⟩
theorem tV{l:List Expr}{is:List Nat}(h:px kH nm l is=true):(mC l).length=is.length/\l.length=is.length/\∀(j:Nat) (n:Str) (i:Nat),(mC l)[j]?=some n->is[j]?=some i->zd kH nm i n=true:=
 qH (P:=λl is=>(mC l).length=is.length/\l.length=is.length/\∀(j:Nat) (n:Str) (i:Nat),(mC l)[j]?=some n->is[j]?=some i->zd kH nm i n=true) ⟨rfl,rfl,λj n i h=>nn h⟩
  (λid p l i is h1 h=>⟨ao Nat.succ h.1,ao Nat.succ h.2.1,λj n i' x y=>by
   cases j with
   |zero=>cases x;cases y;exact h1
   |succ j=>exact h.2.2 j n i' x y⟩) h
theorem wh{l:List Expr}{is:List Nat}(h:px kH nm l is=true):((assignEach l O).map (·.2)).length=is.length/\(assignEach l O).findIdx? (·.1)=none/\∀(j:Nat) f i,((assignEach l O).map (·.2))[j]?=some f->is[j]?=some i->QK S w A O kH nm f i:=
 qH (P:=λl is=>((assignEach l O).map (·.2)).length=is.length/\(assignEach l O).findIdx? (·.1)=none/\∀(j:Nat) f i,((assignEach l O).map (·.2))[j]?=some f->is[j]?=some i->QK S w A O kH nm f i) ⟨rfl,rfl,λj n i h=>nn h⟩
  (λid p l i is h1 h=>⟨ao Nat.succ h.1,by
   show List.findIdx? (·.1) ((false,assign (.Name id p) O)::assignEach l O)=none
   rw[List.findIdx?_cons,h.2.1];rfl,λj f i' x y=>by
   cases j with
   |zero=>cases x;cases y;exact⟨id,h1,λv s Q h=>wpAny_assign_Name h⟩
   |succ j=>exact h.2.2 j f i' x y⟩) h
theorem Dh(hs:∀b,Lc b->fr b)(i9:∀n,fF (kH.lookup n)=true->jm Lc O n)(EO:dd fr O sc)(l:List Expr)(is:List Nat)(xs:List V)(vs:List Value)(s:Shared)(Y dT:du)(h:px kH nm l is=true):
   fb Y is xs=some dT->cw s.heap (cf J fr) vs xs->cU s.heap (cf J fr) O nm Y->dR X fr s.heap J->
   wpAny (model S w) A (assignInOrder ((assignEach l O).map (·.2)) vs) (wg X fr Lc O nm s J dT) fi s:=
 Ib hs i9 EO _ is xs vs s Y dT (wh (S:=S) (w:=w) (A:=A) h).1 (wh h).2.2
theorem mD{l:List Expr}{is:List Nat}(h:px kH nm l is=true):(assignEach l O).length=is.length/\(assignEach l O).findIdx? (·.1)=none:=
 qH (P:=λl is=>(assignEach l O).length=is.length/\(assignEach l O).findIdx? (·.1)=none) ⟨rfl,rfl⟩ (λid p l i is h1 h=>⟨ao Nat.succ h.1,by
   show List.findIdx? (·.1) ((false,assign (.Name id p) O)::assignEach l O)=none
   rw[List.findIdx?_cons,h.2];rfl⟩) h
theorem Bb{h':Heap}(I:dR X fr s.heap J)(hs:∀b,Lc b->fr b)(he:∀b o,s.heap.get? b=some o->h'.get? b=some o):Ps X fr Lc s J {s with heap:=h'} J:=
 (Pe.gT (tk:=s.toks) I he).ps hs
theorem kI(EO:dd fr O sc):∀n,fF (sc.lookup n)=true->jm (fS O) O n:=λn h=>by
 rcases j3 h with h|h
 ·exact .inl ⟨by rw[EO.kindOf];exact h,.inl rfl⟩
 ·exact .inr ⟨by rw[EO.kindOf];exact h,λc hc=>.inr ⟨n,hc⟩⟩
theorem cU.ext{h h':Heap}{U:Addr->Prop}(L:cU h U O nm Y)(he:∀b o,h.get? b=some o->h'.get? b=some o):cU h' U O nm Y:=
 L.keep ⟨λb o Z e=>he b o e,λZ u=>.inl u⟩ λb o Z e=>he b o e
theorem wi{e:Expr}{t:Tg}{v:Value}{y:V}{dT:du}(hs:∀b,Lc b->fr b)(i9:∀n,fF (kH.lookup n)=true->jm Lc O n)(hh:A.handled=none)(EO:dd fr O sc)(hc:md kH nm e t=true)(hb:n9 Y t y=some dT)(r:a_ s.heap (cf J fr) v y)
  (L:cU s.heap (cf J fr) O nm Y) (I:dR X fr s.heap J):wpAny (model S w) A (assign e O v) (wg X fr Lc O nm s J dT) fi s:=by
 cases t with
 |one i=>
  cases hb
  refine il hc λn p hc=>?_
  obtain⟨h1,h2,h3⟩:=kG hc
  exact wpAny_assign_Name (pn hs L EO I h1 (pw h2) (i9 _ h3) r)
 |two i j=>
  refine mA hc λl q p hc=>gS (P:=λy=>a_ s.heap (cf J fr) v y->_) hb (λzs hb r=>?_) r
  refine vS (L:=λzs=>a_ s.heap (cf J fr) v (.bZ zs)->_) hb (λx z hb r=>?_) r
  cases hb
  obtain⟨a,aq,n,rfl,ua,ea,ra⟩:=eD r
  obtain⟨h1,h2⟩:=mD (O:=O) hc
  refine assign_Tuple_tuple hh ⟨_,ea,rfl,n,rfl⟩ (h1.trans ra.size.symm) h2 λh' he=>?_
  have kk:∀b o,s.heap.get? b=some o->h'.get? b=some o:=λb o e=>he b o (bB (bq e)) e
  have p:=Bb I hs kk
  exact ay (Dh hs i9 EO l [i,j] [x,z] aq.toList _ Y _ hc rfl (ra.keep p.keep) (L.ext kk) p.inv) (λZ L0 hq=>⟨p.trans hq.1,hq.2⟩) λZ Z x=>x
end
theorem Dr.Is.mono{h h' LY:Heap}{d:Dr}{v:Value}(i:d.Is h h' v)(k:∀b o,h.get? b=none->h'.get? b=some o->LY.get? b=some o):d.Is h LY v:=by
 cases d with
 |it u=>exact i
 |en n u=>
  obtain⟨a,t,e,hn,ht⟩:=i
  exact⟨a,t,e,hn,k _ _ hn ht⟩
 |nm n=>exact i
section
variable{S:Program}{w:World}{A:Around}{s:Shared}{X:Heap}{fr Lc:Addr->Prop}{J:St}{O:Env}{sc:List (Str×NameKind)}{nm:List Str}{Y:du}
theorem s_{P:Addr->Prop}{h':Heap}{tk:Nat}(I:dR X fr s.heap J)(hs:∀b,Lc b->fr b)(hP:∀b,P b->Lc b)(kk:∀b o,¬P b->s.heap.get? b=some o->h'.get? b=some o)(hn:∀b,P b->∃o,h'.get? b=some o):
  Ps X fr Lc s J {s with heap:=h',toks:=tk} J:=by
 have fP:∀b,P b->fr b:=λb x=>hs b (hP b x)
 refine⟨⟨_,_,rfl⟩,λb o Z l e=>kk b o (λq=>l (hP b q)) e,λb u=>.inl u,?_,hs⟩
 refine⟨λb o y e=>⟨kk _ _ (λq=>I.off b (by rw[e];rfl) (fP b q)) (I.own b o y e).1,(I.own b o y e).2.keep ⟨λb o n e=>kk b o (λq=>n (.inr (fP b q))) e,λb u=>.inl u⟩⟩,I.off,
  λb o e=>kk b o (λq=>?_) (I.base b o e),I.low,λb f=>?_,I.sys⟩
 ·have:=I.low b (.inr (fP b q));rw[this]at e;cases e
 ·by_cases q:P b
  ·exact hn b q
  ·obtain⟨o,e⟩:=I.live b f;exact⟨o,kk b o q e⟩
def pA(a6:St)(U:Addr->Prop)(h:Heap)(wr:List Addr)(x:V)(b:Addr):Prop:=
 b∈wr\/(¬U b/\∃o,h.get? b=some o)\/(x=.ref b/\nV a6 b)
abbrev Di(W:Wd)(k:Nat)(b:List dJ6)(t:Tg)(x:V)(σ₀:St)(y:V)(Y:du)(J:St)(Q:Fl->du->St->Prop):Prop:=match n9 Y t y with
 |some dT=>fN W k b dT J λf Y J=>(match f with|.next=>e_ σ₀ x J|.cont=>e_ σ₀ x J|_=>True)/\Q f Y J
 |none=>False
theorem wm{σ₀ J:St}{b:Addr}(h:e_ σ₀ (.ref b) J):aY J b=aY σ₀ b:=h
theorem Bc{Q:Prop}{a6 eh pB:St}{dB gB:Heap}{kg:Addr->Prop}{dO:Heap}{wr:List Addr}{x:V}{b:Addr}{o:Obj}(hs:pA a6 (cf a6 kg) dO wr x b)(hw:b∉wr)
  (k₂:ft dO dB (cf a6 kg) (cf eh kg)) (Yz:ft dB gB (cf eh kg) (cf pB kg)) (Ie:dR X kg dB eh) (YA:dR X kg gB pB) (Uy:e_ a6 x eh) (Uz:e_ a6 x pB) (e:dB.get? b=some o):gB.get? b=some o:=by
 rcases hs with hs|⟨hn,o',ho⟩|⟨rfl,hh⟩
 ·exact aG hs hw
 ·have h2:dB.get? b=some o':=k₂.old b o' hn ho
  exact Yz.old b o (k₂.off hn ho) e
 ·have e2:=wm Uy
  have e3:=wm Uz
  obtain⟨⟨o1,y1⟩,h1⟩:=bA.mp hh
  rw[h1]at e2 e3
  have a2:=(Ie.own b o1 y1 e2).1
  have a3:=(YA.own b o1 y1 e3).1
  rw[a2]at e;cases e;exact a3
structure Pw(fro:Addr->Prop)(wr:List Addr)(s₀:Shared)(σ₀:Internal.St)(fr:Addr->Prop)(s:Shared)(J:Internal.St):Prop where
 same:∃h' tk,s={s₀ with heap:=h',toks:=tk}
 keep:vU s₀.heap σ₀ s.heap J
 more:∀b,fr b↔fro b\/b∈wr
 new:∀b∈wr,nV σ₀ b\/s₀.heap.get? b=none
 Mj:∀b,fro b->∃o,s₀.heap.get? b=some o
 QL:∀b,fro b->¬nV σ₀ b
theorem Pw.apart{fro:Addr->Prop}{wr:List Addr}{s₀:Shared}{σ₀:Internal.St}(p:Pw fro wr s₀ σ₀ fr s J){b:Addr}(h:fro b):¬b∈wr:=λx=>by
 obtain⟨o,e⟩:=p.Mj b h
 rcases p.new b x with y|y
 ·exact p.QL b h y
 ·rw[y]at e;cases e
theorem Pw.Ig{fro:Addr->Prop}{wr:List Addr}{s₀ s':Shared}{σ₀ σ':Internal.St}{h':Heap}{tk:Nat}(eO:Pw fro wr s₀ σ₀ fr s J)(UA:∀b,Lc b->fro b)(p:Ps X fr (λb=>Lc b\/b∈wr) s J s' σ')
  (kk:∀b o,¬b∈wr->s'.heap.get? b=some o->h'.get? b=some o):
  Ps X fro Lc s₀ σ₀ {s' with heap:=h',toks:=tk} σ'/\ft s'.heap h' (cf σ' fr) (cf σ' fro):=by
 have hs:∀b,cf σ' fro b->cf σ' fr b:=λb u=>u.imp id λx=>(eO.more b).mpr (.inl x)
 have inw:∀b,b∈wr->cf σ' fr b:=λb x=>.inr ((eO.more b).mpr (.inr x))
 have K:ft s'.heap h' (cf σ' fr) (cf σ' fro):=⟨λb o n e=>kk b o (λx=>n (inw b x)) e,λb u=>.inl (hs b u)⟩
 have nf:∀b,fro b->¬b∈wr:=λb l=>eO.apart l
 refine⟨⟨?_,λb o n l e=>?_,λb u=>?_,?_,UA⟩,K⟩
 ·obtain⟨h1,t1,rfl⟩:=eO.same
  obtain⟨h2,t2,rfl⟩:=p.same
  exact⟨_,_,rfl⟩
 ·have hw:¬b∈wr:=λx=>by
   rcases eO.new b x with y|y
   ·exact n y
   ·rw[y]at e;cases e
  have e1:=eO.keep.old b o n e
  refine kk b o hw (p.old b o (λu=>?_) (λu=>u.elim l hw) e1)
  rcases eO.keep.new b u with x|x
  ·exact n x
  ·rw[x]at e;cases e
 ·rcases p.new b u with x|x
  ·exact eO.keep.new b x
  ·cases e:s₀.heap.get? b with
   |none=>exact .inr rfl
   |some o=>
    by_cases n:nV σ₀ b
    ·exact .inl n
    ·have:=eO.keep.old b o n e;rw[x]at this;cases this
 ·refine⟨λa o y e=>⟨?_,(p.inv.own a o y e).2.keep K⟩,λa e x=>p.inv.off a e ((eO.more a).mpr (.inl x)),λb o e=>?_,λb u=>p.inv.low b (hs b u),λb x=>?_,p.inv.sys⟩
  ·exact kk a o (λx=>p.inv.off a (by rw[e];rfl) ((eO.more a).mpr (.inr x))) (p.inv.own a o y e).1
  ·exact kk b o (λx=>by have:=p.inv.low b (inw b x);rw[this]at e;cases e) (p.inv.base b o e)
  ·obtain⟨o,e⟩:=p.inv.live b ((eO.more b).mpr (.inl x))
   exact⟨o,kk b o (nf b x) e⟩
theorem Pw.Dj{fro:Addr->Prop}{wr:List Addr}{s₀:Shared}{σ₀:Internal.St}(eO:Pw fro wr s₀ σ₀ fr s J):ft s₀.heap s.heap (cf σ₀ fro) (cf J fr):=
 ⟨λb o n e=>eO.keep.old b o (λx=>n (.inl x)) e,λb u=>by
  rcases u with u|u
  ·exact(eO.keep.new b u).imp .inl id
  ·rcases(eO.more b).mp u with u|u
   ·exact .inl (.inr u)
   ·exact(eO.new b u).imp .inl id⟩
theorem Pw.close{fro:Addr->Prop}{wr:List Addr}{s₀ s':Shared}{σ₀ σ':Internal.St}{h':Heap}{tk:Nat}{f:Fl}{fl:Flow}(eO:Pw fro wr s₀ σ₀ fr s J)(EO:dd fro O sc)(p:Ps X fr (λb=>fS O b\/b∈wr) s J s' σ')
  (kk:∀b o,¬b∈wr->s'.heap.get? b=some o->h'.get? b=some o) (hf:mB s'.heap (cf σ' fr) fl f) (L:cU s'.heap (cf σ' fr) O nm Y):
  Ps X fro (fS O) s₀ σ₀ {s' with heap:=h',toks:=tk} σ'/\mB h' (cf σ' fro) fl f/\cU h' (cf σ' fro) O nm Y:=by
 obtain⟨a,K⟩:=eO.Ig (tk:=tk) EO.sub p kk
 refine⟨a,?_,L.keep K λb o l e=>kk b o (eO.apart (EO.sub b l)) e⟩
 exact hf.el .next .brk .cont λv x r=>.ret (r.keep K)
theorem nj{α:Type}{l:List α}{i:Nat}{x:α}{r:List α}(h:l.drop i=x::r):l[i]?=some x/\l.drop (i+1)=r:=
 ⟨by have:=ao (λl=>l[0]?) h;rwa[List.getElem?_drop]at this,by rw[<-List.tail_drop,h];rfl⟩
theorem ze{o:Option du}{F:du->Prop}(h:match o with|some r=>F r|none=>False):∃r,o=some r/\F r:=by
 cases o with
 |none=>exact h.elim
 |some r=>exact⟨r,rfl,h⟩
structure Ih(X:Heap)(fr:Addr->Prop)(Lc:Addr->Prop)(wr fp:List Addr)(s:Shared)(J:Internal.St)(aq:List V)(St:Nat->Heap->Prop)(x:V)(i:Nat)(xs:List V)(s':Shared)(σ':Internal.St):Prop where
 at_:aq.drop i=xs
 len:aq.length=i+xs.length
 ps:Ps X fr (λb=>Lc b\/b∈wr) s J s' σ'
 st:St i s'.heap
 e_:e_ J x σ'
theorem Fe{J:Internal.St}{x:V}:e_ J x J:=by cases x<;>first|exact rfl|trivial
theorem Ih.start{wr fp:List Addr}{aq:List V}{St:Nat->Heap->Prop}{x:V}(Iv:dR X fr s.heap J)(hs:∀b,(Lc b\/b∈wr)->fr b)(i9:St 0 s.heap):Ih X fr Lc wr fp s J aq St x 0 aq s J:=
 ⟨rfl,(bS _).symm,Ps.refl Iv hs,i9,Fe⟩
theorem Ih.done{wr fp:List Addr}{aq:List V}{St:Nat->Heap->Prop}{Md:Nat->Value->Heap->Prop}{ds:List Dr}{aR:Expr}{I:Addr}{x:V}{i:Nat}{s':Shared}{σ':Internal.St}{Q:Option Value->Shared->Prop}{E:Value->Shared->Prop}(T:Tn S w A aR I fp wr ds St Md)(hd:eZ s.heap (cf J fr) ds aq)
  (d:Ih X fr Lc wr fp s J aq St x i [] s' σ') (h:∀h' tk,(∀b o,b∉wr->s'.heap.get? b=some o->h'.get? b=some o)->Q none {s' with heap:=h',toks:=tk}):wpAny (model S w) A (pyNext (.ref I)) Q E s':=
 T.done s' Q E ((hd.length.trans d.len).symm▸d.st) h
theorem Ih.item{wr fp:List Addr}{aq:List V}{St:Nat->Heap->Prop}{Md:Nat->Value->Heap->Prop}{ds:List Dr}{aR:Expr}{I:Addr}{x y:V}{xs:List V}{i:Nat}{s':Shared}{σ':Internal.St}{Q:Option Value->Shared->Prop}{E:Value->Shared->Prop}(T:Tn S w A aR I fp wr ds St Md)(hd:eZ s.heap (cf J fr) ds aq)
  (hs:∀b,(Lc b\/b∈wr)->fr b) (d:Ih X fr Lc wr fp s J aq St x i (y::xs) s' σ')
  (h:∀v dO tk,(∀{Q:Unit->Shared->Prop} {E:Value->Shared->Prop},(∀dB,St (i+1) dB->(∀b o,¬b∈wr->s'.heap.get? b=some o->dB.get? b=some o)->Ps X fr (λb=>Lc b\/b∈wr) s' σ' {s' with heap:=dB,toks:=tk} σ'->a_ dB (cf σ' fr) v y->Q () {s' with heap:=dB,toks:=tk})->
    wpAny (model S w) A (letOwnedTupleGo aR (.ref I) v) Q E {s' with heap:=dO,toks:=tk})->Q (some v) {s' with heap:=dO,toks:=tk}):wpAny (model S w) A (pyNext (.ref I)) Q E s':=by
 have jd:=(nj d.at_).1
 have YB:i<ds.length:=by rw[hd.length,d.len];exact cW (Nat.succ_pos _)
 have Be:ds[i]?=some ds[i]:=aH YB
 refine T.item i _ s' _ _ Be d.st λv dO tk hIs hMd tW=>h v dO tk λH=>T.go i v _ _ _ hMd λdB mE OZ=>?_
 have kk:∀b o,¬b∈wr->s'.heap.get? b=some o->dB.get? b=some o:=λb o n e=>OZ b o n (tW b o n e)
 have dJ:Ps X fr (λb=>Lc b\/b∈wr) s' σ' {s' with heap:=dB,toks:=tk} σ':=s_ (P:=λb=>b∈wr) d.ps.inv hs (λb h=>.inr h) kk (T.live _ _ mE)
 exact H dB mE kk dJ (((hd.get Be jd).keep (d.ps.trans dJ).keep).drawn (hIs.mono λb o hn e=>OZ b o (λhw=>by
   obtain⟨o',e'⟩:=T.live _ _ d.st b hw
   exact nn (hn.symm.trans e')) e) λa hn u=>d.ps.inv.AR hn u)
theorem Ih.next{wr fp:List Addr}{aq:List V}{St:Nat->Heap->Prop}{Md:Nat->Value->Heap->Prop}{ds:List Dr}{aR:Expr}{I:Addr}{x y:V}{xs:List V}{i tk:Nat}{s' fv:Shared}{σ' fT:Internal.St}{dB:Heap}(T:Tn S w A aR I fp wr ds St Md)(hs:∀b,(Lc b\/b∈wr)->fr b)(UB:∀b,Lc b->¬b∈wr)
  (Ff:∀b∈fp,pA J (cf J fr) s.heap wr x b) (d:Ih X fr Lc wr fp s J aq St x i (y::xs) s' σ') (mE:St (i+1) dB) (dJ:Ps X fr (λb=>Lc b\/b∈wr) s' σ' {s' with heap:=dB,toks:=tk} σ')
  (iQ:Ps X fr Lc {s' with heap:=dB,toks:=tk} σ' fv fT) (Dk:Internal.e_ J x fT):Ih X fr Lc wr fp s J aq St x (i+1) xs fv fT:=
 ⟨(nj d.at_).2,d.len.trans (bo ..).symm,(d.ps.trans dJ).trans (iQ.widen (λb h=>.inl h) hs),T.frame _ _ _ mE λb hb o e=>by
  by_cases hw:b∈wr
  ·exact iQ.old b o (λx=>dJ.inv.off b x (hs b (.inr hw))) (λl=>UB b l hw) e
  ·exact Bc (Q:=True) (Ff b hb) hw (d.ps.trans dJ).keep iQ.keep dJ.inv iQ.inv d.e_ Dk e,Dk⟩
def UC(W:Wd)(k:Nat)(t:Tg)(b:List dJ6)(X:Heap)(fr:Addr->Prop)(O:Env)(nm:List Str)(wr fp:List Addr)(s:Shared)(J:Internal.St)(aq:List V)(St:Nat->Heap->Prop)(x:V)(Q:Fl->du->Internal.St->Prop)(n:Nat)(s':Shared):Prop:=
 ∃i xs dT σ',n=xs.length/\Ih X fr (fS O) wr fp s J aq St x i xs s' σ'/\cU s'.heap (cf σ' fr) O nm dT/\eg (Di W k b t x J) xs dT σ' Q
theorem Bf{W:Wd}{k:Nat}{aR:Expr}{t:Tg}{body:List Stmt}{b:List dJ6}{I:Addr}{fp wr:List Addr}{ds:List Dr}{St:Nat->Heap->Prop}{Md:Nat->Value->Heap->Prop}{aq:List V}{x:V}{Q:Fl->du->Internal.St->Prop}
  {fro:Addr->Prop} {s₀:Shared} {σ₀:Internal.St} (eO:Pw fro wr s₀ σ₀ fr s J)
  (hh:A.handled=none) (T:Tn S w A aR I fp wr ds St Md) (i9:St 0 s.heap) (EO:dd fro O sc) (hc:md sc nm aR t=true) (L:cU s.heap (cf J fr) O nm Y) (Iv:dR X fr s.heap J)
  (hd:eZ s.heap (cf J fr) ds aq) (Ff:∀b∈fp,pA J (cf J fr) s.heap wr x b) (YC:e_ J x J)
  (hq:eg (Di W k b t x J) aq Y J Q)
  (hB:∀(s:Shared) (Y:du) (J:Internal.St) (Q:Fl->du->Internal.St->Prop),cU s.heap (cf J fr) O nm Y->dR X fr s.heap J->fN W k b Y J Q->wpAny (model S w) A (execs body O) (iC X fr (fS O) O nm s J Q) fi s):
  codeAny (model S w) A (.forLoop aR (.ref I) body [] O) (λr s'=>match r with|.ok f=>iC X fro (fS O) O nm s₀ σ₀ Q f s'|.error _=>False) s:=by
 have rJ:dd fr O sc:=EO.more λb x=>(eO.more b).mpr (.inl x)
 have S':∀b∈wr,fr b/\¬fS O b:=λb x=>⟨(eO.more b).mpr (.inr x),λl=>eO.apart (EO.sub b l) x⟩
 have nY:∀b,(fS O b\/b∈wr)->fr b:=λb h=>h.elim (rJ.sub b) λh=>(S' b h).1
 have fin:∀{s':Shared} {σ':Internal.St} {fl:Flow} {f:Fl} {dT:du} {h':Heap} {tk:Nat},Ps X fr (λb=>fS O b\/b∈wr) s J s' σ'->(∀b o,¬b∈wr->s'.heap.get? b=some o->h'.get? b=some o)->
   mB s'.heap (cf σ' fr) fl f->cU s'.heap (cf σ' fr) O nm dT->Q f dT σ'->iC X fro (fS O) O nm s₀ σ₀ Q fl {s' with heap:=h',toks:=tk}:=λp kk hf L hq=>
  have q:=eO.close (tk:=_) EO p kk hf L
  ⟨_,_,_,q.1,q.2.1,q.2.2,hq⟩
 refine codeAny_forLoop_any (UC W k t b X fr O nm wr fp s J aq St x Q) ?_ aq.length ⟨0,aq,Y,J,rfl,.start Iv nY i9,L,hq⟩
 rintro n s' ⟨i,xs,dT,σ',rfl,d,L',AD⟩
 cases xs with
 |nil=>exact d.done T hd λdO tk tW=>wpAny_execs_nil (fin d.ps tW .next L' AD)
 |cons y xs=>
  refine d.item T hd nY λv dO tk go=>go λdB mE kk dJ rv=>?_
  have jU:cU dB (cf σ' fr) O nm dT:=L'.keep dJ.keep λb o l e=>kk b o (λhw=>(S' b hw).2 l) e
  have AD:Di W k b t x J y dT σ' _:=AD
  obtain⟨fK,hb,AD⟩:=ze AD
  refine ay (wi (s:={s' with heap:=dB,toks:=tk}) rJ.sub (kI rJ) hh rJ hc hb rv jU dJ.inv) (λu gU gB=>?_) λZ Z x=>x.elim
  refine ay (hB gU fK σ' _ gB.2 gB.1.inv AD) (λfl fv fu=>?_) λZ Z x=>x.elim
  obtain⟨f,tX,fT,jV,hf,lh,Dk,gH⟩:=fu
  have iQ:=gB.1.trans jV
  have lj:=(d.ps.trans dJ).trans (iQ.widen (λb h=>.inl h) nY)
  have next:e_ J x fT->eg (Di W k b t x J) xs tX fT Q->∃m,m<(y::xs).length/\UC W k t b X fr O nm wr fp s J aq St x Q m fv:=λhs hq=>
   ⟨xs.length,ct _,i+1,xs,tX,fT,rfl,d.next T nY (λb l h=>(S' b h).2 l) Ff mE dJ iQ hs,lh,hq⟩
  revert Dk gH
  exact hf.el next (λZ=>fin (h':=fv.heap) (tk:=fv.toks) lj (λZ Z Z e=>e) .next lh) next λv x r Z=>fin (h':=fv.heap) (tk:=fv.toks) lj (λZ Z Z e=>e) (.ret r) lh
def YD(W:Wd)(k:Nat)(c:E)(b:List dJ6)(X:Heap)(fr:Addr->Prop)(O:Env)(nm:List Str)(s:Shared)(J:Internal.St)(Q:Fl->du->Internal.St->Prop)(n:Nat)(s':Shared):Prop:=
 ∃dT σ',Ps X fr (fS O) s J s' σ'/\cU s'.heap (cf σ' fr) O nm dT/\iI (dW W k c) (fN W k b) n dT σ' Q
theorem xC{W:Wd}{k:Nat}{test:Expr}{c:E}{body:List Stmt}{b:List dJ6}{n:Nat}{Q:Fl->du->Internal.St->Prop}
  (EO:dd fr O sc) (L:cU s.heap (cf J fr) O nm Y) (Iv:dR X fr s.heap J)
  (hq:iI (dW W k c) (fN W k b) n Y J Q)
  (hT:∀(s:Shared) (Y:du) (J:Internal.St) (Q:Bool->Internal.St->Prop),cU s.heap (cf J fr) O nm Y->dR X fr s.heap J->dW W k c Y J Q->wpAny (model S w) A (isTrue test O (eval test O)) (oW X fr s J Q) fi s)
  (hB:∀(s:Shared) (Y:du) (J:Internal.St) (Q:Fl->du->Internal.St->Prop),cU s.heap (cf J fr) O nm Y->dR X fr s.heap J->fN W k b Y J Q->wpAny (model S w) A (execs body O) (iC X fr (fS O) O nm s J Q) fi s):
  codeAny (model S w) A (.whileLoop test body [] O) (λr s'=>match r with|.ok f=>iC X fr (fS O) O nm s J Q f s'|.error _=>False) s:=by
 refine codeAny_whileLoop (YD W k c b X fr O nm s J Q) ?_ n ⟨Y,J,Ps.refl Iv EO.sub,L,hq⟩
 rintro n s' ⟨dT,σ',p,L',AD⟩
 cases n with
 |zero=>exact AD.elim
 |succ n=>
  refine ay (hT s' dT σ' _ L' p.inv AD) (λt dA dB=>?_) λZ Z x=>x.elim
  obtain⟨eh,dJ,UD⟩:=dB
  have jU:=L'.pe EO.toEnvOk p.inv dJ
  have O0:=p.trans (dJ.ps EO.sub)
  cases t with
  |false=>
   exact wpAny_execs_nil ⟨.next,dT,eh,O0,.next,jU,UD⟩
  |true=>
   refine ay (hB dA dT eh _ jU dJ.inv UD) (λfl fv fu=>?_) λZ Z x=>x.elim
   obtain⟨f,tX,fT,jV,hf,lh,gH⟩:=fu
   have lj:=O0.trans jV
   revert gH
   exact hf.el (λgH=>⟨n,ct n,tX,fT,lj,lh,gH⟩) (λgH=>⟨.next,tX,fT,lj,.next,lh,gH⟩) (λgH=>⟨n,ct n,tX,fT,lj,lh,gH⟩) λv x r gH=>⟨_,tX,fT,lj,.ret r,lh,gH⟩
end
section
variable{S:Program}{w:World}{A:Around}{s:Shared}{X:Heap}{fr:Addr->Prop}{J:St}
theorem Pw.start(I:dR X fr s.heap J){wr:List Addr}{h':Heap}{tk:Nat}(kk:∀b o,s.heap.get? b=some o->h'.get? b=some o)(hn:∀b∈wr,s.heap.get? b=none/\∃o,h'.get? b=some o):
  Pw fr wr s J (λb=>fr b\/b∈wr) {s with heap:=h',toks:=tk} J/\dR X (λb=>fr b\/b∈wr) h' J:=
 ⟨⟨⟨_,_,rfl⟩,⟨λb o Z e=>kk b o e,λZ u=>.inl u⟩,λZ=>Iff.rfl,λb x=>.inr (hn b x).1,I.live,λb f u=>I.off b u f⟩,I.widen kk λb u=>u.imp id (hn b)⟩
theorem Pw.pre{wr:List Addr}{kg:Addr->Prop}{bV dA:Shared}{a6 eh:Internal.St}(p:Pe X fr s J bV a6)(I:dR X fr s.heap J)(q:Pw fr wr bV a6 kg dA eh):Pw fr wr s J kg dA eh:=by
 refine⟨?_,p.keep.trans q.keep,q.more,λb x=>?_,I.live,λb f u=>I.off b u f⟩
 ·obtain⟨h1,t1,rfl⟩:=p.same
  obtain⟨h2,t2,rfl⟩:=q.same
  exact⟨_,_,rfl⟩
 ·rcases q.new b x with y|y
  ·exact p.keep.new b y
  ·by_cases n:nV J b
   ·exact .inl n
   ·cases e:s.heap.get? b with
    |none=>exact .inr rfl
    |some o=>have:=p.keep.old b o n e;rw[y]at this;cases this
def kJ(S:Program)(w:World)(A:Around)(X:Heap)(fr:Addr->Prop)(s:Shared)(J:Internal.St)(aR:Expr)(Q:V->List V->Internal.St->Prop)(it:Value)(dA:Shared):Prop:=
 ∃(I:Addr) (fp wr:List Addr) (ds:List Dr) (St:Nat->Heap->Prop) (Md:Nat->Value->Heap->Prop) (x:V) (aq:List V) (a6:Internal.St),it=.ref I/\Tn S w A aR I fp wr ds St Md/\St 0 dA.heap/\
  Pw fr wr s J (λb=>fr b\/b∈wr) dA a6/\dR X (λb=>fr b\/b∈wr) dA.heap a6/\eZ dA.heap (cf a6 λb=>fr b\/b∈wr) ds aq/\
  (∀b∈fp,pA a6 (cf a6 λb=>fr b\/b∈wr) dA.heap wr x b)/\Q x aq a6
theorem kJ.pre{aR:Expr}{Q:V->List V->Internal.St->Prop}{it:Value}{bV dA:Shared}{a6:Internal.St}(p:Pe X fr s J bV a6)(I:dR X fr s.heap J)(h:kJ S w A X fr bV a6 aR Q it dA):kJ S w A X fr s J aR Q it dA:=by
 obtain⟨i,fp,wr,ds,St,Md,x,aq,eh,a,b,c,d,e⟩:=h
 exact⟨i,fp,wr,ds,St,Md,x,aq,eh,a,b,c,d.pre p I,e⟩
theorem oB{wr:List Addr}{h':Heap}{x:V}{b:Addr}{o:Obj}(u:¬cf J fr b)(e:s.heap.get? b=some o)(kk:∀b o,s.heap.get? b=some o->h'.get? b=some o)(hn:∀b∈wr,s.heap.get? b=none):
  pA J (cf J λb=>fr b\/b∈wr) h' wr x b:=by
 refine .inr (.inl ⟨λy=>?_,o,kk _ _ e⟩)
 rcases y with y|y|y
 ·exact u (.inl y)
 ·exact u (.inr y)
 ·have:=hn b y
  rw[this]at e;cases e
theorem Ii{wr:List Addr}{h':Heap}{v:Value}{x y:V}{b:Addr}(I:dR X fr s.heap J)(r:a_ s.heap (cf J fr) v x)(e:v=.ref b)(hx:b6 J x=some y)(kk:∀b o,s.heap.get? b=some o->h'.get? b=some o)(hn:∀b∈wr,s.heap.get? b=none):
  pA J (cf J λb=>fr b\/b∈wr) h' wr x b:=by
 subst e
 cases x with
 |ref a=>
  cases r.yE rfl
  exact .inr (.inr ⟨rfl,(aO.mp hx).elim λp h=>bA.mpr ⟨p,h.1⟩⟩)
 |bZ l=>
  obtain⟨a,aq,n,e,u,t,_⟩:=(r.inv:Qd _ _ (.ref b) (.bZ l))
  cases e;exact oB u t kk hn
 |a9 l=>
  obtain⟨a,o,e,u,q,_⟩:=(r.inv:Qd _ _ (.ref b) (.a9 l))
  cases e;exact oB u q kk hn
 |bC l=>
  obtain⟨a,o,e,u,_,q,_⟩:=(r.inv:Qd _ _ (.ref b) (.bC l))
  cases e;exact oB u q kk hn
 |none=>cases r.OJ rfl
 |bool c=>cases r.kr rfl
 |int i=>exact(r.j_ rfl).elim λt e=>Value.noConfusion e
 |str i=>exact(r.LX rfl).elim λt e=>Value.noConfusion e
theorem O8{h':Heap}{wr:List Addr}(kk:∀b o,s.heap.get? b=some o->h'.get? b=some o)(hn:∀b∈wr,s.heap.get? b=none):ft s.heap h' (cf J fr) (cf J λb=>fr b\/b∈wr):=
 ⟨λb o Z e=>kk b o e,λb u=>by
  rcases u with u|u|u
  ·exact .inl (.inl u)
  ·exact .inl (.inr u)
  ·exact .inr (hn b u)⟩
def zf:V->Option (List V)
 |.a9 l=>some l
 |.bZ l=>some l
 |.bC l=>some (iU l)
 |_=>none
theorem tY{aR:Expr}{x y:V}{a:Addr}{it:Obj}{o:Obj}{aq:List V}{ds:List Dr}{St:Nat->Heap->Prop}{Md:Nat->Value->Heap->Prop}{Q:V->List V->Internal.St->Prop}(I:dR X fr s.heap J)(r:a_ s.heap (cf J fr) (.ref a) x)(hv:b6 J x=some y)
  (ha:s.heap.get? a=some o) (hf:it.isFreed=false) (T:a≠s.heap.objs.size->Tn S w A aR s.heap.objs.size [s.heap.objs.size,a] [s.heap.objs.size] ds St Md) (i9:St 0 (s.heap.push it)) (rd:∀{h':Heap} {U:Addr->Prop},ft s.heap h' (cf J fr) U->eZ h' U ds aq) (q:Q x aq J):
  kJ S w A X fr s J aR Q (.ref s.heap.objs.size) {s with heap:=s.heap.push it}:=by
 have hn:∀b∈[s.heap.objs.size],s.heap.get? b=none:=λb hb=>az.mp hb▸ij _
 have kk:=kB s.heap it
 obtain⟨p,Iw⟩:=Pw.start (tk:=s.toks) I (wr:=[s.heap.objs.size]) kk λb hb=>⟨hn b hb,az.mp hb▸⟨_,a8 _ hf⟩⟩
 exact⟨s.heap.objs.size,_,_,_,_,_,x,aq,J,rfl,T (bB (bq ha)),i9,p,Iw,rd (O8 kk hn),λb hb=>(au.mp hb).elim (λe=>e▸.inl (.head _)) λhb=>az.mp hb▸Ii I r rfl hv kk hn,q⟩
theorem Mk{aR:Expr}{v:Value}{x:V}{y:V}{l:List V}{Q:V->List V->Internal.St->Prop}(hh:A.handled=none)(ht:sH aR=true)(I:dR X fr s.heap J)(r:a_ s.heap (cf J fr) v x)(hv:b6 J x=some y)(hl:zf y=some l)(q:Q x l J):
  wpAny (model S w) A (pyIter v) (kJ S w A X fr s J aR Q) fi s:=by
 cases y with
 |bZ tl=>
  cases hl
  obtain⟨a,aq,n,rfl,ha,ra,_⟩:=jB I r hv
  exact wpAny_pyIter_tuple (IsT.bZ ha) (tY (it:={cls:=.type "tuple_iterator",data:=.fields #[.ref a,.int 0 0]}) I r hv ha rfl (λkq=>HZ ht hh _ a kq aq) ⟨⟨_,a8 _ rfl,rfl,rfl⟩,IsT.bZ (kB _ _ _ _ ha)⟩ (λk=>xA (ra.keep k)) q)
 |a9 ll=>
  cases hl
  obtain⟨a,aq,n,rfl,ha,ra⟩:=eE I r hv
  exact wpAny_pyIter_list (IsL.a9 ha) (tY (it:={cls:=.type "list_iterator",data:=.fields #[.ref a,.int 0 0]}) I r hv ha rfl (λkq=>Ma ht hh _ a kq aq) ⟨⟨_,a8 _ rfl,rfl,rfl⟩,IsL.a9 (kB _ _ _ _ ha)⟩ (λk=>xA (ra.keep k)) q)
 |bC dl=>
  cases hl
  obtain⟨a,es,n,xs,rfl,hs,ha,ke,rd,nd⟩:=kD I r hv
  have hk:es.toList.map (λe=>Dr.it e.key)=(xs.map λx=>Value.ref x.2.1).map Dr.it:=by rw[ke,b_,b_];rfl
  exact o7 hs ha (tY (it:={cls:=.type "dict_keyiterator",data:=.fields #[.ref a,.int 0 0,.int es.size 0,.int n 0]}) I r hv ha rfl (λkq=>Mb ht hh _ a kq es n) ⟨⟨_,a8 _ rfl,rfl,rfl⟩,kB _ _ _ _ ha⟩ (λk=>hk▸xA (rd.OP.keep k)) q)
 |_=>exact nn hl
theorem Fg{aR:Expr}{n:Int}{t:Tok}{Q:V->List V->Internal.St->Prop}(hh:A.handled=none)(ht:sH aR=true)(I:dR X fr s.heap J)(h0:0<=n)(hn:n<=100000)(q:Q (.int n) (fj n.toNat) J):
  wpAny (model S w) A (call (.type "range") [.int n t]) (λr bV=>wpAny (model S w) A (pyIter r) (kJ S w A X fr s J aR Q) fi bV) fi s:=by
 obtain⟨m,rfl⟩:=cA h0
 refine call_range_1 ?_
 refine wpAny_pyIter_range (IsRange.new ..) (small_one (by decide) (by decide) (Int.le_trans (by decide) h0) (Int.lt_of_le_of_lt hn (by decide))) ?_
 have hz:∀o:Obj,(s.heap.push o).objs.size=s.heap.objs.size+1:=λo=>Heap.size_push ..
 dsimp only
 rw[hz]
 have Ml:Builtin.Range.rangeSize 0 (m:Int) 1=(m:Int):=by
  rw[rangeSize_one]
  by_cases h:(0:Int)<m
  ·rw[ai h];exact Int.sub_zero _
  ·rw[ah h];exact Int.le_antisymm h0 (cc.mp h)
 rw[Ml]
 have hI:∀o o':Obj,o'.isFreed=false->((s.heap.push o).push o').get? (s.heap.objs.size+1)=some o':=λo o' hf=>by
  have:=a8 (s.heap.push o) (o:=o') hf
  rw[hz]at this;exact this
 have tZ:∀b∈[s.heap.objs.size+1],s.heap.get? b=none:=λb hb=>by rw[az.mp hb];exact gA _ (Nat.le_succ _)
 have kk:∀o o':Obj,∀b q,s.heap.get? b=some q->((s.heap.push o).push o').get? b=some q:=λo o' b q e=>aD _ (aD _ e)
 obtain⟨p,Iw⟩:=Pw.start (tk:=s.toks+1+1) I (wr:=[s.heap.objs.size+1]) (kk {cls:=.type "range",data:=.fields #[.int 0 s.toks,.int (m:Int) t,.int 1 (s.toks+1)]} {cls:=.type "range_iterator",data:=.fields #[rawInt 0,rawInt (m:Int),rawInt 1]})
  λb hb=>⟨tZ b hb,by rw[az.mp hb];exact⟨_,hI _ _ rfl⟩⟩
 refine⟨s.heap.objs.size+1,_,_,_,_,_,.int (m:Int),_,J,rfl,H0 ht hh _ m,?_,p,Iw,Yt _,λb hb=>?_,q⟩
 ·show IsRangeIter _ _ _ _ _
  have:=hI {cls:=.type "range",data:=.fields #[.int 0 s.toks,.int (m:Int) t,.int 1 (s.toks+1)]} {cls:=.type "range_iterator",data:=.fields #[rawInt 0,rawInt (m:Int),rawInt 1]} rfl
  simpa using this
 ·rw[az.mp hb];exact .inl (.head _)
theorem Ij{aR:Expr}{v:Value}{x y:V}{l:List V}{Q:V->List V->Internal.St->Prop}(hh:A.handled=none)(ht:tT aR=true)(I:dR X fr s.heap J)(r:a_ s.heap (cf J fr) v x)(hv:b6 J x=some y)(hl:y=.a9 l\/y=.bZ l)(q:Q x (fB 0 l) J):
  wpAny (model S w) A (call (.type "enumerate") [v]) (λr bV=>wpAny (model S w) A (pyIter r) (kJ S w A X fr s J aR Q) fi bV) fi s:=by
 have main:∀(a:Addr) (o:Obj) (h':Heap) (vs:List Value) (Si:Nat->Heap->Prop),v=.ref a->s.heap.get? a=some o->IsEnum h' (s.heap.objs.size+1) s.heap.objs.size 0 .none->Si 0 h'->(∃o,h'.get? s.heap.objs.size=some o)->
   (∀b o,s.heap.get? b=some o->h'.get? b=some o)->QE S w A.in1 s.heap.objs.size a vs Si->cw s.heap (cf J fr) vs l->
   wpAny (model S w) A (pyIter (.ref (s.heap.objs.size+1))) (kJ S w A X fr s J aR Q) fi {s with heap:=h'}:=λa o h' vs Si O9 ha he hs O_ kk N rl=>by
  refine wpAny_pyIter_enum he ?_
  have kq:=bq ha
  have tZ:∀b∈[s.heap.objs.size+1,s.heap.objs.size],s.heap.get? b=none:=λb hb=>by
   rcases au.mp hb with rfl|hb
   ·exact gA _ (Nat.le_succ _)
   ·rw[az.mp hb];exact ij _
  obtain⟨p,Iw⟩:=Pw.start (tk:=s.toks) I (wr:=[s.heap.objs.size+1,s.heap.objs.size]) kk λb hb=>⟨tZ b hb,by
   rcases au.mp hb with rfl|hb
   ·exact⟨_,he⟩
   ·rw[az.mp hb];exact O_⟩
  refine⟨s.heap.objs.size+1,_,_,_,_,_,x,_,J,rfl,Mc ht _ s.heap.objs.size a (Nat.succ_ne_self _) (bB (dx kq)) (bB kq) N,⟨⟨_,he⟩,hs⟩,p,Iw,Ys 0 (rl.keep (O8 kk tZ)),λb hb=>?_,q⟩
  rcases au.mp hb with rfl|hb
  ·exact .inl (.head _)
  ·rcases au.mp hb with rfl|hb
   ·exact .inl (.tail _ (.head _))
   ·rw[az.mp hb]
    exact Ii I r O9 hv kk tZ
 rcases hl with rfl|rfl
 ·obtain⟨a,aq,n,rfl,ha,ra⟩:=eE I r hv
  have kq:=bq ha
  refine call_enumerate_1 ha λh' he jd hz kk=>?_
  exact main a _ h' aq.toList (λi h=>h.IsListIter s.heap.objs.size a i/\h.IsList a aq) rfl ha he ⟨jd,IsL.a9 (kk _ _ ha)⟩ (by obtain⟨o,e,_⟩:=jd;exact⟨o,e⟩) kk (H4 (A:=A.in1) hh _ a (bB kq) aq) ra
 ·obtain⟨a,aq,n,rfl,ha,ra,_⟩:=jB I r hv
  have kq:=bq ha
  refine oA ha λh' he jd hz kk=>?_
  exact main a _ h' aq.toList (λi h=>h.IsTupleIter s.heap.objs.size a i/\h.IsTuple a aq) rfl ha he ⟨jd,IsT.bZ (kk _ _ ha)⟩ (by obtain⟨o,e,_⟩:=jd;exact⟨o,e⟩) kk (Fc (A:=A.in1) hh _ a (bB kq) aq) ra
end
noncomputable def t4(e:Expr)(cB:Value)(O:Env):Sem Unit:=match e with
 |.ListComp elt _ _ _=>do let _<-call (.builtin "list.append") [cB,<-eval elt O]
 |.DictComp k v _ _ _=>do
    let kv<-eval k O
    let vv<-holding [kv] (eval v O)
    match cB with
    |.ref d=>do
     standAt {k.pos with endLine:=v.pos.endLine,endCol:=v.pos.endCol}
     holding [kv,vv] (dictSet d kv vv)
    |_=>unsupported "internal:dictcomp"
 |_=>unsupported "internal:not-a-comprehension"
def xD(e:Expr):Bool:=HO e (λZ Z Z=>true)||HP e λZ Z Z Z=>true
@[elab_as_elim] theorem Dl{P:Expr->Prop}{e:Expr}(h:xD e=true)(H1:∀a b c p,P (.ListComp a b c p))(H2:∀a b c d p,P (.DictComp a b c d p)):P e:=
 (Bool.or_eq_true_iff.mp h).elim (λh=>y7 h λa b c p Z=>H1 a b c p) λh=>y8 h λa b c d p Z=>H2 a b c d p
section
variable{M:Model}{A:Around}{s:Shared}
def lp(M:Model)(A:Around)(e:Expr)(depth:Nat)(cB:Value)(O:Env)(K:Shared->Prop)(s:Shared)(o:Option Comprehension):Prop:=match o with
 |some g'=>g'.is_async=0/\wpAny M A (eval g'.iter O) (λx s=>foldedSetIterable g'.iter O x=pure x/\wpAny M A (pyIter x) (λMm s=>wpAny M A (runOwn (.compStart e (depth+1) Mm cB O) O) (λZ s'=>K s') fi s) fi s) fi s
 |none=>wpAny M A (t4 e cB O) (λZ s=>K s) fi s
abbrev Bg(M:Model)(A:Around)(e:Expr)(depth:Nat)(cB:Value)(O:Env)(K:Shared->Prop)(s:Shared):Prop:=lp M A e depth cB O K s (clausesOf e)[depth+1]?
theorem lp.mono{e:Expr}{depth:Nat}{cB:Value}{O:Env}{K K':Shared->Prop}{o:Option Comprehension}(h:lp M A e depth cB O K s o)(k:∀s,K s->K' s):lp M A e depth cB O K' s o:=by
 cases o with
 |none=>exact ay h (λZ=>k) λZ Z x=>x
 |some g=>exact⟨h.1,ay h.2 (λx lu oz=>⟨oz.1,ay oz.2 (λMm Ik xB=>ay xB (λZ=>k) λZ Z x=>x) λZ Z x=>x⟩) λZ Z x=>x⟩
noncomputable def Bh(ifs:List Expr)(O:Env):Sem Bool:=forIn ifs true λc r=>if r=true then do let ok<-isTrue c O (eval c O);pure (ForInStep.yield ok)else pure (ForInStep.yield r)
def t5(M:Model)(A:Around)(e:Expr)(depth:Nat)(cB:Value)(O:Env)(K:Shared->Prop)(ok:Bool)(s:Shared):Prop:=match ok with
 |true=>Bg M A e depth cB O K s
 |false=>K s
theorem t5.mono{e:Expr}{depth:Nat}{cB:Value}{O:Env}{K K':Shared->Prop}{ok:Bool}(h:t5 M A e depth cB O K ok s)(k:∀s,K s->K' s):t5 M A e depth cB O K' ok s:=by
 cases ok with
 |false=>exact k _ h
 |true=>exact lp.mono h k
def zg(M:Model)(A:Around)(aR:Expr)(ifs:List Expr)(it:Value)(O:Env)(R0:Shared->Prop)(B:Bool->Shared->Prop)(r:Option Value)(bV:Shared):Prop:=match r with
 |none=>R0 bV
 |some v=>wpAny M A (letOwnedTupleGo aR it v) (λZ dA=>wpAny M A (assign aR O v) (λZ gU=>wpAny M A (Bh ifs O) B fi gU) fi dA) fi bV
theorem zg.mono{aR:Expr}{ifs:List Expr}{it:Value}{O:Env}{R0 R0':Shared->Prop}{B B':Bool->Shared->Prop}{r:Option Value}(h:zg M A aR ifs it O R0 B r s)(k0:∀s,R0 s->R0' s)(k:∀b s,B b s->B' b s):zg M A aR ifs it O R0' B' r s:=by
 cases r with
 |none=>exact k0 _ h
 |some v=>exact ay h (λZ dA dB=>ay dB (λZ gU gB=>ay gB k λZ Z x=>x) λZ Z x=>x) λZ Z x=>x
theorem wo{e:Expr}{depth:Nat}{it cB:Value}{O:Env}{Q:PySem.Fin->Shared->Prop}{gens:List Comprehension}(hc:clausesOf e=gens){em:Sem Unit}(he:t4 e cB O=em)(h:Bg M A e depth cB O (λlu=>Q (.again (.compLoop e depth it cB O)) lu) s):
  wpAny M A (match gens[depth+1]? with
   |some g'=>do
    let x<-eval g'.iter O
    standAt g'.iter.pos
    let x<-if(g'.is_async !=0)=true then foldedIterable g'.iter x else foldedSetIterable g'.iter O x
    let Mm<-holding [x] (if(g'.is_async !=0)=true then asyncIter x else pyIter x)
    let _<-runOwn (.compStart e (depth+1) Mm cB O) O
    again (.compLoop e depth it cB O)
   |none=>do em;again (.compLoop e depth it cB O)) Q fi s:=by
 subst hc he
 have h:lp M A e depth cB O (λlu=>Q (.again (.compLoop e depth it cB O)) lu) s (clausesOf e)[depth+1]?:=h
 revert h
 cases(clausesOf e)[depth+1]? with
 |none=>exactλh=>aa (ay h (λZ Fh tU=>aj tU) λZ Z x=>x)
 |some g=>
  intro h
  refine aa (ay h.2 (λx lu oz=>?_) λZ Z x=>x)
  refine aa (dh ?_)
  rw[h.1,ah (by decide),oz.1]
  refine aa (aj ?_)
  dsimp only
  rw[ah (by decide)]
  refine aa (b7 (ay oz.2 (λMm Ik xB=>?_) λZ Z x=>x))
  exact aa (ay xB (λZ Fh tU=>aj tU) λZ Z x=>x)
theorem zh{e:Expr}(hl:xD e=true){depth:Nat}{it cB:Value}{O:Env}{aR iter:Expr}{ifs:List Expr}(hg:(clausesOf e)[depth]?=some ⟨aR,iter,ifs,0⟩){Q:PySem.Fin->Shared->Prop}
  (h:wpAny M A (pyNext it) (zg M A aR ifs it O (Q (.done .next)) (t5 M A e depth cB O λlu=>Q (.again (.compLoop e depth it cB O)) lu)) fi s):
  wpAny M A (compTurn e depth it cB O) Q fi s:=by
 revert hg h
 refine Dl hl (λelt gens sc p hg h=>?_) λky vl gens sc p hg h=>?_
 ·unfold compTurn
  dsimp only
  rw[show gens[depth]?=_ from hg]
  dsimp only
  refine aa (dh ?_)
  rw[ah (by decide)]
  refine aa (ay h (λr bV dO=>?_) λZ Z x=>x)
  cases r with
  |none=>exact aj dO
  |some v=>
   refine aa (ay dO (λZ dA dB=>?_) λZ Z x=>x)
   refine aa (ay dB (λZ gU gB=>?_) λZ Z x=>x)
   refine aa (ay gB (λok fv fu=>?_) λZ Z x=>x)
   cases ok with
   |false=>exact aj fu
   |true=>exact wo (e:=.ListComp elt gens sc p) rfl rfl fu
 ·unfold compTurn
  dsimp only
  rw[show gens[depth]?=_ from hg]
  dsimp only
  refine aa (dh ?_)
  rw[ah (by decide)]
  refine aa (ay h (λr bV dO=>?_) λZ Z x=>x)
  cases r with
  |none=>exact aj dO
  |some v=>
   refine aa (ay dO (λZ dA dB=>?_) λZ Z x=>x)
   refine aa (ay dB (λZ gU gB=>?_) λZ Z x=>x)
   refine aa (ay gB (λok fv fu=>?_) λZ Z x=>x)
   cases ok with
   |false=>exact aj fu
   |true=>exact wo (e:=.DictComp ky vl gens sc p) rfl rfl fu
end
section
variable{S:Program}{w:World}{A:Around}{s:Shared}{R:Result->Shared->Prop}
theorem zi{e:Expr}(hl:xD e=true){depth:Nat}{it cB:Value}{O:Env}:(Code.compLoop e depth it cB O).isFrame=false/\A.under (Code.compLoop e depth it cB O)=A/\(Code.compStart e depth it cB O).isFrame=false/\A.under (Code.compStart e depth it cB O)=A:=
 Dl hl (λZ Z Z Z=>⟨rfl,rfl,rfl,rfl⟩) λZ Z Z Z Z=>⟨rfl,rfl,rfl,rfl⟩
theorem vy{e:Expr}(hl:xD e=true){depth:Nat}{it cB:Value}{O:Env}{aR iter:Expr}{ifs:List Expr}(hg:(clausesOf e)[depth]?=some ⟨aR,iter,ifs,0⟩)(dK0:Nat->Shared->Prop)
  (turn:∀n s,dK0 n s->wpAny (model S w) A (pyNext it) (zg (model S w) A aR ifs it O (R (.ok .next)) (t5 (model S w) A e depth cB O λlu=>∃m,m<n/\dK0 m lu)) fi s)
  (n:Nat) (h:dK0 n s):codeAny (model S w) A (.compLoop e depth it cB O) R s:=by
 obtain⟨hq,hA,_⟩:=zi (A:=A) hl (depth:=depth) (it:=it) (cB:=cB) (O:=O)
 refine codeAny_loop' rfl dK0 (λn s hJ=>?_) n h
 rw[hA]
 show wpAny _ A (if(Code.compLoop e depth it cB O).isFrame=true then _ else(compTurn e depth it cB O).onRaise (λx=>do noteFrame x O;theTreesLotGoes x)) _ _ s
 rw[hq,ah (by decide)]
 exact wpAny_onRaise (ay (zh hl hg (Q:=λfin s'=>match fin with|.done f=>R (.ok f) s'|.again c'=>(c'=Code.compLoop e depth it cB O/\∃m,m<n/\dK0 m s')\/(c'.quiet=true/\codeAny (model S w) A c' R s'))
  (ay (turn n s hJ) (λr bV dO=>dO.mono (λZ h=>h) λb s h=>h.mono λs h=>.inl ⟨rfl,h⟩) λZ Z x=>x)) (λfin s' hf=>hf) λZ Z x=>x.elim)
theorem mF{e:Expr}(hl:xD e=true){depth:Nat}{it cB:Value}{O:Env}{aR iter:Expr}{ifs:List Expr}(hg:(clausesOf e)[depth]?=some ⟨aR,iter,ifs,0⟩)
  (h0:codeAny (model S w) A (.compLoop e depth it cB O) R s)
  (h:wpAny (model S w) A (pyIter it) (λMm s'=>codeAny (model S w) A (.compLoop e depth Mm cB O) R s') fi s):
  codeAny (model S w) A (.compStart e depth it cB O) R s:=by
 obtain⟨_,_,hq,hA⟩:=zi (A:=A) hl (depth:=depth) (it:=it) (cB:=cB) (O:=O)
 refine codeAny_of_tree ?_
 rw[hA]
 show wpAny _ A (if(Code.compStart e depth it cB O).isFrame=true then _ else(compStart e depth it cB O).onRaise (λx=>do noteFrame x O;standAt theWindowsPlace)) _ _ s
 rw[hq,ah (by decide)]
 refine wpAny_onRaise ?_
 unfold compStart
 rw[hg]
 rw[ah (by simp[Option.elim])]
 refine aa (wpAny_askSetting (wpAny_ite ?_))
 split
 ·first
   |exact aa (aj (aj (And.intro rfl h0)))
   |exact aj (And.intro rfl h0)
 ·refine aa (wpAny_rule ?_)
  dsimp only
  refine aa (dh ?_)
  exact aa (ay h (λMm s' h'=>aj (And.intro rfl h')) λZ Z x=>x.elim)
end
def je{α:Type}(mk:α->V)(D:Addr)(a:α)(h:Heap)(U:Addr->Prop):Prop:=∃o,h.get? D=some o/\fH h U o (mk a)
theorem je.keep{α:Type}{mk:α->V}{D:Addr}{a:α}{h h':Heap}{U U':Addr->Prop}(x:je mk D a h U)(k:ft h h' U U')(hd:∀o,h.get? D=some o->h'.get? D=some o):je mk D a h' U':=
 x.imp λo x=>⟨hd o x.1,x.2.keep k⟩
def Dm{α:Type}(mk:α->V)(D:Addr)(O:Env)(nm:List Str)(Y:du)(X:Heap)(fr Lc:Addr->Prop)(s:Shared)(J:St)(K:St->α->Prop)(s':Shared):Prop:=
 ∃σ' a',Ps X fr Lc s J s' σ'/\cU s'.heap (cf σ' fr) O nm Y/\je mk D a' s'.heap (cf σ' fr)/\K σ' a'
def pC(Y dT:du):Prop:=∀(i:Nat) (x:V),Y[i]?=some (some x)->dT[i]?=some (some x)
theorem cU.le{h:Heap}{U:Addr->Prop}{O:Env}{nm:List Str}{Y dT:du}(L:cU h U O nm dT)(k:pC Y dT):cU h U O nm Y:=by
 obtain⟨m,hn,hv⟩:=L.ns
 exact⟨⟨m,hn,λi x n a b c=>hv i x n (k i x a) b c⟩,λi x n a b c=>L.cell i x n (k i x a) b c,L.cells⟩
theorem lx{Y:du}{i:Nat}(h:xg Y[i]?=true):Y[i]?=some none:=by
 revert h
 cases Y[i]? with
 |none=>exactλh=>no h
 |some o=>cases o with
  |none=>exactλZ=>rfl
  |some=>exactλh=>no h
theorem qI{Y:du}{i:Nat}{x:V}(h:Y[i]?=some none):pC Y (Y.set i (some x)):=λj y e=>by
 by_cases q:i=j
 ·subst q;rw[h]at e;cases e
 ·rw[fZ q];exact e
theorem pC.trans{a b c:du}(h:pC a b)(k:pC b c):pC a c:=λi x e=>k i x (h i x e)
theorem Il{Y dT:du}{t:Tg}{y:V}(hn:(tE t).Nodup)(hf:(tE t).all (λi=>xg Y[i]?)=true)(e:n9 Y t y=some dT):pC Y dT:=by
 have hf:=av.mp hf
 cases t with
 |one i=>cases e;exact qI (lx (hf _ (.head _)))
 |two i j=>
  exact gS (P:=λZ=>pC Y dT) e λl e=>vS (L:=λZ=>pC Y dT) e λa b e=>by
   cases e
   exact(qI (lx (hf _ (.head _)))).trans (qI ((fZ λ(q:i=j)=>(aZ.mp hn).1 (show i∈[j]from q▸.head _)).trans (lx (hf _ (.tail _ (.head _))))))
theorem Fi{Y dT:du}{t:Tg}{y:V}{j:Nat}(h:j∉tE t)(e:n9 Y t y=some dT):dT[j]?=Y[j]?:=by
 cases t with
 |one i=>cases e;exact fZ λ(q:i=j)=>h (show j∈[i]from q▸.head _)
 |two i k=>
  exact gS (P:=λZ=>dT[j]?=Y[j]?) e λl e=>vS (L:=λZ=>dT[j]?=Y[j]?) e λa b e=>by
   cases e
   exact(fZ λ(q:k=j)=>h (show j∈[i,k]from q▸.tail _ (.head _))).trans (fZ λ(q:i=j)=>h (show j∈[i,k]from q▸.head _))
theorem Bj{Y dT:du}{t:Tg}{s:yy}{cs:List E}{gs:List G}{y:V}(hn:(hZ (⟨t,s,cs⟩::gs)).Nodup)(hf:iH (⟨t,s,cs⟩::gs) Y=true)(e:n9 Y t y=some dT):iH gs dT=true:=
 av.mpr λj hj=>by
  rw[Fi (λh=>(List.nodup_append.mp (show(tE t++hZ gs).Nodup from hn)).2.2 j h j hj rfl) e]
  exact av.mp hf j (List.mem_append_right _ hj)
section
variable{S:Program}{w:World}{A:Around}{s:Shared}{X:Heap}{fr Lc:Addr->Prop}{J:St}{O:Env}{sc kH:List (Str×NameKind)}{nm:List Str}{Y:du}
def jf(S:Program)(w:World)(A:Around)(X:Heap)(W:Wd)(k:Nat)(O:Env)(sc:List (Str×NameKind))(nm:List Str)(ifs:List Expr)(cs:List E):Prop:=
 ∀(fr:Addr->Prop) (s:Shared) (Y:du) (J:St) (Q:Bool->St->Prop),dd fr O sc->cU s.heap (cf J fr) O nm Y->dR X fr s.heap J->EL W k cs Y J Q->wpAny (model S w) A (Bh ifs O) (oW X fr s J Q) fi s
def e5(S:Program)(w:World)(A:Around)(X:Heap)(W:Wd)(k:Nat)(O:Env)(sc:List (Str×NameKind))(nm:List Str)(aR iter:Expr)(src:yy):Prop:=
 ∀(fr:Addr->Prop) (s:Shared) (Y:du) (J:St) (Q:V->List V->St->Prop),dd fr O sc->cU s.heap (cf J fr) O nm Y->dR X fr s.heap J->Qe W k src Y J Q->
  wpAny (model S w) A (eval iter O) (λx bV=>foldedSetIterable iter O x=pure x/\wpAny (model S w) A (pyIter x) (kJ S w A X fr s J aR Q) fi bV) fi s
def pD{α:Type}(S:Program)(w:World)(A:Around)(X:Heap)(O:Env)(sc:List (Str×NameKind))(nm:List Str)(e:Expr)(D:Addr)(mk:α->V)(dI:du->St->α->(St->α->Prop)->Prop):Prop:=
 ∀(fr:Addr->Prop) (s:Shared) (Y:du) (J:St) (a:α) (K:St->α->Prop),dd fr O sc->cU s.heap (cf J fr) O nm Y->dR X fr s.heap J->fr D->je mk D a s.heap (cf J fr)->dI Y J a K->
  wpAny (model S w) A (t4 e (.ref D) O) (λZ s'=>∃σ' a',Ps X fr (λb=>b=D) s J s' σ'/\je mk D a' s'.heap (cf σ' fr)/\K σ' a') fi s
noncomputable def sJ(S:Program)(w:World)(A:Around)(X:Heap)(W:Wd)(k:Nat)(O:Env)(sc kH:List (Str×NameKind))(nm:List Str):List G->List Comprehension->Prop
 |[],[]=>True
 |⟨t,src,cs⟩::gs,⟨aR,iter,ifs,as⟩::cl=>as=0/\md kH nm aR t=true/\jf S w A X W k O sc nm ifs cs/\e5 S w A X W k O sc nm aR iter src/\sJ S w A X W k O sc kH nm gs cl
 |_,_=>False
abbrev wu{α:Type}(W:Wd)(k:Nat)(t:Tg)(cs:List E)(gs:List G)(dI:du->St->α->(St->α->Prop)->Prop)(Y:du)(x:V)(σ₀:St)(y:V)(J:St)(a:α)(K:St->α->Prop):Prop:=match n9 Y t y with
 |some dT=>EL W k cs dT J λok J=>if ok then Yf W k gs dI dT J a λJ a=>e_ σ₀ x J/\K J a else e_ σ₀ x J/\K J a
 |none=>False
def O'{α:Type}(W:Wd)(k:Nat)(t:Tg)(cs:List E)(gs:List G)(dI:du->Internal.St->α->(Internal.St->α->Prop)->Prop)(mk:α->V)(D:Addr)(X:Heap)(fr:Addr->Prop)(O:Env)(nm:List Str)(wr fp:List Addr)(s:Shared)(J:Internal.St)(aq:List V)(St:Nat->Heap->Prop)(x:V)(Y:du)(K:Internal.St->α->Prop)(n:Nat)(s':Shared):Prop:=
 ∃i xs σ' a',n=xs.length/\Ih X fr (λb=>b=O.locals\/b=D) wr fp s J aq St x i xs s' σ'/\cU s'.heap (cf σ' fr) O nm Y/\je mk D a' s'.heap (cf σ' fr)/\Internal.iter (wu W k t cs gs dI Y x J) xs σ' a' K
theorem turn{α:Type}{W:Wd}{k:Nat}{e:Expr}(hl:xD e=true){D:Addr}{mk:α->V}{dI:du->Internal.St->α->(Internal.St->α->Prop)->Prop}(hh:A.handled=none)
  (nW:∀n,fF (kH.lookup n)=true->jm (λb=>b=O.locals) O n) (GY:¬fS O D)
  {gs:List G} {depth:Nat} {aR iter:Expr} {ifs:List Expr} {rest:List Comprehension} {t:Tg} {src:yy} {cs:List E} {I:Addr} {fp wr:List Addr} {ds:List Dr} {St:Nat->Heap->Prop} {Md:Nat->Value->Heap->Prop}
   {aq:List V} {x:V} {a:α} {K:Internal.St->α->Prop} {fro fr:Addr->Prop} {s₀ s:Shared} {σ₀ J:Internal.St} {Y:du}
   (t6:(clausesOf e).drop depth=⟨aR,iter,ifs,0⟩::rest) (hc:md kH nm aR t=true) (xE:jf S w A X W k O sc nm ifs cs)
   (nZ:(hZ (⟨t,src,cs⟩::gs)).Nodup) (zj:iH (⟨t,src,cs⟩::gs) Y=true)
   (eO:Pw fro wr s₀ σ₀ fr s J) (T:Tn S w A aR I fp wr ds St Md) (i9:St 0 s.heap) (EO:dd fro O sc) (Td:fro D) (L:cU s.heap (cf J fr) O nm Y) (Iv:dR X fr s.heap J)
   (hd:eZ s.heap (cf J fr) ds aq) (Ff:∀b∈fp,pA J (cf J fr) s.heap wr x b) (fe:je mk D a s.heap (cf J fr)) (hq:Internal.iter (wu W k t cs gs dI Y x J) aq J a K)
   (inner:∀{kg:Addr->Prop} {fv:Shared} {dT:du} {fT:Internal.St} {Im:α} {Io:Internal.St->α->Prop},dd kg O sc->cU fv.heap (cf fT kg) O nm dT->dR X kg fv.heap fT->kg D->je mk D Im fv.heap (cf fT kg)->
    iH gs dT=true->Yf W k gs dI dT fT Im Io->Bg (model S w) A e depth (.ref D) O (λlu=>Dm mk D O nm dT X kg (λb=>b=O.locals\/b=D) fv fT Io lu) fv):
   codeAny (model S w) A (.compLoop e depth (.ref I) (.ref D) O) (λr s'=>match r with|.ok _=>Dm mk D O nm Y X fro (λb=>b=O.locals\/b=D) s₀ σ₀ K s'|.error _=>False) s:=by
 have rJ:dd fr O sc:=EO.more λb x=>(eO.more b).mpr (.inl x)
 have YE:∀b,(b=O.locals\/b=D)->fro b:=λb h=>h.elim (λh=>h▸EO.loc) λh=>h▸Td
 have Pa:∀b,(b=O.locals\/b=D)->fr b:=λb h=>(eO.more b).mpr (.inl (YE b h))
 have UB:∀b,((b=O.locals\/b=D)\/b∈wr)->fr b:=λb h=>h.elim (Pa b) λh=>(eO.more b).mpr (.inr h)
 have hDC:D≠O.locals:=λq=>GY (.inl q)
 have hDw:¬D∈wr:=eO.apart Td
 have YF:fr D:=Pa D (.inr rfl)
 refine vy hl (nj t6).1 (O' W k t cs gs dI mk D X fr O nm wr fp s J aq St x Y K) ?_ aq.length ⟨0,aq,J,a,rfl,.start Iv UB i9,L,fe,hq⟩
 rintro n s' ⟨i,xs,σ',a',rfl,d,L',Pb,AD⟩
 cases xs with
 |nil=>
  refine d.done T hd λdO tk tW=>?_
  obtain⟨pf,Kf⟩:=eO.Ig (h':=dO) (tk:=tk) YE d.ps tW
  exact⟨σ',a',pf,L'.keep Kf λb o l e=>tW b o (eO.apart (EO.sub b l)) e,Pb.keep Kf λo e=>tW D o hDw e,AD⟩
 |cons y xs=>
  refine d.item T hd UB λv dO tk go=>go λdB mE kk dJ rv=>?_
  have jU:cU dB (cf σ' fr) O nm Y:=L'.keep dJ.keep λb o l e=>kk b o (eO.apart (EO.sub b l)) e
  have Mn:je mk D a' dB (cf σ' fr):=Pb.keep dJ.keep λo e=>kk D o hDw e
  have AD:wu W k t cs gs dI Y x J y σ' a' _:=AD
  obtain⟨fK,hb,AD⟩:=ze AD
  refine ay (wi (s:={s' with heap:=dB,toks:=tk}) (Lc:=λb=>b=O.locals) (λb h=>Pa b (.inl h)) nW hh rJ hc hb rv jU dJ.inv) (λu gU gB=>?_) λZ Z x=>x.elim
  obtain⟨jW,Mo⟩:=gB
  have Mp:=Mn.keep jW.keep λo e=>jW.old D o (λu=>dJ.inv.off D u YF) hDC e
  refine ay (xE fr gU fK σ' _ rJ Mo jW.inv AD) (λok fv fu=>?_) λZ Z x=>x.elim
  obtain⟨fT,jV,gH⟩:=fu
  have lh:=Mo.pe rJ.toEnvOk jW.inv jV
  have nt:=Mp.keep (jV.keep.own fr) λo e=>jV.keep.old D o (λu=>jW.inv.off D u YF) e
  have iQ:Ps X fr (λb=>b=O.locals\/b=D) {s' with heap:=dB,toks:=tk} σ' fv fT:=(jW.widen (λb h=>.inl h) Pa).trans (jV.ps Pa)
  have next:∀{lu:Shared} {pE:Internal.St} {Fj:α},Ps X fr (λb=>b=O.locals\/b=D) {s' with heap:=dB,toks:=tk} σ' lu pE->cU lu.heap (cf pE fr) O nm fK->je mk D Fj lu.heap (cf pE fr)->
    (e_ J x pE/\Internal.iter (wu W k t cs gs dI Y x J) xs pE Fj K)->∃m,m<(y::xs).length/\O' W k t cs gs dI mk D X fr O nm wr fp s J aq St x Y K m lu:=λ{lu pE Fj} Mq YG xF wx=>
   ⟨xs.length,ct _,i+1,xs,pE,Fj,rfl,d.next T UB (λb l=>eO.apart (YE b l)) Ff mE dJ Mq wx.1,YG.le (Il (List.nodup_append.mp (show(tE t++hZ gs).Nodup from nZ)).1 (av.mpr λj hj=>av.mp zj j (List.mem_append_left _ hj)) hb),xF,wx.2⟩
  cases ok with
  |false=>exact next iQ lh nt gH
  |true=>
   refine lp.mono (inner rJ lh jV.inv YF nt (Bj nZ zj hb) gH) λFh tU=>?_
   obtain⟨ac6,ac8,Fm,QM,Mr,UE⟩:=tU
   exact next (iQ.trans Fm) QM Mr UE
theorem zk{α:Type}{W:Wd}{k:Nat}{e:Expr}(hl:xD e=true){D:Addr}{mk:α->V}{dI:du->Internal.St->α->(Internal.St->α->Prop)->Prop}(hh:A.handled=none)
  (UG:pD S w A X O sc nm e D mk dI) (nW:∀n,fF (kH.lookup n)=true->jm (λb=>b=O.locals) O n) (GY:¬fS O D):
  ∀(gs:List G) {depth:Nat} {aR iter:Expr} {ifs:List Expr} {rest:List Comprehension} {t:Tg} {src:yy} {cs:List E} {I:Addr} {fp wr:List Addr} {ds:List Dr} {St:Nat->Heap->Prop} {Md:Nat->Value->Heap->Prop}
   {aq:List V} {x:V} {a:α} {K:Internal.St->α->Prop} {fro fr:Addr->Prop} {s₀ s:Shared} {σ₀ J:Internal.St} {Y:du},
   (clausesOf e).drop depth=⟨aR,iter,ifs,0⟩::rest->md kH nm aR t=true->jf S w A X W k O sc nm ifs cs->sJ S w A X W k O sc kH nm gs rest->
   (hZ (⟨t,src,cs⟩::gs)).Nodup->iH (⟨t,src,cs⟩::gs) Y=true->
   Pw fro wr s₀ σ₀ fr s J->Tn S w A aR I fp wr ds St Md->St 0 s.heap->dd fro O sc->fro D->cU s.heap (cf J fr) O nm Y->dR X fr s.heap J->
   eZ s.heap (cf J fr) ds aq->(∀b∈fp,pA J (cf J fr) s.heap wr x b)->je mk D a s.heap (cf J fr)->Internal.iter (wu W k t cs gs dI Y x J) aq J a K->
   codeAny (model S w) A (.compLoop e depth (.ref I) (.ref D) O) (λr s'=>match r with|.ok _=>Dm mk D O nm Y X fro (λb=>b=O.locals\/b=D) s₀ σ₀ K s'|.error _=>False) s:=by
 intro gs
 induction gs with
 |nil=>
  intro depth aR iter ifs rest t src cs I fp wr ds St Md aq x a K fro fr s₀ s σ₀ J Y t6 hc xE Pc nZ zj eO T i9 EO Td L Iv hd Ff fe hq
  have HG:rest=[]:=by cases rest with|nil=>rfl|cons c r=>exact Pc.elim
  refine turn hl hh nW GY t6 hc xE nZ zj eO T i9 EO Td L Iv hd Ff fe hq λ{kg fv dT fT Im Io} rJ lh zl pF nt Pd gH=>?_
  have HF:(clausesOf e)[depth+1]?=none:=bu (List.drop_eq_nil_iff.mp ((nj t6).2.trans HG))
  show lp _ _ _ _ _ _ _ _ _
  rw[HF]
  refine ay (UG kg fv dT fT Im _ rJ lh zl pF nt gH) (λZ lu oz=>?_) λZ Z x=>x
  obtain⟨pE,Fj,QN,xF,wx⟩:=oz
  refine⟨pE,Fj,QN.widen (λb h=>.inr h) (λb h=>h.elim (λh=>h▸rJ.loc) λh=>h▸pF),lh.keep QN.keep λb o l eb=>?_,xF,wx⟩
  exact QN.old b o (λu=>zl.off b u (rJ.sub b l)) (λq=>GY (q▸l)) eb
 |cons g gs ih=>
  obtain⟨t',QO,cs'⟩:=g
  intro depth aR iter ifs rest t src cs I fp wr ds St Md aq x a K fro fr s₀ s σ₀ J Y t6 hc xE Pc nZ zj eO T i9 EO Td L Iv hd Ff fe hq
  cases rest with
  |nil=>exact Pc.elim
  |cons c rest=>
   obtain⟨Ms,UH,YH,as'⟩:=c
   obtain⟨rfl,C7,UI,UJ,YI⟩:=Pc
   refine turn hl hh nW GY t6 hc xE nZ zj eO T i9 EO Td L Iv hd Ff fe hq λ{kg fv dT fT Im Io} rJ lh zl pF nt Pd gH=>?_
   have Ip:(clausesOf e).drop (depth+1)=⟨Ms,UH,YH,0⟩::rest:=(nj t6).2
   have mx:=(nj Ip).1
   show lp _ _ _ _ _ _ _ _ _
   rw[mx]
   refine⟨rfl,?_⟩
   refine ay (UJ kg fv dT fT _ rJ lh zl gH) (λxv lu oz=>⟨oz.1,ay oz.2 (λMm Ik xB=>?_) λZ Z x=>x⟩) λZ Z x=>x
   obtain⟨I',fp',wr',Te,St',Md',x',mz,UK,rfl,T',UL,Mt,YJ,AE,YK,UM⟩:=xB
   have loc:∀b o,kg b->fv.heap.get? b=some o->Ik.heap.get? b=some o:=λb o f eb=>Mt.keep.old b o (λu=>zl.off b u f) eb
   have YL:cU Ik.heap (cf UK λb=>kg b\/b∈wr') O nm dT:=lh.keep Mt.Dj λb o l eb=>loc b o (rJ.sub b l) eb
   have Mu:=nt.keep Mt.Dj λo eb=>loc D o pF eb
   have YM:(hZ (⟨t',QO,cs'⟩::gs)).Nodup:=by
    have:(tE t++hZ (⟨t',QO,cs'⟩::gs)).Nodup:=nZ
    exact(List.nodup_append.mp this).2.1
   have loop:=ih (depth:=depth+1) (src:=QO) (K:=Io) (s₀:=fv) (σ₀:=fT) (fro:=kg) Ip C7 UI YI YM Pd Mt T' UL rJ pF YL YJ AE YK Mu UM
   refine wpAny_runOwn (h:=none) (codeAny_mono (mF hl mx loop (T'.self 0 Ik _ _ UL loop)) λr s' hr=>?_)
   cases r with
   |ok f=>exact hr
   |error x=>exact hr.elim
end
noncomputable def eY(cells:List (Str×Addr)):List (Str×NameKind)->List (Str×Addr)->List (Str×Addr)
 |[],cs=>cs
 |(n,k)::r,cs=>if(k==NameKind.free)=true then eY cells r ((n,(cells.lookup n).getD 0)::cs)else eY cells r cs
theorem Dn{β:Type}{n:Str}{b:β}{r:List (Str×β)}:((n,b)::r).lookup n=some b:=by rw[List.lookup_cons,cv]
theorem Dp{β:Type}{n m:Str}{b:β}{r:List (Str×β)}(h:¬n=m):((m,b)::r).lookup n=r.lookup n:=by rw[List.lookup_cons,bX.mpr h]
theorem kK{scope:Scope}{O:Env}(h:∀n,(n,NameKind.free)∈scope.names->∃c,O.cells.lookup n=some c):closureFor scope O=pure (eY O.cells scope.names []):=by
 simp only[closureFor]
 have go:∀(l:List (Str×NameKind)) (cB:List (Str×Addr)),(∀n,(n,NameKind.free)∈l->∃c,O.cells.lookup n=some c)->
   (forIn l cB λ(x:Str×NameKind) (r:List (Str×Addr))=>if(x.2==NameKind.free)=true then do let c<-cellOf O x.1;pure (ForInStep.yield ((x.1,c)::r))else pure (ForInStep.yield r))=(pure (eY O.cells l cB):Sem (List (Str×Addr))):=by
  intro l
  induction l with
  |nil=>intro cB _;rfl
  |cons x r ih=>
   intro cB hl
   obtain⟨n,k⟩:=x
   have hr:∀n,(n,NameKind.free)∈r->∃c,O.cells.lookup n=some c:=λn' h'=>hl n' (.tail _ h')
   rw[List.forIn_cons]
   by_cases hk:(k==NameKind.free)=true
   ·obtain⟨c,hc⟩:=hl n (bt hk▸.head _)
    have he:cellOf O n=pure c:=by unfold cellOf;rw[hc]
    have e:eY O.cells ((n,k)::r) cB=eY O.cells r ((n,c)::cB):=(ai hk).trans (by rw[hc];rfl)
    rw[ai hk,he,e,pure_bind,pure_bind]
    exact ih _ hr
   ·have e:eY O.cells ((n,k)::r) cB=eY O.cells r cB:=ah hk
    rw[ah hk,e,pure_bind]
    exact ih _ hr
 rw[go scope.names [] h];rfl
theorem ly{cells:List (Str×Addr)}(l:List (Str×NameKind)):∀(cB:List (Str×Addr)) {n:Str} {c:Addr},(∀n,(n,NameKind.free)∈l->∃c,cells.lookup n=some c)->(eY cells l cB).lookup n=some c->cB.lookup n=some c\/cells.lookup n=some c:=by
 induction l with
 |nil=>exactλcB Z Z Z h=>.inl h
 |cons x r ih=>
  intro cB n c hl h
  have hr:∀n,(n,NameKind.free)∈r->∃c,cells.lookup n=some c:=λn' h'=>hl n' (.tail _ h')
  by_cases hk:(x.2==NameKind.free)=true
  ·have h:(eY cells r ((x.1,(cells.lookup x.1).getD 0)::cB)).lookup n=some c:=(ao (List.lookup n) (ai hk)).symm.trans h
   refine(ih _ hr h).elim (λh1=>?_) .inr
   by_cases hb:n=x.1
   ·obtain⟨c',C7⟩:=hl x.1 (bt hk▸.head _)
    rw[hb,Dn,C7]at h1
    rw[hb,C7];exact .inr h1
   ·exact .inl ((Dp hb).symm.trans h1)
  ·exact ih cB hr ((ao (List.lookup n) (ah hk)).symm.trans h)
theorem wy{cells:List (Str×Addr)}(l:List (Str×NameKind)):∀(cB:List (Str×Addr)) {n:Str},((n,NameKind.free)∈l\/∃c,cB.lookup n=some c)->∃c,(eY cells l cB).lookup n=some c:=by
 induction l with
 |nil=>exactλcB n h=>h.elim (λh=>(a7 h).elim) id
 |cons x r ih=>
  intro cB n h
  by_cases hk:(x.2==NameKind.free)=true
  ·refine(ih ((x.1,(cells.lookup x.1).getD 0)::cB) ?_).imp λc e=>(ao (List.lookup n) (ai hk)).trans e
   by_cases hb:n=x.1
   ·exact .inr ⟨_,by rw[hb];exact Dn⟩
   ·exact h.imp (λh=>(au.mp h).elim (λq=>aG (ao Prod.fst q) hb) id) λh=>h.imp λc hc=>(Dp hb).trans hc
  ·refine(ih cB (h.imp (λh=>(au.mp h).elim (λq=>aG ?_ hk) id) id)).imp λc e=>(ao (List.lookup n) (ah hk)).trans e
   rw[<-q];rfl
noncomputable def zm(O:Env)(n:Str)(k:NameKind):NameKind:=if(k==.free&&O.scope.kind==.function&&O.kindOf n==some .cell)=true then .cell else k
theorem wz{O:Env}{n:Str}{k:NameKind}(hc:k≠.cell)(e:zm O n k=.cell\/zm O n k=.free):k=.free:=by
 unfold zm at e
 by_cases b:(k==.free&&O.scope.kind==.function&&O.kindOf n==some .cell)=true
 ·exact bt (cK.mp (cK.mp b).1).1
 ·rw[ah b]at e;exact e.elim (λq=>aG q hc) id
theorem Bk{O:Env}{n:Str}{k:NameKind}(e:zm O n k=.local):k=.local:=by
 unfold zm at e
 by_cases b:(k==.free&&O.scope.kind==.function&&O.kindOf n==some .cell)=true
 ·rw[ai b]at e;cases e
 ·rwa[ah b]at e
theorem t7{O:Env}(l:List (Str×NameKind))(n:Str):(l.map λ(x:Str×NameKind)=>if(x.2==NameKind.free&&O.scope.kind==.function&&O.kindOf x.1==some .cell)=true then(x.1,NameKind.cell)else(x.1,x.2)).lookup n=(l.lookup n).map (zm O n):=by
 induction l with
 |nil=>rfl
 |cons x r ih=>
  obtain⟨m,k⟩:=x
  have e:(if(k==NameKind.free&&O.scope.kind==.function&&O.kindOf m==some .cell)=true then(m,NameKind.cell)else(m,k))=(m,zm O m k):=(apply_ite (Prod.mk m) _ _ _).symm
  rw[bP,e]
  by_cases hb:n=m
  ·rw[hb,Dn,Dn];rfl
  ·rw[Dp hb,Dp hb];exact ih
theorem iR(scope:Scope)(O:Env)(n:Str):(relabel scope O).names.lookup n=(scope.names.lookup n).map (zm O n):=t7 scope.names n
noncomputable def okK(sc:List (Str×NameKind))(scope:Scope)(n:Str):NameKind->Bool
 |.cell=>false
 |.free=>decide (sc.lookup n=some .cell)||decide (sc.lookup n=some .free)
 |.local=>decide (scope.names.lookup n=some .local)
 |_=>true
def ed(sc:List (Str×NameKind))(scope:Scope):Bool:=decide (scope.kind=.function)&&scope.names.all λx=>okK sc scope x.1 x.2
noncomputable def kL(kH:List (Str×NameKind))(nm fI:List Str)(tg:List Nat):Bool:=(List.range fI.length).all λi=>match fI[i]? with
 |some n=>(match kH.lookup n with
  |some .local=>tg.contains i
  |some .cell=>false
  |some .free=>decide (nm[i]?=some n)
  |_=>true)
 |none=>true
section
variable{O:Env}{sc:List (Str×NameKind)}{scope:Scope}{fr:Addr->Prop}
theorem eN(h:ed sc scope=true):scope.kind=.function/\(∀y∈scope.names,y.2≠.cell)/\(∀n,(n,NameKind.free)∈scope.names->sc.lookup n=some .cell\/sc.lookup n=some .free)/\(∀x∈scope.names,x.2=.local->scope.names.lookup x.1=some .local):=by
 refine an h λh1 h2=>⟨bh h1,λy hy hc=>?_,λn hn=>?_,λx hx hl=>?_⟩
 ·have:=av.mp h2 y hy
  rw[hc]at this;exact no this
 ·exact((Bool.or_eq_true_iff ..).mp (av.mp h2 _ hn)).imp bh bh
 ·have:=av.mp h2 x hx
  rw[hl]at this;exact bh this
theorem t8{kH:List (Str×NameKind)}{nm fI:List Str}{tg:List Nat}(h:kL kH nm fI tg=true){i:Nat}{n:Str}(hi:fI[i]?=some n):
  (kH.lookup n=some .local->i∈tg)/\(kH.lookup n=some .free->nm[i]?=some n)/\kH.lookup n≠some .cell:=by
 unfold kL at h
 have kq:i<fI.length:=by
  rcases cM i fI.length with h|h
  ·exact h
  ·rw[bu h]at hi;cases hi
 have:=av.mp h i (List.mem_range.mpr kq)
 rw[hi]at this
 dsimp only at this
 refine⟨λe=>?_,λe=>?_,λe=>?_⟩<;>rw[e]at this<;>simpa using this
theorem jE(EO:dd fr O sc)(h:ed sc scope=true):∀n,(n,NameKind.free)∈scope.names->∃c,O.cells.lookup n=some c:=λn hn=>EO.has n ((eN h).2.2.1 n hn)
theorem Iq{C:Addr}{fro:Addr->Prop}(EO:dd fr O sc)(h:ed sc scope=true)(hf:∀b,fr b->fro b)(hC:fro C)(hn:¬fr C):dd fro (compEnvC scope (eY O.cells scope.names []) C O) (relabel scope O).names:=by
 obtain⟨h1,h2,h3,h4⟩:=eN h
 have YN:=jE EO h
 have sub:∀{n c},(eY O.cells scope.names []).lookup n=some c->O.cells.lookup n=some c:=λ{n c} e=>by
  rcases ly scope.names [] YN e with x|x
  ·cases x
  ·exact x
 refine{names:=rfl,kind:=h1,glob:=EO.glob,blt:=EO.blt,loc:=hC,L1:=λn c e=>hf c (EO.L1 n c (sub e)),has:=λn e=>?_,apart:=λn n' c e e'=>EO.apart n n' c (sub e) (sub e'),locs:=λn e=>hn (EO.L1 n _ (sub e))}
 rw[iR]at e
 refine wy scope.names [] (.inl ?_)
 cases hl:scope.names.lookup n with
 |none=>rw[hl]at e;exact e.elim (λq=>nn q) λq=>nn q
 |some k=>
  rw[hl]at e
  have hm:=mem_of_lookup hl
  exact wz (h2 _ hm) (e.imp aW aW)▸hm
theorem sL{n:Str}(h:ed sc scope=true)(C:Addr)(cl:List (Str×Addr))(e:(compEnvC scope cl C O).kindOf n=some .local):scope.names.lookup n=some .local:=by
 have:(relabel scope O).names.lookup n=some .local:=e
 rw[iR]at this
 cases hl:scope.names.lookup n with
 |none=>rw[hl]at this;exact nn this
 |some k=>rw[hl]at this;exact ao some (Bk (aW this))
theorem sM{n:Str}(C:Addr)(cl:List (Str×Addr))(e:scope.names.lookup n=some .local):(compEnvC scope cl C O).kindOf n=some .local:=by
 show(relabel scope O).names.lookup n=some .local
 rw[iR,e];rfl
theorem t9{n:Str}(h:ed sc scope=true)(C:Addr)(cl:List (Str×Addr))(e:(compEnvC scope cl C O).kindOf n=some .cell\/(compEnvC scope cl C O).kindOf n=some .free):scope.names.lookup n=some .free:=by
 have:(relabel scope O).names.lookup n=some .cell\/(relabel scope O).names.lookup n=some .free:=e
 rw[iR]at this
 cases hl:scope.names.lookup n with
 |none=>rw[hl]at this;exact this.elim (λq=>nn q) λq=>nn q
 |some k=>
  rw[hl]at this
  exact ao some (wz ((eN h).2.1 _ (mem_of_lookup hl)) (this.imp aW aW))
theorem Bl{C:Addr}{cl:List (Str×Addr)}(h:ed sc scope=true):∀n,fF (scope.names.lookup n)=true->jm (λb=>b=(compEnvC scope cl C O).locals) (compEnvC scope cl C O) n:=λn hn=>by
 rcases j3 hn with e|e
 ·exact .inl ⟨sM C cl e,rfl⟩
 ·exact aG rfl ((eN h).2.1 _ (mem_of_lookup e))
end
section
variable{s:Shared}{X h':Heap}{fr fro:Addr->Prop}{J σ':St}{O:Env}{sc:List (Str×NameKind)}{nm fI:List Str}{Y:du}{scope:Scope}{gs:List G}
theorem Ir{C:Addr}{m:Str->Option Value}(EO:dd fr O sc)(L:cU s.heap (cf J fr) O nm Y)(h:ed sc scope=true)(hc:kL scope.names nm fI (hZ gs)=true)(hf:iH gs Y=true)
  (k:ft s.heap h' (cf J fr) (cf σ' fro)) (hl:∀b o,fS O b->s.heap.get? b=some o->h'.get? b=some o) (hn:h'.Ns C m):cU h' (cf σ' fro) (compEnvC scope (eY O.cells scope.names []) C O) fI Y:=by
 have YN:=jE EO h
 have sub:∀{n c},(eY O.cells scope.names []).lookup n=some c->O.cells.lookup n=some c:=λ{n c} e=>by
  rcases ly scope.names [] YN e with x|x
  ·cases x
  ·exact x
 refine⟨⟨m,hn,λi x n a b c=>?_⟩,λi x n a b c=>?_,λn c e=>?_⟩
 ·have hi:=(t8 hc b).1 (sL h C _ c)
  have:=lx (av.mp hf i hi)
  rw[this]at a;cases a
 ·have zj:=t9 h C _ c
  have vw:=(t8 hc b).2.1 zj
  have hk:=(eN h).2.2.1 n (mem_of_lookup zj)
  obtain⟨q,v,e,⟨o,ho,hd⟩,r⟩:=L.cell i x n a vw (by rw[EO.kindOf];exact hk)
  obtain⟨q',e'⟩:=wy (cells:=O.cells) scope.names [] (.inl (mem_of_lookup zj))
  have:=sub e'
  rw[e]at this;cases this
  exact⟨q,v,e',⟨o,hl _ _ (.inr ⟨n,e⟩) ho,hd⟩,r.keep k⟩
 ·obtain⟨v,o,ho,hd⟩:=L.cells n c (sub e)
  exact⟨v,o,hl _ _ (.inr ⟨n,sub e⟩) ho,hd⟩
end
noncomputable def gq(x:Expr):Bool:= !(Nat.beq x.ctorIdx 7)
theorem f5{e:Expr}{O:Env}(h:gq e=true)(x:Value):foldedSetIterable e O x=pure x:=by
 cases e<;>first|rfl|exact(aJ h).elim
structure Cx(X:Heap)(fr:Addr->Prop)(s:Shared)(J:St)(C:Addr)(s':Shared)(σ':St):Prop where
 same:∃h' tk,s'={s with heap:=h',toks:=tk}
 keep:vU s.heap J s'.heap σ'
 inv:dR X (λb=>fr b\/b=C) s'.heap σ'
 QP:nV J C\/s.heap.get? C=none
 QQ:¬fr C
 ns:∃m,s'.heap.Ns C m
def CompEnd(X:Heap)(fr:Addr->Prop)(s:Shared)(J:St)(Q:V->St->Prop)(D C:Addr)(s':Shared):Prop:=
 ∃x σ',Cx X fr s J C s' σ'/\a_ s'.heap (cf σ' λb=>fr b\/b=C) (.ref D) x/\Q x σ'
section
variable{X:Heap}{fr:Addr->Prop}{s s':Shared}{J σ':St}{C:Addr}
theorem Cx.done(c:Cx X fr s J C s' σ')(I:dR X fr s.heap J){h':Heap}{tk:Nat}(hs:Heap.SameBut C s'.heap h'):
  Pe X fr s J {s' with heap:=h',toks:=tk} σ'/\ft s'.heap h' (cf σ' λb=>fr b\/b=C) (cf σ' fr):=by
 have kk:∀b o,b≠C->s'.heap.get? b=some o->h'.get? b=some o:=λb o n e=>(hs.2 b n).trans e
 have K:ft s'.heap h' (cf σ' λb=>fr b\/b=C) (cf σ' fr):=⟨λb o n e=>kk b o (λq=>n (.inr (.inr q))) e,λb u=>.inl (u.imp id .inl)⟩
 have oC:∀b,(aY σ' b).isSome=true->b≠C:=λb u q=>c.inv.off b u (.inr q)
 refine⟨⟨?_,⟨λb o n e=>?_,c.keep.new⟩,⟨λa o x e=>⟨?_,(c.inv.own a o x e).2.keep K⟩,λa e f=>c.inv.off a e (.inl f),λb o e=>?_,λb u=>c.inv.low b (u.imp id .inl),λb f=>?_,c.inv.sys⟩⟩,K⟩
 ·obtain⟨h1,t1,rfl⟩:=c.same
  exact⟨_,_,rfl⟩
 ·exact kk b o (λq=>by
   rcases c.QP with x|x
   ·exact n (q▸x)
   ·rw[q,x]at e;cases e) (c.keep.old b o n e)
 ·exact kk a o (oC a (by rw[e];rfl)) (c.inv.own a o x e).1
 ·exact kk b o (λq=>by have:=c.inv.low b (.inr (.inr q));rw[this]at e;cases e) (c.inv.base b o e)
 ·obtain⟨o,e⟩:=c.inv.live b (.inl f)
  exact⟨o,kk b o (λq=>c.QQ (q▸f)) e⟩
end
section
variable{S:Program}{w:World}{A:Around}{s:Shared}{X:Heap}{fr:Addr->Prop}{J:St}{O:Env}{sc:List (Str×NameKind)}{nm fI:List Str}{Y:du}{scope:Scope}
theorem It{α:Type}{mk:α->V}{a':α}{own:Bool}{Q:V->Internal.St->Prop}{D C:Addr}{sh s':Shared}{a6 σ':Internal.St}(K:ft s.heap sh.heap (nV J) (nV a6))(same:∃h' tk,sh={s with heap:=h',toks:=tk})(nD:nV J D\/s.heap.get? D=none)(nC:nV J C\/s.heap.get? C=none)
  (fD:¬fr D) (fC:¬fr C) (XH:C≠D) (p:Ps X (λb=>fr b\/b=D\/b=C) (λb=>b=C\/b=D) sh a6 s' σ') (ns:∃m,s'.heap.Ns C m) (fe:je mk D a' s'.heap (cf σ' λb=>fr b\/b=D\/b=C)) (hQ:gG own (mk a') σ' Q):CompEnd X fr s J Q D C s':=by
 obtain⟨o,ho,YO⟩:=fe
 obtain⟨x,fm,h1,h2,h3,h4⟩:=xi (fr:=λb=>fr b\/b=C) p.inv (λb f=>f.elim (λf=>f.imp id .inr) λq=>.inr (.inl q)) (λf=>f.elim fD λq=>XH q.symm) ho YO hQ
 have ap:∀b o,¬nV J b->s.heap.get? b=some o->∀c,(nV J c\/s.heap.get? c=none)->b≠c:=λb o n e c h q=>h.elim (λu=>n (q▸u)) λh=>nn (h.symm.trans (q▸e))
 refine⟨x,fm,⟨same.elim λa e=>e.elim λb e1=>p.same.elim λh2 e=>e.elim λt2 e=>⟨h2,t2,e.trans (ao (λz:Shared=>({z with heap:=h2,toks:=t2}:Shared)) e1:)⟩,
  ⟨λb o n e=>p.old b o (K.off n e) (λq=>q.elim (ap b o n e C nC) (ap b o n e D nD)) (K.old b o n e),λb u=>(h1 b u).elim (λu=>(p.new b u).elim (K.new b) K.none) λ(q:b=D)=>q▸nD⟩,h2,nC,fC,ns⟩,h3,h4⟩
theorem Iu{α:Type}{mk:α->V}{e:Expr}(hl:xD e=true){W:Wd}{k:Nat}{o₀:Obj}{a₀:α}{dI:du->Internal.St->α->(Internal.St->α->Prop)->Prop}{t:Tg}{src:yy}{cs:List E}{gs:List G}
  {aR iter:Expr} {ifs:List Expr} {rest:List Comprehension} {own:Bool} {Q:V->Internal.St->Prop}
  (Iy:clausesOf e=⟨aR,iter,ifs,0⟩::rest)
  (Iz:∀h U,fH h U o₀ (mk a₀))
  (hh:A.handled=none) (EO:dd fr O sc) (L:cU s.heap (cf J fr) O nm Y) (I:dR X fr s.heap J)
  (nu:ed sc scope=true) (vw:kL scope.names nm fI (hZ (⟨t,src,cs⟩::gs))=true) (nZ:(hZ (⟨t,src,cs⟩::gs)).Nodup) (zj:iH (⟨t,src,cs⟩::gs) Y=true) (hc:md scope.names fI aR t=true)
  (xE:∀C,jf S w A X W k (compEnvC scope (eY O.cells scope.names []) C O) (relabel scope O).names fI ifs cs)
  (Pc:∀C,sJ S w A X W k (compEnvC scope (eY O.cells scope.names []) C O) (relabel scope O).names scope.names fI gs rest)
  (UG:∀C D,pD S w A X (compEnvC scope (eY O.cells scope.names []) C O) (relabel scope O).names fI e D mk dI)
  {it:Value} {dA:Shared} {D:Addr} {YP:Str->Option Value} {fu:Heap} {tk:Nat} (dB:kJ S w A X fr s J aR (λx aq σ₀=>Internal.iter (wu W k t cs gs dI Y x σ₀) aq σ₀ a₀ λJ cB=>gG own (mk cB) J Q) it dA)
  (zo:dA.heap.get? D=none) (rK:dA.heap.get? (D+1)=none) (kk:∀b o,dA.heap.get? b=some o->fu.get? b=some o) (pF:fu.get? D=some o₀) (qJ:fu.Ns (D+1) YP):
  codeAny (model S w) A (.compStart e 0 it (.ref D) (compEnvC scope (eY O.cells scope.names []) (D+1) O)) (λr s'=>∃D',Value.ref D=.ref D'/\match r with|.ok _=>CompEnd X fr s J Q D' (D+1) s'|.error _=>False) {dA with heap:=fu,toks:=tk}:=by
 obtain⟨Ia,fp,wr,ds,St,Md,xs,aq,a6,rfl,T,i9,eO,Ie,hd,Ff,eF⟩:=dB
 have Pf:∃o,fu.get? (D+1)=some o:=qJ.elim λo h=>⟨o,h.elim λZ h=>h.elim λZ h=>h.1⟩
 have XH:D+1≠D:=Nat.succ_ne_self _
 have Fn:ft s.heap dA.heap (nV J) (nV a6):=eO.keep
 have Pg:∀b,fr b->∃o,dA.heap.get? b=some o:=λb f=>(I.live b f).imp λo e=>Fn.old b o (λu=>I.off b u f) e
 have nf:∀{b},dA.heap.get? b=none->¬fr b:=λe f=>(Pg _ f).elim λo q=>nn (e.symm.trans q)
 have nw:∀{b},dA.heap.get? b=none->¬b∈wr:=λe f=>(T.live _ _ i9 _ f).elim λo q=>nn (e.symm.trans q)
 have fr2:∀b,((fr b\/b=D\/b=D+1)\/b∈wr)->(fr b\/b∈wr)\/(dA.heap.get? b=none/\∃o,fu.get? b=some o):=λb f=>
  f.elim (λf=>f.elim (λf=>.inl (.inl f)) λf=>.inr (f.elim (λq=>q▸⟨zo,_,pF⟩) λq=>q▸⟨rK,Pf⟩)) λf=>.inl (.inr f)
 have zl:dR X (λb=>(fr b\/b=D\/b=D+1)\/b∈wr) fu a6:=Ie.widen kk fr2
 have xG:ft dA.heap fu (cf a6 λb=>fr b\/b∈wr) (cf a6 λb=>(fr b\/b=D\/b=D+1)\/b∈wr):=⟨λb o Z e=>kk b o e,λb u=>u.elim (λu=>.inl (.inl u)) λf=>(fr2 b f).imp .inr And.left⟩
 have lo:∀b o,fS O b->s.heap.get? b=some o->fu.get? b=some o:=λb o l e=>kk b o (Fn.old b o (λu=>I.off b u (EO.sub b l)) e)
 let fv:Shared:={dA with heap:=fu,toks:=tk}
 let sh:Shared:={fv with heap:=hideAll fu wr}
 have xH:∀b o,¬b∈wr->fu.get? b=some o->(hideAll fu wr).get? b=some o:=λb o n e=>hideAll_get wr e n
 have YQ:Pw (λb=>fr b\/b=D\/b=D+1) wr sh a6 (λb=>(fr b\/b=D\/b=D+1)\/b∈wr) fv a6:=
  ⟨⟨fu,fv.toks,rfl⟩,⟨λb o Z e=>of_hideAll wr e,λZ u=>.inl u⟩,λZ=>Iff.rfl,λb x=>.inr (hideAll_none wr x),λb f=>
   f.elim (λf=>(Pg b f).imp λo e=>xH b o (eO.apart f) (kk b o e)) λf=>f.elim (λq=>q▸⟨o₀,xH _ _ (nw zo) pF⟩) λq=>q▸Pf.imp λo e=>xH _ _ (nw rK) e,λb f u=>zl.off b u (.inl f)⟩
 have EC:dd (λb=>fr b\/b=D\/b=D+1) (compEnvC scope (eY O.cells scope.names []) (D+1) O) (relabel scope O).names:=Iq EO nu (λb f=>.inl f) (.inr (.inr rfl)) (nf rK)
 have lh:cU fu (cf a6 λb=>(fr b\/b=D\/b=D+1)\/b∈wr) (compEnvC scope (eY O.cells scope.names []) (D+1) O) fI Y:=Ir EO L nu vw zj (eO.Dj.trans xG) lo qJ
 have GY:¬fS (compEnvC scope (eY O.cells scope.names []) (D+1) O) D:=λl=>
  l.elim (λl=>XH (show D=D+1 from l).symm) λl=>l.elim λn l=>(ly scope.names [] (jE EO nu) l).elim (λx=>nn x) λx=>nf zo (EO.L1 n D x)
 have QR:∀b∈fp,pA a6 (cf a6 λb=>(fr b\/b=D\/b=D+1)\/b∈wr) fu wr xs b:=λb hb=>
  (Ff b hb).imp id λx=>x.imp (λx=>⟨x.2.elim λo e=>xG.off x.1 e,x.2.imp λo e=>kk b o e⟩) id
 have loop:=zk (S:=S) (w:=w) (depth:=0) (src:=src) (K:=λJ cB=>gG own (mk cB) J Q) (a:=a₀) (s₀:=sh) (σ₀:=a6) (s:=fv) (fro:=λb=>fr b\/b=D\/b=D+1) hl hh (UG (D+1) D) (Bl nu) GY gs
  (by rw[Iy];rfl) hc (xE (D+1)) (Pc (D+1)) nZ zj YQ T (T.frame _ _ _ i9 λb Z o e=>kk b o e) EC (.inr (.inl rfl)) lh zl (hd.keep xG) QR ⟨o₀,pF,Iz _ _⟩ eF
 have Ks:ft s.heap sh.heap (nV J) (nV a6):=⟨λb o n e=>xH b o (λx=>(eO.new b x).elim n λq=>nn (q.symm.trans e)) (kk b o (Fn.old b o n e)),Fn.new⟩
 have fin:∀(r:Result) (s':Shared),(match r with|.ok _=>Dm mk D (compEnvC scope (eY O.cells scope.names []) (D+1) O) fI Y X (λb=>fr b\/b=D\/b=D+1) (λb=>b=D+1\/b=D) sh a6 (λJ cB=>gG own (mk cB) J Q) s'|.error _=>False)->
   ∃D',Value.ref D=.ref D'/\match r with|.ok _=>CompEnd X fr s J Q D' (D+1) s'|.error _=>False:=λr s' hr=>by
  refine⟨D,rfl,?_⟩
  cases r with
  |error x=>exact hr
  |ok f=>
   obtain⟨σ',a',p,L',fe,hQ⟩:=hr
   exact It Ks (eO.same.elim λh1 e=>e.elim λt1 e=>⟨_,_,(ao (λz:Shared=>({z with heap:=hideAll fu wr,toks:=tk}:Shared)) e:)⟩) (Fn.none zo) (Fn.none rK) (nf zo) (nf rK) XH p (L'.ns.imp λm h=>h.1) fe hQ
 exact mF (R:=λr s'=>∃D',Value.ref D=.ref D'/\match r with|.ok _=>CompEnd X fr s J Q D' (D+1) s'|.error _=>False) hl (by rw[Iy];rfl) (codeAny_mono loop fin)
  (T.self 0 fv _ _ (T.frame _ _ _ i9 λb Z o e=>kk b o e) (codeAny_mono loop fin))
theorem wA{α:Type}{mk:α->V}{e:Expr}(hl:xD e=true){W:Wd}{k:Nat}{kj:Sem Value}{o₀:Obj}{a₀:α}{dI:du->Internal.St->α->(Internal.St->α->Prop)->Prop}{t:Tg}{src:yy}{cs:List E}{gs:List G}
  {aR iter:Expr} {ifs:List Expr} {rest:List Comprehension} {own:Bool} {Q:V->Internal.St->Prop}
  (Iy:clausesOf e=⟨aR,iter,ifs,0⟩::rest) (EW:∀(s:Shared) (Q:Value->Shared->Prop),Q (.ref s.heap.objs.size) {s with heap:=s.heap.push o₀}->wpAny (model S w) A kj Q fi s) (UN:o₀.isFreed=false)
  (Iz:∀h U,fH h U o₀ (mk a₀)) (hmk:∀a,(∃l,mk a=.a9 l)\/∃l,mk a=.bC l)
  (hh:A.handled=none) (EO:dd fr O sc) (L:cU s.heap (cf J fr) O nm Y) (I:dR X fr s.heap J)
  (nu:ed sc scope=true) (vw:kL scope.names nm fI (hZ (⟨t,src,cs⟩::gs))=true) (nZ:(hZ (⟨t,src,cs⟩::gs)).Nodup) (zj:iH (⟨t,src,cs⟩::gs) Y=true) (hc:md scope.names fI aR t=true)
  (oD:e5 S w A X W k O sc nm aR iter src)
  (xE:∀C,jf S w A X W k (compEnvC scope (eY O.cells scope.names []) C O) (relabel scope O).names fI ifs cs)
  (Pc:∀C,sJ S w A X W k (compEnvC scope (eY O.cells scope.names []) C O) (relabel scope O).names scope.names fI gs rest)
  (UG:∀C D,pD S w A X (compEnvC scope (eY O.cells scope.names []) C O) (relabel scope O).names fI e D mk dI)
  (hq:Yf W k (⟨t,src,cs⟩::gs) dI Y J a₀ λJ cB=>gG own (mk cB) J Q):
  wpAny (model S w) A (eval iter O) (λx bV=>wpAny (model S w) A (pyIter x) (λit dA=>wpAny (model S w) A kj (λcB gU=>
   wpAny (model S w) A (newFunctionEnv scope O.globals (eY O.cells scope.names []) [] O.qual none .none (some O)) (λpG fv=>
    codeAny (model S w) A (.compStart e 0 it cB {pG with scope:=relabel scope O}) (λr s'=>∃D,cB=.ref D/\match r with|.ok _=>CompEnd X fr s J Q D pG.locals s'|.error _=>False) fv) fi gU) fi dA) fi bV) fi s:=by
 obtain⟨IA,s9,hk3,XI⟩:=eN nu
 refine ay (oD fr s Y J _ EO L I hq) (λx bV dO=>ay dO.2 (λit dA dB=>?_) λZ Z x=>x) λZ Z x=>x
 refine EW dA _ ?_
 refine wpAny_newFunctionEnv s9 (λZ hy=>nomatch hy) (λfu qJ xI=>?_) IA
 have hz:(dA.heap.push o₀).objs.size=dA.heap.objs.size+1:=Heap.size_push ..
 dsimp only at qJ xI⊢
 rw[hz]at qJ xI⊢
 have rK:dA.heap.get? (dA.heap.objs.size+1)=none:=gA _ (Nat.le_succ _)
 exact Iu hl Iy Iz hh EO L I nu vw nZ zj hc xE Pc UG dB (ij _) rK (λb o e=>(xI.2 b (λq=>nn ((q▸rK:dA.heap.get? b=none).symm.trans e))).trans (aD _ (aD _ e)))
  ((xI.2 _ (bB (ct _))).trans (aD _ (a8 _ UN))) qJ
end
theorem qK{o:Option V}{P:V->Prop}{R:Prop}(h:match o with|some z=>P z|none=>False)(H:∀z,o=some z->P z->R):R:=by
 cases o with
 |none=>exact h.elim
 |some z=>exact H z rfl h
theorem QS{o:Option (Option V)}{P:V->Prop}{R:Prop}(h:match o with|some (some x)=>P x|_=>False)(H:∀x,o=some (some x)->P x->R):R:=by
 cases o with
 |none=>exact h.elim
 |some o=>cases o with
  |none=>exact h.elim
  |some x=>exact H x rfl h
theorem f7{x:V}{P:Int->Prop}{R:Prop}(h:match x with|.int i=>P i|_=>False)(H:∀i,x=.int i->P i->R):R:=by
 cases x with
 |int i=>exact H i rfl h
 |_=>exact h.elim
theorem ie{x:V}{P:Bool->Prop}{R:Prop}(h:match x with|.bool i=>P i|_=>False)(H:∀i,x=.bool i->P i->R):R:=by
 cases x with
 |bool i=>exact H i rfl h
 |_=>exact h.elim
theorem Dq{o:Option Bool}{P:Bool->Prop}{R:Prop}(h:match o with|some z=>P z|none=>False)(H:∀z,o=some z->P z->R):R:=by
 cases o with
 |none=>exact h.elim
 |some z=>exact H z rfl h
theorem IB{o:Option (List Int)}{P:List Int->Prop}{R:Prop}(h:match o with|some k=>P k|none=>False)(H:∀k,o=some k->P k->R):R:=by
 cases o with
 |none=>exact h.elim
 |some k=>exact H k rfl h
theorem Mv{x:V}{P:List Int->Prop}{R:Prop}(h:match x with|.bZ ks=>(match dN ks with|some k=>P k|none=>False)|_=>False)(H:∀ks k,x=.bZ ks->dN ks=some k->P k->R):R:=by
 cases x with
 |bZ ks=>exact IB h λk e q=>H ks k rfl e q
 |_=>exact h.elim
def cE(S:Program)(w:World)(A:Around)(X:Heap)(W:Wd)(k:Nat)(O:Env)(sc:List (Str×NameKind))(nm:List Str)(x:Expr)(e:E):Prop:=
 ∀(fr:Addr->Prop) (s:Shared) (Y:du) (J:St) (Q:V->St->Prop),dd fr O sc->cU s.heap (cf J fr) O nm Y->dR X fr s.heap J->wE W k e Y J Q->wpAny (model S w) A (eval x O) (cO X fr s J Q) fi s
section
variable{S:Program}{w:World}{A:Around}{s:Shared}{X:Heap}{fr:Addr->Prop}{J:St}{O:Env}{sc:List (Str×NameKind)}{nm fI:List Str}{Y:du}{scope:Scope}{W:Wd}{k:Nat}
section
variable{E:Value->Shared->Prop}{bV:Shared}{a6:Internal.St}{x:Expr}{e:Internal.E}{Q:V->Internal.St->Prop}
theorem cE.go(ha:cE S w A X W k O sc nm x e){P:Value->Shared->Prop}(EO:dd fr O sc)(L:cU s.heap (cf J fr) O nm Y)(I:dR X fr s.heap J)(hq:wE W k e Y J Q)
  (H:∀u bV x a6,Pe X fr s J bV a6->a_ bV.heap (cf a6 fr) u x->cU bV.heap (cf a6 fr) O nm Y->Q x a6->P u bV):wpAny (model S w) A (eval x O) P fi s:=
 ay (ha fr s Y J Q EO L I hq) (λu bV h=>h.elim λx h=>h.elim λa6 h=>H u bV x a6 h.1 h.2.1 (L.pe EO.toEnvOk I h.1) h.2.2) λZ Z x=>x
theorem t_{m:Sem Value}(p:Pe X fr s J bV a6)(h:wpAny (model S w) A m (cO X fr bV a6 Q) E bV):wpAny (model S w) A m (cO X fr s J Q) E bV:=ay h (λZ Z h=>cO.pre p h) λZ Z x=>x
end
theorem Fo{elt:Expr}{gens:List Comprehension}{sp:Scope}{pos:Pos}{e:E}{D:Addr}(he:cE S w A X W k O sc nm elt e):
  pD S w A X O sc nm (.ListComp elt gens sp pos) D V.a9 (λY J cB K=>wE W k e Y J λv J=>cB.length<=100000/\K J (cB++[v])):=by
 intro fr s Y J a K EO L I hD fe hq
 unfold t4
 refine aa (ay (he fr s Y J _ EO L I hq) (λv bV dO=>?_) λZ Z x=>x)
 obtain⟨x,a6,p,rv,hz,hK⟩:=dO
 have Mw:=fe.keep (p.keep.own fr) λo e=>p.keep.old D o (λu=>I.off D u hD) e
 obtain⟨o,ho,ro⟩:=Mw
 obtain⟨aq,n,rfl,rl⟩:=ro.k7
 refine aa (call_meets F.slot_list_append ⟨_,ho,rfl⟩ F.entry_list_append (F.args_list_append_2 _ _) (list_append D aq n v (by rw[rl.size];exact jT hz)) ⟨ho,aj ?_⟩)
 have dJ:Ps X fr (λb=>b=D) bV a6 {bV with heap:=bV.heap.update D (Obj.mapSeq (·.push v))} a6:=s_ (tk:=bV.toks) (P:=λb=>b=D) p.inv (λb h=>h▸hD) (λb h=>h) (λb o n e=>jD b n o e) (λb h=>by subst h;exact⟨_,IsL.update ho _⟩)
 refine⟨a6,a++[x],(Pe.ps (Lc:=λb=>b=D) p λb h=>h▸hD).trans dJ,⟨_,IsL.update ho _,.a9 ?_⟩,hK⟩
 rw[Array.toList_push]
 exact(cw.append (.cons rv .nil) rl).keep dJ.keep
theorem Fp{kx vx:Expr}{gens:List Comprehension}{sp:Scope}{pos:Pos}{e1 e2:E}{D:Addr}{kk:Nat}(ak:h_ kk A)(Fq:cE S w A X W k O sc nm kx e1)(jg:cE S w A X W k O sc nm vx e2):
  pD S w A X O sc nm (.DictComp kx vx gens sp pos) D V.bC (λY J cB K=>wE W k e1 Y J λx J=>wE W k e2 Y J λy J=>match x with
   |.bZ ks=>match dN ks with
    |some k=>cB.length<=100000/\K J (fA cB k y)
    |none=>False
   |_=>False):=by
 intro fr s Y J a K EO L I hD fe hq
 unfold t4
 refine aa (ay (Fq fr s Y J _ EO L I hq) (λu bV dO=>?_) λZ Z x=>x)
 obtain⟨x,a6,cz,ru,cF⟩:=dO
 refine aa (b7 (ay (jg fr bV Y a6 _ EO (L.pe EO.toEnvOk I cz) cz.inv cF) (λv dA dB=>?_) λZ Z x=>x))
 obtain⟨y,eh,dJ,rv,eF⟩:=dB
 have p:=cz.trans dJ
 have IC:=dJ.rep ru
 refine Mv eF λks k hx hk hq=>?_
 subst hx
 obtain⟨hz,hK⟩:=hq
 obtain⟨o,ho,ro⟩:=fe.keep (p.keep.own fr) λo e=>p.keep.old D o (λu=>I.off D u hD) e
 obtain⟨es,n,xs,rfl,ke,rd,nd⟩:=ro.my
 obtain⟨b,aq,m,rfl,ub,eb,ib⟩:=jl IC hk
 dsimp only
 refine aa (dh (b7 ?_))
 refine wpAny_dictSet_heap (ak.Hg:(tupleKind (intKind S w)).room A) (n_ S w eb ib) (vW S w ho ke rd nd) (λh' hg hs=>?_) (by rw[rd.length];exact jT hz)
 obtain⟨EP,n',vm,Uo⟩:=xq hg
 have jW:Ps X fr (λb=>b=D) dA eh {dA with heap:=h',toks:=dA.toks+(tupleKind (intKind S w)).draws k} eh:=
  s_ (P:=λb=>b=D) p.inv (λb h=>h▸hD) (λb h=>h) (λb o n e=>(hs.2 b n).trans e) (λb h=>h▸⟨_,vm⟩)
 have RD:fH dA.heap (cf eh fr) {cls:=.type "dict",data:=.dict EP n'} (.bC (fA a k y)):=by
  refine .bC Uo ?_ (iK nd)
  rcases rd.aY nd k with⟨g1,g2⟩|⟨p,y',g1,g2,g3⟩
  ·rw[storedH_new g2]
   exact rd.kh ub eb ib rv g1
  ·rw[storedH_old g2]
   exact rd.A4 rv nd (by rw[g1];rfl)
 exact⟨eh,fA a k y,(Pe.ps (Lc:=λb=>b=D) p λb h=>h▸hD).trans jW,⟨_,vm,RD.keep jW.keep⟩,hK⟩
theorem wB{e:Expr}{kj:Sem Value}{aR iter:Expr}{ifs:List Expr}{rest:List Comprehension}{pos:Pos}{Q:V->Internal.St->Prop}(I:dR X fr s.heap J)(EO:dd fr O sc)
  (Iy:clausesOf e=⟨aR,iter,ifs,0⟩::rest) (s8:gq iter=true) (nu:ed sc scope=true)
  (h:wpAny (model S w) A (eval iter O) (λx bV=>wpAny (model S w) A (pyIter x) (λit dA=>wpAny (model S w) A kj (λcB gU=>
   wpAny (model S w) A (newFunctionEnv scope O.globals (eY O.cells scope.names []) [] O.qual none .none (some O)) (λpG fv=>
    codeAny (model S w) A (.compStart e 0 it cB {pG with scope:=relabel scope O}) (λr s'=>∃D,cB=.ref D/\match r with|.ok _=>CompEnd X fr s J Q D pG.locals s'|.error _=>False) fv) fi gU) fi dA) fi bV) fi s):
  wpAny (model S w) A (comprehension e scope O pos kj false (eval iter O)) (cO X fr s J Q) fi s:=by
 obtain⟨IA,s9,hk3,XI⟩:=eN nu
 refine wpAny_comprehension_free (use:=none) Iy (λx=>f5 s8 x) (kK (jE EO nu)) IA XI
  (ay h (λx bV dO=>ay dO (λit dA dB=>ay dB (λcB gU gB=>ay gB (λpG fv fu=>codeAny_mono fu λr s' hr=>?_) λZ Z x=>x) λZ Z x=>x) λZ Z x=>x) λZ Z x=>x)
 obtain⟨D,rfl,hr⟩:=hr
 cases r with
 |error x=>exact hr.elim
 |ok f=>
  obtain⟨x,σ',c,rv,hQ⟩:=hr
  obtain⟨m,hn⟩:=c.ns
  refine⟨m,hn,λh' tN=>?_⟩
  obtain⟨pe,K⟩:=c.done (tk:=s'.toks) I tN
  exact⟨x,σ',pe,rv.keep K,hQ⟩
theorem wC{e:Expr}{kj:Sem Value}{aR iter:Expr}{ifs:List Expr}{rest:List Comprehension}{pos py:Pos}{i:Nat}{y:Str}{Q:V->Internal.St->Prop}{P:Fl->du->Internal.St->Prop}(I:dR X fr s.heap J)(EO:dd fr O sc)(L:cU s.heap (cf J fr) O nm Y)
  (Iy:clausesOf e=⟨aR,iter,ifs,0⟩::rest) (s8:gq iter=true) (nu:ed sc scope=true) (hi:nm[i]?=some y) (uq:XF nm i y=true) (i9:fF (sc.lookup y)=true)
  (hP:∀x J,Q x J->P .next (Y.set i (some x)) J)
  (h:wpAny (model S w) A (eval iter O) (λx bV=>wpAny (model S w) A (pyIter x) (λit dA=>wpAny (model S w) A kj (λcB gU=>
   wpAny (model S w) A (newFunctionEnv scope O.globals (eY O.cells scope.names []) [] O.qual none .none (some O)) (λpG fv=>
    codeAny (model S w) A (.compStart e 0 it cB {pG with scope:=relabel scope O}) (λr s'=>∃D,cB=.ref D/\match r with|.ok _=>CompEnd X fr s J Q D pG.locals s'|.error _=>False) fv) fi gU) fi dA) fi bV) fi s):
  wpAny (model S w) A (comprehension e scope O pos kj false (eval iter O) (some (assign (.Name y py) O))) (λZ s'=>iC X fr (fS O) O nm s J P .next s') fi s:=by
 obtain⟨IA,s9,hk3,XI⟩:=eN nu
 refine wpAny_comprehension_free (use:=some (assign (.Name y py) O)) Iy (λx=>f5 s8 x) (kK (jE EO nu)) IA XI
  (ay h (λx bV dO=>ay dO (λit dA dB=>ay dB (λcB gU gB=>ay gB (λpG fv fu=>codeAny_mono fu λr s' hr=>?_) λZ Z x=>x) λZ Z x=>x) λZ Z x=>x) λZ Z x=>x)
 obtain⟨D,rfl,hr⟩:=hr
 cases r with
 |error x=>exact hr.elim
 |ok f=>
  obtain⟨x,σ',c,rv,hQ⟩:=hr
  obtain⟨m,hn⟩:=c.ns
  generalize hCe:pG.locals=C at*
  have rJ:dd (λb=>fr b\/b=C) O sc:=EO.more λb f=>.inl f
  have lo:∀b o,fS O b->s.heap.get? b=some o->s'.heap.get? b=some o:=λb o l e=>c.keep.old b o (λu=>I.off b u (EO.sub b l)) e
  have YR:ft s.heap s'.heap (cf J fr) (cf σ' λb=>fr b\/b=C):=⟨λb o n e=>c.keep.old b o (λu=>n (.inl u)) e,λb u=>by
   rcases u with u|u|u
   ·exact(c.keep.new b u).imp .inl id
   ·exact .inl (.inr u)
   ·exact(u▸c.QP).imp .inl id⟩
  have L':cU s'.heap (cf σ' λb=>fr b\/b=C) O nm Y:=L.keep YR lo
  show wpAny _ _ (assign (.Name y py) O (.ref D)) _ _ _
  refine wpAny_assign_Name (ay (pn rJ.sub L' rJ c.inv hi (pw uq) (kI rJ y i9) rv) (λZ Fh tU=>?_) λZ Z x=>x)
  obtain⟨Fm,QM⟩:=tU
  have nC:¬fS O C:=λl=>c.QQ (EO.sub C l)
  have UO:Fh.heap.Ns C m:=by
   obtain⟨o,es,ep,ho,r⟩:=hn
   exact⟨o,es,ep,Fm.old C o (λu=>c.inv.off C u (.inr rfl)) nC ho,r⟩
  refine⟨m,UO,λh' tN=>?_⟩
  have kk:∀b o,b≠C->Fh.heap.get? b=some o->h'.get? b=some o:=λb o n e=>(tN.2 b n).trans e
  have UP:ft Fh.heap h' (cf σ' λb=>fr b\/b=C) (cf σ' fr):=⟨λb o n e=>kk b o (λq=>n (.inr (.inr q))) e,λb u=>.inl (u.imp id .inl)⟩
  have xJ:=Fm.inv
  refine⟨.next,Y.set i (some x),σ',⟨?_,λb o n l e=>?_,c.keep.new,⟨λa o z e=>⟨?_,(xJ.own a o z e).2.keep UP⟩,λa e f=>xJ.off a e (.inl f),λb o e=>?_,λb u=>xJ.low b (u.imp id .inl),λb f=>?_,xJ.sys⟩,EO.sub⟩,.next,QM.keep UP λb o l e=>kk b o (λq=>nC (q▸l)) e,hP x σ' hQ⟩
  ·obtain⟨h1,t1,rfl⟩:=c.same
   obtain⟨h2,t2,rfl⟩:=Fm.same
   exact⟨_,_,rfl⟩
  ·have nb:b≠C:=λq=>by
    rcases c.QP with x|x
    ·exact n (q▸x)
    ·rw[q,x]at e;cases e
   refine kk b o nb (Fm.old b o (λu=>?_) l (c.keep.old b o n e))
   rcases c.keep.new b u with x|x
   ·exact n x
   ·rw[x]at e;cases e
  ·exact kk a o (λq=>xJ.off a (by rw[e];rfl) (.inr q)) (xJ.own a o z e).1
  ·exact kk b o (λq=>by have:=xJ.low b (.inr (.inr q));rw[this]at e;cases e) (xJ.base b o e)
  ·obtain⟨o,e⟩:=xJ.live b (.inl f)
   exact⟨o,kk b o (λq=>c.QQ (q▸f)) e⟩
end
section
variable{S:Program}{w:World}{A:Around}{E:Value->Shared->Prop}{s:Shared}{X:Heap}{fr:Addr->Prop}{J:St}{Q:V->St->Prop}
theorem Fs{k:Nat}(ak:h_ k A)(I:dR X fr s.heap J){a:Addr}{o:Obj}{l:List V}{z:V}(e:aY J a=some (o,.a9 l))(hm:iV l=some z)(hz:l.length<=100000)(q:∀o',Q .none (gN J a o' z)):
  wpAny (model S w) A (call (.builtin "list.sort") [.ref a]) (cO X fr s J Q) E s:=by
 obtain⟨ho,ro⟩:=I.own a o _ e
 obtain⟨aq,n,rfl,rl⟩:=ro.k7
 have XA:s.heap.get? a=some (seqObj "list" aq.toList.toArray n):=by rw[Array.toArray_toList];exact ho
 refine bR slot_list_sort ⟨_,ho,rfl⟩ entry_list_sort (pk (aB (aF (by decide:9<=500) _) ak.room) XA (.inl (by rw[e];rfl)) rl hm (rl.length▸hz) λh' H9 n' l' ez hk hg vX=>⟨_,rfl,?_⟩) (args_list_sort _)
 subst ez
 exact ik (tk:=s.toks) I e hk hg (.a9 (by rw[List.toList_toArray];exact vX)) .none (q _)
theorem Ft{k:Nat}(ak:h_ k A)(I:dR X fr s.heap J){own:Bool}{u:Value}{x z:V}{l:List V}(ru:a_ s.heap (cf J fr) u x)(hx:b6 J x=some (.a9 l))(e:iV l=some z)(UQ:l.length<=100000)(q:gI own z J Q):
  wpAny (model S w) A (call (.builtin "sorted") [u]) (cO X fr s J Q) E s:=by
 obtain⟨a,aq,n,rfl,hl,rl⟩:=eE I ru hx
 have h1:aq.toList.length<=100000:=rl.length▸UQ
 refine Calls.call_function_entry kind_sorted plain_sorted entry_sorted (args_sorted1 _) ?_
 unfold Builtin.«sorted»
 refine aa (m:=checkCount "sorted" 1 1 _) (aj ?_)
 refine aa (collect_list (vs:=aq.toList) (by rw[Array.toArray_toList];exact IsL.a9 hl) ?_ (jT h1))
 refine aa (wpAny_newList ?_ (jT h1))
 generalize hh1:((s.heap.push (seqObj "list" #[] 0)).update s.heap.objs.size (Obj.mapSeq (·++aq.toList.toArray)))=H1
 have ml:H1.objs.size=s.heap.objs.size+1:=by rw[<-hh1,Heap.size_update,size_push']
 have hoL:(H1.push (seqObj "list" aq.toList.toArray 0)).get? H1.objs.size=some (seqObj "list" aq.toList.toArray 0):=a8 _ rfl
 have Ph:∀b o,s.heap.get? b=some o->H1.get? b=some o:=λb o q=>by
  have kq:b<s.heap.objs.size:=bq q
  rw[<-hh1,Heap.get?_update_ne _ _ _ _ (bB kq),Heap.get?_push_ne _ _ _ (bB kq)]
  exact q
 have keep:∀b o,s.heap.get? b=some o->(H1.push (seqObj "list" aq.toList.toArray 0)).get? b=some o:=λb o q=>aD _ (Ph b o q)
 have hn:s.heap.get? H1.objs.size=none:=gA _ (ml▸Nat.le_succ _)
 have Bm:s.heap.get? H1.objs.size=none:=hn
 have rl2:cw (H1.push (seqObj "list" aq.toList.toArray 0)) (λb=>cf J fr b\/b=H1.objs.size) aq.toList l:=
  rl.keep ⟨λb o Z e=>keep b o e,λb u=>u.imp id λ(e:b=H1.objs.size)=>by rw[e];exact hn⟩
 refine aa (b7 (bR slot_list_sort ⟨_,hoL,rfl⟩ entry_list_sort (pk (aB (aF (by decide:10<=500) _) ak.room) hoL (.inr rfl) rl2 e h1 λh' H9 n' l' ez hk hg vX=>
  ⟨_,rfl,aj ⟨_,rfl,?_⟩⟩) (args_list_sort _)))
 subst ez
 have ne:∀b o,¬b=H1.objs.size->(H1.push (seqObj "list" aq.toList.toArray 0)).get? b=some o->H1.get? b=some o:=λb o n e=>by rwa[Heap.get?_push_ne _ _ _ n]at e
 have rl3:cw H1 (cf J fr) H9 l':=vX.keep ⟨λb o n e=>ne b o (λq=>n (.inr q)) e,λb u=>.inl (.inl u)⟩
 have p:=Pe.gT (tk:=s.toks) I Ph
 exact cO.pre p (tI (s:={s with heap:=H1}) p.inv (gA _ (bc _)) (λb o e=>hk b (bB (bq e)) o (aD _ e)) hg (.a9 (by rw[List.toList_toArray];exact rl3)) q)
noncomputable def rL:Bi->Value
 |.len=>.builtin "len"
 |.sum=>.builtin "sum"
 |.max=>.builtin "max"
 |.min=>.builtin "min"
 |.abs=>.builtin "abs"
 |.any=>.builtin "any"
 |.all=>.builtin "all"
 |.tuple=>.type "tuple"
 |.dict=>.type "dict"
 |.list=>.type "list"
 |.sorted=>.builtin "sorted"
noncomputable def lA:Bi->Str
 |.len=>"len"
 |.sum=>"sum"
 |.max=>"max"
 |.min=>"min"
 |.abs=>"abs"
 |.any=>"any"
 |.all=>"all"
 |.tuple=>"tuple"
 |.dict=>"dict"
 |.list=>"list"
 |.sorted=>"sorted"
theorem Fu{l:List V}{z:V}(e:iV l=some z):l.length<=100000:=by
 by_cases h:l.length<2
 ·exact ae (aT h) (by decide)
 ·have e:(if l.length<2 then some (.a9 l)else _)=some z:=e
  rw[ah h]at e
  exact qr e λh Z=>ae (aT h.1) (by decide)
section
variable{k:Nat}(ak:h_ k A)(I:dR X fr s.heap J){own:Bool}{v:Value}{x z:V}(r:a_ s.heap (cf J fr) v x)
include ak I r
theorem QT(e:xf J x=some z)(q:gI own z J Q):wpAny (model S w) A (call (.builtin "len") [v]) (cO X fr s J Q) E s:=
 QA I r e (gg e (λl Z e=>qr e λZ e=>by cases e;exact q) (λl Z e=>qr e λZ e=>by cases e;exact q) λl Z e=>qr e λZ e=>by cases e;exact q)
theorem QU(e:Ua J x=some z)(q:gI own z J Q):wpAny (model S w) A (call (.builtin "sum") [v]) (cO X fr s J Q) E s:=
 gg e (λl hx e=>by
  obtain⟨i,hi,rfl⟩:=aO.mp e
  exact HB ak I r (.inl hx) hi q) (λl hx e=>by
  obtain⟨i,hi,rfl⟩:=aO.mp e
  exact HB ak I r (.inr hx) hi q) λZ Z h=>nn h
theorem QV{u:Value}{a b:Int}(r1:a_ s.heap (cf J fr) u (.int a))(r2:a_ s.heap (cf J fr) v (.int b))(q:Q (.int (if b>a then b else a)) J):wpAny (model S w) A (call (.builtin "max") [u,v]) (cO X fr s J Q) E s:=by
 obtain⟨t,rfl⟩:=r1.j_ rfl
 obtain⟨t',rfl⟩:=r2.j_ rfl
 refine max_two_ints ak.hh λh' tk hk=>?_
 have p:=Pe.gT (tk:=tk) I hk
 refine cO.pre p ?_
 by_cases h:b>a
 ·rw[ai h]at q⊢;exact fx (tk:=tk) p.inv q
 ·rw[ah h]at q⊢;exact fx (tk:=tk) p.inv q
theorem QW{u:Value}{a b:Int}(r1:a_ s.heap (cf J fr) u (.int a))(r2:a_ s.heap (cf J fr) v (.int b))(q:Q (.int (if b<a then b else a)) J):wpAny (model S w) A (call (.builtin "min") [u,v]) (cO X fr s J Q) E s:=by
 obtain⟨t,rfl⟩:=r1.j_ rfl
 obtain⟨t',rfl⟩:=r2.j_ rfl
 refine min_two_ints ak.hh λh' tk hk=>?_
 have p:=Pe.gT (tk:=tk) I hk
 refine cO.pre p ?_
 by_cases h:b<a
 ·rw[ai h]at q⊢;exact fx (tk:=tk) p.inv q
 ·rw[ah h]at q⊢;exact fx (tk:=tk) p.inv q
theorem QX{b:Bi}(e:vp J b [x]=some z)(hz:ey z)(q:gI own z J Q):wpAny (model S w) A (call (rL b) [v]) (cO X fr s J Q) E s:=by
 cases b with
 |len=>exact QT ak I r e q
 |sum=>exact QU ak I r e q
 |max=>exact nn e
 |min=>exact nn e
 |abs=>
  exact d_ (P:=λx=>a_ s.heap (cf J fr) v x->_) e (λa e r=>by
   cases e
   obtain⟨t,rfl⟩:=r.j_ rfl
   exact call_abs_int λu tk=>fx I q) r
 |any=>
  exact gg e (λl hx e=>by
   obtain⟨bs,hb,rfl⟩:=aO.mp e
   exact Qw ak I r hx hb q) (λZ Z h=>nn h) λZ Z h=>nn h
 |all=>
  exact gg e (λl hx e=>by
   obtain⟨bs,hb,rfl⟩:=aO.mp e
   exact Qx ak I r hx hb q) (λZ Z h=>nn h) λZ Z h=>nn h
 |tuple=>exact gg e (λl hx e=>by cases e;exact HC I r hx hz q) (λZ Z h=>nn h) λZ Z h=>nn h
 |dict=>exact gg e (λZ Z h=>nn h) (λZ Z h=>nn h) λl hx e=>qr e λhn e=>by cases e;exact L8 I r hx hn hz q
 |list=>exact gg e (λl hx e=>by cases e;exact HD I r hx hz q) (λZ Z h=>nn h) λl hx e=>by cases e;exact HH ak I r hx (ae (aP (ag ..).symm) hz) q
 |sorted=>exact gg e (λl hx e=>Ft ak I r hx e (Fu e) q) (λZ Z h=>nn h) λZ Z h=>nn h
end
theorem UR{k:Nat}(ak:h_ k A)(I:dR X fr s.heap J){b:Bi}{own:Bool}{vs:List Value}{xs:List V}{z:V}(rv:cw s.heap (cf J fr) vs xs)(e:vp J b xs=some z)(hz:ey z)(q:gI own z J Q):
  wpAny (model S w) A (call (rL b) vs) (cO X fr s J Q) E s:=by
 cases xs with
 |nil=>cases b<;>exact nn e
 |cons x xs=>
  refine rv.cN λv vs r rv=>?_
  cases xs with
  |nil=>exact rv.dD (QX ak I r e hz q)
  |cons y ys=>
   refine rv.cN λu vs r' rv=>?_
   cases b with
   |max=>
    exact n8 (L:=λys=>cw s.heap (cf J fr) vs ys->_) e (λe rv=>rv.dD (d_ (P:=λx=>a_ s.heap (cf J fr) v x->_) e (λa e r=>d_ (P:=λx=>a_ s.heap (cf J fr) u x->_) e (λb e r'=>by
     cases e
     exact QV ak I r' r r' q) r') r)) rv
   |min=>
    exact n8 (L:=λys=>cw s.heap (cf J fr) vs ys->_) e (λe rv=>rv.dD (d_ (P:=λx=>a_ s.heap (cf J fr) v x->_) e (λa e r=>d_ (P:=λx=>a_ s.heap (cf J fr) u x->_) e (λb e r'=>by
     cases e
     exact QW ak I r' r r' q) r') r)) rv
   |_=>exact nn e
end
structure Gl(X:Heap)(mg mb:Str->Option Value)(W:Wd)(fns:List Str):Prop where
 ng:X.Ns mainGlobals mg
 nb:X.Ns builtinsNs mb
 bi:∀b:Bi,mg (lA b)=none/\mb (lA b)=some (rL b)
 range:mg "range"=none/\mb "range"=some (.type "range")
 enum:mg "enumerate"=none/\mb "enumerate"=some (.type "enumerate")
 val:∀n x,W.He n=some x->∃v,mg n=some v/\∀(h:Heap) (U:Addr->Prop),(∀b o,X.get? b=some o->h.get? b=some o)->(∀b,U b->X.get? b=none)->a_ h U v x
 fn:∀n,fns.contains n=true->∃a o fd,mg n=some (.ref a)/\X.get? a=some o/\o.data=.func fd
def nv(S:Program)(w:World)(A:Around)(X:Heap)(W:Wd)(k:Nat)(mg:Str->Option Value):Prop:=
 ∀(f:Str) (a:Addr) (fr:Addr->Prop) (s:Shared) (J:St) (vs:List Value) (xs:List V) (Q:V->St->Prop),mg f=some (.ref a)->dR X fr s.heap J->cw s.heap (cf J fr) vs xs->W.call k f xs J Q->
  wpAny (model S w) A (call (.ref a) vs []) (cO X fr s J Q) fi s
def fL(S:Program)(w:World)(A:Around)(X:Heap)(W:Wd)(k:Nat)(O:Env)(sc:List (Str×NameKind))(nm:List Str)(x:Expr)(e:E):Prop:=
 ∀(fr:Addr->Prop) (s:Shared) (Y:du) (J:St) (Q:Bool->St->Prop),dd fr O sc->cU s.heap (cf J fr) O nm Y->dR X fr s.heap J->dW W k e Y J Q->wpAny (model S w) A (isTrue x O (eval x O)) (oW X fr s J Q) fi s
def mG(S:Program)(w:World)(A:Around)(X:Heap)(W:Wd)(k:Nat)(O:Env)(sc:List (Str×NameKind))(nm:List Str)(xs:List Expr)(es:List E):Prop:=
 ∀(fr:Addr->Prop) (s:Shared) (Y:du) (J:St) (Q:List V->St->Prop),dd fr O sc->cU s.heap (cf J fr) O nm Y->dR X fr s.heap J->vq W k es Y J Q->wpAny (model S w) A (spliced (starEach xs O)) (CY X fr s J Q) fi s
noncomputable def mH(n:Str):Bool:= !(n==("__debug__":Str))&& !(n==("__classdict__":Str))
theorem ID{n:Str}(h:mH n=true):(n==("__debug__":Str))=false:=by unfold mH at h;rw[bp]at h;simpa using h.1
theorem US{n:Str}(h:mH n=true):(n==("__classdict__":Str))=false:=by unfold mH at h;rw[bp]at h;simpa using h.2
noncomputable def YS:NameKind->Bool
 |.local=>true
 |.cell=>true
 |.free=>true
 |_=>false
def uc(k:Option NameKind):Bool:=match k with
 |some k=>YS k
 |none=>false
noncomputable def gh(k:Option NameKind):Bool:=decide (k=some .globalImplicit)
theorem vz{k:Option NameKind}(h:uc k=true):k=some .local\/k=some .cell\/k=some .free:=by
 cases k with
 |none=>exact(aJ h).elim
 |some k=>cases k<;>first|exact .inl rfl|exact .inr (.inl rfl)|exact .inr (.inr rfl)|exact(aJ h).elim
theorem pH{k:Option NameKind}(h:gh k=true):k=some .globalImplicit:=bh h
section
variable{S:Program}{w:World}{A:Around}{s:Shared}{X:Heap}{fr:Addr->Prop}{J:St}{O:Env}{sc:List (Str×NameKind)}{nm:List Str}{Y:du}{W:Wd}{k:Nat}{mg mb:Str->Option Value}{fns:List Str}
theorem IE{n:Str}{p:Pos}{i:Nat}(hi:nm[i]?=some n)(hn:mH n=true)(hk:uc (sc.lookup n)=true):cE S w A X W k O sc nm (.Name n p) (.aE i):=
 λfr s Y J Q EO L I hq=>QS hq λx hx hq=>wpAny_Name (by
  have ek:=EO.kindOf n
  rcases vz hk with h|h|h
  ·obtain⟨m,s8,hv⟩:=L.ns
   obtain⟨v,e,r⟩:=hv i x n hx hi (ek.trans h)
   exact wpAny_loadName_local EO.kind (ek.trans h) s8 e (fE I r hq)
  ·obtain⟨c,v,e1,e2,r⟩:=L.cell i x n hx hi (.inl (ek.trans h))
   exact wpAny_loadName_cell EO.kind (ek.trans h) e1 e2 (fE I r hq)
  ·obtain⟨c,v,e1,e2,r⟩:=L.cell i x n hx hi (.inr (ek.trans h))
   exact wpAny_loadName_free EO.kind (ek.trans h) e1 e2 (fE I r hq) (US hn)) (ID hn)
theorem Ns.base{h h':Heap}{a:Addr}{m:Str->Option Value}(n:h.Ns a m)(k:∀b o,h.get? b=some o->h'.get? b=some o):h'.Ns a m:=by
 obtain⟨o,e1,e2,e3,r⟩:=n
 exact⟨o,e1,e2,k _ _ e3,r⟩
theorem zp{n:Str}{p:Pos}{v:Value}{P:Value->Shared->Prop}(hn:mH n=true)(hk:gh (sc.lookup n)=true)(EO:dd fr O sc)(I:dR X fr s.heap J)(g:X.Ns mainGlobals mg)(hv:mg n=some v)(hP:P v s):
  wpAny (model S w) A (eval (.Name n p) O) P fi s:=
 Name_function_global EO.kind ((EO.kindOf n).trans (pH hk)) (loadGlobal_global (by rw[EO.glob];exact Ns.base g I.base) hv hP) (ID hn)
theorem zr{n:Str}{p:Pos}{v:Value}{P:Value->Shared->Prop}(hn:mH n=true)(hk:gh (sc.lookup n)=true)(EO:dd fr O sc)(I:dR X fr s.heap J)(g:X.Ns mainGlobals mg)(b:X.Ns builtinsNs mb)(h1:mg n=none)(h2:mb n=some v)(hP:P v s):
  wpAny (model S w) A (eval (.Name n p) O) P fi s:=
 Name_function_global EO.kind ((EO.kindOf n).trans (pH hk)) (loadGlobal_builtin (by rw[EO.glob];exact Ns.base g I.base) h1 (by rw[EO.blt];exact Ns.base b I.base) h2 hP) (ID hn)
theorem IF(G:Gl X mg mb W fns){n:Str}{p:Pos}(hn:mH n=true)(hk:gh (sc.lookup n)=true):cE S w A X W k O sc nm (.Name n p) (.yI n):=
 λfr s Y J Q EO L I hq=>qK hq λx hx hq=>
  (G.val n x hx).elim λv h=>zp hn hk EO I G.ng h.1 (fE I (h.2 _ _ I.base I.low) hq)
noncomputable def UT:Const->Option V
 |.none=>some .none
 |.bool b=>some (.bool b)
 |.int i=>some (.int i)
 |.str s=>some (.str s)
 |_=>none
theorem IG{c:Const}{kd:Nat}{p:Pos}{v:V}(h:UT c=some v):cE S w A X W k O sc nm (.Constant c kd p) (.ck v):=by
 intro fr s Y J Q EO L I hq
 have hq:Q v J:=hq
 cases c with
 |none=>cases h;exact wpAny_Constant_none (fE I .none hq)
 |bool=>cases h;exact wpAny_Constant_bool (fc I hq)
 |int=>cases h;exact wpAny_Constant_int (fx I hq)
 |str=>cases h;exact wpAny_Constant_str ⟨_,J,(Pe.refl I).toks _,.str _ _,hq⟩
 |_=>cases h
theorem IH(ak:h_ k A){x y:Expr}{a b:E}{o:Ha}{p:Pos}(ha:cE S w A X W k O sc nm x a)(hb:cE S w A X W k O sc nm y b):cE S w A X W k O sc nm (.BinOp x (Yj o) y p) (.bin o a b):=
 λfr s Y J Q EO L I hq=>wpAny_BinOp (ha.go EO L I hq λu bV x a6 cz ru dY cF=>hb.go EO dY cz.inv cF λv dA y eh dJ rv jU eF=>qK eF λz hz q=>t_ (cz.trans dJ) (Ql ak dJ.inv (dJ.rep ru) rv hz q))
theorem QY{x y:Option V}{P:List V->List V->Prop}{R:Prop}(h:match x,y with|some (.a9 l),some (.a9 m)=>P l m|_,_=>False)(H:∀l m,x=some (.a9 l)->y=some (.a9 m)->P l m->R):R:=by
 cases x with
 |none=>exact h.elim
 |some x=>cases x with
  |a9 l=>cases y with
   |none=>exact h.elim
   |some y=>cases y with
    |a9 m=>exact H l m rfl rfl h
    |_=>exact h.elim
  |_=>exact h.elim
theorem II{x y:Expr}{a b:E}{own:Bool}{p:Pos}(ha:cE S w A X W k O sc nm x a)(hb:cE S w A X W k O sc nm y b):cE S w A X W k O sc nm (.BinOp x .Add y p) (.cat own a b):=
 λfr s Y J Q EO L I hq=>wpAny_BinOp (ha.go EO L I hq λu bV x a6 cz ru dY cF=>hb.go EO dY cz.inv cF λv dA y eh dJ rv jU eF=>QY eF λl m hl hm q=>t_ (cz.trans dJ) (Qv dJ.inv (dJ.rep ru) rv hl hm q.1 q.2))
theorem IJ{x:Expr}{a:E}{p:Pos}(ha:cE S w A X W k O sc nm x a):cE S w A X W k O sc nm (.UnaryOp .USub x p) (.neg a):=
 λfr s Y J Q EO L I hq=>wpAny_UnaryOp (ha.go EO L I hq λu bV x a6 cz ru dY cF=>f7 cF λi e q=>(ru.j_ e).elim λt e=>e▸PySem.P.neg_int (cO.pre cz (fx cz.inv q)))
theorem IK{x:Expr}{a:E}{p:Pos}(ha:cE S w A X W k O sc nm x a):cE S w A X W k O sc nm (.UnaryOp .Not x p) (.not a):=
 λfr s Y J Q EO L I hq=>wpAny_UnaryOp (ha.go EO L I hq λu bV x a6 cz ru dY cF=>ie cF λb e q=>ru.kr e▸(not_of (cY (cO.pre cz (fc cz.inv q)))))
theorem ud{op:BoolOp}{x y:Expr}{p:Pos}{P:Value->Shared->Prop}
  (h:wpAny (model S w) A (eval x O) (λv bV=>wpAny (model S w) A (truthy v) (λt dA=>match op,t with
   |.And,false=>P v dA
   |.Or,true=>P v dA
   |_,_=>wpAny (model S w) A (eval y O) P fi dA) fi bV) fi s):wpAny (model S w) A (eval (.BoolOp op [x,y] p) O) P fi s:=by
 rw[arm_eval_BoolOp]
 show wpAny _ _ (eval x O>>=λv=>standAt p>>=λZ=>holding [v] (truthy v)>>=λt=>match op,t with
  |.And,false|.Or,true=>pure v
  |_,_=>eval y O) _ _ _
 refine aa (ay h (λv bV dO=>aa (dh (aa (b7 (ay dO (λt dA dB=>?_) λZ Z x=>x))))) λZ Z x=>x)
 cases op<;>cases t<;>first|exact aj dB|exact dB
theorem QZ{x:V}{P R':Prop}{R:Prop}(h:match x with|.bool true=>P|.bool false=>R'|_=>False)(H1:x=.bool true->P->R)(H2:x=.bool false->R'->R):R:=by
 cases x with
 |bool b=>cases b with
  |true=>exact H1 rfl h
  |false=>exact H2 rfl h
 |_=>exact h.elim
theorem UU{x:V}{P R':Prop}{R:Prop}(h:match x with|.bool false=>P|.bool true=>R'|_=>False)(H1:x=.bool false->P->R)(H2:x=.bool true->R'->R):R:=by
 cases x with
 |bool b=>cases b with
  |true=>exact H2 rfl h
  |false=>exact H1 rfl h
 |_=>exact h.elim
theorem IL{x y:Expr}{a b:E}{p:Pos}(ha:cE S w A X W k O sc nm x a)(hb:cE S w A X W k O sc nm y b):cE S w A X W k O sc nm (.BoolOp .And [x,y] p) (.and a b):=
 λfr s Y J Q EO L I hq=>ud (ha.go EO L I hq λu bV x a6 cz ru dY cF=>QZ cF
  (λe q=>ru.kr e▸(cY (hb.go EO dY cz.inv q λv dA y eh dJ rv jU eF=>ie eF λc e q=>⟨_,eh,cz.trans dJ,rv,e▸q⟩)))
  (λe q=>ru.kr e▸(cY ⟨_,a6,cz,.bool _,q⟩)))
theorem Mx{x y:Expr}{a b:E}{p:Pos}(ha:cE S w A X W k O sc nm x a)(hb:cE S w A X W k O sc nm y b):cE S w A X W k O sc nm (.BoolOp .Or [x,y] p) (.or a b):=
 λfr s Y J Q EO L I hq=>ud (ha.go EO L I hq λu bV x a6 cz ru dY cF=>UU cF
  (λe q=>ru.kr e▸(cY (hb.go EO dY cz.inv q λv dA y eh dJ rv jU eF=>ie eF λc e q=>⟨_,eh,cz.trans dJ,rv,e▸q⟩)))
  (λe q=>ru.kr e▸(cY ⟨_,a6,cz,.bool _,q⟩)))
theorem fL.go{x:Expr}{e:E}(ha:fL S w A X W k O sc nm x e){P:Bool->Shared->Prop}(EO:dd fr O sc)(L:cU s.heap (cf J fr) O nm Y)(I:dR X fr s.heap J){Q:Bool->St->Prop}(hq:dW W k e Y J Q)
  (H:∀u bV a6,Pe X fr s J bV a6->cU bV.heap (cf a6 fr) O nm Y->Q u a6->P u bV):wpAny (model S w) A (isTrue x O (eval x O)) P fi s:=
 ay (ha fr s Y J Q EO L I hq) (λu bV h=>h.elim λa6 h=>H u bV a6 h.1 (L.pe EO.toEnvOk I h.1) h.2) λZ Z x=>x
theorem Q0{x:Expr}{a:E}{p:Pos}(ha:fL S w A X W k O sc nm x a):fL S w A X W k O sc nm (.UnaryOp .Not x p) (.not a):=
 λfr s Y J Q EO L I hq=>wpAny_isTrue_Not (ay (ha fr s Y J (λb J=>Q (!b) J) EO L I (cast (ao (wE W k a Y J) (funext λx=>funext λJ=>by cases x<;>rfl)) hq)) (λb bV dO=>dO) λZ Z x=>x)
theorem Q1{x y:Expr}{a b:E}{p:Pos}(ha:fL S w A X W k O sc nm x a)(hb:fL S w A X W k O sc nm y b):fL S w A X W k O sc nm (.BoolOp .And [x,y] p) (.and a b):=by
 intro fr s Y J Q EO L I hq
 have pI:dW W k a Y J (λt J=>if t then dW W k b Y J Q else Q false J):=cast (ao (wE W k a Y J) (funext λx=>funext λJ=>by
  cases x with
  |bool t=>cases t with
   |false=>rfl
   |true=>exact ao (wE W k b Y J) (funext λy=>funext λJ=>by cases y<;>rfl)
  |_=>rfl)) hq
 refine wpAny_isTrue_BoolOp (wpAny_allTrue_And_cons (ha.go EO L I pI λt bV a6 cz dY cF=>?_))
 cases t with
 |false=>exact⟨a6,cz,cF⟩
 |true=>
  refine wpAny_allTrue_And_cons (hb.go EO dY cz.inv cF λt dA eh dJ jU dB=>?_)
  cases t with
  |false=>exact⟨eh,cz.trans dJ,dB⟩
  |true=>exact wpAny_allTrue_And_nil ⟨eh,cz.trans dJ,dB⟩
theorem UW{x y:Expr}{a b:E}{p:Pos}(ha:fL S w A X W k O sc nm x a)(hb:fL S w A X W k O sc nm y b):fL S w A X W k O sc nm (.BoolOp .Or [x,y] p) (.or a b):=by
 intro fr s Y J Q EO L I hq
 have pI:dW W k a Y J (λt J=>if t then Q true J else dW W k b Y J Q):=cast (ao (wE W k a Y J) (funext λx=>funext λJ=>by
  cases x with
  |bool t=>cases t with
   |true=>rfl
   |false=>exact ao (wE W k b Y J) (funext λy=>funext λJ=>by cases y<;>rfl)
  |_=>rfl)) hq
 refine wpAny_isTrue_BoolOp (wpAny_allTrue_Or_cons (ha.go EO L I pI λt bV a6 cz dY cF=>?_))
 cases t with
 |true=>exact⟨a6,cz,cF⟩
 |false=>
  refine wpAny_allTrue_Or_cons (hb.go EO dY cz.inv cF λt dA eh dJ jU dB=>?_)
  cases t with
  |true=>exact⟨eh,cz.trans dJ,dB⟩
  |false=>exact wpAny_allTrue_Or_nil ⟨eh,cz.trans dJ,dB⟩
theorem wD{op:CmpOp}{r:Expr}(h:gq r=true):behindInMarks op r=false:=by
 cases r<;>first|rfl|exact(aJ h).elim
theorem IM(ak:h_ k A){x y:Expr}{a b:E}{o:GP}{p:Pos}(hn:gq y=true)(ha:cE S w A X W k O sc nm x a)(hb:cE S w A X W k O sc nm y b):cE S w A X W k O sc nm (.Compare x [Xz o] [y] p) (.cmp o a b):=
 λfr s Y J Q EO L I hq=>wpAny_Compare1 (ha.go EO L I hq λu bV x a6 cz ru dY cF=>hb.go EO dY cz.inv cF λv dA y eh dJ rv jU eF=>Dq eF λz hz q=>t_ (cz.trans dJ) (Ht ak dJ.inv (dJ.rep ru) rv hz q)) (wD hn)
theorem Q2(ak:h_ k A){x y:Expr}{a b:E}{o:GP}{p:Pos}(hn:gq y=true)(ha:cE S w A X W k O sc nm x a)(hb:cE S w A X W k O sc nm y b):fL S w A X W k O sc nm (.Compare x [Xz o] [y] p) (.cmp o a b):=
 λfr s Y J Q EO L I hq=>wpAny_isTrue_Compare1 (ha.go EO L I hq λu bV x a6 cz ru dY cF=>hb.go EO dY cz.inv cF λv dA y eh dJ rv jU eF=>Dq eF λz hz q=>
  ay (Ht (Q:=λx J=>match x with|.bool b=>Q b J|_=>False) ak dJ.inv (dJ.rep ru) rv hz q) (λv gU h=>h.elim λy h=>h.elim λpB h=>ie h.2.2 λc e q=>h.2.1.kr e▸(cY ⟨pB,(cz.trans dJ).trans h.1,q⟩)) λZ Z x=>x) (wD hn)
theorem zt{x:Expr}{a:E}(he:∀whole:Sem Value,isTrue x O whole=(do let v<-whole;standAt x.pos;holding [v] (truthy v)))(ha:cE S w A X W k O sc nm x a):fL S w A X W k O sc nm x a:=
 λfr s Y J Q EO L I hq=>wpAny_isTrue_value (ha.go EO L I hq λu bV x a6 cz ru dY cF=>ie cF λc e q=>ru.kr e▸(cY ⟨a6,cz,q⟩)) (he _)
theorem IP{c x y:Expr}{e a b:E}{p:Pos}(hc:fL S w A X W k O sc nm c e)(ha:cE S w A X W k O sc nm x a)(hb:cE S w A X W k O sc nm y b):cE S w A X W k O sc nm (.IfExp c x y p) (.ite e a b):=by
 intro fr s Y J Q EO L I hq
 have pI:dW W k e Y J (λt J=>if t then wE W k a Y J Q else wE W k b Y J Q):=cast (ao (wE W k e Y J) (funext λx=>funext λJ=>by
  cases x with
  |bool t=>cases t<;>rfl
  |_=>rfl)) hq
 refine wpAny_IfExp (hc.go EO L I pI λt bV a6 cz dY cF=>?_)
 cases t with
 |false=>exact t_ cz (hb fr bV Y a6 _ EO dY cz.inv cF)
 |true=>exact t_ cz (ha fr bV Y a6 _ EO dY cz.inv cF)
theorem Q3:mG S w A X W k O sc nm [] []:=λfr s Y J Q EO L I hq=>spliced_nil ⟨[],J,Pe.refl I,.nil,hq⟩
theorem mG.go{xs:List Expr}{es:List E}(hr:mG S w A X W k O sc nm xs es){P:List Value->Shared->Prop}(EO:dd fr O sc)(L:cU s.heap (cf J fr) O nm Y)(I:dR X fr s.heap J){Q:List V->St->Prop}(hq:vq W k es Y J Q)
  (H:∀us bV xs a6,Pe X fr s J bV a6->cw bV.heap (cf a6 fr) us xs->Q xs a6->P us bV):wpAny (model S w) A (spliced (starEach xs O)) P fi s:=
 ay (hr fr s Y J Q EO L I hq) (λu bV h=>h.elim λx h=>h.elim λa6 h=>H u bV x a6 h.1 h.2.1 h.2.2) λZ Z x=>x
theorem My{x:Expr}{xs:List Expr}{a:E}{as:List E}(i9:starEach (x::xs) O=(false,eval x O)::starEach xs O)(ha:cE S w A X W k O sc nm x a)(hr:mG S w A X W k O sc nm xs as):mG S w A X W k O sc nm (x::xs) (a::as):=by
 intro fr s Y J Q EO L I hq
 rw[i9]
 exact spliced_cons (ha.go EO L I hq λv bV x a6 cz rv dY cF=>hr.go EO dY cz.inv cF λvs dA xs eh dJ rs eF=>⟨_,eh,cz.trans dJ,.cons (dJ.rep rv) rs,eF⟩)
noncomputable def fo(x:Expr):Bool:= !(Nat.beq x.ctorIdx 22)
theorem nx{x:Expr}(xs:List Expr)(h:fo x=true):starEach (x::xs) O=(false,eval x O)::starEach xs O:=by
 cases x<;>first|rfl|exact(aJ h).elim
theorem iL:∀{xs:List Expr},xs.all fo=true->(starEach xs O).any (·.1)=false
 |[],_=>rfl
 |x::xs,h=>by
  rw[List.all_cons,bp]at h
  rw[nx xs h.1,List.any_cons,iL h.2];rfl
theorem jt(p:Pos):∀{xs:List Expr},xs.all fo=true->backTo p (starEach xs O)=starEach xs O
 |[],_=>rfl
 |x::xs,h=>by
  rw[List.all_cons,bp]at h
  rw[nx xs h.1]
  show(false,eval x O)::backTo p (starEach xs O)=_
  rw[jt p h.2]
end
section
variable{S:Program}{w:World}{A:Around}{s:Shared}{X:Heap}{fr:Addr->Prop}{J:St}{O:Env}{sc:List (Str×NameKind)}{nm:List Str}{Y:du}{W:Wd}{k:Nat}{mg mb:Str->Option Value}{fns:List Str}
theorem IQ{xs:List Expr}{es:List E}{q:Nat}{p:Pos}(hp:xs.all fo=true)(hl:mG S w A X W k O sc nm xs es):cE S w A X W k O sc nm (.Tuple xs q p) (.bZ es):=
 λfr s Y J Q EO L I hq=>wpAny_Tuple_spliced ((jt p hp).symm▸hl.go EO L I hq λvs bV ys a6 cz rv cF=>⟨ae (aP rv.length) (ae cF.1 (by decide)),cO.pre cz (gZ (tk:=bV.toks) cz.inv (by rw[List.toList_toArray];exact rv) cF.2)⟩)
theorem IS{own:Bool}{xs:List Expr}{es:List E}{p:Pos}(hp:xs.all fo=true)(hl:mG S w A X W k O sc nm xs es):cE S w A X W k O sc nm (.List xs p) (.a9 own es):=
 λfr s Y J Q EO L I hq=>wpAny_List_spliced ((jt p hp).symm▸hl.go EO L I hq λvs bV ys a6 cz rv cF=>⟨ae (aP rv.length) (ae cF.1 (by decide)),cO.pre cz (kC (tk:=bV.toks) cz.inv rfl (.a9 (by rw[List.toList_toArray];exact rv)) cF.2)⟩)
theorem Fv{own:Bool}{p:Pos}:cE S w A X W k O sc nm (.Dict [] [] p) (.ou own):=
 λfr s Y J Q EO L I hq=>wpAny_Dict_empty (kC (tk:=s.toks) I rfl (.bC (xs:=[]) rfl .nil .nil) hq)
noncomputable def xK(x:Expr):Bool:= !(Nat.beq x.ctorIdx 26)
theorem Fw{y:Expr}(h:xK y=true)(o i:Value):subscripted y false o i=operate [o,i] (getItem o i):=by
 cases y<;>first|rfl|exact(aJ h).elim
theorem IT(ak:h_ k A){x y:Expr}{a b:E}{p:Pos}(hn:xK y=true)(ha:cE S w A X W k O sc nm x a)(hb:cE S w A X W k O sc nm y b):cE S w A X W k O sc nm (.Subscript x y p) (.sub a b):=
 λfr s Y J Q EO L I hq=>Subscript_ (ha.go EO L I hq λu bV x a6 cz ru dY cF=>hb.go EO dY cz.inv cF λv dA y eh dJ rv jU eF=>qK eF λz hz q=>t_ (cz.trans dJ) (Qn ak dJ.inv (dJ.rep ru) rv hz q (Fw hn)))
def Ds(S:Program)(w:World)(A:Around)(X:Heap)(W:Wd)(k:Nat)(O:Env)(sc:List (Str×NameKind))(nm:List Str):Option Expr->Option E->Prop
 |none,e=>e=none
 |some x,e=>∃e',e=some e'/\cE S w A X W k O sc nm x e'
def oE(h:Heap)(U:Addr->Prop)(v:Value):Option V->Prop
 |none=>v=.none
 |some y=>a_ h U v y
theorem Dt{x:Option Expr}{e:Option E}(ho:Ds S w A X W k O sc nm x e){P:Value->Shared->Prop}{Q:Option V->Internal.St->Prop}(EO:dd fr O sc)(L:cU s.heap (cf J fr) O nm Y)(I:dR X fr s.heap J)(hq:wO W k e Y J Q)
  (H:∀v bV y a6,Pe X fr s J bV a6->oE bV.heap (cf a6 fr) v y->cU bV.heap (cf a6 fr) O nm Y->Q y a6->P v bV):wpAny (model S w) A (evalPart x O) P fi s:=by
 cases x with
 |none=>
  have ho:e=none:=ho
  subst ho
  exact aj (H _ s none J (Pe.refl I) rfl L hq)
 |some x=>
  obtain⟨e',rfl,ho⟩:=ho
  exact ho.go EO L I hq λv bV y a6 p r dY q=>H v bV (some y) a6 p r dY q
theorem oE.pe{s':Shared}{σ':Internal.St}{v:Value}{y:Option V}(p:Pe X fr s J s' σ')(r:oE s.heap (cf J fr) v y):oE s'.heap (cf σ' fr) v y:=by
 cases y with
 |none=>exact r
 |some y=>exact p.rep r
theorem IU(ak:h_ k A){own:Bool}{x:Expr}{lo hi:Option Expr}{a:E}{l u:Option E}{p p':Pos}(ha:cE S w A X W k O sc nm x a)(hl:Ds S w A X W k O sc nm lo l)(hu:Ds S w A X W k O sc nm hi u):
  cE S w A X W k O sc nm (.Subscript x (.Slice lo hi none p') p) (.qs own a l u):=
 λfr s Y J Q EO L I hq=>Subscript_ (ha.go EO L I hq λu bV x a6 cz ru dY cF=>wpAny_Slice (Dt hl EO dY cz.inv cF λvl dA yl eh dJ rl jU eF=>Dt hu EO jU dJ.inv eF λvu gU yu pB jW rh Z kM=>aj (qK kM λz hz q=>by
  have jV:Pe X fr gU pB {gU with heap:=gU.heap.push {cls:=.type "slice",data:=.fields #[vl,vu,.none]},toks:=gU.toks} pB:=Pe.gT jW.inv λb o e=>aD _ e
  exact t_ (((cz.trans dJ).trans jW).trans jV) (Qt ak jV.inv (jV.rep (jW.rep (dJ.rep ru))) (Heap.IsSliceOf.new _ _ _ _) (lo:=yl) (hi:=yu) (oE.pe jV (oE.pe jW rl)) (oE.pe jV rh) hz q.1 q.2 (λo i=>⟨_,rfl⟩)))))
theorem ot{x:V}{P:List V->Prop}{R:Prop}(h:match x with|.bZ l=>P l|_=>False)(H:∀l,x=.bZ l->P l->R):R:=by
 cases x with
 |bZ l=>exact H l rfl h
 |_=>exact h.elim
theorem IV(ak:h_ k A){x:Expr}{a:E}{p p' cz dJ:Pos}{kd:Nat}(ha:cE S w A X W k O sc nm x a):
  cE S w A X W k O sc nm (.Subscript x (.Slice none none (some (.UnaryOp .USub (.Constant (.int 1) kd cz) dJ)) p') p) (.rev a):=by
 intro fr s Y J Q EO L I hq
 refine Subscript_ (ha.go EO L I hq λu bV x a6 cz ru dY cF=>ot cF λl e q=>wpAny_Slice (aj (aj ?_)))
 subst e
 show wpAny _ _ (eval (.UnaryOp .USub (.Constant (.int 1) kd _) _) O) _ _ _
 refine wpAny_UnaryOp (wpAny_Constant_int (PySem.P.neg_int ?_))
 have jV:Pe X fr bV a6 {bV with heap:=bV.heap.push {cls:=.type "slice",data:=.fields #[.none,.none,.int (-1) (bV.toks+1)]},toks:=bV.toks+1+1} a6:=Pe.gT cz.inv λb o e=>aD _ e
 exact t_ (cz.trans jV) (Qu ak jV.inv (jV.rep ru) (Heap.IsSliceOf.new _ _ _ _) (ae q.1 (by decide)) q.2 (λo i=>⟨_,rfl⟩))
theorem kN{f:Value}{kO:List (Bool×Sem Value)}{P:Args->Shared->Prop}(h:wpAny (model S w) A (spliced kO) (λvs s'=>P ⟨vs,[]⟩ s') fi s)(hp:kO.any (·.1)=false):wpAny (model S w) A (evalArgs f true kO []) P fi s:=by
 cases kO with
 |nil=>
  unfold evalArgs
  show wpAny _ _ (spliced []>>=_) _ _ _
  refine aa (ay h (λvs s' h'=>aa (aj ?_)) λZ Z x=>x)
  refine b7 ?_
  exact aa (aj (aa (aj (aj h'))))
 |cons x r=>
  obtain⟨b,x⟩:=x
  rw[List.any_cons,Bool.or_eq_false_iff]at hp
  obtain rfl:b=false:=hp.1
  exact evalArgs_plain h
theorem IW(b:Bi):(∃id,rL b=.builtin id)\/∃T,rL b=.type T:=by
 cases b<;>first|exact .inl ⟨_,rfl⟩|exact .inr ⟨_,rfl⟩
theorem Bn{b:Bi}{first:List Value}{kO:List (Bool×Sem Value)}{pos:Pos}{P:Value->Shared->Prop}(hp:kO.any (·.1)=false)(h:wpAny (model S w) A (spliced kO) (λvs s'=>wpAny (model S w) A (call (rL b) (first++vs)) P fi s') fi s):
  wpAny (model S w) A (callWith pos (rL b) first kO []) P fi s:=by
 rcases IW b with⟨id,e⟩|⟨T,e⟩
 ·rw[e]at h⊢
  exact callWith_builtin hp (kN h hp)
 ·rw[e]at h⊢
  exact PyProof.Rows.callWith_type hp (kN h hp)
theorem qL{id:Str}{p pos:Pos}{args:List Expr}{P:Value->Shared->Prop}(hp:args.all fo=true)
  (h:wpAny (model S w) A (eval (.Name id p) O) (λf bV=>wpAny (model S w) A (callWith pos f [] (starEach args O) []) P fi bV) fi s):wpAny (model S w) A (eval (.Call (.Name id p) args [] pos) O) P fi s:=by
 refine wpAny_Call_Name_kw ?_
 rw[jt pos hp]
 exact h
theorem Mz(G:Gl X mg mb W fns)(ak:h_ k A){b:Bi}{own:Bool}{p pos:Pos}{xs:List Expr}{es:List E}(hn:mH (lA b)=true)(hk:gh (sc.lookup (lA b))=true)(hp:xs.all fo=true)(hl:mG S w A X W k O sc nm xs es):
  cE S w A X W k O sc nm (.Call (.Name (lA b) p) xs [] pos) (.bi b own es):=
 λfr s Y J Q EO L I hq=>qL hp (zr hn hk EO I G.ng G.nb (G.bi b).1 (G.bi b).2 (Bn (iL hp) (hl.go EO L I hq λvs bV ys a6 cz rv cF=>qK cF λz hz q=>t_ cz (UR ak cz.inv rv hz q.1 (own:=own) q.2))))
theorem Fx(G:Gl X mg mb W fns)(C:nv S w A X W k mg){f:Str}{p pos:Pos}{xs:List Expr}{es:List E}(hf:fns.contains f=true)(hn:mH f=true)(hk:gh (sc.lookup f)=true)(hp:xs.all fo=true)(hl:mG S w A X W k O sc nm xs es):
  cE S w A X W k O sc nm (.Call (.Name f p) xs [] pos) (.call f es):=
 λfr s Y J Q EO L I hq=>
  (G.fn f hf).elim λa h=>h.elim λo h=>h.elim λfd h=>
  qL hp (zp hn hk EO I G.ng h.1 (callWith_function (o:=o) (fd:=fd) (kN (hl.go EO L I hq λvs bV ys a6 cz rv cF=>⟨⟨cz.inv.base a o h.2.1,h.2.2⟩,t_ cz (C f a fr bV a6 vs ys Q h.1 cz.inv rv cF)⟩) (iL hp))))
noncomputable def Bo:Me->Str
 |.append=>"append"
 |.extend=>"extend"
 |.pop=>"pop"
 |.rB=>"pop"
 |.rC=>"pop"
 |.rD=>"pop"
 |.yH=>"get"
 |.sort=>"sort"
noncomputable def xM(x:Expr):Bool:= !(Nat.beq x.ctorIdx 16)
theorem MA{o:Expr}{n:Str}(h:xM o=true)(whole:Sem Value):attributeBase o n O whole=whole:=by
 cases o<;>first|rfl|exact(aJ h).elim
theorem Q4{m:Me}{a:Addr}{o:Obj}{c:V}{pos:Pos}{kO:List (Bool×Sem Value)}{P:Value->Shared->Prop}(ho:s.heap.get? a=some o)(ro:fH s.heap (cf J fr) o c)(hk:rE m c=true)(hp:kO.any (·.1)=false)
  (h:wpAny (model S w) A (spliced kO) (λvs s'=>wpAny (model S w) A (call (.builtin (xu m)) (.ref a::vs)) P fi s') fi s):MethodOn S w A (Bo m) pos (.ref a) kO P fi s:=by
 have hc:wpAny (model S w) A (callWith pos (.builtin (xu m)) [.ref a] kO []) P fi s:=callWith_builtin hp (kN h hp)
 cases c with
 |a9 l=>
  obtain⟨aq,n,rfl,rl⟩:=ro.k7
  have hd:∀b,Value.ref a=.ref b->∃ob,s.heap.get? b=some ob/\ob.dict=none:=λb e=>by cases e;exact⟨_,ho,rfl⟩
  cases m with
  |append=>exact⟨"list",_,F.plainAttrs_list,F.slot_list_append,F.type_list_append,⟨_,ho,rfl⟩,hd,hc⟩
  |extend=>exact⟨"list",_,F.plainAttrs_list,F.slot_list_extend,F.type_list_extend,⟨_,ho,rfl⟩,hd,hc⟩
  |pop=>exact⟨"list",_,F.plainAttrs_list,F.slot_list_pop,F.type_list_pop,⟨_,ho,rfl⟩,hd,hc⟩
  |rB=>exact⟨"list",_,F.plainAttrs_list,F.slot_list_pop,F.type_list_pop,⟨_,ho,rfl⟩,hd,hc⟩
  |sort=>exact⟨"list",_,F.plainAttrs_list,F.slot_list_sort,F.type_list_sort,⟨_,ho,rfl⟩,hd,hc⟩
  |_=>exact(aJ hk).elim
 |bC l=>
  obtain⟨es,n,xs,rfl,ke,rd,nd⟩:=ro.my
  have hd:∀b,Value.ref a=.ref b->∃ob,s.heap.get? b=some ob/\ob.dict=none:=λb e=>by cases e;exact⟨_,ho,rfl⟩
  cases m with
  |rC=>exact⟨"dict",_,F.plainAttrs_dict,F.slot_dict_pop,F.type_dict_pop,⟨_,ho,rfl⟩,hd,hc⟩
  |rD=>exact⟨"dict",_,F.plainAttrs_dict,F.slot_dict_pop,F.type_dict_pop,⟨_,ho,rfl⟩,hd,hc⟩
  |yH=>exact⟨"dict",_,F.plainAttrs_dict,F.slot_dict_get,F.type_dict_get,⟨_,ho,rfl⟩,hd,hc⟩
  |_=>exact(aJ hk).elim
 |_=>exact(aJ hk).elim
theorem AN{x:V}{P:Addr->Prop}{R:Prop}(h:match x with|.ref a=>P a|_=>False)(H:∀a,x=.ref a->P a->R):R:=by
 cases x with
 |ref a=>exact H a rfl h
 |_=>exact h.elim
theorem tc{o:Option (Obj×V)}{P:V->Prop}{R:Prop}(h:match o with|some (_,c)=>P c|none=>False)(H:∀ob c,o=some (ob,c)->P c->R):R:=by
 cases o with
 |none=>exact h.elim
 |some p=>exact H p.1 p.2 rfl h
theorem MB{o:Option (V×V)}{P:V->V->Prop}{R:Prop}(h:match o with|some (a,b)=>P a b|none=>False)(H:∀a b,o=some (a,b)->P a b->R):R:=by
 cases o with
 |none=>exact h.elim
 |some p=>exact H p.1 p.2 rfl h
theorem IX{x:V}{m:Me}{R:Prop}(h:Hd J m x=true)(H:∀a o c,x=.ref a->aY J a=some (o,c)->rE m c=true->R):R:=by
 cases x with
 |ref a=>
  have h:(match aY J a with|some (_,c)=>rE m c|none=>false)=true:=h
  cases e:aY J a with
  |none=>rw[e]at h;exact(aJ h).elim
  |some p=>rw[e]at h;exact H a p.1 p.2 rfl e h
 |_=>exact(aJ h).elim
theorem UX{c c' r:V}{ys:List V}(h:mu J .sort c ys=some (c',r)):∃l,c=.a9 l/\ys=[]/\iV l=some c'/\r=.none:=
 jZ (P:=λc=>∃l,c=.a9 l/\ys=[]/\iV l=some c'/\r=.none) h λl h=>n8 (L:=λys=>∃l',V.a9 l=.a9 l'/\ys=[]/\iV l'=some c'/\r=.none) h λh=>eM h λz e h=>by
  cases h
  exact⟨l,rfl,rfl,e,rfl⟩
theorem IY(ak:h_ k A){m:Me}{o:Expr}{a:E}{apos pos:Pos}{xs:List Expr}{es:List E}(hb:xM o=true)(UY:(apos.endLine==pos.line)=true)(fR:xs.length<30)(hp:xs.all fo=true)
  (ha:cE S w A X W k O sc nm o a) (hl:mG S w A X W k O sc nm xs es):cE S w A X W k O sc nm (.Call (.Attribute o (Bo m) apos) xs [] pos) (.met m a es):=by
 intro fr s Y J Q EO L I hq
 have s7:=iL (O:=O) hp
 refine wpAny_Call_method_late (MA hb _) ?_ UY (jt pos hp) (ha.go EO L I hq λu bV x a6 cz ru dY cF=>IX cF.1 λd ob c e AF UZ=>?_)
 ·rw[jt pos hp,List.all_eq_not_any_not]
  rw[show(λ(x:Bool×Sem Value)=> !!x.1)=λx=>x.1 from funext λx=>Bool.not_not _,s7]
  exact bF fR
 ·subst e
  obtain rfl:=ru.yE rfl
  obtain⟨ho,ro⟩:=cz.inv.own d ob c AF
  refine Q4 ho ro UZ s7 (hl.go EO dY cz.inv cF.2 λvs dA ys eh dJ rv eF=>tc eF λo' c' U0 kM=>MB kM λc2 r hm h=>t_ (cz.trans dJ) ?_)
  obtain⟨hz,Q5,hQ⟩:=h
  by_cases Pj:m=.sort
  ·subst Pj
   obtain⟨l,rfl,rfl,hs,rfl⟩:=UX hm
   obtain rfl:=(rv.inv:[]=vs)
   exact Fs ak dJ.inv U0 hs hz hQ
  ·exact QC ak dJ.inv U0 rv hm Pj hz Q5 hQ
end
section
variable{S:Program}{w:World}{A:Around}{s:Shared}{X:Heap}{fr:Addr->Prop}{J:St}{O:Env}{sc:List (Str×NameKind)}{nm:List Str}{Y:du}{W:Wd}{k:Nat}{mg mb:Str->Option Value}{fns:List Str}
theorem Du(I:dR X fr s.heap J){d:Addr}{o:Obj}{z:V}(e:aY J d=some (o,z)):a_ s.heap (cf (del J d) fr) (.ref d) z:=by
 obtain⟨ho,ro⟩:=I.own d o z e
 have hs:(aY J d).isSome=true:=by rw[e];rfl
 have nd:¬cf (del J d) fr d:=λu=>by
  rcases u with u|u
  ·rw[n6]at u;cases u
  ·exact I.off d hs u
 have ro':fH s.heap (cf (del J d) fr) o z:=ro.less λb u=>u.imp (λh=>by
  obtain⟨q,e⟩:=bA.mp h
  rw[iP e];rfl) id
 exact ro'.out nd (I.xh hs) ho
theorem Q6{x:V}{P:V->St->Prop}{R:Prop}(h:match x with|.ref d=>(match aY J d with|some (_,z)=>P z (del J d)|none=>False)|x=>P x J)(H1:∀d o z,x=.ref d->aY J d=some (o,z)->P z (del J d)->R)(H2:P x J->R):R:=by
 cases x with
 |ref d=>exact tc h λo z e q=>H1 d o z rfl e q
 |_=>exact H2 h
theorem IZ{x:Expr}{a:E}(ha:cE S w A X W k O sc nm x a):cE S w A X W k O sc nm x (.CU a):=
 λfr s Y J Q EO L I hq=>ha.go EO L I hq λu bV x a6 cz ru dY cF=>Q6 cF (λd o z e AF q=>by
  subst e
  obtain rfl:=ru.yE rfl
  exact⟨z,_,cz.sub λb q=>iP,Du cz.inv AF,q⟩) λq=>⟨_,a6,cz,ru,q⟩
theorem Q7{α:Type}{mk:α->V}{D:Addr}{dO:Heap}{tk:Nat}{s':Shared}{σ':Internal.St}{own:Bool}{a:α}{Q:V->Internal.St->Prop}(I:dR X fr s.heap J)(hD:s.heap.get? D=none)(kk:∀b o,s.heap.get? b=some o->dO.get? b=some o)
  (p:Ps X (λb=>fr b\/b=D) (λb=>b=D) {s with heap:=dO,toks:=tk} J s' σ') (fe:je mk D a s'.heap (cf σ' λb=>fr b\/b=D)) (hmk:∀a,(∃l,mk a=.a9 l)\/∃l,mk a=.bC l) (q:gG own (mk a) σ' Q):
  cO X fr s J Q (.ref D) s':=by
 obtain⟨o,ho,YO⟩:=fe
 obtain⟨x,fm,h1,h2,h3,h4⟩:=xi (fr:=fr) p.inv (λb f=>f) (I.yG hD) ho YO q
 refine⟨x,fm,⟨p.same.elim λh2 e=>e.elim λt2 e=>⟨h2,t2,e⟩,⟨λb o n e=>p.old b o n (λq=>nn ((q▸hD:s.heap.get? b=none).symm.trans e)) (kk b o e),λb u=>(h1 b u).elim (λu=>(p.new b u).imp id λe=>?_) λe=>.inr (e▸hD)⟩,h2⟩,h3,h4⟩
 cases e':s.heap.get? b with
 |none=>rfl
 |some o=>exact nn ((show dO.get? b=none from e).symm.trans (kk b o e'))
theorem MC(ak:h_ k A){D:Addr}{a:aN}{u v:Value}{ks:List V}{k':List Int}{y:V}(I:dR X fr s.heap J)(hD:fr D)(fe:je V.bC D a s.heap (cf J fr))(ru:a_ s.heap (cf J fr) u (.bZ ks))(rv:a_ s.heap (cf J fr) v y)(hk:dN ks=some k')(hz:a.length<=100000):
  wpAny (model S w) A (dictSet D u v) (λZ s'=>Ps X fr (λb=>b=D) s J s' J/\je V.bC D (fA a k' y) s'.heap (cf J fr)) fi s:=by
 obtain⟨o,ho,ro⟩:=fe
 obtain⟨es,n,xs,rfl,ke,rd,nd⟩:=ro.my
 obtain⟨b,aq,m,rfl,ub,eb,ib⟩:=jl ru hk
 have yS:(tupleKind (intKind S w)).room A:=by show A.units<cLine;exact ak.Hg
 refine wpAny_dictSet_heap yS (n_ S w eb ib) (vW S w ho ke rd nd) (λh' hg hs=>?_) (by rw[rd.length];exact jT hz)
 obtain⟨EP,n',vm,Uo⟩:=xq hg
 have jW:Ps X fr (λb=>b=D) s J {s with heap:=h',toks:=s.toks+(tupleKind (intKind S w)).draws k'} J:=
  s_ (P:=λb=>b=D) I (λb h=>h▸hD) (λb h=>h) (λb o n e=>(hs.2 b n).trans e) (λb h=>by subst h;exact⟨_,vm⟩)
 have RD:fH s.heap (cf J fr) {cls:=.type "dict",data:=.dict EP n'} (.bC (fA a k' y)):=by
  refine .bC Uo ?_ (iK nd)
  rcases rd.aY nd k' with⟨g1,g2⟩|⟨p,y',g1,g2,g3⟩
  ·rw[storedH_new g2]
   exact rd.kh ub eb ib rv g1
  ·rw[storedH_old g2]
   exact rd.A4 rv nd (by rw[g1];rfl)
 exact⟨jW,_,vm,RD.keep jW.keep⟩
theorem Fy(ak:h_ k A){own:Bool}{x y:Expr}{a b:E}{p:Pos}(ha:cE S w A X W k O sc nm x a)(hb:cE S w A X W k O sc nm y b):cE S w A X W k O sc nm (.Dict [some x] [y] p) (.qu own a b):=by
 intro fr s Y J Q EO L I hq
 refine wpAny_Dict_any rfl rfl (by simp) (by simp) ?_
 generalize XJ:s.heap.objs.size=D
 generalize hH:s.heap.push {cls:=.type "dict",data:=.dict #[]}=dO
 have hD:s.heap.get? D=none:=by rw[<-XJ];exact ij _
 have kk:∀b o,s.heap.get? b=some o->dO.get? b=some o:=λb o e=>by rw[<-hH];exact aD _ e
 have hgD:dO.get? D=some {cls:=.type "dict",data:=.dict #[]}:=by rw[<-hH,<-XJ];exact a8 _ rfl
 have I':dR X (λb=>fr b\/b=D) dO J:=I.widen kk λb u=>u.imp id λe=>by subst e;exact⟨hD,_,hgD⟩
 have rJ:dd (λb=>fr b\/b=D) O sc:=EO.more λb f=>.inl f
 have K:ft s.heap dO (cf J fr) (cf J λb=>fr b\/b=D):=⟨λb o Z e=>kk b o e,λb u=>by
  rcases u with u|u|u
  ·exact .inl (.inl u)
  ·exact .inl (.inr u)
  ·exact .inr (u▸hD)⟩
 have L':cU dO (cf J λb=>fr b\/b=D) O nm Y:=L.keep K λb o Z e=>kk b o e
 show wpAny _ _ (evalPairs [(eval x O,do let x<-eval y O;standAt p;pure x)]) _ _ _
 unfold evalPairs
 refine aa (ha.go (s:={s with heap:=dO}) rJ L' I' hq λu bV x a6 cz ru dY cF=>aa (b7 (aa (hb.go rJ dY cz.inv cF λv dA y eh dJ rv jU eF=>aa (dh (aj (aa (b7 ?_))))))))
 have p':=cz.trans dJ
 have IC:=dJ.rep ru
 refine aj (aj (ot eF λks e kM=>IB kM λk' hk gH=>?_))
 subst e
 have U1:dA.heap.get? D=some {cls:=.type "dict",data:=.dict #[]}:=p'.keep.old D _ (λu=>I'.off D u (.inr rfl)) hgD
 show wpAny _ _ (forIn [(u,v)] PUnit.unit _) _ _ _
 rw[List.forIn_cons]
 refine aa (aa (ay (MC ak dJ.inv (.inr rfl) ⟨_,U1,.bC (xs:=[]) rfl .nil .nil⟩ IC rv hk (bK _)) (λZ gU h=>aj ?_) λZ Z x=>x))
 dsimp only
 rw[List.forIn_nil]
 exact aj (Q7 (tk:=s.toks) I hD kk ((Pe.ps (Lc:=λb=>b=D) p' λb h=>.inr h).trans h.1) h.2 (λa=>.inr ⟨_,rfl⟩) gH)
end
noncomputable def iM(sc:List (Str×NameKind))(l:List (Str×NameKind)):List (Str×NameKind):=l.map λx=>if(x.2==NameKind.free&&sc.lookup x.1==some NameKind.cell)=true then(x.1,NameKind.cell)else(x.1,x.2)
section
variable{S:Program}{w:World}{A:Around}{s:Shared}{X:Heap}{fr:Addr->Prop}{J:St}{O:Env}{sc:List (Str×NameKind)}{nm fI:List Str}{Y:du}{W:Wd}{k:Nat}{mg mb:Str->Option Value}{fns:List Str}{scope:Scope}
theorem pJ(EO:EnvOk fr O sc):(relabel scope O).names=iM sc scope.names:=by
 unfold relabel iM
 refine List.map_congr_left λx Z=>?_
 obtain⟨n,c⟩:=x
 dsimp only
 rw[EO.kind,EO.kindOf]
 show(if(c==NameKind.free&&(ScopeKind.function==ScopeKind.function)&&sc.lookup n==some NameKind.cell)=true then _ else _)=_
 rw[show(ScopeKind.function==ScopeKind.function)=true from rfl,Bool.and_true]
theorem Q8{o:Option V}{P:List V->Prop}{R:Prop}(h:match o with|some (.a9 l)=>P l|some (.bZ l)=>P l|some (.bC l)=>P (iU l)|_=>False)(H:∀z l,o=some z->zf z=some l->P l->R):R:=by
 cases o with
 |none=>exact h.elim
 |some z=>cases z with
  |a9 l=>exact H _ l rfl rfl h
  |bZ l=>exact H _ l rfl rfl h
  |bC l=>exact H _ (iU l) rfl rfl h
  |_=>exact h.elim
theorem MD{o:Option V}{P:List V->Prop}{R:Prop}(h:match o with|some (.a9 l)=>P l|some (.bZ l)=>P l|_=>False)(H:∀z l,o=some z->(z=.a9 l\/z=.bZ l)->P l->R):R:=by
 cases o with
 |none=>exact h.elim
 |some z=>cases z with
  |a9 l=>exact H _ l rfl (.inl rfl) h
  |bZ l=>exact H _ l rfl (.inr rfl) h
  |_=>exact h.elim
theorem I5(ak:h_ k A){aR x:Expr}{e:E}(ht:sH aR=true)(hn:gq x=true)(ha:cE S w A X W k O sc nm x e):e5 S w A X W k O sc nm aR x (.val e):=
 λfr s Y J Q EO L I hq=>ha.go EO L I hq λu bV y a6 cz ru dY cF=>⟨f5 hn u,Q8 cF λz l hv hl q=>ay (Mk ak.hh ht cz.inv ru hv hl q) (λit dA dB=>kJ.pre cz I dB) λZ Z x=>x⟩
theorem zu(G:Gl X mg mb W fns){n:Str}{T:String}{x:Expr}{e:E}{p pos:Pos}{P:Value->Shared->Prop}(h1:mg n=none)(h2:mb n=some (.type T))(XE:mH n=true)(hk:gh (sc.lookup n)=true)(hn:fo x=true)(ha:cE S w A X W k O sc nm x e)(EO:dd fr O sc)(L:cU s.heap (cf J fr) O nm Y)(I:dR X fr s.heap J){Q:V->Internal.St->Prop}(hq:wE W k e Y J Q)
  (H:∀u bV y a6,Pe X fr s J bV a6->a_ bV.heap (cf a6 fr) u y->Q y a6->wpAny (model S w) A (call (.type T) [u]) P fi bV):wpAny (model S w) A (eval (.Call (.Name n p) [x] [] pos) O) P fi s:=by
 have hp:[x].all fo=true:=by rw[List.all_cons,hn];rfl
 refine qL hp (zr XE hk EO I G.ng G.nb h1 h2 (PyProof.Rows.callWith_type (iL hp) (kN ?_ (iL hp))))
 rw[nx [] hn]
 exact spliced_cons (ha.go EO L I hq λu bV y a6 cz ru dY q=>spliced_nil (H u bV y a6 cz ru q))
theorem Fz(G:Gl X mg mb W fns)(ak:h_ k A){aR x:Expr}{e:E}{p pos:Pos}(ht:tT aR=true)(hk:gh (sc.lookup ("enumerate":Str))=true)(hn:fo x=true)(ha:cE S w A X W k O sc nm x e):
  e5 S w A X W k O sc nm aR (.Call (.Name "enumerate" p) [x] [] pos) (.enum e):=
 λfr s Y J Q EO L I hq=>zu G G.enum.1 G.enum.2 (by decide) hk hn ha EO L I hq λu bV y a6 cz ru cF=>MD cF λz l hv hl q=>
  ay (Ij ak.hh ht cz.inv ru hv hl q) (λit dA dB=>⟨f5 rfl it,ay dB (λit gU gB=>kJ.pre cz I gB) λZ Z x=>x⟩) λZ Z x=>x
theorem Bp(G:Gl X mg mb W fns)(ak:h_ k A){aR x:Expr}{e:E}{p pos:Pos}(ht:sH aR=true)(hk:gh (sc.lookup ("range":Str))=true)(hn:fo x=true)(ha:cE S w A X W k O sc nm x e):
  e5 S w A X W k O sc nm aR (.Call (.Name "range" p) [x] [] pos) (.range e):=
 λfr s Y J Q EO L I hq=>zu G G.range.1 G.range.2 (by decide) hk hn ha EO L I hq λu bV y a6 cz ru cF=>f7 cF λi e q=>by
  subst e
  refine ru.f7 λt=>?_
  exact ay (Fg ak.hh ht cz.inv q.1.1 q.1.2 q.2) (λit dA dB=>⟨f5 rfl it,ay dB (λit gU gB=>kJ.pre cz I gB) λZ Z x=>x⟩) λZ Z x=>x
theorem ME:jf S w A X W k O sc nm [] []:=by
 intro fr s Y J Q EO L I hq
 exact aj ⟨J,Pe.refl I,hq⟩
theorem MF{xs:List Expr}{P:Bool->Shared->Prop}(h:P false s):wpAny (model S w) A (forIn xs false λc r=>if r=true then do let ok<-isTrue c O (eval c O);pure (ForInStep.yield ok)else pure (ForInStep.yield r)) P fi s:=by
 induction xs with
 |nil=>rw[List.forIn_nil];exact aj h
 |cons x xs ih=>
  rw[List.forIn_cons]
  refine aa ?_
  rw[ah (by simp)]
  exact aj ih
theorem I6{x:Expr}{xs:List Expr}{e:E}{es:List E}(ha:fL S w A X W k O sc nm x e)(hr:jf S w A X W k O sc nm xs es):jf S w A X W k O sc nm (x::xs) (e::es):=by
 intro fr s Y J Q EO L I hq
 have pI:dW W k e Y J (λt J=>if t then EL W k es Y J Q else Q false J):=cast (ao (wE W k e Y J) (funext λx=>funext λJ=>by
  cases x with
  |bool t=>cases t<;>rfl
  |_=>rfl)) hq
 unfold Bh
 rw[List.forIn_cons]
 refine aa ?_
 rw[ai rfl]
 refine aa (ha.go EO L I pI λt bV a6 cz dY cF=>aj ?_)
 cases t with
 |false=>exact MF ⟨a6,cz,cF⟩
 |true=>exact ay (hr fr bV Y a6 _ EO dY cz.inv cF) (λt dA dB=>oW.pre cz dB) λZ Z x=>x
abbrev U2(S:Program)(w:World)(A:Around)(X:Heap)(fr:Addr->Prop)(s:Shared)(J:Internal.St)(Q:V->Internal.St->Prop)(e:Expr)(scope:Scope)(O:Env)(kj:Sem Value)(iter:Expr):Prop:=
 wpAny (model S w) A (eval iter O) (λx bV=>wpAny (model S w) A (pyIter x) (λit dA=>wpAny (model S w) A kj (λcB gU=>
   wpAny (model S w) A (newFunctionEnv scope O.globals (eY O.cells scope.names []) [] O.qual none .none (some O)) (λpG fv=>
    codeAny (model S w) A (.compStart e 0 it cB {pG with scope:=relabel scope O}) (λr s'=>∃D,cB=.ref D/\match r with|.ok _=>CompEnd X fr s J Q D pG.locals s'|.error _=>False) fv) fi gU) fi dA) fi bV) fi s
theorem Dw(ak:h_ k A){own:Bool}{elt:Expr}{p:Pos}{e:E}{t:Tg}{src:yy}{cs:List E}{gs:List G}{aR iter:Expr}{ifs:List Expr}{rest:List Comprehension}
  (nu:ed sc scope=true) (vw:kL scope.names nm fI (hZ (⟨t,src,cs⟩::gs))=true) (nZ:(hZ (⟨t,src,cs⟩::gs)).Nodup) (hc:md scope.names fI aR t=true) (oD:e5 S w A X W k O sc nm aR iter src)
  (iD:∀eH,jf S w A X W k eH (iM sc scope.names) fI ifs cs/\sJ S w A X W k eH (iM sc scope.names) scope.names fI gs rest/\cE S w A X W k eH (iM sc scope.names) fI elt e)
  (fr:Addr->Prop) (s:Shared) (Y:du) (J:Internal.St) (Q:V->Internal.St->Prop) (EO:dd fr O sc) (L:cU s.heap (cf J fr) O nm Y) (I:dR X fr s.heap J) (hq:wE W k (.lc own e (⟨t,src,cs⟩::gs)) Y J Q):
  U2 S w A X fr s J Q (.ListComp elt (⟨aR,iter,ifs,0⟩::rest) scope p) scope O (newList []) iter:=by
 have er:=pJ (scope:=scope) EO.toEnvOk
 refine wA (mk:=V.a9) (o₀:={cls:=.type "list",data:=.seq #[]}) (a₀:=[]) (own:=own) rfl rfl (λs Q h=>wpAny_newList h (bK _)) rfl (λh U=>.a9 .nil) (λa=>.inl ⟨a,rfl⟩) ak.hh EO L I nu vw nZ hq.1 hc oD ?_ ?_ ?_ hq.2
 ·intro C;rw[er];exact(iD _).1
 ·intro C;rw[er];exact(iD _).2.1
 ·intro C D;rw[er];exact Fo (iD _).2.2
theorem Dx(ak:h_ k A){own:Bool}{elt:Expr}{p:Pos}{e:E}{t:Tg}{src:yy}{cs:List E}{gs:List G}{aR iter:Expr}{ifs:List Expr}{rest:List Comprehension}(s8:gq iter=true)
  (nu:ed sc scope=true) (vw:kL scope.names nm fI (hZ (⟨t,src,cs⟩::gs))=true) (nZ:(hZ (⟨t,src,cs⟩::gs)).Nodup) (hc:md scope.names fI aR t=true) (oD:e5 S w A X W k O sc nm aR iter src)
  (iD:∀eH,jf S w A X W k eH (iM sc scope.names) fI ifs cs/\sJ S w A X W k eH (iM sc scope.names) scope.names fI gs rest/\cE S w A X W k eH (iM sc scope.names) fI elt e):
  cE S w A X W k O sc nm (.ListComp elt (⟨aR,iter,ifs,0⟩::rest) scope p) (.lc own e (⟨t,src,cs⟩::gs)):=by
 intro fr s Y J Q EO L I hq
 exact wB I EO rfl s8 nu (Dw (own:=own) ak nu vw nZ hc oD iD fr s Y J Q EO L I hq)
theorem Dy(ak:h_ k A){own:Bool}{kx vx:Expr}{p:Pos}{e1 e2:E}{t:Tg}{src:yy}{cs:List E}{gs:List G}{aR iter:Expr}{ifs:List Expr}{rest:List Comprehension}
  (nu:ed sc scope=true) (vw:kL scope.names nm fI (hZ (⟨t,src,cs⟩::gs))=true) (nZ:(hZ (⟨t,src,cs⟩::gs)).Nodup) (hc:md scope.names fI aR t=true) (oD:e5 S w A X W k O sc nm aR iter src)
  (iD:∀eH,jf S w A X W k eH (iM sc scope.names) fI ifs cs/\sJ S w A X W k eH (iM sc scope.names) scope.names fI gs rest/\cE S w A X W k eH (iM sc scope.names) fI kx e1/\cE S w A X W k eH (iM sc scope.names) fI vx e2)
  (fr:Addr->Prop) (s:Shared) (Y:du) (J:Internal.St) (Q:V->Internal.St->Prop) (EO:dd fr O sc) (L:cU s.heap (cf J fr) O nm Y) (I:dR X fr s.heap J) (hq:wE W k (.dc own e1 e2 (⟨t,src,cs⟩::gs)) Y J Q):
  U2 S w A X fr s J Q (.DictComp kx vx (⟨aR,iter,ifs,0⟩::rest) scope p) scope O newDict iter:=by
 have er:=pJ (scope:=scope) EO.toEnvOk
 refine wA (mk:=V.bC) (o₀:={cls:=.type "dict",data:=.dict #[]}) (a₀:=[]) (own:=own) rfl rfl (λs Q h=>?_) rfl (λh U=>.bC (xs:=[]) rfl .nil .nil) (λa=>.inr ⟨a,rfl⟩) ak.hh EO L I nu vw nZ hq.1 hc oD ?_ ?_ ?_ hq.2
 ·simp only[newDict,newObj]
  exact aa (wpAny_alloc (aj h))
 ·intro C;rw[er];exact(iD _).1
 ·intro C;rw[er];exact(iD _).2.1
 ·intro C D;rw[er];exact Fp ak (iD _).2.2.1 (iD _).2.2.2
theorem Dz(ak:h_ k A){own:Bool}{kx vx:Expr}{p:Pos}{e1 e2:E}{t:Tg}{src:yy}{cs:List E}{gs:List G}{aR iter:Expr}{ifs:List Expr}{rest:List Comprehension}(s8:gq iter=true)
  (nu:ed sc scope=true) (vw:kL scope.names nm fI (hZ (⟨t,src,cs⟩::gs))=true) (nZ:(hZ (⟨t,src,cs⟩::gs)).Nodup) (hc:md scope.names fI aR t=true) (oD:e5 S w A X W k O sc nm aR iter src)
  (iD:∀eH,jf S w A X W k eH (iM sc scope.names) fI ifs cs/\sJ S w A X W k eH (iM sc scope.names) scope.names fI gs rest/\cE S w A X W k eH (iM sc scope.names) fI kx e1/\cE S w A X W k eH (iM sc scope.names) fI vx e2):
  cE S w A X W k O sc nm (.DictComp kx vx (⟨aR,iter,ifs,0⟩::rest) scope p) (.dc own e1 e2 (⟨t,src,cs⟩::gs)):=by
 intro fr s Y J Q EO L I hq
 exact wB I EO rfl s8 nu (Dy (own:=own) ak nu vw nZ hc oD iD fr s Y J Q EO L I hq)
theorem Q9{c x y:Expr}{e a b:E}{p:Pos}(hc:fL S w A X W k O sc nm c e)(ha:fL S w A X W k O sc nm x a)(hb:fL S w A X W k O sc nm y b):fL S w A X W k O sc nm (.IfExp c x y p) (.ite e a b):=by
 intro fr s Y J Q EO L I hq
 have pI:dW W k e Y J (λt J=>if t then dW W k a Y J Q else dW W k b Y J Q):=cast (ao (wE W k e Y J) (funext λx=>funext λJ=>by
  cases x with
  |bool t=>cases t<;>rfl
  |_=>rfl)) hq
 show wpAny _ _ (do if<-isTrue c O (eval c O)then isTrue x O (eval x O)else isTrue y O (eval y O)) _ _ _
 refine aa (hc.go EO L I pI λt bV a6 cz dY cF=>?_)
 cases t
 ·exact ay (hb fr bV Y a6 _ EO dY cz.inv cF) (λv dA dB=>oW.pre cz dB) λZ Z x=>x
 ·exact ay (ha fr bV Y a6 _ EO dY cz.inv cF) (λv dA dB=>oW.pre cz dB) λZ Z x=>x
end
noncomputable def Br(x:Expr):Bool:=match x.ctorIdx with
 |0=>false
 |3=>false
 |5=>false
 |15=>false
 |_=>true
theorem FA{x:Expr}{O:Env}(h:Br x=true)(whole:Sem Value):isTrue x O whole=(do let v<-whole;standAt x.pos;holding [v] (truthy v)):=by
 cases x<;>first|rfl|exact no h
noncomputable def Pk(c:Const)(v:V):Bool:=match c with
 |.none=>match v with
  |.none=>true
  |_=>false
 |.bool b=>match v with
  |.bool a=>a==b
  |_=>false
 |.int b=>match v with
  |.int a=>decide (a=b)
  |_=>false
 |.str b=>match v with
  |.str a=>decide (a=b)
  |_=>false
 |_=>false
theorem I7{c:Const}{v:V}(h:Pk c v=true):UT c=some v:=by
 cases c with
 |none=>cases v<;>first|rfl|exact no h
 |bool b=>cases v<;>first|exact ao (λb=>some (V.bool b)) (bt h).symm|exact no h
 |int b=>cases v<;>first|exact ao (λb=>some (V.int b)) (bh h).symm|exact no h
 |str b=>cases v<;>first|exact ao (λb=>some (V.str b)) (bh h).symm|exact no h
 |_=>exact no h
noncomputable def vA(f:Expr->E->Bool):List Expr->List E->Bool
 |[],es=>LF es true
 |x::xs,es=>E4 es λe es=>f x e&&vA f xs es
def Q_(f:Expr->E->Bool)(x:Option Expr)(e:Option E):Bool:=match x with
 |none=>Up e true
 |some x=>OR e (f x)
noncomputable def Ra(kH:List (Str×NameKind))(nm:List Str):List Str:=nm.map λn=>match kH.lookup n with
 |some .local=>""
 |_=>n
noncomputable def YT(x:Expr):List Expr:=if h:x.ctorIdx=25 then Expr.Tuple.elim (motive_1:=λZ=>List Expr) x h λl Z Z=>l else[]
def U3(l:List Str)(t:Tg)(aR:Expr):List Str:=match t with
 |.one i=>l.set i (XG aR)
 |.two i j=>match YT aR with
  |a::r=>match r with
   |b::_=>(l.set i (XG a)).set j (XG b)
   |[]=>l
  |[]=>l
noncomputable def I8:List G->List Comprehension->List Str->List Str
 |[],_,l=>l
 |⟨t,_,_⟩::gs,cl,l=>match cl with
  |[]=>l
  |c::cl=>I8 gs cl (U3 l t c.target)
def xN(f:Expr->E->Bool)(sc:List (Str×NameKind))(aR iter:Expr):yy->Bool
 |.val e=>sH aR&&(gq iter&&f iter e)
 |.enum e=>tT aR&&qD iter λg l Z=>sG g λn=>decide (n=("enumerate":Str))&&(gh (sc.lookup ("enumerate":Str))&&LD l λx=>fo x&&f x e)
 |.range e=>sH aR&&qD iter λg l Z=>sG g λn=>decide (n=("range":Str))&&(gh (sc.lookup ("range":Str))&&LD l λx=>fo x&&f x e)
noncomputable def I9(f:Expr->E->Bool)(sc kH:List (Str×NameKind))(fI:List Str):List G->List Comprehension->Bool
 |[],cl=>LF cl true
 |⟨t,src,cs⟩::gs,cl=>E4 cl λc cl=>decide (c.is_async=0)&&(md kH fI c.target t&&(vA f c.ifs cs&&(xN f sc c.target c.iter src&&I9 f sc kH fI gs cl)))
noncomputable def xO:List Nat->Bool
 |[]=>true
 |a::r=> !(r.contains a)&&xO r
theorem qM:∀{l:List Nat},xO l=true->l.Nodup
 |[],_=>.nil
 |a::r,h=>an h λh1 h2=>.cons (λb hb e=>by
   have:r.contains a=true:=List.contains_iff_mem.mpr (e▸hb)
   rw[this]at h1
   exact no h1) (qM h2)
def xP(f:List (Str×NameKind)->List Str->Expr->E->Bool)(sc:List (Str×NameKind))(nm:List Str)(g:List G)(c:Comprehension)(cl:List Comprehension)(scope:Scope)(body:(Expr->E->Bool)->Bool):Bool:=
 E4 g λ⟨t,src,cs⟩ gs=>
  let fI:=I8 (⟨t,src,cs⟩::gs) (c::cl) (Ra scope.names nm)
  let XK:=iM sc scope.names
  decide (c.is_async=0)&&(gq c.iter&&(ed sc scope&&(kL scope.names nm fI (hZ (⟨t,src,cs⟩::gs))&&(xO (hZ (⟨t,src,cs⟩::gs))&&(md scope.names fI c.target t&&(xN (f sc nm) sc c.target c.iter src&&
   (vA (f XK fI) c.ifs cs&&(I9 (f XK fI) XK scope.names fI gs cl&&body (f XK fI)))))))))
noncomputable def eK(fns:List Str):Nat->List (Str×NameKind)->List Str->Expr->E->Bool
 |0,_,_,_,_=>false
 |n+1,sc,nm,x,e=>match e with
  |.aE i=>sG x λm=>decide (nm[i]?=some m)&&(mH m&&uc (sc.lookup m))
  |.ck v=>HK x λc=>Pk c v
  |.yI m=>sG x λm'=>decide (m'=m)&&(mH m&&gh (sc.lookup m))
  |.bin o a b=>HL x λl p r=>decide (p=Yj o)&&(eK fns n sc nm l a&&eK fns n sc nm r b)
  |.cat _ a b=>HL x λl p r=>decide (p=.Add)&&(eK fns n sc nm l a&&eK fns n sc nm r b)
  |.neg a=>C8 x λp y=>decide (p=.USub)&&eK fns n sc nm y a
  |.not a=>C8 x λp y=>decide (p=.Not)&&eK fns n sc nm y a
  |.and a b=>HQ x λp y z=>decide (p=.And)&&(eK fns n sc nm y a&&eK fns n sc nm z b)
  |.or a b=>HQ x λp y z=>decide (p=.Or)&&(eK fns n sc nm y a&&eK fns n sc nm z b)
  |.cmp o a b=>OV x λy p z=>decide (p=Xz o)&&(gq z&&(eK fns n sc nm y a&&eK fns n sc nm z b))
  |.ite c a b=>OS x λu y z=>eK fns n sc nm u c&&(eK fns n sc nm y a&&eK fns n sc nm z b)
  |.bZ l=>y0 x λxs=>xs.all fo&&vA (eK fns n sc nm) xs l
  |.a9 _ l=>OT x λxs=>xs.all fo&&vA (eK fns n sc nm) xs l
  |.ou _=>HR x
  |.qu _ a b=>HS x λy z=>eK fns n sc nm y a&&eK fns n sc nm z b
  |.lc _ e g=>Uq x λy c cl scope=>xP (eK fns n) sc nm g c cl scope λf=>f y e
  |.dc _ a b g=>Ur x λy z c cl scope=>xP (eK fns n) sc nm g c cl scope λf=>f y a&&f z b
  |.sub a i=>y4 x λy z=>xK z&&(eK fns n sc nm y a&&eK fns n sc nm z i)
  |.qs _ a lo hi=>y4 x λy z=>OW z λl h=>eK fns n sc nm y a&&(Q_ (eK fns n sc nm) l lo&&Q_ (eK fns n sc nm) h hi)
  |.rev a=>y4 x λy z=>Us z λu=>C8 u λp v=>HK v λc=>decide (p=.USub)&&(decide (c=.int 1)&&eK fns n sc nm y a)
  |.call f l=>qD x λg xs Z=>sG g λm=>decide (m=f)&&(fns.contains f&&(mH f&&(gh (sc.lookup f)&&(xs.all fo&&vA (eK fns n sc nm) xs l))))
  |.bi b _ l=>qD x λg xs Z=>sG g λm=>decide (m=lA b)&&(mH (lA b)&&(gh (sc.lookup (lA b))&&(xs.all fo&&vA (eK fns n sc nm) xs l)))
  |.met m o l=>qD x λg xs pos=>OU g λy a apos=>decide (a=Bo m)&&(xM y&&((apos.endLine==pos.line)&&(decide (xs.length<30)&&(xs.all fo&&(eK fns n sc nm y o&&vA (eK fns n sc nm) xs l)))))
  |.CU a=>Br x&&eK fns n sc nm x a
section
variable{S:Program}{w:World}{A:Around}{X:Heap}{W:Wd}{k:Nat}{mg mb:Str->Option Value}{fns:List Str}
theorem pK{f:Expr->E->Bool}{O:Env}{sc:List (Str×NameKind)}{nm:List Str}(hf:∀x e,f x e=true->cE S w A X W k O sc nm x e){xs:List Expr}:∀{es:List E},xs.all fo=true->vA f xs es=true->mG S w A X W k O sc nm xs es:=by
 induction xs with
 |nil=>exactλZ h=>ki h λZ=>Q3
 |cons x xs ih=>exactλhp h=>k_ h λe es h=>an h λh1 h2=>an hp λp1 p2=>My (nx xs p1) (hf x e h1) (ih p2 h2)
theorem zv{f:Expr->E->Bool}{O:Env}{sc:List (Str×NameKind)}{nm:List Str}(hf:∀x e,f x e=true->fL S w A X W k O sc nm x e){xs:List Expr}:∀{es:List E},vA f xs es=true->jf S w A X W k O sc nm xs es:=by
 induction xs with
 |nil=>exactλh=>ki h λZ=>ME
 |cons x xs ih=>exactλh=>k_ h λe es h=>an h λh1 h2=>I6 (hf x e h1) (ih h2)
theorem DA{f:Expr->E->Bool}{O:Env}{sc:List (Str×NameKind)}{nm:List Str}(hf:∀x e,f x e=true->cE S w A X W k O sc nm x e){x:Option Expr}{e:Option E}(h:Q_ f x e=true):Ds S w A X W k O sc nm x e:=by
 cases x with
 |none=>exact xy h λZ=>rfl
 |some x=>exact tR h λe h=>⟨e,rfl,hf x e h⟩
theorem oF(gl:Gl X mg mb W fns)(ak:h_ k A){f:Expr->E->Bool}{O:Env}{sc:List (Str×NameKind)}{nm:List Str}(hf:∀x e,f x e=true->cE S w A X W k O sc nm x e){aR iter:Expr}{src:yy}(h:xN f sc aR iter src=true):
  e5 S w A X W k O sc nm aR iter src:=by
 cases src with
 |val e=>exact vo h λh1 h2 h3=>I5 ak h1 h2 (hf _ _ h3)
 |enum e=>
  refine an h λht h=>kF (P:=λx=>e5 S w A X W k O sc nm aR x (.enum e)) h λg l p h=>il (P:=λg=>e5 S w A X W k O sc nm aR (.Call g l [] p) (.enum e)) h λn q h=>yZ (P:=λn=>e5 S w A X W k O sc nm aR (.Call (.Name n q) l [] p) (.enum e)) h λh=>an h λhk h=>?_
  exact k9 (P:=λl=>e5 S w A X W k O sc nm aR (.Call (.Name _ q) l [] p) (.enum e)) h λx h=>an h λh1 h2=>Fz gl ak ht hk h1 (hf _ _ h2)
 |range e=>
  refine an h λht h=>kF (P:=λx=>e5 S w A X W k O sc nm aR x (.range e)) h λg l p h=>il (P:=λg=>e5 S w A X W k O sc nm aR (.Call g l [] p) (.range e)) h λn q h=>yZ (P:=λn=>e5 S w A X W k O sc nm aR (.Call (.Name n q) l [] p) (.range e)) h λh=>an h λhk h=>?_
  exact k9 (P:=λl=>e5 S w A X W k O sc nm aR (.Call (.Name _ q) l [] p) (.range e)) h λx h=>an h λh1 h2=>Bp gl ak ht hk h1 (hf _ _ h2)
theorem I_(gl:Gl X mg mb W fns)(ak:h_ k A){f:Expr->E->Bool}{O:Env}{sc kH:List (Str×NameKind)}{nm:List Str}(hf:∀x e,f x e=true->cE S w A X W k O sc nm x e/\fL S w A X W k O sc nm x e){gs:List G}:
  ∀{cl:List Comprehension},I9 f sc kH nm gs cl=true->sJ S w A X W k O sc kH nm gs cl:=by
 induction gs with
 |nil=>exactλh=>ki h λZ=>trivial
 |cons g gs ih=>
  obtain⟨t,src,cs⟩:=g
  exactλh=>k_ h λc cl h=>by
   obtain⟨aR,iter,ifs,as⟩:=c
   exact an h λh1 h=>AL h λh2 h3 h4 h5=>⟨bh h1,h2,zv (λx e h=>(hf x e h).2) h3,oF gl ak (λx e h=>(hf x e h).1) h4,ih h5⟩
theorem lB(gl:Gl X mg mb W fns)(ak:h_ k A){f:List (Str×NameKind)->List Str->Expr->E->Bool}(hf:∀O sc nm x e,f sc nm x e=true->cE S w A X W k O sc nm x e/\fL S w A X W k O sc nm x e)
  {O:Env} {sc:List (Str×NameKind)} {nm:List Str} {g:List G} {c:Comprehension} {cl:List Comprehension} {scope:Scope} {body:(Expr->E->Bool)->Bool} {P:List G->Comprehension->Prop} (h:xP f sc nm g c cl scope body=true)
  (H:∀t src cs gs aR iter ifs fI,gq iter=true->ed sc scope=true->kL scope.names nm fI (hZ (⟨t,src,cs⟩::gs))=true->(hZ (⟨t,src,cs⟩::gs)).Nodup->md scope.names fI aR t=true->
   e5 S w A X W k O sc nm aR iter src->(∀eH,jf S w A X W k eH (iM sc scope.names) fI ifs cs/\sJ S w A X W k eH (iM sc scope.names) scope.names fI gs cl)->body (f (iM sc scope.names) fI)=true->P (⟨t,src,cs⟩::gs) ⟨aR,iter,ifs,0⟩):P g c:=by
 obtain⟨aR,iter,ifs,as⟩:=c
 refine k_ (P:=λg=>P g _) h λg gs h=>?_
 obtain⟨t,src,cs⟩:=g
 exact yZ (P:=λas=>P _ ⟨aR,iter,ifs,as⟩) h λh=>AL h λh2 h3 h4 h=>AL h λh5 h6 h7 h=>vo h λh8 h9 MG=>
  H t src cs gs aR iter ifs _ h2 h3 h4 (qM h5) h6 (oF gl ak (λx e h=>(hf O sc nm x e h).1) h7) (λeH=>⟨zv (λx e h=>(hf eH _ _ x e h).2) h8,I_ gl ak (λx e h=>hf eH _ _ x e h) h9⟩) MG
def YU(S:Program)(w:World)(A:Around)(X:Heap)(W:Wd)(k:Nat)(O:Env)(sc:List (Str×NameKind))(nm:List Str)(e:E)(x:Expr):Prop:=cE S w A X W k O sc nm x e/\fL S w A X W k O sc nm x e
theorem both{O:Env}{sc:List (Str×NameKind)}{nm:List Str}{x:Expr}{e:E}(h:cE S w A X W k O sc nm x e)(hp:Br x=true:=by rfl):YU S w A X W k O sc nm e x:=
 ⟨h,zt (FA hp) h⟩
theorem pM(gl:Gl X mg mb W fns)(C:nv S w A X W k mg)(ak:h_ k A)(n:Nat):∀(O:Env) (sc:List (Str×NameKind)) (nm:List Str) (x:Expr) (e:E),eK fns n sc nm x e=true->YU S w A X W k O sc nm e x:=by
 induction n with
 |zero=>exactλZ Z Z Z Z h=>no h
 |succ n ih=>
  intro O sc nm x e h
  have i1:∀x e,eK fns n sc nm x e=true->cE S w A X W k O sc nm x e:=λx e h=>(ih O sc nm x e h).1
  have i2:∀{x e},eK fns n sc nm x e=true->fL S w A X W k O sc nm x e:=λh=>(ih O sc nm _ _ h).2
  generalize hS:YU S w A X W k O sc nm=Sn
  cases e with
  |aE i=>exact il h λm p h=>vo h λh1 h2 h3=>hS▸both (IE (bh h1) h2 h3)
  |ck v=>exact y5 h λc q p h=>hS▸both (IG (I7 h))
  |yI m=>exact il h λm' p h=>yZ (P:=λm'=>Sn _ (.Name m' p)) h λh=>an h λh1 h2=>hS▸both (IF gl h1 h2)
  |bin o a b=>exact y6 h λl q r p h=>yZ (P:=λq=>Sn _ (.BinOp l q r p)) h λh=>an h λh1 h2=>hS▸both (IH ak (i1 _ _ h1) (i1 _ _ h2))
  |cat own a b=>exact y6 h λl q r p h=>yZ (P:=λq=>Sn _ (.BinOp l q r p)) h λh=>an h λh1 h2=>hS▸both (II (i1 _ _ h1) (i1 _ _ h2))
  |neg a=>exact tS h λq y p h=>yZ (P:=λq=>Sn _ (.UnaryOp q y p)) h λh=>have r:=IJ (p:=p) (i1 _ _ h);hS▸⟨r,zt (λZ=>rfl) r⟩
  |not a=>exact tS h λq y p h=>yZ (P:=λq=>Sn _ (.UnaryOp q y p)) h λh=>hS▸⟨IK (i1 _ _ h),Q0 (i2 h)⟩
  |and a b=>exact y9 h λq y z p h=>yZ (P:=λq=>Sn _ (.BoolOp q [y,z] p)) h λh=>an h λh1 h2=>hS▸⟨IL (i1 _ _ h1) (i1 _ _ h2),Q1 (i2 h1) (i2 h2)⟩
  |or a b=>exact y9 h λq y z p h=>yZ (P:=λq=>Sn _ (.BoolOp q [y,z] p)) h λh=>an h λh1 h2=>hS▸⟨Mx (i1 _ _ h1) (i1 _ _ h2),UW (i2 h1) (i2 h2)⟩
  |cmp o a b=>exact HW h λy q z p h=>yZ (P:=λq=>Sn _ (.Compare y [q] [z] p)) h λh=>vo h λh0 h1 h2=>hS▸⟨IM ak h0 (i1 _ _ h1) (i1 _ _ h2),Q2 ak h0 (i1 _ _ h1) (i1 _ _ h2)⟩
  |ite c a b=>exact HT h λu y z p h=>vo h λh0 h1 h2=>hS▸⟨IP (i2 h0) (i1 _ _ h1) (i1 _ _ h2),Q9 (i2 h0) (i2 h1) (i2 h2)⟩
  |bZ l=>exact mA h λxs q p h=>an h λh1 h2=>hS▸both (IQ h1 (pK i1 h1 h2))
  |a9 own l=>exact HU h λxs p h=>an h λh1 h2=>hS▸both (IS h1 (pK i1 h1 h2))
  |ou own=>exact E7 h λp=>hS▸both Fv
  |qu own a b=>exact E8 h λy z p h=>an h λh1 h2=>hS▸both (Fy ak (i1 _ _ h1) (i1 _ _ h2))
  |lc own e g=>exact C_ h λy c cl scope p h=>lB (P:=λg c=>Sn (.lc own e g) (.ListComp y (c::cl) scope p)) (O:=O) gl ak ih h λt src cs gs aR iter ifs fI h1 h2 h3 h4 h5 h6 h7 h9=>hS▸both (Dx ak h1 h2 h3 h4 h5 h6 λeH=>⟨(h7 eH).1,(h7 eH).2,(ih eH _ _ _ _ h9).1⟩)
  |dc own a b g=>exact C' h λy z c cl scope p h=>lB (P:=λg c=>Sn (.dc own a b g) (.DictComp y z (c::cl) scope p)) (O:=O) gl ak ih h λt src cs gs aR iter ifs fI h1 h2 h3 h4 h5 h6 h7 h9=>an h9 λh9 MG=>hS▸both (Dz ak h1 h2 h3 h4 h5 h6 λeH=>⟨(h7 eH).1,(h7 eH).2,(ih eH _ _ _ _ h9).1,(ih eH _ _ _ _ MG).1⟩)
  |sub a i=>exact pd h λy z p h=>vo h λh1 h2 h3=>hS▸both (IT ak h1 (i1 _ _ h2) (i1 _ _ h3))
  |qs own a lo hi=>exact pd h λy z p h=>HX (P:=λz=>Sn _ (.Subscript y z p)) h λl u p' h=>vo h λh1 h2 h3=>hS▸both (IU ak (i1 _ _ h1) (DA i1 h2) (DA i1 h3))
  |rev a=>exact pd h λy z p h=>L_ (P:=λz=>Sn _ (.Subscript y z p)) h λu p' h=>tS (P:=λu=>Sn _ (.Subscript y (.Slice none none (some u) p') p)) h λq v p2 h=>y5 (P:=λv=>Sn _ (.Subscript y (.Slice none none (some (.UnaryOp q v p2)) p') p)) h λc kd p3 h=>yZ (P:=λq=>Sn _ (.Subscript y (.Slice none none (some (.UnaryOp q (.Constant c kd p3) p2)) p') p)) h λh=>yZ (P:=λc=>Sn _ (.Subscript y (.Slice none none (some (.UnaryOp _ (.Constant c kd p3) p2)) p') p)) h λh=>hS▸both (IV ak (i1 _ _ h))
  |call f l=>exact kF h λg xs p h=>il (P:=λg=>Sn _ (.Call g xs [] p)) h λm p' h=>yZ (P:=λm=>Sn _ (.Call (.Name m p') xs [] p)) h λh=>an h λh1 h=>AL h λh2 h3 h4 h5=>hS▸both (Fx gl C h1 h2 h3 h4 (pK i1 h4 h5))
  |bi b own l=>exact kF h λg xs p h=>il (P:=λg=>Sn _ (.Call g xs [] p)) h λm p' h=>yZ (P:=λm=>Sn _ (.Call (.Name m p') xs [] p)) h λh=>AL h λh2 h3 h4 h5=>hS▸both (Mz gl ak h2 h3 h4 (pK i1 h4 h5))
  |met m o l=>exact kF h λg xs pos h=>HV (P:=λg=>Sn _ (.Call g xs [] pos)) h λy a apos h=>yZ (P:=λa=>Sn _ (.Call (.Attribute y a apos) xs [] pos)) h λh=>an h λh1 h=>an h λh2 h=>AL h λh3 h4 h5 h6=>hS▸both (IY ak h1 h2 (bh h3) h4 (i1 _ _ h5) (pK i1 h4 h6))
  |CU a=>exact an h λh1 h2=>hS▸both (IZ (i1 _ _ h2)) h1
end
def g_(S:Program)(w:World)(A:Around)(X:Heap)(W:Wd)(k:Nat)(O:Env)(sc:List (Str×NameKind))(nm:List Str)(st:Stmt)(m:dJ6):Prop:=
 ∀(fr:Addr->Prop) (s:Shared) (Y:du) (J:St) (Q:Fl->du->St->Prop),dd fr O sc->cU s.heap (cf J fr) O nm Y->dR X fr s.heap J->wS W k m Y J Q->wpAny (model S w) A (exec st O) (iC X fr (fS O) O nm s J Q) fi s
def jF(S:Program)(w:World)(A:Around)(X:Heap)(W:Wd)(k:Nat)(O:Env)(sc:List (Str×NameKind))(nm:List Str)(st:List Stmt)(m:List dJ6):Prop:=
 ∀(fr:Addr->Prop) (s:Shared) (Y:du) (J:St) (Q:Fl->du->St->Prop),dd fr O sc->cU s.heap (cf J fr) O nm Y->dR X fr s.heap J->fN W k m Y J Q->wpAny (model S w) A (execs st O) (iC X fr (fS O) O nm s J Q) fi s
noncomputable def ny(x:Expr):Bool:= !(Nat.beq x.ctorIdx 8)&&(!(Nat.beq x.ctorIdx 9)&& !(Nat.beq x.ctorIdx 10))
theorem od{x:Expr}(h:ny x=true)(t:Option Expr)(l:Nat)(O:Env):swapsWith x t l O=pure false:=by
 cases x<;>first|rfl|exact no h
theorem nz(t x:Expr)(l:Nat)(O:Env):swapsWithSole [t] x l O=swapsWith x (some t) l O:=rfl
section
variable{S:Program}{w:World}{A:Around}{s:Shared}{X:Heap}{fr:Addr->Prop}{J:St}{O:Env}{sc:List (Str×NameKind)}{nm fI:List Str}{Y:du}{W:Wd}{k:Nat}{scope:Scope}
theorem U4{y:Str}{i:Nat}{v:Value}{x:V}{bV:Shared}{a6:Internal.St}(hn:zd sc nm i y=true)(EO:dd fr O sc)(L:cU s.heap (cf J fr) O nm Y)(I:dR X fr s.heap J)(p:Pe X fr s J bV a6)(r:a_ bV.heap (cf a6 fr) v x)
  {Q:Fl->du->Internal.St->Prop} (hq:Q .next (Y.set i (some x)) a6):wpAny (model S w) A (storeName O y v) (λZ s'=>iC X fr (fS O) O nm s J Q .next s') fi bV:=by
 obtain⟨h1,h2,h3⟩:=kG hn
 refine ay (pn EO.sub (L.pe EO.toEnvOk I p) EO p.inv h1 (pw h2) (kI EO y h3) r) (λZ dA h=>?_) λZ Z x=>x
 exact⟨.next,_,_,(p.ps EO.sub).trans h.1,.next,h.2,hq⟩
theorem ue{y:Str}{py pos:Pos}{i:Nat}{x:Expr}{e:E}(hn:zd sc nm i y=true)(ha:cE S w A X W k O sc nm x e)(XM:∀l,swapsWith x (some (.Name y py)) l O=pure false)(EO:dd fr O sc)(L:cU s.heap (cf J fr) O nm Y)(I:dR X fr s.heap J)
  {Q:Fl->du->Internal.St->Prop} (hq:wE W k e Y J λx J=>Q .next (Y.set i (some x)) J):wpAny (model S w) A (exec (.Assign [.Name y py] x pos) O) (iC X fr (fS O) O nm s J Q) fi s:=by
 rw[exec_Assign]
 refine aa (dh ?_)
 show wpAny _ _ (swapsWith x (some (.Name y py)) pos.line O>>=_) _ _ _
 rw[XM]
 refine aa (aj ?_)
 rw[ah (by decide)]
 refine aa (ha.go EO L I hq λv bV z a6 cz r dY cF=>aa (aj ?_))
 show wpAny _ _ (do assignAll v [assign (.Name y py) O];pure Flow.next:Sem Flow) _ _ _
 exact aa (ay (wpAny_assign_Name (U4 hn EO L I cz r cF)) (λZ Z x=>aj x) λZ Z x=>x)
theorem Rc{y:Str}{py pos:Pos}{i:Nat}{x:Expr}{e:E}(hn:zd sc nm i y=true)(hx:ny x=true)(ha:cE S w A X W k O sc nm x e):g_ S w A X W k O sc nm (.Assign [.Name y py] x pos) (.asg i e):=by
 intro fr s Y J Q EO L I hq
 exact ue hn ha (λl=>od hx _ l O) EO L I hq
theorem FC(ak:h_ k A){y:Str}{py pos:Pos}{i:Nat}{own:Bool}{elt:Expr}{p:Pos}{e:E}{t:Tg}{src:yy}{cs:List E}{gs:List G}{aR iter:Expr}{ifs:List Expr}{rest:List Comprehension}(hn:zd sc nm i y=true)(s8:gq iter=true)
  (nu:ed sc scope=true) (vw:kL scope.names nm fI (hZ (⟨t,src,cs⟩::gs))=true) (nZ:(hZ (⟨t,src,cs⟩::gs)).Nodup) (hc:md scope.names fI aR t=true) (oD:e5 S w A X W k O sc nm aR iter src)
  (iD:∀eH,jf S w A X W k eH (iM sc scope.names) fI ifs cs/\sJ S w A X W k eH (iM sc scope.names) scope.names fI gs rest/\cE S w A X W k eH (iM sc scope.names) fI elt e):
  g_ S w A X W k O sc nm (.Assign [.Name y py] (.ListComp elt (⟨aR,iter,ifs,0⟩::rest) scope p) pos) (.asg i (.lc own e (⟨t,src,cs⟩::gs))):=by
 intro fr s Y J Q EO L I hq
 have Rd:∃b,∀l,swapsWith (.ListComp elt (⟨aR,iter,ifs,0⟩::rest) scope p) (some (.Name y py)) l O=pure b:=⟨_,λl=>rfl⟩
 obtain⟨b,hb⟩:=Rd
 cases b with
 |false=>exact ue hn (Dx ak s8 nu vw nZ hc oD iD) hb EO L I hq
 |true=>
  rw[exec_Assign]
  refine aa (dh ?_)
  rw[nz,hb]
  refine aa (aj ?_)
  rw[ai rfl]
  obtain⟨h1,h2,h3⟩:=kG hn
  refine aa (aa (ay (wC (pos:=iter.pos) (P:=Q) I EO L rfl s8 nu h1 h2 h3 (λx J h=>h) (Dw (own:=own) ak nu vw nZ hc oD iD fr s Y J _ EO L I hq)) (λZ s' h=>aj (aj h)) λZ Z x=>x))
theorem FD(ak:h_ k A){y:Str}{py pos:Pos}{i:Nat}{own:Bool}{kx vx:Expr}{p:Pos}{e1 e2:E}{t:Tg}{src:yy}{cs:List E}{gs:List G}{aR iter:Expr}{ifs:List Expr}{rest:List Comprehension}(hn:zd sc nm i y=true)(s8:gq iter=true)
  (nu:ed sc scope=true) (vw:kL scope.names nm fI (hZ (⟨t,src,cs⟩::gs))=true) (nZ:(hZ (⟨t,src,cs⟩::gs)).Nodup) (hc:md scope.names fI aR t=true) (oD:e5 S w A X W k O sc nm aR iter src)
  (iD:∀eH,jf S w A X W k eH (iM sc scope.names) fI ifs cs/\sJ S w A X W k eH (iM sc scope.names) scope.names fI gs rest/\cE S w A X W k eH (iM sc scope.names) fI kx e1/\cE S w A X W k eH (iM sc scope.names) fI vx e2):
  g_ S w A X W k O sc nm (.Assign [.Name y py] (.DictComp kx vx (⟨aR,iter,ifs,0⟩::rest) scope p) pos) (.asg i (.dc own e1 e2 (⟨t,src,cs⟩::gs))):=by
 intro fr s Y J Q EO L I hq
 have Rd:∃b,∀l,swapsWith (.DictComp kx vx (⟨aR,iter,ifs,0⟩::rest) scope p) (some (.Name y py)) l O=pure b:=⟨_,λl=>rfl⟩
 obtain⟨b,hb⟩:=Rd
 cases b with
 |false=>exact ue hn (Dz ak s8 nu vw nZ hc oD iD) hb EO L I hq
 |true=>
  rw[exec_Assign]
  refine aa (dh ?_)
  rw[nz,hb]
  refine aa (aj ?_)
  rw[ai rfl]
  obtain⟨h1,h2,h3⟩:=kG hn
  refine aa (aa (ay (wC (pos:=iter.pos) (P:=Q) I EO L rfl s8 nu h1 h2 h3 (λx J h=>h) (Dy (own:=own) ak nu vw nZ hc oD iD fr s Y J _ EO L I hq)) (λZ s' h=>aj (aj h)) λZ Z x=>x))
theorem FE{x o i:Expr}{p:Pos}(l:Nat)(O:Env):swapsWith x (some (.Subscript o i p)) l O=pure false:=by
 cases x<;>rfl
theorem Rg(ak:h_ k A){o i x:Expr}{p pos:Pos}{a b e:E}(ho:cE S w A X W k O sc nm o a)(hi:cE S w A X W k O sc nm i b)(hx:cE S w A X W k O sc nm x e):g_ S w A X W k O sc nm (.Assign [.Subscript o i p] x pos) (.put a b e):=by
 intro fr s Y J Q EO L I hq
 refine wpAny_Assign_Subscript (hx.go EO L I hq λv bV x a6 cz rx dY cF=>ho.go EO dY cz.inv cF λov dA y eh dJ ro jU eF=>hi.go EO jU dJ.inv eF λiv gU z pB jW ri Mo kM=>AN kM λd e gH=>tc gH λo' c AF wx=>qK wx λc' hm h=>?_) (FE _ O)
 obtain⟨h1,h2⟩:=h
 subst e
 obtain rfl:=ro.yE rfl
 exact QD ak jW.inv AF ri (jW.rep (dJ.rep rx)) hm h1 λo2 fv jV=>⟨.next,Y,_,(((cz.trans dJ).trans jW).trans jV).ps EO.sub,.next,Mo.pe EO.toEnvOk jW.inv jV,h2 o2⟩
theorem Rh{o:Option (Option V)}{P:Int->Prop}{R:Prop}(h:match o with|some (some (.int a))=>P a|_=>False)(H:∀a,o=some (some (.int a))->P a->R):R:=by
 cases o with
 |none=>exact h.elim
 |some o=>cases o with
  |none=>exact h.elim
  |some x=>cases x with
   |int a=>exact H a rfl h
   |_=>exact h.elim
theorem Ri{y:Str}{p' pos:Pos}{i:Nat}{x:Expr}{e:E}(hn:zd sc nm i y=true)(hy:mH y=true)(ha:cE S w A X W k O sc nm x e):g_ S w A X W k O sc nm (.AugAssign (.Name y p') .Add x pos) (.aug i e):=by
 intro fr s Y J Q EO L I hq
 refine Rh hq λa hi hq=>wpAny_AugAssign_Name ?_
 obtain⟨h1,h2,h3⟩:=kG hn
 refine ay (Q:=λv s'=>s'=s/\a_ s.heap (cf J fr) v (.int a)) ?_ (λold s₀ e=>?_) λZ Z x=>x
 ·have ek:=EO.kindOf y
  rcases j3 h3 with h|h
  ·obtain⟨m,s8,hvv⟩:=L.ns
   obtain⟨v,e,r⟩:=hvv i _ y hi h1 (ek.trans h)
   exact wpAny_loadName_local EO.kind (ek.trans h) s8 e ⟨rfl,r⟩
  ·obtain⟨c,v,e1,e2,r⟩:=L.cell i _ y hi h1 (.inl (ek.trans h))
   exact wpAny_loadName_cell EO.kind (ek.trans h) e1 e2 ⟨rfl,r⟩
 ·obtain⟨rfl,ro⟩:=e
  obtain⟨_,rfl⟩:=ro.j_ rfl
  refine ha.go EO L I hq λv bV z a6 cz r dY cF=>f7 cF λb e q=>?_
  subst e
  obtain⟨_,rfl⟩:=r.j_ rfl
  exact PySem.P.iadd_int (U4 hn EO L I (cz.toks _) (.int _ _) q)
end
noncomputable def Rj:Expr->Bool
 |.Starred _ _=>true
 |_=>false
noncomputable def Rk(sc:List (Str×NameKind))(line:Nat):Expr->Option Str
 |.Name id pos=>if(sc.lookup id==some .local&&pos.line==line)=true then some id else none
 |_=>none
def uf(sc:List (Str×NameKind))(ts:List Expr):Expr->Option (Option (List Str))
 |.Tuple vs _ _=>
  if(!(ts.length==2||ts.length==3)||vs.length !=ts.length)=true then some none
  else if vs.any Rj=true then some none
  else
   let names:=ts.filterMap (Rk sc ((ts.head?.map (·.pos.line)).getD 0))
   if(names.length !=ts.length||names.eraseDups.length !=names.length)=true then some none
   else if vs.all (foldedForSure 8)=true then some none
   else if vs.all (constantsAlone 8)=true then none
   else some (some names)
 |_=>some none
theorem FF{i:Nat}{x:V}{is:List Nat}:∀{xs:List V} {Y dT:du},i∉is->fb (Y.set i (some x)) is xs=some dT->∃fK,fb Y is xs=some fK/\dT=fK.set i (some x):=by
 induction is with
 |nil=>exactλ{xs Y dT} Z h=>n8 (L:=λxs=>∃fK,fb Y [] xs=some fK/\dT=fK.set i (some x)) h λh=>⟨Y,rfl,(aW h).symm⟩
 |cons j is ih=>
  exactλ{xs Y dT} hn h=>vT (L:=λxs=>∃fK,fb Y (j::is) xs=some fK/\dT=fK.set i (some x)) h λy xs h=>by
   rw[List.set_comm _ _ λ(e:i=j)=>hn (e▸.head _)]at h
   exact ih (λm=>hn (.tail _ m)) h
theorem Bs{i:Nat}{x:V}{is:List Nat}:∀{xs:List V} {Y fK:du},fb Y is xs=some fK->fb Y (is++[i]) (xs++[x])=some (fK.set i (some x)):=by
 induction is with
 |nil=>exactλ{xs Y fK} h=>n8 (L:=λxs=>fb Y ([]++[i]) (xs++[x])=some (fK.set i (some x))) h λh=>by cases h;rfl
 |cons j is ih=>exactλ{xs Y fK} h=>vT (L:=λxs=>fb Y (j::is++[i]) (xs++[x])=some (fK.set i (some x))) h λy xs h=>ih h
theorem FG{is:List Nat}:∀{xs:List V} {Y dT:du},is.Nodup->fb Y is xs=some dT->fb Y is.reverse xs.reverse=some dT:=by
 induction is with
 |nil=>exactλ{xs Y dT} Z h=>n8 (L:=λxs=>fb Y [] xs.reverse=some dT) h λh=>h
 |cons i is ih=>
  exactλ{xs Y dT} hn h=>vT (L:=λxs=>fb Y (i::is).reverse xs.reverse=some dT) h λx xs h=>by
   obtain⟨fK,h1,rfl⟩:=FF (aZ.mp hn).1 h
   rw[List.reverse_cons,List.reverse_cons]
   exact Bs (ih (aZ.mp hn).2 h1)
theorem FH{is:List Nat}:∀{xs:List V} {Y dT:du},fb Y is xs=some dT->xs.length=is.length:=by
 induction is with
 |nil=>exactλ{xs Y dT} h=>n8 (L:=λxs=>xs.length=0) h λh=>rfl
 |cons i is ih=>exactλ{xs Y dT} h=>vT (L:=λxs=>xs.length=is.length+1) h λx xs h=>ao Nat.succ (ih h)
section
variable{S:Program}{w:World}{A:Around}{s:Shared}{X:Heap}{fr:Addr->Prop}{J:St}{O:Env}{sc:List (Str×NameKind)}{nm fI:List Str}{Y:du}{W:Wd}{k:Nat}{scope:Scope}
theorem U5{α:Type}{c:Prop}[Decidable c]{a b:Option α}{m n:Sem α}{r:α}(h:(if c then a else b)=some r)(h1:a=some r->m=pure r)(h2:b=some r->n=pure r):(if c then m else n)=pure r:=by
 by_cases e:c
 ·rw[ai e]at h⊢;exact h1 h
 ·rw[ah e]at h⊢;exact h2 h
theorem Ja{ts:List Expr}{x:Expr}{q:Nat}{p:Pos}(h:¬x.ctorIdx=25):swappedStores [.Tuple ts q p] x O=pure none:=by
 cases x<;>first|rfl|exact aG rfl h
theorem FI{ts:List Expr}{x:Expr}(h:¬x.ctorIdx=25):uf sc ts x=some none:=by
 cases x<;>first|rfl|exact aG rfl h
theorem Jb(EO:EnvOk fr O sc){ts vs:List Expr}{q q':Nat}{p p':Pos}{r:Option (List Str)}(h:uf O.scope.names ts (.Tuple vs q' p')=some r):swappedStores [.Tuple ts q p] (.Tuple vs q' p') O=pure r:=by
 have hb:(O.blockKind !=.function)=false:=by unfold Env.blockKind;rw[EO.kind];rfl
 unfold swappedStores
 dsimp only
 rw[hb,Bool.or_false]
 exact U5 h (λe=>by cases e;rfl) λh=>U5 h (λe=>by cases e;rfl) λh=>U5 h (λe=>by cases e;rfl) λh=>U5 h (λe=>by cases e;rfl) λh=>U5 h (λe=>nn e) λe=>by cases e;rfl
theorem DB(EO:EnvOk fr O sc){ts:List Expr}{x:Expr}{q:Nat}{p:Pos}{r:Option (List Str)}(h:uf sc ts x=some r):swappedStores [.Tuple ts q p] x O=pure r:=by
 rw[<-EO.names]at h
 by_cases e:x.ctorIdx=25
 ·exact Expr.Tuple.elim (motive_1:=λx=>uf O.scope.names ts x=some r->swappedStores [.Tuple ts q p] x O=pure r) x e (λvs q' p' h=>Jb EO h) h
 ·cases(FI e).symm.trans h
  exact Ja e
theorem wF{x:Expr}{ts:List Expr}{q:Nat}{p:Pos}(l:Nat)(O:Env):swapsWith x (some (.Tuple ts q p)) l O=pure false:=by
 cases x<;>rfl
theorem Jc{o:Option du}{P:du->Prop}{R:Prop}(h:match o with|some k=>P k|none=>False)(H:∀k,o=some k->P k->R):R:=by
 cases o with
 |none=>exact h.elim
 |some k=>exact H k rfl h
theorem MH(ak:h_ k A){ts:List Expr}{is:List Nat}{x:Expr}{e:E}{q:Nat}{p pos:Pos}{r:Option (List Str)}(hc:px sc nm ts is=true)(XM:uf sc ts x=some r)(hr:∀ns,r=some ns->ns=mC ts/\is.Nodup)
  (ha:cE S w A X W k O sc nm x e):g_ S w A X W k O sc nm (.Assign [.Tuple ts q p] x pos) (.iF is e):=by
 intro fr s Y J Q EO L I hq
 have fin:∀{v:Value} {bV:Shared} {xs:List V} {dT:du} {a6:Internal.St},Pe X fr s J bV a6->a_ bV.heap (cf a6 fr) v (.bZ xs)->fb Y is xs=some dT->Q .next dT a6->∃a aq n,v=.ref a/\IsT bV.heap a aq n/\cw bV.heap (cf a6 fr) aq.toList xs/\aq.size=ts.length/\xs.length=is.length:=by
  intro v bV xs dT a6 cz rv hb _
  obtain⟨a,aq,n,rfl,ua,ea,ra⟩:=eD rv
  have h5:=FH hb
  exact⟨a,aq,n,rfl,ea,ra,by rw[ra.size,h5,(tV hc).2.1],h5⟩
 cases r with
 |none=>
  refine Assign_Tuple (ha.go EO L I hq λv bV z a6 cz rv dY cF=>ot cF λxs e eF=>Jc eF λdT hb kM=>?_) (by rw[nz];exact wF _ O) (DB EO.toEnvOk XM)
  subst e
  obtain⟨a,aq,n,rfl,ea,ra,h4,h5⟩:=fin cz rv hb kM
  obtain⟨h1,h2⟩:=mD (O:=O) hc
  refine assign_Tuple_tuple ak.hh ⟨_,ea,rfl,n,rfl⟩ (h1.trans (h5.symm.trans ra.size.symm)) h2 λh' he=>?_
  have kk:∀b o,bV.heap.get? b=some o->h'.get? b=some o:=λb o e=>he b o (bB (bq e)) e
  have p:=Bb (Lc:=fS O) cz.inv EO.sub kk
  exact ay (Dh EO.sub (kI EO) EO ts is xs aq.toList _ Y _ hc hb (ra.keep p.keep) (dY.ext kk) p.inv) (λZ s2 hq=>⟨.next,dT,a6,((cz.ps EO.sub).trans p).trans hq.1,.next,hq.2,kM⟩) λZ Z x=>x
 |some ns=>
  obtain⟨rfl,nZ⟩:=hr ns rfl
  refine Assign_Tuple_swapped (ha.go EO L I hq λv bV z a6 cz rv dY cF=>ot cF λxs e eF=>Jc eF λdT hb kM=>?_) (by rw[nz];exact wF _ O) (DB EO.toEnvOk XM)
  subst e
  obtain⟨a,aq,n,rfl,ea,ra,h4,h5⟩:=fin cz rv hb kM
  obtain⟨h1,h2,h3⟩:=tV hc
  rw[h1,<-h5,<-ra.size]
  refine unpackItems_tuple ak.hh ⟨_,ea,rfl,n,rfl⟩ λh' he=>?_
  have kk:∀b o,bV.heap.get? b=some o->h'.get? b=some o:=λb o e=>he b o (bB (bq e)) e
  have p:=Bb (Lc:=fS O) cz.inv EO.sub kk
  refine ay (Ic EO.sub (kI EO) EO (bindName O) (λn v s Q h=>wpAny_bindName h) (mC ts).reverse is.reverse xs.reverse aq.toList.reverse _ Y dT (by rw[List.length_reverse,List.length_reverse,h1]) (λj n i a b=>?_) (FG nZ hb) (ra.keep p.keep).reverse (dY.ext kk) p.inv) (λZ s2 hq=>⟨.next,dT,a6,((cz.ps EO.sub).trans p).trans hq.1,.next,hq.2,kM⟩) λZ Z x=>x
  have hj:j<(mC ts).length:=by
   have:=(cg.mp a).1
   rwa[List.length_reverse]at this
  rw[List.getElem?_reverse hj]at a
  rw[List.getElem?_reverse (h1▸hj),<-h1]at b
  exact h3 _ n i a b
end
section
variable{S:Program}{w:World}{A:Around}{s:Shared}{X:Heap}{fr:Addr->Prop}{J:St}{O:Env}{sc:List (Str×NameKind)}{nm fI:List Str}{Y:du}{W:Wd}{k:Nat}{scope:Scope}
theorem U6{x:Expr}{e:E}{pos:Pos}(hn:ny x=true)(ha:cE S w A X W k O sc nm x e):g_ S w A X W k O sc nm (.Expr x pos) (.ex e):=by
 intro fr s Y J Q EO L I hq
 rw[arm_exec_Expr]
 refine aa (dh ?_)
 have hi:interactive O=false:=by unfold interactive;rw[EO.kind];rfl
 rw[hi,ah (by decide),od hn]
 refine aa (aj ?_)
 rw[ah (by decide)]
 exact aa (ha.go EO L I hq λv bV z a6 cz rv dY cF=>wpAny_dropValue ⟨.next,Y,a6,cz.ps EO.sub,.next,dY,cF⟩)
theorem Rl{x:Expr}{e:E}{pos:Pos}(ha:cE S w A X W k O sc nm x e):g_ S w A X W k O sc nm (.Return (some x) pos) (.ret e):=
 λfr s Y J Q EO L I hq=>wpAny_Return_some (ha.go EO L I hq λv bV z a6 cz rv dY cF=>⟨.ret z,Y,a6,cz.ps EO.sub,.ret rv,dY,cF⟩)
theorem MI{pos:Pos}:g_ S w A X W k O sc nm (.Continue pos) .cont:=
 λfr s Y J Q EO L I hq=>wpAny_Continue ⟨.cont,Y,J,Ps.refl I EO.sub,.cont,L,hq⟩
theorem Rm{st:Stmt}:g_ S w A X W k O sc nm st .bad:=
 λfr s Y J Q EO L I hq=>hq.elim
theorem U7{x:Expr}{e:E}{b o:List Stmt}{t f:List dJ6}{pos:Pos}(hc:fL S w A X W k O sc nm x e)(ht:jF S w A X W k O sc nm b t)(hf:jF S w A X W k O sc nm o f):g_ S w A X W k O sc nm (.If x b o pos) (.ifs e t f):=by
 intro fr s Y J Q EO L I hq
 refine wpAny_If (hc.go EO L I hq λv bV a6 cz dY cF=>?_)
 cases v
 ·exact ay (hf fr bV Y a6 Q EO dY cz.inv cF) (λfl dA dB=>iC.pre (cz.ps EO.sub) dB) λZ Z x=>x
 ·exact ay (ht fr bV Y a6 Q EO dY cz.inv cF) (λfl dA dB=>iC.pre (cz.ps EO.sub) dB) λZ Z x=>x
theorem Rn{x:Expr}{e:E}{b:List Stmt}{t:List dJ6}{pos:Pos}(hc:fL S w A X W k O sc nm x e)(ht:jF S w A X W k O sc nm b t):g_ S w A X W k O sc nm (.While x b [] pos) (.OK e t):=by
 intro fr s Y J Q EO L I hq
 obtain⟨n,hq⟩:=hq
 refine wpAny_While (codeAny_mono (xC EO L I hq (λs Y J Q L I h=>hc fr s Y J Q EO L I h) λs Y J Q L I h=>ht fr s Y J Q EO L I h) λr s' h=>?_)
 cases r with
 |ok f=>exact h
 |error e=>exact h.elim
theorem U8(ak:h_ k A){aR iter:Expr}{src:yy}{t:Tg}{b:List Stmt}{m:List dJ6}{pos:Pos}(hn:gq iter=true)(hc:md sc nm aR t=true)(hs:e5 S w A X W k O sc nm aR iter src)(hb:jF S w A X W k O sc nm b m):
  g_ S w A X W k O sc nm (.For aR iter b [] pos) (.fr t src m):=by
 intro fr s Y J Q EO L I hq
 refine wpAny_For (ay (hs fr s Y J _ EO L I hq) (λx bV dO=>ay dO.2 (λit dA dB=>?_) λZ Z x=>x) λZ Z x=>x) (f5 hn)
 obtain⟨Ia,fp,wr,ds,St,Md,xs,aq,a6,rfl,T,i9,eO,Ie,hd,Ff,eF⟩:=dB
 have rJ:dd (λb=>fr b\/b∈wr) O sc:=EO.more λb f=>.inl f
 have jU:cU dA.heap (cf a6 λb=>fr b\/b∈wr) O nm Y:=L.keep eO.Dj λb o l e=>eO.keep.old b o (λu=>I.off b u (EO.sub b l)) e
 refine codeAny_mono (Bf eO ak.hh T i9 EO hc jU Ie hd Ff (by cases xs<;>first|exact rfl|trivial) eF λs Y J Q L I h=>hb _ s Y J Q rJ L I h) λr s' h=>?_
 cases r with
 |ok f=>exact h
 |error e=>exact h.elim
theorem Ro:jF S w A X W k O sc nm [] []:=by
 intro fr s Y J Q EO L I hq
 exact wpAny_execs_nil ⟨.next,Y,J,Ps.refl I EO.sub,.next,L,hq⟩
theorem MJ{st:Stmt}{sN:List Stmt}{m:dJ6}{ms:List dJ6}(hs:g_ S w A X W k O sc nm st m)(hr:jF S w A X W k O sc nm sN ms):jF S w A X W k O sc nm (st::sN) (m::ms):=by
 intro fr s Y J Q EO L I hq
 refine wpAny_execs_cons (ay (hs fr s Y J _ EO L I hq) (λfl bV dO=>?_) λZ Z x=>x)
 obtain⟨f,fK,a6,cz,hf,dY,cF⟩:=dO
 cases hf with
 |next=>exact ay (hr fr bV fK a6 Q EO dY cz.inv cF) (λfl dA dB=>iC.pre cz dB) λZ Z x=>x
 |brk=>exact⟨.brk,fK,a6,cz,.brk,dY,cF⟩
 |cont=>exact⟨.cont,fK,a6,cz,.cont,dY,cF⟩
 |ret r=>exact⟨.ret _,fK,a6,cz,.ret r,dY,cF⟩
theorem DC{d b:Addr}(u:cf (del J d) fr b):cf J fr b:=u.imp (λh=>by
 obtain⟨q,e⟩:=bA.mp h
 rw[iP e];rfl) id
theorem Jd{Lc:Addr->Prop}(I:dR X fr s.heap J)(hs:∀b,Lc b->fr b)(d:Addr):Ps X fr Lc s J s (del J d):=
 ((Pe.refl I).sub λb q=>iP).ps hs
theorem Pm{o:Option (Option V)}{P:Addr->Prop}{R:Prop}(h:match o with|some (some (.ref d))=>P d|_=>False)(H:∀d,o=some (some (.ref d))->P d->R):R:=by
 cases o with
 |none=>exact h.elim
 |some o=>cases o with
  |none=>exact h.elim
  |some x=>cases x with
   |ref d=>exact H d rfl h
   |_=>exact h.elim
theorem MK{sN:List Stmt}{i:Nat}{ms:List dJ6}(hr:jF S w A X W k O sc nm sN ms):jF S w A X W k O sc nm sN (.free i::ms):=by
 intro fr s Y J Q EO L I hq
 exact Pm hq λd hd hq=>
  have p:=Jd (Lc:=fS O) I EO.sub d
  ay (hr fr s Y _ Q EO (L.less λb=>DC) p.inv hq) (λfl dA dB=>iC.pre p dB) λZ Z x=>x
theorem ML{sN:List Stmt}{i:Nat}{ms:List dJ6}(hr:jF S w A X W k O sc nm sN ms):jF S w A X W k O sc nm sN (.yJ i::ms):=by
 intro fr s Y J Q EO L I hq
 refine Pm hq λd hd hq=>tc hq λo z AF hq=>?_
 have p:=Jd (Lc:=fS O) I EO.sub d
 have rz:=Du I AF
 have hi:i<Y.length:=(cg.mp hd).1
 have go:∀{j:Nat} {x:V},(Y.set i (some z))[j]?=some (some x)->∃y,Y[j]?=some (some y)/\∀{v:Value},a_ s.heap (cf J fr) v y->a_ s.heap (cf (del J d) fr) v x:=λ{j x} hj=>by
  by_cases e:i=j
  ·subst e
   rw[List.getElem?_set_self hi]at hj
   cases hj
   exact⟨_,hd,λr=>r.yE rfl▸rz⟩
  ·rw[fZ e]at hj
   exact⟨_,hj,λr=>r.less λb=>DC⟩
 have L':cU s.heap (cf (del J d) fr) O nm (Y.set i (some z)):=
  ⟨L.ns.imp λm h=>⟨h.1,λj x n a b c=>(go a).elim λy g=>(h.2 j y n g.1 b c).imp λv h=>⟨h.1,g.2 h.2⟩⟩,
  λj x n a b c=>(go a).elim λy g=>(L.cell j y n g.1 b c).imp λq h=>h.imp λv h=>⟨h.1,h.2.1,g.2 h.2.2⟩,L.cells⟩
 exact ay (hr fr s _ _ Q EO L' p.inv hq) (λfl dA dB=>iC.pre p dB) λZ Z x=>x
end
noncomputable def Je:E->Bool
 |.lc _ _ _=>true
 |.dc _ _ _ _=>true
 |_=>false
noncomputable def LG(x:Stmt)(k:Nat)(g:x.ctorIdx=k->Bool):Bool:=if h:x.ctorIdx=k then g h else false
theorem mI{x:Stmt}{k:Nat}{g:x.ctorIdx=k->Bool}{P:Prop}(h:LG x k g=true)(H:∀e,g e=true->P):P:=by
 unfold LG at h
 by_cases e:x.ctorIdx=k
 ·rw[dif_pos e]at h;exact H e h
 ·rw[dif_neg e]at h;exact no h
def Jf(x:Stmt)(f:List Expr->Expr->Bool):Bool:=LG x 5 λh=>Stmt.Assign.elim (motive_2:=λZ=>Bool) x h λa b Z=>f a b
def Pn(x:Stmt)(f:Expr->Operator->Expr->Bool):Bool:=LG x 7 λh=>Stmt.AugAssign.elim (motive_2:=λZ=>Bool) x h λa b c Z=>f a b c
def U9(x:Stmt)(f:Expr->Bool):Bool:=LG x 24 λh=>Stmt.Expr.elim (motive_2:=λZ=>Bool) x h λa Z=>f a
def Jg(x:Stmt)(f:Option Expr->Bool):Bool:=LG x 3 λh=>Stmt.Return.elim (motive_2:=λZ=>Bool) x h λa Z=>f a
def U_(x:Stmt)(f:Expr->List Stmt->List Stmt->Bool):Bool:=LG x 12 λh=>Stmt.If.elim (motive_2:=λZ=>Bool) x h λa b c Z=>f a b c
def Jh(x:Stmt)(f:Expr->List Stmt->List Stmt->Bool):Bool:=LG x 11 λh=>Stmt.While.elim (motive_2:=λZ=>Bool) x h λa b c Z=>f a b c
def Ji(x:Stmt)(f:Expr->Expr->List Stmt->List Stmt->Bool):Bool:=LG x 9 λh=>Stmt.For.elim (motive_2:=λZ=>Bool) x h λa b c d Z=>f a b c d
def Jj(x:Stmt):Bool:=LG x 27 λh=>Stmt.Continue.elim (motive_2:=λZ=>Bool) x h λZ=>true
def DD(x:Stmt)(f:Expr->Expr->Bool):Bool:=Jf x λl b=>LD l λa=>f a b
def Po(x:Stmt)(f:Expr->Bool):Bool:=Jg x λa=>OR a f
def Pp(x:Stmt)(f:Expr->List Stmt->Bool):Bool:=Jh x λa b c=>LF c (f a b)
def Pr(x:Stmt)(f:Expr->Expr->List Stmt->Bool):Bool:=Ji x λa b c d=>LF d (f a b c)
section
variable{x:Stmt}{P:Stmt->Prop}
theorem FJ{f}(h:Jf x f=true)(H:∀a b p,f a b=true->P (.Assign a b p)):P x:=
 mI h λe=>Stmt.Assign.elim (motive_2:=λx=>∀e,Stmt.Assign.elim (motive_2:=λZ=>Bool) x e (λa b Z=>f a b)=true->P x) x e (λa b p Z=>H a b p) e
theorem Jk{f}(h:Pn x f=true)(H:∀a b c p,f a b c=true->P (.AugAssign a b c p)):P x:=
 mI h λe=>Stmt.AugAssign.elim (motive_2:=λx=>∀e,Stmt.AugAssign.elim (motive_2:=λZ=>Bool) x e (λa b c Z=>f a b c)=true->P x) x e (λa b c p Z=>H a b c p) e
theorem MM{f}(h:U9 x f=true)(H:∀a p,f a=true->P (.Expr a p)):P x:=
 mI h λe=>Stmt.Expr.elim (motive_2:=λx=>∀e,Stmt.Expr.elim (motive_2:=λZ=>Bool) x e (λa Z=>f a)=true->P x) x e (λa p Z=>H a p) e
theorem FK{f}(h:Jg x f=true)(H:∀a p,f a=true->P (.Return a p)):P x:=
 mI h λe=>Stmt.Return.elim (motive_2:=λx=>∀e,Stmt.Return.elim (motive_2:=λZ=>Bool) x e (λa Z=>f a)=true->P x) x e (λa p Z=>H a p) e
theorem MN{f}(h:U_ x f=true)(H:∀a b c p,f a b c=true->P (.If a b c p)):P x:=
 mI h λe=>Stmt.If.elim (motive_2:=λx=>∀e,Stmt.If.elim (motive_2:=λZ=>Bool) x e (λa b c Z=>f a b c)=true->P x) x e (λa b c p Z=>H a b c p) e
theorem FL{f}(h:Jh x f=true)(H:∀a b c p,f a b c=true->P (.While a b c p)):P x:=
 mI h λe=>Stmt.While.elim (motive_2:=λx=>∀e,Stmt.While.elim (motive_2:=λZ=>Bool) x e (λa b c Z=>f a b c)=true->P x) x e (λa b c p Z=>H a b c p) e
theorem FN{f}(h:Ji x f=true)(H:∀a b c d p,f a b c d=true->P (.For a b c d p)):P x:=
 mI h λe=>Stmt.For.elim (motive_2:=λx=>∀e,Stmt.For.elim (motive_2:=λZ=>Bool) x e (λa b c d Z=>f a b c d)=true->P x) x e (λa b c d p Z=>H a b c d p) e
theorem FO(h:Jj x=true)(H:∀p,P (.Continue p)):P x:=
 mI h λe Z=>Stmt.Continue.elim (motive_2:=P) x e H
theorem ug{f}(h:DD x f=true)(H:∀a b p,f a b=true->P (.Assign [a] b p)):P x:=
 FJ h λl b p h=>k9 (P:=λl=>P (.Assign l b p)) h λa=>H a b p
theorem Jl{f}(h:Po x f=true)(H:∀a p,f a=true->P (.Return (some a) p)):P x:=
 FK h λa p h=>tR (R:=λa=>P (.Return a p)) h λa=>H a p
theorem Jm{f}(h:Pp x f=true)(H:∀a b p,f a b=true->P (.While a b [] p)):P x:=
 FL h λa b c p h=>ki (P:=λc=>P (.While a b c p)) h (H a b p)
theorem Jn{f}(h:Pr x f=true)(H:∀a b c p,f a b c=true->P (.For a b c [] p)):P x:=
 FN h λa b c d p h=>ki (P:=λd=>P (.For a b c d p)) h (H a b c p)
end
def Va(is:List Nat)(ts:List Expr)(o:Option (Option (List Str))):Bool:=OR o λo=>match o with
 |none=>true
 |some ns=>decide (ns=mC ts)&&xO is
def Rp(fns:List Str)(sc:List (Str×NameKind))(nm:List Str)(f:List Stmt->List dJ6->Bool)(st:Stmt):dJ6->Bool
 |.asg i e=>DD st λt x=>sG t λy=>zd sc nm i y&&((ny x||Je e)&&eK fns 16 sc nm x e)
 |.iF is e=>DD st λt x=>y0 t λts=>px sc nm ts is&&(Va is ts (uf sc ts x)&&eK fns 16 sc nm x e)
 |.put a i e=>DD st λt x=>y4 t λo j=>eK fns 16 sc nm o a&&(eK fns 16 sc nm j i&&eK fns 16 sc nm x e)
 |.aug i e=>Pn st λt o x=>sG t λy=>decide (o=.Add)&&(zd sc nm i y&&(mH y&&eK fns 16 sc nm x e))
 |.ex e=>U9 st λx=>ny x&&eK fns 16 sc nm x e
 |.ret e=>Po st λx=>eK fns 16 sc nm x e
 |.ifs c t g=>U_ st λx b o=>eK fns 16 sc nm x c&&(f b t&&f o g)
 |.OK c t=>Pp st λx b=>eK fns 16 sc nm x c&&f b t
 |.fr t s m=>Pr st λaR iter b=>gq iter&&(md sc nm aR t&&(xN (eK fns 16 sc nm) sc aR iter s&&f b m))
 |.cont=>Jj st
 |.bad=>true
 |.yJ _=>false
 |.free _=>false
noncomputable def Jo:dJ6->Bool
 |.yJ _=>true
 |.free _=>true
 |_=>false
noncomputable def rM(fns:List Str)(sc:List (Str×NameKind))(nm:List Str):Nat->List Stmt->List dJ6->Bool
 |0,_,_=>false
 |n+1,sN,ms=>match ms with
  |[]=>LF sN true
  |m::r=>if Jo m=true then rM fns sc nm n sN r else E4 sN λst rest=>rM fns sc nm n rest r&&Rp fns sc nm (rM fns sc nm n) st m
section
variable{S:Program}{w:World}{A:Around}{X:Heap}{W:Wd}{k:Nat}{mg mb:Str->Option Value}{fns:List Str}
theorem MO(gl:Gl X mg mb W fns)(C:nv S w A X W k mg)(ak:h_ k A){n:Nat}{O:Env}{sc:List (Str×NameKind)}{nm:List Str}{y:Str}{py pos:Pos}{x:Expr}{i:Nat}{e:E}(hn:zd sc nm i y=true)(hc:(ny x||Je e)=true)(he:eK fns (n+1) sc nm x e=true):
  g_ S w A X W k O sc nm (.Assign [.Name y py] x pos) (.asg i e):=by
 rcases(Bool.or_eq_true_iff ..).mp hc with hc|hc
 ·exact Rc hn hc (pM gl C ak _ O sc nm x e he).1
 ·have ih:=pM gl C ak n
  cases e with
  |lc own e g=>exact C_ (P:=λx=>g_ S w A X W k O sc nm (.Assign [.Name y py] x pos) (.asg i (.lc own e g))) he λz c cl scope p h=>lB (P:=λg c=>g_ S w A X W k O sc nm (.Assign [.Name y py] (.ListComp z (c::cl) scope p) pos) (.asg i (.lc own e g))) (O:=O) gl ak ih h λt src cs gs aR iter ifs fI h1 h2 h3 h4 h5 h6 h7 h9=>
                 FC ak hn h1 h2 h3 h4 h5 h6 λeH=>⟨(h7 eH).1,(h7 eH).2,(ih eH _ _ _ _ h9).1⟩
  |dc own a b g=>exact C' (P:=λx=>g_ S w A X W k O sc nm (.Assign [.Name y py] x pos) (.asg i (.dc own a b g))) he λu v c cl scope p h=>lB (P:=λg c=>g_ S w A X W k O sc nm (.Assign [.Name y py] (.DictComp u v (c::cl) scope p) pos) (.asg i (.dc own a b g))) (O:=O) gl ak ih h λt src cs gs aR iter ifs fI h1 h2 h3 h4 h5 h6 h7 h9=>
                   an h9 λh9 MG=>FD ak hn h1 h2 h3 h4 h5 h6 λeH=>⟨(h7 eH).1,(h7 eH).2,(ih eH _ _ _ _ h9).1,(ih eH _ _ _ _ MG).1⟩
  |_=>exact no hc
def Vb(S:Program)(w:World)(A:Around)(X:Heap)(W:Wd)(k:Nat)(O:Env)(sc:List (Str×NameKind))(nm:List Str)(m:dJ6)(st:Stmt):Prop:=g_ S w A X W k O sc nm st m
theorem Jp(gl:Gl X mg mb W fns)(C:nv S w A X W k mg)(ak:h_ k A){O:Env}{sc:List (Str×NameKind)}{nm:List Str}{f:List Stmt->List dJ6->Bool}(hf:∀sN ms,f sN ms=true->jF S w A X W k O sc nm sN ms){st:Stmt}{m:dJ6}(h:Rp fns sc nm f st m=true):
  Vb S w A X W k O sc nm m st:=by
 have ev:∀{x e},eK fns 16 sc nm x e=true->cE S w A X W k O sc nm x e:=λh=>(pM gl C ak 16 O sc nm _ _ h).1
 have tr:∀{x e},eK fns 16 sc nm x e=true->fL S w A X W k O sc nm x e:=λh=>(pM gl C ak 16 O sc nm _ _ h).2
 generalize hS:Vb S w A X W k O sc nm=Sn
 cases m with
 |asg i e=>exact ug h λt x p h=>il (P:=λt=>Sn _ (.Assign [t] x p)) h λy py h=>vo h λh1 h2 h3=>hS▸MO gl C ak h1 h2 h3
 |iF is e=>
  refine ug h λt x p h=>mA (P:=λt=>Sn _ (.Assign [t] x p)) h λts q py h=>vo h λh3 h4 h5=>?_
  generalize hs:uf sc ts x=o at h4
  cases o with
  |none=>exact no h4
  |some r=>
   refine hS▸MH ak h3 hs (λns e=>?_) (ev h5)
   subst e
   exact an h4 λh1 h2=>⟨bh h1,qM h2⟩
 |put a i e=>exact ug h λt x p h=>pd (P:=λt=>Sn _ (.Assign [t] x p)) h λo j py h=>vo h λh1 h2 h3=>hS▸Rg ak (ev h1) (ev h2) (ev h3)
 |aug i e=>exact Jk h λt o x p h=>il (P:=λt=>Sn _ (.AugAssign t o x p)) h λy py h=>yZ (P:=λo=>Sn _ (.AugAssign (.Name y py) o x p)) h λh=>vo h λh3 h4 h5=>hS▸Ri h3 h4 (ev h5)
 |ex e=>exact MM h λx p h=>an h λh1 h2=>hS▸U6 h1 (ev h2)
 |ret e=>exact Jl h λx p h=>hS▸Rl (ev h)
 |ifs c t g=>exact MN h λx b o p h=>vo h λh1 h2 h3=>hS▸U7 (tr h1) (hf _ _ h2) (hf _ _ h3)
 |OK c t=>exact Jm h λx b p h=>an h λh1 h2=>hS▸Rn (tr h1) (hf _ _ h2)
 |fr t s m=>exact Jn h λaR iter b p h=>AL h λh1 h2 h3 h4=>hS▸U8 ak h1 h2 (oF gl ak (λx e h=>ev h) h3) (hf _ _ h4)
 |cont=>exact FO h λp=>hS▸MI
 |bad=>exact hS▸Rm
 |yJ i=>exact no h
 |free i=>exact no h
theorem FP(gl:Gl X mg mb W fns)(C:nv S w A X W k mg)(ak:h_ k A){O:Env}{sc:List (Str×NameKind)}{nm:List Str}(n:Nat):∀(sN:List Stmt) (ms:List dJ6),rM fns sc nm n sN ms=true->jF S w A X W k O sc nm sN ms:=by
 induction n with
 |zero=>exactλZ Z h=>no h
 |succ n ih=>
  intro sN ms h
  cases ms with
  |nil=>exact ki (P:=λsN=>jF S w A X W k O sc nm sN []) h λZ=>Ro
  |cons m r=>
   have h:(if Jo m=true then rM fns sc nm n sN r else E4 sN λst rest=>rM fns sc nm n rest r&&Rp fns sc nm (rM fns sc nm n) st m)=true:=h
   by_cases g:Jo m=true
   ·rw[ai g]at h
    cases m with
    |yJ=>exact ML (ih _ _ h)
    |free=>exact MK (ih _ _ h)
    |_=>exact no g
   ·rw[ah g]at h
    exact k_ (P:=λsN=>jF S w A X W k O sc nm sN (m::r)) h λst rest h=>an h λh1 h2=>MJ (Jp gl C ak ih h2) (ih _ _ h1)
end
structure gz where
 nm:List Str
 np:Nat
 body:List dJ6
def Sub(σ' J:St):Prop:=∀b q,aY σ' b=some q->aY J b=some q
noncomputable def xQ(F:Str->Option gz)(gv:Str->Option V):Nat->Str->List V->St->(V->St->Prop)->Prop
 |0,_,_,_,_=>False
 |k+1,f,xs,J,Q=>match F f with
  |none=>False
  |some m=>xs.length=m.np/\fN ⟨λZ=>xQ F gv k,gv⟩ k m.body (xs.map some++List.replicate (m.nm.length- m.np) none) J λfl Z σ'=>match fl with
   |.ret v=>∃fm,Sub fm σ'/\Q v fm
   |.next=>∃fm,Sub fm σ'/\Q .none fm
   |_=>False
noncomputable abbrev XN(F:Str->Option gz)(gv:Str->Option V)(k:Nat):Wd:=⟨λZ=>xQ F gv k,gv⟩
noncomputable def qN(p:Arguments):Bool:=p.posonlyargs.isEmpty&&(p.vararg.isNone&&(p.kwonlyargs.isEmpty&&p.kwarg.isNone))
theorem xR{p:Arguments}(h:qN p=true):⟨[],p.args,none,[],p.kw_defaults,none,p.defaults⟩=p:=by
 obtain⟨po,ar,va,ko,kd,kw,df⟩:=p
 refine AL h λh1 h2 h3 h4=>?_
 obtain rfl:po=[]:=List.isEmpty_iff.mp h1
 obtain rfl:va=none:=Option.isNone_iff_eq_none.mp h2
 obtain rfl:ko=[]:=List.isEmpty_iff.mp h3
 obtain rfl:kw=none:=Option.isNone_iff_eq_none.mp h4
 rfl
noncomputable def i_(l:List Arg):List Str:=l.map (·.arg)
noncomputable def Bt:List Str->Bool
 |[]=>true
 |a::r=> !(r.contains a)&&Bt r
theorem FQ{l:List Str}:Bt l=true->l.Nodup:=by
 induction l with
 |nil=>exactλZ=>.nil
 |cons a r ih=>exactλh=>an h λh1 h2=>aZ.mpr ⟨λhb=>by
   rw[List.contains_iff_mem.mpr hb]at h1
   exact no h1,ih h2⟩
def Pt(fns:List Str)(p:Arguments)(body:List Stmt)(scope:Scope)(m:gz):Bool:=
 qN p&&(Bt (i_ p.args)&&(decide (m.nm.take m.np=i_ p.args)&&(decide (m.np<=m.nm.length)&&((i_ p.args).all (λn=>fF (scope.names.lookup n))&&(decide (scope.kind=.function)&&(!scope.isCoroutine&&(!scope.isGenerator&&
  (scope.names.all (λx=> !(x.2==.free))&&rM fns scope.names m.nm 60 body m.body))))))))
theorem oG{α:Type}{n:Str}{v:α}{r:List (Str×α)}:((n,v)::r).lookup n=some v:=by rw[List.lookup_cons,cv]
theorem oH{α:Type}{n m:Str}{v:α}{r:List (Str×α)}(h:¬n=m):((m,v)::r).lookup n=r.lookup n:=by rw[List.lookup_cons,bX.mpr h]
theorem Bu{ns:List Str}:∀{vs:List Value} {i:Nat} {n:Str} {v:Value},ns.Nodup->ns[i]?=some n->vs[i]?=some v->(ns.zip vs).lookup n=some v:=by
 induction ns with
 |nil=>exactλZ h Z=>nn h
 |cons m ns ih=>
  intro vs i n v hn h1 h2
  rw[aZ]at hn
  cases vs with
  |nil=>exact nn h2
  |cons u vs=>
   rw[List.zip_cons_cons]
   cases i with
   |zero=>cases h1;cases h2;exact oG
   |succ i=>exact(oH λ(e:n=m)=>hn.1 (e▸List.mem_of_getElem? h1)).trans (ih hn.2 h1 h2)
theorem Jq{ns:List Str}:∀{vs:List Value},ns.length=vs.length->∀(z:List (Str×Value)),(∀(i:Nat) n v,ns[i]?=some n->vs[i]?=some v->z.lookup n=some v)->ns.filterMap (λn=>(z.lookup n).map (n,·))=ns.zip vs:=by
 induction ns with
 |nil=>exactλZ Z Z=>rfl
 |cons n ns ih=>
  intro vs hl z hz
  cases vs with
  |nil=>exact Nat.noConfusion hl
  |cons v vs=>
   rw[List.filterMap_cons,hz 0 n v rfl rfl,List.zip_cons_cons]
   exact ao ((n,v)::·) (ih (Nat.succ.inj hl) z λi m u=>hz (i+1) m u)
theorem FR{fd:FuncData}{ar:List Arg}{kd:List (Option Expr)}{df:List Expr}(me:List Value)(hz:∀n∈i_ ar,(((i_ ar).zip me).lookup n).isNone=false)(hb:(i_ ar).filterMap (λn=>(((i_ ar).zip me).lookup n).map (n,·))=(i_ ar).zip me)(hl:(i_ ar).length=me.length):
  bindArgs {fd with params:=⟨[],ar,none,[],kd,none,df⟩,defaults:=.none} ⟨me,[]⟩=pure ((i_ ar).zip me):=by
 refine Eq.trans (b:=if(decide (me.length>(i_ ar).length)&&true)=true then _ else _) rfl ((ah (by rw[hl,b9 (Nat.lt_irrefl _)];exact aJ)).trans ?_)
 refine Eq.trans (b:=if(!(((i_ ar).take ((i_ ar).length- (([]:List Value).drop (0- (i_ ar).length)).length)).filter λn=>(((i_ ar).zip me).lookup n).isNone).isEmpty)=true then _ else _) rfl ((ah (by rw[List.filter_eq_nil_iff.mpr (λn h=>by rw[hz n (List.mem_of_mem_take h)];exact aJ)];exact aJ)).trans ?_)
 refine Eq.trans (b:=forIn (((i_ ar).drop ((i_ ar).length- (([]:List Value).drop (0- (i_ ar).length)).length)).zip (([]:List Value).drop (0- (i_ ar).length))) ((i_ ar).zip me) _>>=_) rfl ?_
 rw[List.drop_nil,List.zip_nil_right]
 refine Eq.trans (b:=pure ((i_ ar++[]).filterMap (λn=>(((i_ ar).zip me).lookup n).map (n,·)))) rfl ?_
 rw[bD,hb]
theorem Bw{fd:FuncData}{me:List Value}(hp:qN fd.params=true)(hd:fd.defaults=.none)(hn:(fd.params.args.map (·.arg)).Nodup)(hl:(fd.params.args.map (·.arg)).length=me.length):
  bindArgs fd ⟨me,[]⟩=pure ((fd.params.args.map (·.arg)).zip me):=by
 have hz:∀(i:Nat) n v,(i_ fd.params.args)[i]?=some n->me[i]?=some v->((i_ fd.params.args).zip me).lookup n=some v:=λi n v a b=>Bu hn a b
 have h:=FR (fd:=fd) (kd:=fd.params.kw_defaults) (df:=fd.params.defaults) me (λn h=>by
  obtain⟨i,hi⟩:=cL h
  rw[hz i n _ hi (aH (hl▸(cg.mp hi).1))];rfl) (Jq hl _ hz) hl
 rw[xR hp,<-hd]at h
 exact h
theorem fM{α:Type}{l:List (Str×α)}{n:Str}{k:α}:l.lookup n=some k->(n,k)∈l:=by
 induction l with
 |nil=>exactλh=>nn h
 |cons p r ih=>
  obtain⟨m,c⟩:=p
  intro h
  by_cases e:n=m
  ·subst e;cases oG.symm.trans h;exact .head _
  ·exact .tail _ (ih ((oH e).symm.trans h))
theorem qO{n:Str}(names:List (Str×NameKind)):∀(z:Nat) (cB:List (Str×Addr)),((n,NameKind.cell)∈names\/(cB.lookup n).isSome=true)->((cellsFrom z names cB).lookup n).isSome=true:=by
 induction names with
 |nil=>exactλZ Z h=>h.elim (λh=>(a7 h).elim) id
 |cons p r ih=>
  obtain⟨m,k⟩:=p
  intro z cB h
  unfold cellsFrom
  by_cases hk:(k==.cell)=true
  ·rw[ai hk]
   refine ih _ _ ?_
   by_cases e:n=m
   ·subst e;exact .inr (by rw[oG];rfl)
   ·exact h.elim (λh=>(au.mp h).elim (λq=>aG (Prod.mk.inj q).1 e) .inl) λh=>.inr (by rw[oH e];exact h)
  ·rw[ah hk]
   exact ih _ _ (h.imp (λh=>(au.mp h).elim (λq=>aG (by rw[<-(Prod.mk.inj q).2];rfl) hk) id) id)
theorem FT{kd:Str->Option NameKind}{n:Str}{b:List (Str×Value)}:∀{m:Str->Option Value},(∀x∈b,x.1≠n)->bindL kd b m n=m n:=by
 induction b with
 |nil=>exactλZ=>rfl
 |cons p r ih=>
  intro m h
  refine(ih λx hx=>h x (.tail _ hx)).trans ?_
  by_cases e:kd p.1=some .local
  ·rw[ai e];exact ah λe=>h _ (.head _) e.symm
  ·rw[ah e]
theorem FU{kd:Str->Option NameKind}{n:Str}{b:List (Str×Value)}:∀{m:Str->Option Value},(∀x∈b,x.1≠n)->bindC kd b m n=m n:=by
 induction b with
 |nil=>exactλZ=>rfl
 |cons p r ih=>
  intro m h
  refine(ih λx hx=>h x (.tail _ hx)).trans ?_
  by_cases e:kd p.1=some .local
  ·rw[ai e]
  ·rw[ah e];exact ah λe=>h _ (.head _) e.symm
theorem DE{kd:Str->Option NameKind}{ns:List Str}:∀{vs:List Value} {m c:Str->Option Value} {i:Nat} {n:Str} {v:Value},ns.Nodup->ns[i]?=some n->vs[i]?=some v->
  (kd n=some .local->bindL kd (ns.zip vs) m n=some v)/\(kd n≠some .local->bindC kd (ns.zip vs) c n=some v):=by
 induction ns with
 |nil=>exactλZ h Z=>nn h
 |cons y ns ih=>
  intro vs m c i n v hn h1 h2
  rw[aZ]at hn
  cases vs with
  |nil=>exact nn h2
  |cons u vs=>
   cases i with
   |zero=>
    cases h1;cases h2
    have off:∀x∈ns.zip vs,x.1≠y:=λx hx e=>hn.1 (e▸(List.of_mem_zip (a:=x.1) (b:=x.2) hx).1)
    exact⟨λh=>(FT off).trans (by rw[ai h];exact ai rfl),λh=>(FU off).trans (by rw[ah h];exact ai rfl)⟩
   |succ i=>exact ih hn.2 h1 h2
section
variable{S:Program}{w:World}{X:Heap}{mg mb:Str->Option Value}{fns:List Str}{F:Str->Option gz}{gv:Str->Option V}
def Pu(X:Heap)(mg:Str->Option Value)(fns:List Str)(F:Str->Option gz):Prop:=
 ∀f m,F f=some m->∃a o p body scope pm cd doc,mg f=some (.ref a)/\X.get? a=some o/\o.data=.func (docDef f p body scope pm cd doc)/\X.CodeRec cd f/\Pt fns p body scope m=true
theorem Vc{b:Bool}(h:(!b)=true):b=false:=by cases b with|true=>exact no h|false=>rfl
section
variable{O:Env}{scope:Scope}{dO:Heap}{fr:Addr->Prop}{s:Shared}{J:St}{binds:List (Str×Value)}
theorem DF(hL:O.locals=s.heap.objs.size)(mn:O.cells=cellsFrom (s.heap.objs.size+1) scope.names [])(dJ8:Cl s.heap.objs.size (cellsFrom (s.heap.objs.size+1) scope.names []) dO (bindC O.kindOf binds λZ=>none))(b:Addr)(l:fS O b):s.heap.get? b=none:=
 l.elim (λe=>by rw[e,hL];exact ij _) λl=>l.elim λn e=>gA _ (aT (dJ8.above n b (by rw[<-mn];exact fM e)))
theorem zw(c9:(scope.names.all λx=> !(x.2==.free))=true){n:Str}(h:scope.names.lookup n=some .free){P:Prop}:P:=
 no (av.mp c9 _ (fM h))
theorem Jr(nu:O.scope=scope)(LH:O.globals=mainGlobals)(hbl:O.builtins=builtinsNs)(hL:O.locals=s.heap.objs.size)(mn:O.cells=cellsFrom (s.heap.objs.size+1) scope.names [])(c6:scope.kind=.function)(c9:(scope.names.all λx=> !(x.2==.free))=true)
  (dJ8:Cl s.heap.objs.size (cellsFrom (s.heap.objs.size+1) scope.names []) dO (bindC O.kindOf binds λZ=>none)):dd (λb=>fr b\/fS O b) O scope.names:=by
 refine⟨⟨by rw[nu],by rw[nu];exact c6,LH,hbl,.inr (.inl rfl),λn c e=>.inr (.inr ⟨n,e⟩),λn h=>h.elim (λh=>?_) λh=>zw c9 h⟩,λn n' c e e'=>?_,λn e=>?_⟩
 ·rw[mn]
  exact bA.mp (qO _ _ _ (.inl (fM h)))
 ·rw[mn]at e e'
  exact name_of_addr dJ8.apart (fM e) (fM e')
 ·rw[mn,hL]at e
  exact Nat.lt_irrefl _ (dJ8.above n _ (fM e))
theorem Js(hL:O.locals=s.heap.objs.size)(mn:O.cells=cellsFrom (s.heap.objs.size+1) scope.names []){mL:Str->Option Value}(dJ9:Fr s.heap s.heap.objs.size dO mL)(dJ8:Cl s.heap.objs.size (cellsFrom (s.heap.objs.size+1) scope.names []) dO (bindC O.kindOf binds λZ=>none))(I:dR X fr s.heap J):
  ft s.heap dO (cf J fr) (cf J λb=>fr b\/fS O b)/\dR X (λb=>fr b\/fS O b) dO J:=by
 have nw:=DF hL mn dJ8
 refine⟨⟨λb o Z e=>dJ9.keep b o e,λb u=>u.elim (λu=>.inl (.inl u)) λu=>u.elim (λu=>.inl (.inr u)) λu=>.inr (nw b u)⟩,I.widen dJ9.keep λb u=>u.imp id λl=>⟨nw b l,l.elim (λe=>?_) λl=>l.elim λn e=>?_⟩⟩
 ·obtain⟨o,_,_,ho,_⟩:=dJ9.ns
  exact⟨o,by rw[e,hL];exact ho⟩
 ·obtain⟨o,ho,_⟩:=dJ8.cell n b (by rw[<-mn];exact e)
  exact⟨o,ho⟩
theorem wG{vs:List Value}{xs:List V}{nm ns:List Str}{np i:Nat}{x:V}{n:Str}{U:Addr->Prop}(r:cw dO U vs xs)(hl:xs.length=np)(s8:nm.take np=ns)(h:(xs.map some++List.replicate (nm.length- np) none)[i]?=some (some x))(hn:nm[i]?=some n):
  ∃v,ns[i]?=some n/\vs[i]?=some v/\a_ dO U v x:=by
 rcases cM i xs.length with hi|hi
 ·rw[cj (by rw[ag];exact hi),aA]at h
  obtain⟨y,hy,e⟩:=aO.mp h
  cases e
  obtain⟨v,hv,rv⟩:=r.get hy
  exact⟨v,by rw[<-s8,List.getElem?_take,ai (hl▸hi)];exact hn,hv,rv⟩
 ·rw[ba (by rw[ag];exact hi),List.getElem?_replicate]at h
  split at h
  ·cases h
  ·exact nn h
theorem Jt{vs:List Value}{xs:List V}{nm ns:List Str}{np:Nat}{U:Addr->Prop}(hL:O.locals=s.heap.objs.size)(mn:O.cells=cellsFrom (s.heap.objs.size+1) scope.names [])(hkk:∀n,O.kindOf n=scope.names.lookup n)(c9:(scope.names.all λx=> !(x.2==.free))=true)
  (dJ9:Fr s.heap s.heap.objs.size dO (bindL O.kindOf (ns.zip vs) λZ=>none)) (dJ8:Cl s.heap.objs.size (cellsFrom (s.heap.objs.size+1) scope.names []) dO (bindC O.kindOf (ns.zip vs) λZ=>none)) (r:cw dO U vs xs) (hl:xs.length=np) (s8:nm.take np=ns) (nZ:ns.Nodup):
  cU dO U O nm (xs.map some++List.replicate (nm.length- np) none):=by
 refine⟨⟨_,by rw[hL];exact dJ9.ns,λi x n ha hn hk=>?_⟩,λi x n ha hn hk=>?_,λn c e=>⟨_,dJ8.cell n c (by rw[<-mn];exact e)⟩⟩
 ·obtain⟨v,e1,e2,rv⟩:=wG r hl s8 ha hn
  exact⟨v,(DE (c:=λZ=>none) nZ e1 e2).1 hk,rv⟩
 ·obtain⟨v,e1,e2,rv⟩:=wG r hl s8 ha hn
  have hkc:O.kindOf n=some .cell:=hk.elim id λh=>zw c9 (hkk n▸h)
  obtain⟨c,hc⟩:=bA.mp (qO (n:=n) scope.names (s.heap.objs.size+1) [] (.inl (fM (hkk n▸hkc))))
  exact⟨c,v,by rw[mn];exact hc,(DE (kd:=O.kindOf) (m:=λZ=>none) (c:=λZ=>none) nZ e1 e2).2 (λe=>nomatch hkc.symm.trans e)▸dJ8.cell n c hc,rv⟩
theorem FV{tk:Nat}{s':Shared}{σ':St}(kp:∀b o,s.heap.get? b=some o->dO.get? b=some o)(nw:∀b,fS O b->s.heap.get? b=none)(ps:Ps X (λb=>fr b\/fS O b) (fS O) {s with heap:=dO,toks:=tk} J s' σ'):Pe X fr s J s' σ':=by
 refine⟨?_,⟨λb o n e=>ps.old b o n (λl=>nn ((nw b l).symm.trans e)) (kp b o e),λb u=>(ps.new b u).imp id λe=>?_⟩,ps.inv.narrow λb f=>.inl f⟩
 ·obtain⟨h2,t2,rfl⟩:=ps.same
  exact⟨_,_,rfl⟩
 ·cases e':s.heap.get? b with
  |none=>rfl
  |some o=>exact nn ((show dO.get? b=none from e).symm.trans (kp b o e'))
end
theorem By(gl:∀k,Gl X mg mb (XN F gv k) fns)(hF:Pu X mg fns F)(YV:X.NoLimit)(k:Nat):∀(A:Around),h_ k A->nv S w A X (XN F gv k) k mg:=by
 induction k with
 |zero=>exactλA ak f a fr s J vs xs Q hf I r hq=>hq.elim
 |succ k ih=>
  intro A ak f a fr s J vs xs Q hf I r hq
  have hq:(match F f with
   |none=>False
   |some m=>xs.length=m.np/\fN (XN F gv k) k m.body (xs.map some++List.replicate (m.nm.length- m.np) none) J λfl Z σ'=>match fl with
    |.ret v=>∃fm,Sub fm σ'/\Q v fm
    |.next=>∃fm,Sub fm σ'/\Q .none fm
    |_=>False):=hq
  revert hq
  cases hm:F f with
  |none=>exactλh=>h.elim
  |some m=>
   intro hq
   obtain⟨a',o,p,body,scope,pm,cd,doc,h1,h2,h3,h4,h5⟩:=hF f m hm
   cases hf.symm.trans h1
   refine AL h5 λc1 c2 c3 h5=>AL h5 λc4 c5 c6 h5=>AL h5 λc7 c8 c9 c10=>?_
   have c3:=bh c3
   have c6:=bh c6
   have nZ:=FQ c2
   have s7:(i_ p.args).length=vs.length:=by
    rw[<-c3,List.length_take,Nat.min_eq_left (bh c4),r.length,hq.1]
   refine wpAny_call (call_cells_ret (bI (bI (cW (Nat.succ_pos k)) ak.dep) (by decide)) (I.base _ _ h2) h3 (YV.keeps I.base) (h4.keeps I.base) (Bw (fd:=docDef f p body scope pm cd doc) c1 rfl nZ s7) (λx hx=>?_) (λdO tk dJ9 dJ8=>?_) (Vc c7) (Vc c8) c6)
   ·exact(j3 (av.mp c5 _ (List.of_mem_zip (a:=x.1) (b:=x.2) hx).1)).imp id λh=>⟨h,qO _ _ _ (.inl (fM h))⟩
   ·have iv:=Js (O:=envOfC f scope s.heap.objs.size a cd) rfl rfl dJ9 dJ8 I
    have nw:=DF (O:=envOfC f scope s.heap.objs.size a cd) rfl rfl dJ8
    have ak':h_ k (A.deeper (envOfC f scope s.heap.objs.size a cd)):=⟨ak.hh,ae (aP (bo A.depth k)) ak.dep,ae (aP (bW A.units 3 (10*k))) (ae (aF (show 3<=10 by decide) (A.units+10*k)) ak.uni)⟩
    refine ay (FP (gl k) (ih _ ak') ak' 60 body m.body c10 _ _ _ J _ (Jr rfl rfl rfl rfl rfl c6 c9 dJ8) (Jt rfl rfl (λZ=>rfl) c9 dJ9 dJ8 (r.keep iv.1) hq.1 c3 nZ) iv.2 hq.2) (λfl s' h=>?_) λZ Z x=>x
    obtain⟨f',dT,σ',ps,XO,_,hQ⟩:=h
    have pe:=FV dJ9.keep nw ps
    revert hQ
    exact XO.el (λh=>h.elim λfm h=>⟨.none,fm,pe.sub h.1,.none,h.2⟩) (λh=>h.elim) (λh=>h.elim) λv x rv h=>h.elim λfm hs=>⟨_,fm,pe.sub hs.1,rv.less λb u=>u.elim (λh=>by
     obtain⟨q,e⟩:=bA.mp h
     exact .inl (by rw[hs.1 b q e];rfl)) λf=>.inr (.inl f),hs.2⟩
end
noncomputable def rN:gz:=⟨["order","powers",""],2,[.ifs (.cmp .eq (.aE 0) (.ck (.str "lex"))) [.ret (.aE 1)] [],
  .ifs (.cmp .eq (.aE 0) (.ck (.str "grlex"))) [.ret (.bin .add (.bZ [.bi .sum false [.aE 1]]) (.aE 1))] [],
  .ifs (.cmp .eq (.aE 0) (.ck (.str "grevlex"))) [.ret (.bin .add (.bZ [.bi .sum false [.aE 1]]) (.bi .tuple false [.lc false (.neg (.aE 2)) [.mk (.one 2) (.val (.rev (.aE 1))) []]]))] [],
  .bad]⟩
noncomputable def kP:gz:=⟨["a","b","",""],2,[.ret (.bi .tuple false [.lc false (.bin .add (.aE 3) (.sub (.aE 1) (.aE 2))) [.mk (.two 2 3) (.enum (.aE 0)) []]])]⟩
noncomputable def lZ:gz:=⟨["a","b","at","one"],2,[.fr (.two 2 3) (.enum (.aE 0)) [.ifs (.cmp .gt (.aE 3) (.sub (.aE 1) (.aE 2))) [.ret (.ck (.bool false))] []],
  .ret (.ck (.bool true))]⟩
noncomputable def j4:gz:=⟨["a","b","",""],2,[.ret (.bi .tuple false [.lc false (.bin .sub (.aE 3) (.sub (.aE 1) (.aE 2))) [.mk (.two 2 3) (.enum (.aE 0)) []]])]⟩
noncomputable def oe:gz:=⟨["a","b","",""],2,[.ret (.bi .tuple false [.lc false (.bi .max false [.aE 3,.sub (.aE 1) (.aE 2)]) [.mk (.two 2 3) (.enum (.aE 0)) []]])]⟩
noncomputable def og:gz:=⟨["a","b","",""],2,[.ret (.bi .tuple false [.lc false (.bi .min false [.aE 3,.sub (.aE 1) (.aE 2)]) [.mk (.two 2 3) (.enum (.aE 0)) []]])]⟩
noncomputable def rO:gz:=⟨["a","b"],2,[.ret (.cmp .eq (.bi .sum false [.call "powers_meet" [.aE 0,.aE 1]]) (.ck (.int 0)))]⟩
noncomputable def Px:gz:=⟨["a","b"],2,[.iF [0,1] (.bZ [.bi .abs false [.aE 0],.bi .abs false [.aE 1]]),
  .OK (.cmp .ne (.aE 1) (.ck (.int 0))) [.iF [0,1] (.bZ [.aE 1,.bin .mod (.aE 0) (.aE 1)])],
  .ret (.aE 0)]⟩
noncomputable def Py:gz:=⟨["top","bottom","g"],2,[.ifs (.cmp .eq (.aE 1) (.ck (.int 0))) [.bad] [],
  .asg 2 (.ite (.cmp .gt (.aE 1) (.ck (.int 0))) (.call "gcd" [.aE 0,.aE 1]) (.bin .sub (.ck (.int 0)) (.call "gcd" [.aE 0,.aE 1]))),
  .ret (.bZ [.bin .fdiv (.aE 0) (.aE 2),.bin .fdiv (.aE 1) (.aE 2)])]⟩
noncomputable def Ju:gz:=⟨["a","b"],2,[.ret (.call "rat" [.bin .add (.bin .mul (.sub (.aE 0) (.ck (.int 0))) (.sub (.aE 1) (.ck (.int 1)))) (.bin .mul (.sub (.aE 1) (.ck (.int 0))) (.sub (.aE 0) (.ck (.int 1)))),.bin .mul (.sub (.aE 0) (.ck (.int 1))) (.sub (.aE 1) (.ck (.int 1)))])]⟩
noncomputable def Jv:gz:=⟨["a","b"],2,[.ret (.call "rat" [.bin .mul (.sub (.aE 0) (.ck (.int 0))) (.sub (.aE 1) (.ck (.int 0))),.bin .mul (.sub (.aE 0) (.ck (.int 1))) (.sub (.aE 1) (.ck (.int 1)))])]⟩
noncomputable def Jw:gz:=⟨["a","b"],2,[.ret (.call "rat" [.bin .mul (.sub (.aE 0) (.ck (.int 0))) (.sub (.aE 1) (.ck (.int 1))),.bin .mul (.sub (.aE 0) (.ck (.int 1))) (.sub (.aE 1) (.ck (.int 0)))])]⟩
noncomputable def Jx:gz:=⟨["a"],1,[.ret (.bZ [.bin .sub (.ck (.int 0)) (.sub (.aE 0) (.ck (.int 0))),.sub (.aE 0) (.ck (.int 1))])]⟩
noncomputable def Jy:gz:=⟨["a"],1,[.ret (.call "rat" [.sub (.aE 0) (.ck (.int 1)),.sub (.aE 0) (.ck (.int 0))])]⟩
noncomputable def zx:gz:=⟨["powers","rational"],2,[.ret (.ite (.cmp .eq (.aE 1) (.yI "R0")) (.ou false) (.qu false (.aE 0) (.aE 1)))]⟩
noncomputable def uh:gz:=⟨["rational","n"],2,[.ret (.call "mvterm" [.bin .mul (.bZ [.ck (.int 0)]) (.aE 1),.aE 0])]⟩
noncomputable def ui:gz:=⟨["at","n",""],2,[.ret (.qu false (.bi .tuple false [.lc false (.ite (.cmp .eq (.aE 2) (.aE 0)) (.ck (.int 1)) (.ck (.int 0))) [.mk (.one 2) (.range (.aE 1)) []]]) (.yI "R1"))]⟩
noncomputable def DG:gz:=⟨["a","b","found","powers"],2,[.asg 2 (.bi .dict true [.aE 0]),
  .fr (.one 3) (.val (.aE 1)) [.ex (.call "add_term" [.aE 2,.aE 3,.sub (.aE 1) (.aE 3)])],
  .ret (.aE 2)]⟩
noncomputable def uj:gz:=⟨["found","powers","rational","total"],3,[.asg 3 (.ite (.cmp .CT (.aE 1) (.aE 0)) (.call "radd" [.sub (.aE 0) (.aE 1),.aE 2]) (.aE 2)),
  .ifs (.cmp .eq (.aE 3) (.yI "R0")) [.ex (.met .rD (.aE 0) [.aE 1,.ck .none])] [.put (.aE 0) (.aE 1) (.aE 3)]]⟩
noncomputable def DH:gz:=⟨["a",""],1,[.ret (.dc false (.aE 1) (.call "rneg" [.sub (.aE 0) (.aE 1)]) [.mk (.one 1) (.val (.aE 0)) []])]⟩
noncomputable def DJ:gz:=⟨["a","b"],2,[.ret (.call "mvadd" [.aE 0,.call "mvneg" [.aE 1]])]⟩
noncomputable def wH:gz:=⟨["a","rational",""],2,[.ifs (.cmp .eq (.aE 1) (.yI "R0")) [.ret (.ou false)] [],
  .ret (.dc false (.aE 2) (.call "rmul" [.sub (.aE 0) (.aE 2),.aE 1]) [.mk (.one 2) (.val (.aE 0)) []])]⟩
noncomputable def wI:gz:=⟨["a","powers","rational",""],3,[.ifs (.cmp .eq (.aE 2) (.yI "R0")) [.ret (.ou false)] [],
  .ret (.dc false (.call "powers_product" [.aE 3,.aE 1]) (.call "rmul" [.sub (.aE 0) (.aE 3),.aE 2]) [.mk (.one 3) (.val (.aE 0)) []])]⟩
noncomputable def DK:gz:=⟨["a","b","found","powers","one"],2,[.asg 2 (.ou true),
  .fr (.one 3) (.val (.aE 1)) [.fr (.one 4) (.val (.aE 0)) [.ex (.call "add_term" [.aE 2,.call "powers_product" [.aE 4,.aE 3],.call "rmul" [.sub (.aE 0) (.aE 4),.sub (.aE 1) (.aE 3)]])]],
  .ret (.CU (.aE 2))]⟩
noncomputable def zy:gz:=⟨["a","order","best","highest","powers","place"],2,[.iF [2,3] (.bZ [.ck .none,.ck .none]),
  .fr (.one 4) (.val (.aE 0)) [.asg 5 (.call "order_key" [.aE 1,.aE 4]),
  .ifs (.or (.cmp .GQ (.aE 2) (.ck .none)) (.cmp .gt (.aE 5) (.aE 3))) [.iF [2,3] (.bZ [.aE 4,.aE 5])] []],
  .ret (.ite (.cmp .GQ (.aE 2) (.ck .none)) (.ck .none) (.bZ [.aE 2,.sub (.aE 0) (.aE 2)]))]⟩
noncomputable def wJ:gz:=⟨["a","order","first"],2,[.asg 2 (.call "mvlead" [.aE 0,.aE 1]),
  .ret (.ite (.cmp .GQ (.aE 2) (.ck .none)) (.ou false) (.call "mvscale" [.aE 0,.call "rinv" [.sub (.aE 2) (.ck (.int 1))]]))]⟩
noncomputable def wK:gz:=⟨["a","many",""],2,[.ret (.dc false (.bin .add (.bin .mul (.bZ [.ck (.int 0)]) (.aE 1)) (.aE 2)) (.sub (.aE 0) (.aE 2)) [.mk (.one 2) (.val (.aE 0)) []])]⟩
noncomputable def uk:gz:=⟨["a","many",""],2,[.ret (.dc false (.qs false (.aE 2) (some (.aE 1)) none) (.sub (.aE 0) (.aE 2)) [.mk (.one 2) (.val (.aE 0)) []])]⟩
noncomputable def l4:gz:=⟨["powers","leads","at","one"],2,[.fr (.two 2 3) (.enum (.aE 1)) [.ifs (.and (.cmp .EJ (.aE 3) (.ck .none)) (.call "powers_divide" [.sub (.aE 3) (.ck (.int 0)),.aE 0])) [.ret (.aE 2)] []],
  .ret (.neg (.ck (.int 1)))]⟩
noncomputable def um:gz:=⟨["f","some","order","","leads","","quotients","rest","left","powers","rational","at","shift","factor"],3,[.asg 4 (.lc false (.call "mvlead" [.aE 3,.aE 2]) [.mk (.one 3) (.val (.aE 1)) []]),
  .asg 6 (.lc false (.ou true) [.mk (.one 5) (.val (.aE 1)) []]),
  .iF [7,8] (.bZ [.ou true,.bi .dict true [.aE 0]]),
  .OK (.cmp .gt (.bi .len false [.aE 8]) (.ck (.int 0))) [.iF [9,10] (.call "mvlead" [.aE 8,.aE 2]),
  .asg 11 (.call "first_divisor" [.aE 9,.aE 4]),
  .ifs (.cmp .lt (.aE 11) (.ck (.int 0))) [.put (.aE 7) (.aE 9) (.aE 10),
  .ex (.met .rC (.aE 8) [.aE 9]),
  .cont] [],
  .iF [12,13] (.bZ [.call "powers_quotient" [.aE 9,.sub (.sub (.aE 4) (.aE 11)) (.ck (.int 0))],.call "rdiv" [.aE 10,.sub (.sub (.aE 4) (.aE 11)) (.ck (.int 1))]]),
  .ex (.call "add_term" [.sub (.aE 6) (.aE 11),.aE 12,.aE 13]),
  .asg 8 (.call "mvsub" [.aE 8,.call "mvshift" [.sub (.aE 1) (.aE 11),.aE 12,.aE 13]])],
  .ret (.bZ [.aE 6,.CU (.aE 7)])]⟩
noncomputable def wL:gz:=⟨["f","some","order"],3,[.ret (.sub (.call "mvdivide" [.aE 0,.aE 1,.aE 2]) (.ck (.int 1)))]⟩
noncomputable def zz:gz:=⟨["f","g","order","one","other","joined","first"],3,[.iF [3,4] (.bZ [.call "mvlead" [.aE 0,.aE 2],.call "mvlead" [.aE 1,.aE 2]]),
  .asg 5 (.call "powers_join" [.sub (.aE 3) (.ck (.int 0)),.sub (.aE 4) (.ck (.int 0))]),
  .asg 6 (.call "mvshift" [.aE 0,.call "powers_quotient" [.aE 5,.sub (.aE 3) (.ck (.int 0))],.call "rinv" [.sub (.aE 3) (.ck (.int 1))]]),
  .ret (.CU (.call "mvsub" [.aE 6,.call "mvshift" [.aE 1,.call "powers_quotient" [.aE 5,.sub (.aE 4) (.ck (.int 0))],.call "rinv" [.sub (.aE 4) (.ck (.int 1))]]]))]⟩
noncomputable def pN:gz:=⟨["powers","leads",""],2,[.ret (.cmp .ge (.call "first_divisor" [.aE 0,.lc false (.bZ [.aE 2,.yI "R1"]) [.mk (.one 2) (.val (.aE 1)) []]]) (.ck (.int 0)))]⟩
noncomputable def uo:gz:=⟨["pair","leads","order","joined"],3,[.asg 3 (.call "powers_join" [.sub (.aE 1) (.sub (.aE 0) (.ck (.int 0))),.sub (.aE 1) (.sub (.aE 0) (.ck (.int 1)))]),
  .ret (.bZ [.call "order_key" [.aE 2,.aE 3],.aE 0])]⟩
noncomputable def oh:gz:=⟨["pair","waiting","leads","one","other","joined","at","powers"],3,[.iF [3,4] (.aE 0),
  .ifs (.call "are_apart" [.sub (.aE 2) (.aE 3),.sub (.aE 2) (.aE 4)]) [.ret (.ck (.bool true))] [],
  .asg 5 (.call "powers_join" [.sub (.aE 2) (.aE 3),.sub (.aE 2) (.aE 4)]),
  .fr (.two 6 7) (.enum (.aE 2)) [.ifs (.or (.cmp .CT (.aE 6) (.aE 0)) (.not (.call "powers_divide" [.aE 7,.aE 5]))) [.cont] [],
  .ifs (.and (.cmp .n7 (.bZ [.bi .min false [.aE 3,.aE 6],.bi .max false [.aE 3,.aE 6]]) (.aE 1)) (.cmp .n7 (.bZ [.bi .min false [.aE 4,.aE 6],.bi .max false [.aE 4,.aE 6]]) (.aE 1))) [.ret (.ck (.bool true))] []],
  .ret (.ck (.bool false))]⟩
noncomputable def pO:gz:=⟨["waiting","leads","order","best","place","pair","told"],3,[.iF [3,4] (.bZ [.ck .none,.ck .none]),
  .fr (.one 5) (.val (.aE 0)) [.asg 6 (.call "pair_key" [.aE 5,.aE 1,.aE 2]),
  .ifs (.or (.cmp .GQ (.aE 3) (.ck .none)) (.cmp .lt (.aE 6) (.aE 4))) [.iF [3,4] (.bZ [.aE 5,.aE 6])] []],
  .ret (.aE 3)]⟩
noncomputable def ur:gz:=⟨["some","order","most","","basis","","leads","","","waiting","done","pair","","rest",""],3,[.asg 4 (.lc true (.call "mvmonic" [.aE 3,.aE 1]) [.mk (.one 3) (.val (.aE 0)) [.cmp .gt (.bi .len false [.aE 3]) (.ck (.int 0))]]),
  .asg 6 (.lc true (.sub (.call "mvlead" [.aE 5,.aE 1]) (.ck (.int 0))) [.mk (.one 5) (.val (.aE 4)) []]),
  .asg 9 (.lc true (.bZ [.aE 8,.aE 7]) [.mk (.one 7) (.range (.bi .len false [.aE 4])) [],.mk (.one 8) (.range (.aE 7)) []]),
  .asg 10 (.ck (.int 0)),
  .OK (.cmp .gt (.bi .len false [.aE 9]) (.ck (.int 0))) [.asg 11 (.call "least_pair" [.aE 9,.aE 6,.aE 1]),
  .asg 9 (.lc true (.aE 12) [.mk (.one 12) (.val (.aE 9)) [.cmp .ne (.aE 12) (.aE 11)]]),
  .ifs (.call "is_needless" [.aE 11,.aE 9,.aE 6]) [.cont] [],
  .aug 10 (.ck (.int 1)),
  .ifs (.cmp .gt (.aE 10) (.aE 2)) [.bad] [],
  .asg 13 (.call "rest_of" [.call "s_poly" [.sub (.aE 4) (.sub (.aE 11) (.ck (.int 0))),.sub (.aE 4) (.sub (.aE 11) (.ck (.int 1))),.aE 1],.aE 4,.aE 1]),
  .ifs (.cmp .gt (.bi .len false [.aE 13]) (.ck (.int 0))) [.ex (.met .extend (.aE 9) [.lc false (.bZ [.aE 14,.bi .len false [.aE 4]]) [.mk (.one 14) (.range (.bi .len false [.aE 4])) []]]),
  .ex (.met .append (.aE 4) [.call "mvmonic" [.aE 13,.aE 1]]),
  .ex (.met .append (.aE 6) [.sub (.call "mvlead" [.aE 13,.aE 1]) (.ck (.int 0))])] []],
  .ret (.CU (.aE 4))]⟩
noncomputable def l5:gz:=⟨["basis","order","","found","","leads","kept","at","powers","","others"],2,[.asg 3 (.lc false (.aE 2) [.mk (.one 2) (.val (.aE 0)) [.cmp .gt (.bi .len false [.aE 2]) (.ck (.int 0))]]),
  .asg 5 (.lc false (.sub (.call "mvlead" [.aE 4,.aE 1]) (.ck (.int 0))) [.mk (.one 4) (.val (.aE 3)) []]),
  .asg 6 (.a9 true []),
  .fr (.two 7 8) (.enum (.aE 5)) [.asg 10 (.cat false (.qs false (.aE 5) none (some (.aE 7))) (.lc false (.aE 9) [.mk (.one 9) (.val (.qs false (.aE 5) (some (.bin .add (.aE 7) (.ck (.int 1)))) none)) [.cmp .ne (.aE 9) (.aE 8)]])),
  .ifs (.not (.call "is_divided" [.aE 8,.aE 10])) [.ex (.met .append (.aE 6) [.sub (.aE 3) (.aE 7)])] []],
  .ret (.aE 6)]⟩
noncomputable def mJ:gz:=⟨["basis","order","found","at","","","keyed","",""],2,[.asg 2 (.call "minimal_basis" [.aE 0,.aE 1]),
  .fr (.one 3) (.range (.bi .len false [.aE 2])) [.put (.aE 2) (.aE 3) (.call "mvmonic" [.call "rest_of" [.sub (.aE 2) (.aE 3),.cat false (.qs false (.aE 2) none (some (.aE 3))) (.qs false (.aE 2) (some (.bin .add (.aE 3) (.ck (.int 1)))) none),.aE 1],.aE 1])],
  .asg 6 (.lc true (.bZ [.call "order_key" [.aE 1,.sub (.call "mvlead" [.aE 5,.aE 1]) (.ck (.int 0))],.aE 4]) [.mk (.two 4 5) (.enum (.aE 2)) []]),
  .ex (.met .sort (.aE 6) []),
  .ret (.lc false (.sub (.aE 2) (.aE 8)) [.mk (.two 7 8) (.val (.aE 6)) []])]⟩
noncomputable def l6:gz:=⟨["some","order","most"],3,[.ret (.call "reduced_form" [.call "groebner" [.aE 0,.aE 1,.aE 2],.aE 1])]⟩
noncomputable def rP:gz:=⟨["f","basis","order"],3,[.ret (.cmp .eq (.bi .len false [.call "rest_of" [.aE 0,.aE 1,.aE 2]]) (.ck (.int 0)))]⟩
noncomputable def uu:gz:=⟨["basis",""],1,[.ret (.bi .any false [.lc false (.and (.cmp .eq (.bi .len false [.aE 1]) (.ck (.int 1))) (.cmp .eq (.bi .sum false [.sub (.bi .list false [.aE 1]) (.ck (.int 0))]) (.ck (.int 0)))) [.mk (.one 1) (.val (.aE 0)) []]])]⟩
noncomputable def pP:gz:=⟨["f","many",""],2,[.ret (.bi .all false [.lc false (.cmp .eq (.bi .sum false [.qs false (.aE 2) none (some (.aE 1))]) (.ck (.int 0))) [.mk (.one 2) (.val (.aE 0)) []]])]⟩
noncomputable def rQ:gz:=⟨["some","many","most",""],3,[.ret (.lc false (.aE 3) [.mk (.one 3) (.val (.call "reduced_basis" [.aE 0,.ck (.str "lex"),.aE 2])) [.call "is_free_of" [.aE 3,.aE 1]]])]⟩
noncomputable def wM:gz:=⟨["some","others","n","most","first","second","","mixed","",""],4,[.asg 4 (.call "mvletter" [.ck (.int 0),.bin .add (.aE 2) (.ck (.int 1))]),
  .asg 5 (.CU (.call "mvsub" [.call "mvnumber" [.yI "R1",.bin .add (.aE 2) (.ck (.int 1))],.aE 4])),
  .asg 7 (.lc true (.call "mvmul" [.call "mvwiden" [.aE 6,.ck (.int 1)],.aE 4]) [.mk (.one 6) (.val (.aE 0)) []]),
  .ex (.met .extend (.aE 7) [.lc false (.call "mvmul" [.call "mvwiden" [.aE 8,.ck (.int 1)],.aE 5]) [.mk (.one 8) (.val (.aE 1)) []]]),
  .ret (.lc false (.call "mvnarrow" [.aE 9,.ck (.int 1)]) [.mk (.one 9) (.val (.call "eliminate" [.aE 7,.ck (.int 1),.aE 3])) []])]⟩
noncomputable def l7:gz:=⟨["f","some","n","most","one","told",""],4,[.asg 4 (.call "mvnumber" [.yI "R1",.bin .add (.aE 2) (.ck (.int 1))]),
  .asg 5 (.CU (.call "mvsub" [.aE 4,.call "mvmul" [.call "mvletter" [.ck (.int 0),.bin .add (.aE 2) (.ck (.int 1))],.call "mvwiden" [.aE 0,.ck (.int 1)]]])),
  .ret (.call "is_whole" [.call "reduced_basis" [.cat false (.lc false (.call "mvwiden" [.aE 6,.ck (.int 1)]) [.mk (.one 6) (.val (.aE 1)) []]) (.a9 false [.aE 5]),.ck (.str "grevlex"),.aE 3]])]⟩
noncomputable def rR:gz:=⟨["basis","order","n","","leads","","at",""],3,[.asg 4 (.lc false (.sub (.call "mvlead" [.aE 3,.aE 1]) (.ck (.int 0))) [.mk (.one 3) (.val (.aE 0)) []]),
  .ifs (.bi .any false [.lc false (.cmp .eq (.bi .sum false [.aE 5]) (.ck (.int 0))) [.mk (.one 5) (.val (.aE 4)) []]]) [.ret (.ck (.bool true))] [],
  .fr (.one 6) (.range (.aE 2)) [.ifs (.not (.bi .any false [.lc false (.and (.cmp .gt (.sub (.aE 7) (.aE 6)) (.ck (.int 0))) (.cmp .eq (.bi .sum false [.aE 7]) (.sub (.aE 7) (.aE 6)))) [.mk (.one 7) (.val (.aE 4)) []]])) [.ret (.ck (.bool false))] []],
  .ret (.ck (.bool true))]⟩
noncomputable def j5:gz:=⟨["basis","order","n","","leads","found","waiting","known","powers","at"],3,[.asg 4 (.lc false (.sub (.call "mvlead" [.aE 3,.aE 1]) (.ck (.int 0))) [.mk (.one 3) (.val (.aE 0)) []]),
  .iF [5,6,7] (.bZ [.a9 true [],.a9 true [.bin .mul (.bZ [.ck (.int 0)]) (.aE 2)],.ou true]),
  .OK (.cmp .gt (.bi .len false [.aE 6]) (.ck (.int 0))) [.asg 8 (.met .pop (.aE 6) []),
  .ifs (.or (.cmp .CT (.aE 8) (.aE 7)) (.call "is_divided" [.aE 8,.aE 4])) [.cont] [],
  .put (.aE 7) (.aE 8) (.ck (.bool true)),
  .ex (.met .append (.aE 5) [.aE 8]),
  .fr (.one 9) (.range (.aE 2)) [.ex (.met .append (.aE 6) [.bin .add (.bin .add (.qs false (.aE 8) none (some (.aE 9))) (.bZ [.bin .add (.sub (.aE 8) (.aE 9)) (.ck (.int 1))])) (.qs false (.aE 8) (some (.bin .add (.aE 9) (.ck (.int 1)))) none)])]],
  .ret (.bi .sorted false [.aE 5])]⟩
noncomputable def uv:gz:=⟨["box","wide"],2,[.put (.aE 0) (.ck (.int 1)) (.bin .add (.sub (.aE 0) (.ck (.int 1))) (.ck (.int 1))),
  .ifs (.cmp .gt (.bi .len false [.sub (.aE 0) (.ck (.int 0))]) (.ck (.int 0))) [.ret (.bin .mod (.bi .abs false [.met .rB (.sub (.aE 0) (.ck (.int 0))) [.ck (.int 0)]]) (.aE 1))] [],
  .ret (.bin .mod (.bin .add (.bin .add (.bin .mul (.ck (.int 7)) (.sub (.aE 0) (.ck (.int 1)))) (.bin .fdiv (.bin .mul (.sub (.aE 0) (.ck (.int 1))) (.sub (.aE 0) (.ck (.int 1)))) (.ck (.int 3)))) (.sub (.aE 0) (.ck (.int 2)))) (.aE 1))]⟩
noncomputable def uw:gz:=⟨["rows","found","powers","whole",""],1,[.asg 1 (.ou true),
  .fr (.two 2 3) (.val (.aE 0)) [.put (.aE 1) (.aE 2) (.bin .add (.met .yH (.aE 1) [.aE 2,.ck (.int 0)]) (.aE 3))],
  .ret (.dc false (.aE 4) (.bZ [.sub (.aE 1) (.aE 4),.ck (.int 1)]) [.mk (.one 4) (.val (.aE 1)) [.cmp .ne (.sub (.aE 1) (.aE 4)) (.ck (.int 0))]])]⟩
noncomputable def rS:gz:=⟨["rows",""],1,[.ret (.lc false (.bZ [.aE 1,.sub (.sub (.aE 0) (.aE 1)) (.ck (.int 0))]) [.mk (.one 1) (.val (.aE 0)) []])]⟩
noncomputable def rT:gz:=⟨["one","other","","","",""],2,[.ret (.call "_law_made" [.lc false (.bZ [.bZ [.bin .add (.sub (.aE 2) (.ck (.int 0))) (.sub (.aE 4) (.ck (.int 0))),.bin .add (.sub (.aE 2) (.ck (.int 1))) (.sub (.aE 4) (.ck (.int 1)))],.bin .mul (.aE 3) (.aE 5)]) [.mk (.two 2 3) (.val (.call "_law_plain" [.aE 0])) [],.mk (.two 4 5) (.val (.call "_law_plain" [.aE 1])) []]])]⟩
noncomputable def wN:gz:=⟨["one","other","many","",""],3,[.ret (.call "_law_made" [.cat false (.call "_law_plain" [.aE 0]) (.lc false (.bZ [.aE 3,.bin .mul (.aE 2) (.aE 4)]) [.mk (.two 3 4) (.val (.call "_law_plain" [.aE 1])) []])])]⟩
noncomputable def rU:gz:=⟨["places","found","place"],1,[.asg 1 (.qu false (.bZ [.ck (.int 0),.ck (.int 0)]) (.bZ [.ck (.int 1),.ck (.int 1)])),
  .fr (.one 2) (.val (.aE 0)) [.asg 1 (.call "_law_times" [.aE 1,.call "_law_made" [.a9 false [.bZ [.bZ [.ck (.int 1),.ck (.int 0)],.ck (.int 1)],.bZ [.bZ [.ck (.int 0),.ck (.int 0)],.bin .sub (.ck (.int 0)) (.aE 2)]]]])],
  .ret (.aE 1)]⟩
noncomputable def pQ:gz:=⟨["heights","x","",""],2,[.ret (.bi .sum false [.lc false (.bin .mul (.aE 3) (.bin .pow (.aE 1) (.aE 2))) [.mk (.two 2 3) (.enum (.aE 0)) []]])]⟩
noncomputable def rV:gz:=⟨["heights","",""],1,[.ret (.call "_law_made" [.cat false (.a9 false [.bZ [.bZ [.ck (.int 0),.ck (.int 1)],.ck (.int 1)]]) (.lc false (.bZ [.bZ [.aE 1,.ck (.int 0)],.bin .sub (.ck (.int 0)) (.aE 2)]) [.mk (.two 1 2) (.enum (.aE 0)) []])])]⟩
noncomputable def rW:gz:=⟨["rows","x","y","",""],3,[.ret (.bi .sum false [.lc false (.bin .mul (.bin .mul (.aE 4) (.bin .pow (.aE 1) (.sub (.aE 3) (.ck (.int 0))))) (.bin .pow (.aE 2) (.sub (.aE 3) (.ck (.int 1))))) [.mk (.two 3 4) (.val (.call "_law_plain" [.aE 0])) []]])]⟩
noncomputable def jh:gz:=⟨["box","basis","order","places","heights","","rows","drawn","","is_zero","","some","product"],5,[.asg 6 (.lc false (.bZ [.bZ [.call "_law_take" [.aE 0,.ck (.int 3)],.call "_law_take" [.aE 0,.ck (.int 2)]],.bin .sub (.call "_law_take" [.aE 0,.ck (.int 5)]) (.ck (.int 2))]) [.mk (.one 5) (.range (.ck (.int 3))) []]),
  .asg 7 (.call "_law_made" [.aE 6]),
  .asg 9 (.cmp .eq (.lc false (.aE 8) [.mk (.one 8) (.val (.aE 3)) [.cmp .ne (.call "_law_worth" [.aE 7,.aE 8,.call "_law_height" [.aE 4,.aE 8]]) (.ck (.int 0))]]) (.a9 false [])),
  .asg 11 (.lc false (.aE 10) [.mk (.one 10) (.val (.aE 3)) [.cmp .gt (.call "_law_take" [.aE 0,.ck (.int 3)]) (.ck (.int 0))]]),
  .asg 12 (.call "_law_zeros" [.aE 11]),
  .ifs (.or (.cmp .ne (.call "is_member" [.aE 7,.aE 1,.aE 2]) (.aE 9)) (.cmp .ne (.call "is_member" [.aE 12,.aE 1,.aE 2]) (.cmp .eq (.aE 11) (.aE 3)))) [.ret (.ck (.bool false))] [],
  .ret (.not (.call "is_member" [.call "_law_sum" [.qu false (.bZ [.ck (.int 0),.ck (.int 0)]) (.bZ [.ck (.int 1),.ck (.int 1)]),.aE 12,.ite (.cmp .eq (.aE 11) (.aE 3)) (.neg (.ck (.int 1))) (.ck (.int 0))],.aE 1,.aE 2]))]⟩
noncomputable def ji:gz:=⟨["order","places","heights","zeros","above","some","basis"],3,[.iF [3,4] (.bZ [.call "_law_zeros" [.aE 1],.call "_law_above" [.aE 2]]),
  .asg 5 (.a9 false [.call "_law_times" [.aE 3,.aE 3],.aE 4]),
  .asg 6 (.call "reduced_basis" [.aE 5,.aE 0,.ck (.int 200)]),
  .ifs (.or (.cmp .ne (.bi .len false [.call "standard_powers" [.aE 6,.aE 0,.ck (.int 2)]]) (.bin .mul (.ck (.int 2)) (.bi .len false [.aE 1]))) (.call "is_member" [.aE 3,.aE 6,.aE 0])) [.ret (.ck (.bool false))] [],
  .ret (.and (.call "is_in_radical" [.aE 3,.aE 5,.ck (.int 2),.ck (.int 200)]) (.not (.call "is_in_radical" [.call "_law_sum" [.aE 3,.qu false (.bZ [.ck (.int 0),.ck (.int 0)]) (.bZ [.ck (.int 1),.ck (.int 1)]),.ck (.int 1)],.aE 5,.ck (.int 2),.ck (.int 200)])))]⟩
noncomputable def jG:gz:=⟨["places","heights","","lots"],2,[.asg 3 (.lc false (.a9 false [.call "_law_zeros" [.a9 false [.aE 2]],.call "_law_made" [.a9 false [.bZ [.bZ [.ck (.int 0),.ck (.int 1)],.ck (.int 1)],.bZ [.bZ [.ck (.int 0),.ck (.int 0)],.bin .sub (.ck (.int 0)) (.call "_law_height" [.aE 1,.aE 2])]]]]) [.mk (.one 2) (.val (.aE 0)) []]),
  .ret (.cmp .eq (.call "meet_of" [.sub (.aE 3) (.ck (.int 0)),.sub (.aE 3) (.ck (.int 1)),.ck (.int 2),.ck (.int 200)]) (.call "reduced_basis" [.a9 false [.call "_law_zeros" [.aE 0],.call "_law_above" [.aE 1]],.ck (.str "lex"),.ck (.int 200)]))]⟩
noncomputable def zA:gz:=⟨["script","box","many","x","places","turn","","heights","order","zeros","above","basis"],1,[.asg 1 (.a9 true [.bi .list true [.qs false (.aE 0) none (some (.ck (.int 30)))],.ck (.int 0),.bin .mod (.bi .sum false [.qs false (.aE 0) none (some (.ck (.int 30)))]) (.ck (.int 997))]),
  .iF [2,3,4] (.bZ [.bin .add (.ck (.int 1)) (.call "_law_take" [.aE 1,.ck (.int 3)]),.bin .sub (.ck (.int 0)) (.ck (.int 2)),.a9 true []]),
  .fr (.one 5) (.range (.aE 2)) [.asg 3 (.bin .add (.bin .add (.aE 3) (.ck (.int 1))) (.call "_law_take" [.aE 1,.ck (.int 2)])),
  .ex (.met .append (.aE 4) [.aE 3])],
  .yJ 4,
  .iF [7,8] (.bZ [.lc false (.bin .sub (.call "_law_take" [.aE 1,.ck (.int 5)]) (.ck (.int 2))) [.mk (.one 6) (.val (.aE 4)) []],.sub (.bZ [.ck (.str "lex"),.ck (.str "grlex"),.ck (.str "grevlex")]) (.call "_law_take" [.aE 1,.ck (.int 3)])]),
  .iF [9,10] (.bZ [.call "_law_zeros" [.aE 4],.call "_law_above" [.aE 7]]),
  .asg 11 (.call "reduced_basis" [.a9 false [.call "_law_sum" [.aE 9,.aE 10,.call "_law_take" [.aE 1,.ck (.int 3)]],.aE 10],.aE 8,.ck (.int 200)]),
  .ifs (.or (.not (.call "is_finite" [.aE 11,.aE 8,.ck (.int 2)])) (.cmp .ne (.bi .len false [.call "standard_powers" [.aE 11,.aE 8,.ck (.int 2)]]) (.aE 2))) [.ret (.ck (.bool false))] [],
  .ifs (.not (.call "_law_members_right" [.aE 1,.aE 11,.aE 8,.aE 4,.aE 7])) [.ret (.ck (.bool false))] [],
  .ifs (.cmp .eq (.aE 2) (.ck (.int 1))) [.ret (.call "_law_squared_right" [.aE 8,.aE 4,.aE 7])] [],
  .ret (.or (.cmp .eq (.aE 2) (.ck (.int 3))) (.call "_law_common_right" [.aE 4,.aE 7]))]⟩
def ux:List (Str×gz):=[(("order_key":Str),rN),(("powers_product":Str),kP),(("powers_divide":Str),lZ),(("powers_quotient":Str),j4),(("powers_join":Str),oe),(("powers_meet":Str),og),(("are_apart":Str),rO),(("gcd":Str),Px),(("rat":Str),Py),(("radd":Str),Ju),(("rmul":Str),Jv),(("rdiv":Str),Jw),(("rneg":Str),Jx),(("rinv":Str),Jy),(("mvterm":Str),zx),(("mvnumber":Str),uh),(("mvletter":Str),ui),(("mvadd":Str),DG),(("add_term":Str),uj),(("mvneg":Str),DH),(("mvsub":Str),DJ),(("mvscale":Str),wH),(("mvshift":Str),wI),(("mvmul":Str),DK),(("mvlead":Str),zy),(("mvmonic":Str),wJ),(("mvwiden":Str),wK),(("mvnarrow":Str),uk),(("first_divisor":Str),l4),(("mvdivide":Str),um),(("rest_of":Str),wL),(("s_poly":Str),zz),(("is_divided":Str),pN),(("pair_key":Str),uo),(("is_needless":Str),oh),(("least_pair":Str),pO),(("groebner":Str),ur),(("minimal_basis":Str),l5),(("reduced_form":Str),mJ),(("reduced_basis":Str),l6),(("is_member":Str),rP),(("is_whole":Str),uu),(("is_free_of":Str),pP),(("eliminate":Str),rQ),(("meet_of":Str),wM),(("is_in_radical":Str),l7),(("is_finite":Str),rR),(("standard_powers":Str),j5),(("_law_take":Str),uv),(("_law_made":Str),uw),(("_law_plain":Str),rS),(("_law_times":Str),rT),(("_law_sum":Str),wN),(("_law_zeros":Str),rU),(("_law_height":Str),pQ),(("_law_above":Str),rV),(("_law_worth":Str),rW),(("_law_members_right":Str),jh),(("_law_squared_right":Str),ji),(("_law_common_right":Str),jG),(("law":Str),zA)]
def MP:List Str:=ux.map (·.1)
end
section
open PySem
def F(f:Str):Option gz:=ux.lookup f
noncomputable def bj(m:List Int):V:=.bZ (m.map .int)
noncomputable def eu(q:Rat):V:=.bZ [.int q.num,.int q.den]
def gv(n:Str):Option V:=if n="R0"then some (eu 0)else if n="R1"then some (eu 1)else none
abbrev CA:=xQ F gv
abbrev Wk(k:Nat):Wd:=⟨λZ=>CA k,gv⟩
def kQ(K:V->St->Prop)(fl:Fl)(_:du)(σ':St):Prop:=match fl with
 |.ret v=>∃fm,Sub fm σ'/\K v fm
 |.next=>∃fm,Sub fm σ'/\K .none fm
 |_=>False
theorem enter{f:Str}{m:gz}{k:Nat}{xs:List V}{J:St}{K:V->St->Prop}(hm:F f=some m)(hl:xs.length=m.np)
  (h:fN (Wk k) k m.body (xs.map some++List.replicate (m.nm.length- m.np) none) J (kQ K)):CA (k+1) f xs J K:=by
 unfold CA xQ
 rw[hm]
 exact⟨hl,h⟩
theorem Sub.refl(J:St):Sub J J:=λZ Z h=>h
theorem cG{K:V->St->Prop}{v:V}{Y:du}{J:St}(h:K v J):kQ K (.ret v) Y J:=⟨J,Sub.refl J,h⟩
theorem zB:F "order_key"=some rN:=by kernel_rfl
theorem qP:F "powers_product"=some kP:=by kernel_rfl
theorem sO:F "powers_divide"=some lZ:=by kernel_rfl
theorem pR:F "powers_quotient"=some j4:=by kernel_rfl
theorem vB:F "powers_join"=some oe:=by kernel_rfl
theorem vC:F "powers_meet"=some og:=by kernel_rfl
theorem zC:F "are_apart"=some rO:=by kernel_rfl
theorem Ve:F "gcd"=some Px:=by kernel_rfl
theorem Vf:F "rat"=some Py:=by kernel_rfl
theorem Rq:F "radd"=some Ju:=by kernel_rfl
theorem Rt:F "rmul"=some Jv:=by kernel_rfl
theorem Ru:F "rdiv"=some Jw:=by kernel_rfl
theorem Rv:F "rneg"=some Jx:=by kernel_rfl
theorem Rw:F "rinv"=some Jy:=by kernel_rfl
theorem Jz:F "mvterm"=some zx:=by kernel_rfl
theorem Bz:F "mvnumber"=some uh:=by kernel_rfl
theorem BA:F "mvletter"=some ui:=by kernel_rfl
theorem MQ:F "mvadd"=some DG:=by kernel_rfl
theorem BB:F "add_term"=some uj:=by kernel_rfl
theorem MR:F "mvneg"=some DH:=by kernel_rfl
theorem MS:F "mvsub"=some DJ:=by kernel_rfl
theorem FW:F "mvscale"=some wH:=by kernel_rfl
theorem FX:F "mvshift"=some wI:=by kernel_rfl
theorem MT:F "mvmul"=some DK:=by kernel_rfl
theorem JA:F "mvlead"=some zy:=by kernel_rfl
theorem FY:F "mvmonic"=some wJ:=by kernel_rfl
theorem FZ:F "mvwiden"=some wK:=by kernel_rfl
theorem BC:F "mvnarrow"=some uk:=by kernel_rfl
theorem sP:F "first_divisor"=some l4:=by kernel_rfl
theorem BD:F "mvdivide"=some um:=by kernel_rfl
theorem F0:F "rest_of"=some wL:=by kernel_rfl
theorem JB:F "s_poly"=some zz:=by kernel_rfl
theorem xS:F "is_divided"=some pN:=by kernel_rfl
theorem BE:F "pair_key"=some uo:=by kernel_rfl
theorem vD:F "is_needless"=some oh:=by kernel_rfl
theorem xT:F "least_pair"=some pO:=by kernel_rfl
theorem BF:F "groebner"=some ur:=by kernel_rfl
theorem sQ:F "minimal_basis"=some l5:=by kernel_rfl
theorem uy:F "reduced_form"=some mJ:=by kernel_rfl
theorem sR:F "reduced_basis"=some l6:=by kernel_rfl
theorem zD:F "is_member"=some rP:=by kernel_rfl
theorem BG:F "is_whole"=some uu:=by kernel_rfl
theorem xU:F "is_free_of"=some pP:=by kernel_rfl
theorem zE:F "eliminate"=some rQ:=by kernel_rfl
theorem F1:F "meet_of"=some wM:=by kernel_rfl
theorem sS:F "is_in_radical"=some l7:=by kernel_rfl
theorem zF:F "is_finite"=some rR:=by kernel_rfl
theorem pS:F "standard_powers"=some j5:=by kernel_rfl
theorem BH:F "_law_take"=some uv:=by kernel_rfl
theorem BI:F "_law_made"=some uw:=by kernel_rfl
theorem zG:F "_law_plain"=some rS:=by kernel_rfl
theorem zH:F "_law_times"=some rT:=by kernel_rfl
theorem F2:F "_law_sum"=some wN:=by kernel_rfl
theorem zI:F "_law_zeros"=some rU:=by kernel_rfl
theorem xV:F "_law_height"=some pQ:=by kernel_rfl
theorem zJ:F "_law_above"=some rV:=by kernel_rfl
theorem zK:F "_law_worth"=some rW:=by kernel_rfl
theorem n0:F "_law_members_right"=some jh:=by kernel_rfl
theorem n4:F "_law_squared_right"=some ji:=by kernel_rfl
theorem oI:F "_law_common_right"=some jG:=by kernel_rfl
theorem Vg:F "law"=some zA:=by kernel_rfl
section
theorem le{a b:Nat}(h:Nat.ble a b=true):a<=b:=aX h
theorem dy{a b c:Nat}(h:a<=b)(h2:Nat.ble b c=true):a<=c:=ae h (aX h2)
noncomputable def szB:V->Bool
 |.a9 l=>Nat.ble l.length 100000
 |.bC l=>Nat.ble l.length 100000
 |.bZ l=>Nat.ble l.length 100000
 |_=>true
noncomputable def pT:V->Option Bool
 |.bool b=>some b
 |_=>none
noncomputable def YW:V->Option V
 |.int i=>some (.int (-i))
 |_=>none
noncomputable def YX:V->Option V
 |.bZ l=>if Nat.ble l.length 100000=true then some (.bZ l.reverse)else none
 |_=>none
def DL:V->Option (List Int)
 |.bZ ks=>dN ks
 |_=>none
def uz(z:V):Option V:=if szB z=true then some z else none
def Vh(own:Bool)(z:V):Option V:=bif own then none else uz z
section
variable(J:St)(Y:du)
mutual
noncomputable def pv:E->Option V
 |.aE i=>Y[i]?.bind id
 |.ck v=>some v
 |.yI n=>gv n
 |.bin o a b=>(pv a).bind λx=>(pv b).bind λy=>ig o x y
 |.cmp o a b=>(pv a).bind λx=>(pv b).bind λy=>(iG J o x y).bind λc=>some (.bool c)
 |.sub a i=>(pv a).bind λx=>(pv i).bind λy=>iT J x y
 |.bZ l=>(xW l).bind λxs=>if Nat.ble xs.length 100000=true then some (.bZ xs)else none
 |.bi m own l=>(xW l).bind λxs=>(vp J m xs).bind (Vh own)
 |.qs own a lo hi=>(pv a).bind λx=>(YY lo).bind λl=>(YY hi).bind λu=>(kz J x l u).bind (Vh own)
 |.neg a=>(pv a).bind YW
 |.not a=>(pv a).bind λx=>(pT x).bind λb=>some (.bool (!b))
 |.and a b=>(pv a).bind λx=>(pT x).bind λc=>bif c then(pv b).bind λy=>(pT y).bind λd=>some (.bool d)else some (.bool false)
 |.or a b=>(pv a).bind λx=>(pT x).bind λc=>bif c then some (.bool true)else(pv b).bind λy=>(pT y).bind λd=>some (.bool d)
 |.ite c a b=>(pv c).bind λx=>(pT x).bind λd=>bif d then pv a else pv b
 |.rev a=>(pv a).bind YX
 |.ou own=>bif own then none else some (.bC [])
 |.qu own a b=>(pv a).bind λx=>(DL x).bind λk=>(pv b).bind λy=>bif own then none else some (.bC [(k,y)])
 |.a9 own l=>(xW l).bind λxs=>bif own then none else if Nat.ble xs.length 100000=true then some (.a9 xs)else none
 |.cat _ _ _=>none
 |.lc _ _ _=>none
 |.dc _ _ _ _=>none
 |.call _ _=>none
 |.met _ _ _=>none
 |.CU _=>none
noncomputable def xW:List E->Option (List V)
 |[]=>some []
 |e::r=>(pv e).bind λx=>(xW r).bind λxs=>some (x::xs)
noncomputable def YY:Option E->Option (Option V)
 |none=>some none
 |some e=>(pv e).bind λx=>some (some x)
end
end
theorem cV{α β:Type}{a:Option α}{f:α->Option β}{x:α}{y:β}(h:a=some x)(h2:f x=some y):a.bind f=some y:=by rw[h];exact h2
theorem YZ{α β:Type}{a:Option α}{f:α->Option β}{y:β}(h:a.bind f=some y):∃x,a=some x/\f x=some y:=Option.bind_eq_some_iff.mp h
theorem sj{α:Type}{x v:α}{Q:α->St->Prop}{J:St}(q:Q v J)(h:some x=some v):Q x J:=(aW h).symm▸q
theorem zL{x:V}{m:List Int}(h:DL x=some m):∃ks,x=.bZ ks/\dN ks=some m:=by
 cases x with
 |bZ ks=>exact⟨ks,rfl,h⟩
 |_=>cases h
theorem pU{x:V}{b:Bool}(h:pT x=some b):x=.bool b:=by
 cases x with
 |bool c=>cases h;rfl
 |_=>cases h
theorem DM{z v:V}(h:uz z=some v):z=v/\ey v:=by
 unfold uz at h
 by_cases e:szB z=true
 ·rw[ai e]at h;cases h
  refine⟨rfl,?_⟩
  cases z with
  |a9=>exact le e
  |bC=>exact le e
  |bZ=>exact le e
  |_=>trivial
 ·rw[ah e]at h;cases h
theorem wQ{z:V}{J:St}{Q:V->St->Prop}(q:Q z J):gI false z J Q:=by
 cases z<;>exact q
section
variable{W:Wd}{k:Nat}{J:St}{Y:du}
theorem f9{α β:Type}{a:Option α}{f:α->Option β}{y:β}{P:Prop}(h:a.bind f=some y)(K:∀x,a=some x->f x=some y->P):P:=(YZ h).elim λx q=>K x q.1 q.2
theorem JC{α:Type}{b:Bool}{a:Option α}{y:α}{P:Bool->Prop}(h:(bif b then none else a)=some y)(K:a=some y->P false):P b:=by
 cases b with
 |true=>exact nn h
 |false=>exact K h
theorem MU{o:Option V}{P:V->Prop}{z:V}(h:o=some z)(q:P z):match(generalizing:=false) o with|some z=>P z|none=>False:=by rw[h];exact q
theorem Vi{o:Option Bool}{P:Bool->Prop}{z:Bool}(h:o=some z)(q:P z):match(generalizing:=false) o with|some z=>P z|none=>False:=by rw[h];exact q
theorem Pz{x:V}{P:Bool->Prop}{b:Bool}(h:pT x=some b)(q:P b):match(generalizing:=false) x with|.bool b=>P b|_=>False:=by
 rw[pU h];exact q
def BJ(W:Wd)(k:Nat)(J:St)(Y:du)(e:E):Prop:=∀(v:V) (Q:V->St->Prop),pv J Y e=some v->Q v J->wE W k e Y J Q
def PvL(W:Wd)(k:Nat)(J:St)(Y:du)(l:List E):Prop:=∀(v:List V) (Q:List V->St->Prop),xW J Y l=some v->Q v J->vq W k l Y J Q
def PvO(W:Wd)(k:Nat)(J:St)(Y:du)(o:Option E):Prop:=∀(v:Option V) (Q:Option V->St->Prop),YY J Y o=some v->Q v J->wO W k o Y J Q
section
variable{a b c:E}{l:List E}(ha:BJ W k J Y a)(hb:BJ W k J Y b)(hc:BJ W k J Y c)(hl:PvL W k J Y l)
theorem Vj(i:Nat):BJ W k J Y (.aE i):=λv Q h q=>by
 have e:Y[i]?=some (some v):=f9 h λx h1 h2=>h1.trans (ao some h2)
 show(match Y[i]? with|some (some x)=>Q x J|_=>False)
 rw[e];exact q
include ha
theorem Vk:BJ W k J Y (.neg a):=λv Q h q=>f9 h λx h1 h=>ha x _ h1 (by
 cases x with
 |int i=>exact sj (Q:=Q) q h
 |_=>exact nn h)
theorem Vl:BJ W k J Y (.not a):=λv Q h q=>f9 h λx h1 h=>f9 h λb h2 h=>ha x _ h1 (Pz (P:=λb=>Q (.bool (!b)) J) h2 (sj (Q:=Q) q h))
theorem Vm:BJ W k J Y (.rev a):=λv Q h q=>f9 h λx h1 h=>ha x _ h1 (by
 cases x with
 |bZ l=>exact qr h λhl h=>⟨le hl,sj (Q:=Q) q h⟩
 |_=>exact nn h)
include hb
theorem Vn(o:Ha):BJ W k J Y (.bin o a b):=λv Q h q=>f9 h λx h1 h=>f9 h λy h2 h=>ha x _ h1 (hb y _ h2 (MU (P:=λz=>Q z J) h q))
theorem Vo(o:GP):BJ W k J Y (.cmp o a b):=λv Q h q=>f9 h λx h1 h=>f9 h λy h2 h=>f9 h λc h3 h=>ha x _ h1 (hb y _ h2 (Vi (P:=λz=>Q (.bool z) J) h3 (sj (Q:=Q) q h)))
theorem Vp:BJ W k J Y (.sub a b):=λv Q h q=>f9 h λx h1 h=>f9 h λy h2 h=>ha x _ h1 (hb y _ h2 (MU (P:=λz=>Q z J) h q))
theorem PA{v:V}{Q:V->St->Prop}(h:((pv J Y b).bind λy=>(pT y).bind λd=>some (.bool d))=some v)(q:Q v J):wE W k b Y J λy J=>match y with|.bool c=>Q (.bool c) J|_=>False:=
 f9 h λy h3 h=>f9 h λd h4 h=>hb y _ h3 (Pz (P:=λc=>Q (.bool c) J) h4 (sj (Q:=Q) q h))
theorem Vq:BJ W k J Y (.and a b):=λv Q h q=>f9 h λx h1 h=>f9 h λc h2 h=>ha x _ h1 (by
 cases pU h2
 cases c with
 |false=>exact sj (Q:=Q) q h
 |true=>exact PA ha hb h q)
theorem Y0:BJ W k J Y (.or a b):=λv Q h q=>f9 h λx h1 h=>f9 h λc h2 h=>ha x _ h1 (by
 cases pU h2
 cases c with
 |true=>exact sj (Q:=Q) q h
 |false=>exact PA ha hb h q)
theorem Rx(own:Bool):BJ W k J Y (.qu own a b):=λv Q h q=>f9 h λx h1 h=>f9 h λm h2 h=>f9 h λy h3 h=>JC (P:=λown=>wE W k (.qu own a b) Y J Q) h λh=>ha x _ h1 (hb y _ h3 (by
 obtain⟨ks,hx,hk⟩:=zL h2
 rw[hx]
 show(match dN ks with
  |some k=>Q (.bC [(k,y)]) J
  |none=>False)
 rw[hk]
 exact sj (Q:=Q) q h))
include hc
theorem Vr:BJ W k J Y (.ite c a b):=λv Q h q=>f9 h λx h1 h=>f9 h λd h2 h=>hc x _ h1 (by
 cases pU h2
 cases d with
 |true=>exact ha v Q h q
 |false=>exact hb v Q h q)
end
theorem iE(hg:W.He=gv)(e:E){v:V}{Q:V->St->Prop}(h:pv J Y e=some v)(q:Q v J):wE W k e Y J Q:=
 E.rec (motive_1:=BJ W k J Y) (motive_2:=λZ=>True) (motive_3:=λZ=>True) (motive_4:=PvL W k J Y) (motive_5:=λZ=>True) (motive_6:=PvO W k J Y)
  Vj (λZ v Q h q=>sj q h)
  (λn v Q h q=>by
   show(match W.He n with|some x=>Q x J|none=>False)
   rw[hg,show gv n=some v from h];exact q)
  (λo Z Z ha hb=>Vn ha hb o) (λZ Z Z Z Z Z Z h=>nn h) (λZ=>Vk) (λZ=>Vl) (λZ Z=>Vq) (λZ Z=>Y0) (λo Z Z ha hb=>Vo ha hb o) (λZ Z Z hc ha hb=>Vr ha hb hc)
  (λl hl v Q h q=>f9 h λxs h1 h=>hl xs _ h1 (qr h λhl h=>⟨le hl,sj (Q:=Q) q h⟩))
  (λown l hl v Q h q=>f9 h λxs h1 h=>JC (P:=λown=>wE W k (.a9 own l) Y J Q) h λh=>hl xs _ h1 (qr h λhl h=>⟨le hl,sj (Q:=Q) q h⟩))
  (λown v Q h q=>JC (P:=λown=>wE W k (.ou own) Y J Q) h λh=>sj (Q:=Q) q h)
  (λown Z Z ha hb=>Rx ha hb own) (λZ Z Z Z Z Z Z h=>nn h) (λZ Z Z Z Z Z Z Z Z h=>nn h) (λZ Z=>Vp)
  (λown a lo hi ha hlo Y1 v Q h q=>f9 h λx h1 h=>f9 h λl h2 h=>f9 h λu h3 h=>f9 h λz h4 h=>JC (P:=λown=>wE W k (.qs own a lo hi) Y J Q) h λh=>ha x _ h1 (hlo l _ h2 (Y1 u _ h3 (by
   obtain⟨rfl,h5⟩:=DM h
   exact MU (P:=λz=>ey z/\gI false z J Q) h4 ⟨h5,wQ q⟩))))
  (λZ=>Vm) (λZ Z Z Z Z h=>nn h)
  (λm own l hl v Q h q=>f9 h λxs h1 h=>f9 h λz h2 h=>JC (P:=λown=>wE W k (.bi m own l) Y J Q) h λh=>hl xs _ h1 (by
   obtain⟨rfl,h3⟩:=DM h
   exact MU (P:=λz=>ey z/\gI false z J Q) h2 ⟨h3,wQ q⟩))
  (λZ Z Z Z Z Z Z h=>nn h) (λZ Z Z Z h=>nn h) (λZ Z=>trivial) (λZ Z=>trivial) (λZ Z=>trivial) (λZ Z Z Z Z=>trivial)
  (λv Q h q=>sj (Q:=Q) q h) (λe r he hr v Q h q=>f9 h λx h1 h=>f9 h λys h2 h=>he x _ h1 (hr ys _ h2 (sj (Q:=Q) q h)))
  trivial (λZ Z Z Z=>trivial) (λv Q h q=>sj (Q:=Q) q h) (λe he v Q h q=>f9 h λy h1 h=>he y _ h1 (sj (Q:=Q) q h)) e v Q h q
theorem lD(hg:W.He=gv)(l:List E):∀{xs:List V} {Q:List V->St->Prop},xW J Y l=some xs->Q xs J->vq W k l Y J Q:=by
 induction l with
 |nil=>exactλh q=>sj q h
 |cons e r ih=>exactλ{xs Q} h q=>f9 h λx h1 h=>f9 h λys h2 h=>iE hg e (Q:=λx J=>vq W k r Y J λxs J=>Q (x::xs) J) h1 (ih h2 (sj (Q:=Q) q h))
end
section
variable{k:Nat}{J:St}{Y:du}{Q:V->St->Prop}{e:E}{l r:List E}{x v:V}{xs:List V}{f:Str}
theorem ja(h:pv J Y e=some v)(q:Q v J):wE (Wk k) k e Y J Q:=iE rfl e h q
theorem dM(h:pv J Y e=some x)(h2:xW J Y r=some xs):xW J Y (e::r)=some (x::xs):=cV h (cV h2 rfl)
theorem cx(h:xW J Y l=some xs)(q:CA k f xs J Q):wE (Wk k) k (.call f l) Y J Q:=lD rfl l h q
theorem mK{a:E}(ha:pv J Y a=some x)(h:wE (Wk k) k e Y J λy J=>CA k f [x,y] J Q):wE (Wk k) k (.call f [a,e]) Y J Q:=
 ja (Q:=λx J=>wE (Wk k) k e Y J λy J=>CA k f [x,y] J Q) ha h
theorem uA{a c:E}(ha:pv J Y a=some x)(h:wE (Wk k) k e Y J λy J=>wE (Wk k) k c Y J λz J=>CA k f [x,y,z] J Q):wE (Wk k) k (.call f [a,e,c]) Y J Q:=
 ja (Q:=λx J=>wE (Wk k) k e Y J λy J=>wE (Wk k) k c Y J λz J=>CA k f [x,y,z] J Q) ha h
theorem Ry{a:E}(ha:pv J Y a=some x)(h:wE (Wk k) k e Y J λy J=>vq (Wk k) k r Y J λzs J=>CA k f (x::y::zs) J Q):wE (Wk k) k (.call f (a::e::r)) Y J Q:=
 ja (Q:=λx J=>wE (Wk k) k e Y J λy J=>vq (Wk k) k r Y J λzs J=>CA k f (x::y::zs) J Q) ha h
theorem Rz{i:Nat}{y:V}(h:wE (Wk k) k e Y J λx J=>CA k f [x,y] J Q)(hi:∀J,pv J Y (.aE i)=some y):wE (Wk k) k (.call f [e,.aE i]) Y J Q:=by
 have h3:∀(J:St) (R:V->St->Prop),wE (Wk k) k (.aE i) Y J R=R y J:=λJ R=>by
  have e:Y[i]?=some (some y):=f9 (hi J) λx h1 h2=>h1.trans (ao some h2)
  show(match Y[i]? with|some (some x)=>R x J|_=>False)=_
  rw[e]
 have e2:(λ(x:V) (J:St)=>wE (Wk k) k (.aE i) Y J λy J=>CA k f [x,y] J Q)=_:=funext λx=>funext λJ=>h3 J _
 show wE (Wk k) k e Y J λx J=>wE (Wk k) k (.aE i) Y J λy J=>CA k f [x,y] J Q
 rw[e2];exact h
theorem gK(h:wE (Wk k) k e Y J λx J=>vq (Wk k) k r Y J λxs J=>CA k f (x::xs) J Q):wE (Wk k) k (.call f (e::r)) Y J Q:=h
theorem oJ{b:Bool}{Q:Bool->St->Prop}(h:pv J Y e=some (.bool b))(q:Q b J):dW (Wk k) k e Y J Q:=iE rfl e h q
def MV(m:Me)(a:Addr)(Q:V->St->Prop)(ys:List V)(J:St):Prop:=∃ob c c' r,aY J a=some (ob,c)/\mu J m c ys=some (c',r)/\ey c/\ey c'/\∀o',Q r (gN J a o' c')
theorem MW(m:Me)(a:Addr)(Q:V->St->Prop):MV m a Q=λys J=>match V.ref a with
  |.ref a=>(match aY J a with
   |some (_,c)=>(match mu J m c ys with
    |some (c',r)=>ey c/\ey c'/\∀o',Q r (gN J a o' c')
    |none=>False)
   |none=>False)
  |_=>False:=by
 funext ys J
 refine propext ⟨λh=>?_,λh=>?_⟩
 ·obtain⟨ob,c,c',r,h1,h2,h3⟩:=h
  show(match aY J a with|some (_,c)=>(match mu J m c ys with|some (c',r)=>ey c/\ey c'/\∀o',Q r (gN J a o' c')|none=>False)|none=>False)
  rw[h1];dsimp only;rw[h2];exact h3
 ·have h:(match aY J a with|some (_,c)=>(match mu J m c ys with|some (c',r)=>ey c/\ey c'/\∀o',Q r (gN J a o' c')|none=>False)|none=>False):=h
  cases e:aY J a with
  |none=>rw[e]at h;exact h.elim
  |some p=>
   obtain⟨ob,c⟩:=p
   rw[e]at h;dsimp only at h
   cases e2:mu J m c ys with
   |none=>rw[e2]at h;exact h.elim
   |some p=>obtain⟨c',r⟩:=p;rw[e2]at h;exact⟨ob,c,c',r,e,e2,h⟩
theorem RA{m:Me}{a:Addr}{ob:Obj}{c:V}{o:E}(ho:pv J Y o=some (.ref a))(h:aY J a=some (ob,c))(hk:rE m c=true)(q:vq (Wk k) k l Y J (MV m a Q)):wE (Wk k) k (.met m o l) Y J Q:=by
 rw[MW]at q
 refine ja (Q:=λx J=>Hd J m x=true/\vq (Wk k) k l Y J λys J=>match x with
  |.ref a=>(match aY J a with
   |some (_,c)=>(match mu J m c ys with
    |some (c',r)=>ey c/\ey c'/\∀o',Q r (gN J a o' c')
    |none=>False)
   |none=>False)
  |_=>False) ho ⟨?_,q⟩
 show(match aY J a with|some (_,c)=>rE m c|none=>false)=true
 rw[h];exact hk
theorem Vs{a:Addr}{ob:Obj}{c:List V}{N:Nat}(h:aY J a=some (ob,.a9 c))(hl:c.length=N)(hN:N<=1000)(q:∀o',Q .none (gN J a o' (.a9 (c++[v])))):MV .append a Q [v] J:=
 ⟨ob,_,_,_,h,rfl,by show List.length _<=100000;rw[hl];exact dy hN rfl,by show List.length _<=100000;rw[aC,hl];exact dy (aL hN) rfl,q⟩
theorem JD{m:Me}{a:Addr}{ob:Obj}{c:V}{o:E}(ho:pv J Y o=some (.ref a))(h:aY J a=some (ob,c))(hk:rE m c=true)(q:wE (Wk k) k e Y J λx J=>MV m a Q [x] J):wE (Wk k) k (.met m o [e]) Y J Q:=RA ho h hk q
theorem td(o:Option V)(P:V->Prop):(match o with|some z=>P z|none=>False)=∃z,o=some z/\P z:=by
 cases o with
 |none=>exact propext ⟨False.elim,λh=>h.elim λz h=>nn h.1⟩
 |some a=>exact propext ⟨λh=>⟨a,rfl,h⟩,λh=>h.elim λz h=>aW h.1▸h.2⟩
theorem JE(o:Option Bool)(P:Bool->Prop):(match o with|some z=>P z|none=>False)=∃z,o=some z/\P z:=by
 cases o with
 |none=>exact propext ⟨False.elim,λh=>h.elim λz h=>nn h.1⟩
 |some a=>exact propext ⟨λh=>⟨a,rfl,h⟩,λh=>h.elim λz h=>aW h.1▸h.2⟩
theorem JF(y:V)(Q:V->St->Prop):(λx J=>match iT J x y with|some z=>Q z J|none=>False)=λx J=>∃z,iT J x y=some z/\Q z J:=funext λx=>funext λJ=>td (iT J x y) λz=>Q z J
theorem Vt(m:Bi)(own:Bool)(Q:V->St->Prop):(λxs J=>match vp J m xs with|some z=>ey z/\gI own z J Q|none=>False)=λxs J=>∃z,vp J m xs=some z/\ey z/\gI own z J Q:=funext λx=>funext λJ=>td (vp J m x) λz=>ey z/\gI own z J Q
theorem BK(o:GP)(y:V)(Q:V->St->Prop):(λx J=>match iG J o x y with|some z=>Q (.bool z) J|none=>False)=λx J=>∃c,iG J o x y=some c/\Q (.bool c) J:=funext λx=>funext λJ=>JE (iG J o x y) λz=>Q (.bool z) J
theorem RB(o:Ha)(x:V)(Q:V->St->Prop):(λy J=>match ig o x y with|some z=>Q z J|none=>False)=λ(y:V) (J:St)=>∃z,ig o x y=some z/\Q z J:=funext λy=>funext λJ=>td (ig o x y) λz=>Q z J
theorem DN{o:Ha}{a:E}(ha:pv J Y a=some v)(h:wE (Wk k) k e Y J λy J=>∃z,ig o v y=some z/\Q z J):wE (Wk k) k (.bin o a e) Y J Q:=by
 rw[<-RB]at h
 exact ja (Q:=λx J=>wE (Wk k) k e Y J λy J=>match ig o x y with|some z=>Q z J|none=>False) ha h
theorem zN{o:GP}{y:V}(h:wE (Wk k) k e Y J λx J=>∃c,iG J o x y=some c/\Q (.bool c) J):wE (Wk k) k (.cmp o e (.ck y)) Y J Q:=by
 rw[<-BK]at h;exact h
theorem PB{o:GP}{b:E}{y:V}(hb:∀(J:St) (R:V->St->Prop),wE (Wk k) k b Y J R=R y J)(h:wE (Wk k) k e Y J λx J=>∃c,iG J o x y=some c/\Q (.bool c) J):wE (Wk k) k (.cmp o e b) Y J Q:=by
 have e2:(λ(x:V) (J:St)=>wE (Wk k) k b Y J λy J=>match iG J o x y with|some z=>Q (.bool z) J|none=>False)=λx J=>∃c,iG J o x y=some c/\Q (.bool c) J:=by
  rw[<-BK]
  funext x J
  rw[hb]
 show wE (Wk k) k e Y J λx J=>wE (Wk k) k b Y J λy J=>match iG J o x y with|some z=>Q (.bool z) J|none=>False
 rw[e2];exact h
theorem mM{m:Bi}{own:Bool}(h:wE (Wk k) k e Y J λx J=>∃z,vp J m [x]=some z/\ey z/\gI own z J Q):wE (Wk k) k (.bi m own [e]) Y J Q:=by
 have h:vq (Wk k) k [e] Y J λxs J=>∃z,vp J m xs=some z/\ey z/\gI own z J Q:=h
 rw[<-Vt]at h;exact h
theorem oK{gs:List G}(hf:iH gs Y=true)(h:mv (mw (Wk k) k gs) (λY J cB K=>wE (Wk k) k e Y J λv J=>cB.length<=100000/\K J (cB++[v])) Y J [] λJ cB=>Q (.a9 cB) J):wE (Wk k) k (.lc false e gs) Y J Q:=⟨hf,h⟩
theorem JG{a b:E}{c:Bool}(hc:pv J Y e=some (.bool c))(h:if c then wE (Wk k) k a Y J Q else wE (Wk k) k b Y J Q):wE (Wk k) k (.ite e a b) Y J Q:=
 ja (Q:=λx J=>match x with
  |.bool true=>wE (Wk k) k a Y J Q
  |.bool false=>wE (Wk k) k b Y J Q
  |_=>False) hc (by cases c<;>exact h)
theorem MX(Q:V->St->Prop)(x:V):(λy J=>[x,y].length<=100000/\Q (.bZ [x,y]) J)=λy J=>Q (.bZ [x,y]) J:=by
 funext y J
 exact propext ⟨λh=>h.2,λh=>⟨le rfl,h⟩⟩
theorem l8{a b:E}(h:wE (Wk k) k a Y J λx J=>wE (Wk k) k b Y J λy J=>Q (.bZ [x,y]) J):wE (Wk k) k (.bZ [a,b]) Y J Q:=by
 have e:(λx J=>wE (Wk k) k b Y J λy J=>Q (.bZ [x,y]) J)=λx J=>wE (Wk k) k b Y J λy J=>[x,y].length<=100000/\Q (.bZ [x,y]) J:=by
  funext x J;rw[MX]
 rw[e]at h;exact h
theorem RC{i:Nat}{d:Addr}{o:Obj}{z:V}(hl:aY J d=some (o,z))(h:Q z (del J d))(hρ:pv J Y (.aE i)=some (.ref d):=by rfl):wE (Wk k) k (.CU (.aE i)) Y J Q:=
 ja (Q:=λx J=>match x with
  |.ref d=>(match aY J d with
   |some (_,z)=>Q z (del J d)
   |none=>False)
  |x=>Q x J) hρ (by show(match aY J d with|some (_,z)=>Q z (del J d)|none=>False);rw[hl];exact h)
def F3(Q:V->St->Prop)(x:V)(J:St):Prop:=match x with
 |.ref d=>(match aY J d with
  |some (_,z)=>Q z (del J d)
  |none=>False)
 |x=>Q x J
theorem JH{a:E}(h:wE (Wk k) k a Y J (F3 Q)):wE (Wk k) k (.CU a) Y J Q:=h
theorem F3.ref{d:Addr}{o:Obj}{z:V}(hl:aY J d=some (o,z))(h:Q z (del J d)):F3 Q (.ref d) J:=by
 show(match aY J d with|some (_,z)=>Q z (del J d)|none=>False)
 rw[hl];exact h
def uB(x:V)(Q:V->St->Prop)(y:V)(J:St):Prop:=match b6 J x,b6 J y with
 |some (.a9 l),some (.a9 m)=>l.length+m.length<=100000/\gG false (.a9 (l++m)) J Q
 |_,_=>False
theorem RE{a b:E}(ha:pv J Y a=some x)(h:wE (Wk k) k b Y J (uB x Q)):wE (Wk k) k (.cat false a b) Y J Q:=
 ja (Q:=λx J=>wE (Wk k) k b Y J (uB x Q)) ha h
theorem PC{a b:E}(h:wE (Wk k) k a Y J λx J=>wE (Wk k) k b Y J (uB x Q)):wE (Wk k) k (.cat false a b) Y J Q:=h
theorem uB.ok{y:V}{l m:List V}(hx:b6 J x=some (.a9 l))(hy:b6 J y=some (.a9 m))(hz:l.length+m.length<=100000)(q:Q (.a9 (l++m)) J):uB x Q y J:=by
 unfold uB
 rw[hx,hy];exact⟨hz,q⟩
def dE(k:Nat)(a b:E)(Y:du)(J:St)(cB:aN)(K:St->aN->Prop):Prop:=wE (Wk k) k a Y J λx J=>wE (Wk k) k b Y J λy J=>match x with
 |.bZ ks=>(match dN ks with
  |some k=>cB.length<=100000/\K J (fA cB k y)
  |none=>False)
 |_=>False
theorem Tf{a b:E}{gs:List G}(hf:iH gs Y=true)(h:mv (mw (Wk k) k gs) (dE k a b) Y J [] λJ cB=>Q (.bC cB) J):wE (Wk k) k (.dc false a b gs) Y J Q:=⟨hf,h⟩
theorem Vu{m:List Int}{b:E}{cB:aN}{K:St->aN->Prop}(h:wE (Wk k) k b Y J λy J=>cB.length<=100000/\K J (fA cB m y)):wE (Wk k) k b Y J λy J=>match bj m with
  |.bZ ks=>(match dN ks with
   |some k=>cB.length<=100000/\K J (fA cB k y)
   |none=>False)
  |_=>False:=by
 show wE (Wk k) k b Y J λy J=>match dN (m.map V.int)with|some k=>cB.length<=100000/\K J (fA cB k y)|none=>False
 rw[gY];exact h
theorem Vv{m:List Int}{a b:E}{cB:aN}{K:St->aN->Prop}(ha:pv J Y a=some (bj m))(h:wE (Wk k) k b Y J λy J=>cB.length<=100000/\K J (fA cB m y)):dE k a b Y J cB K:=
 ja (Q:=λx J=>wE (Wk k) k b Y J λy J=>match x with
 |.bZ ks=>(match dN ks with
  |some k=>cB.length<=100000/\K J (fA cB k y)
  |none=>False)
 |_=>False) ha (Vu h)
theorem dEc{b:E}{cB:aN}{K:St->aN->Prop}(hl:xW J Y l=some xs)(h:CA k f xs J λx J=>wE (Wk k) k b Y J λy J=>match x with
 |.bZ ks=>(match dN ks with
  |some k=>cB.length<=100000/\K J (fA cB k y)
  |none=>False)
 |_=>False):dE k (.call f l) b Y J cB K:=lD rfl l hl h
theorem MY(y:V)(Q:V->St->Prop):(λx J=>match x with
  |.bZ ks=>(match dN ks with
   |some k=>Q (.bC [(k,y)]) J
   |none=>False)
  |_=>False)=λ(x:V) (J:St)=>∃m,DL x=some m/\Q (.bC [(m,y)]) J:=by
 funext x J
 refine propext ⟨λh=>?_,λh=>?_⟩
 ·cases x with
  |bZ ks=>
   have h:(match dN ks with|some k=>Q (.bC [(k,y)]) J|none=>False):=h
   cases e:dN ks with
   |none=>rw[e]at h;exact h.elim
   |some m=>rw[e]at h;exact⟨m,e,h⟩
  |_=>exact h.elim
 ·obtain⟨m,h2,h3⟩:=h
  obtain⟨ks,rfl,hk⟩:=zL h2
  show(match dN ks with|some k=>Q (.bC [(k,y)]) J|none=>False)
  rw[hk];exact h3
theorem Vw{b:E}{y:V}(hb:∀(J:St) (R:V->St->Prop),wE (Wk k) k b Y J R=R y J)(h:wE (Wk k) k e Y J λx J=>∃m,DL x=some m/\Q (.bC [(m,y)]) J):wE (Wk k) k (.qu false e b) Y J Q:=by
 rw[<-MY]at h
 show wE (Wk k) k e Y J λx J=>wE (Wk k) k b Y J λy J=>match x with
  |.bZ ks=>(match dN ks with
   |some k=>Q (.bC [(k,y)]) J
   |none=>False)
  |_=>False
 have e2:(λ(x:V) (J:St)=>wE (Wk k) k b Y J λy J=>match x with
  |.bZ ks=>(match dN ks with
   |some k=>Q (.bC [(k,y)]) J
   |none=>False)
  |_=>False)=_:=funext λx=>funext λJ=>hb J _
 rw[e2];exact h
theorem F4{gs:List G}(hf:iH gs Y=true)(h:mv (mw (Wk k) k gs) (λY J cB K=>wE (Wk k) k e Y J λv J=>cB.length<=100000/\K J (cB++[v])) Y J [] λJ cB=>∀(a:Addr) (o:Obj),aY J a=none->Q (.ref a) ((a,o,.a9 cB)::J)):wE (Wk k) k (.lc true e gs) Y J Q:=⟨hf,h⟩
theorem DO{j:V}(h:wE (Wk k) k e Y J λx J=>∃z,iT J x j=some z/\Q z J):wE (Wk k) k (.sub e (.ck j)) Y J Q:=by
 rw[<-JF]at h;exact h
theorem mN{m:Me}{a:Addr}{ob:Obj}{c c' r:V}{o:E}(ho:pv J Y o=some (.ref a))(h:aY J a=some (ob,c))(hk:rE m c=true)(hl:xW J Y l=some xs)(hm:mu J m c xs=some (c',r))(s1:ey c)(s2:ey c')(q:∀o',Q r (gN J a o' c')):wE (Wk k) k (.met m o l) Y J Q:=
 RA ho h hk (lD rfl l hl ⟨ob,c,c',r,h,hm,s1,s2,q⟩)
end
section
variable{k:Nat}{c e:E}{t f r:List dJ6}{Y:du}{J σ':St}{Q:Fl->du->St->Prop}{i:Nat}{v:V}
def qt(k:Nat)(r:List dJ6)(Q:Fl->du->St->Prop)(f:Fl)(Y:du)(J:St):Prop:=match f with
 |.next=>fN (Wk k) k r Y J Q
 |f=>Q f Y J
theorem fG(h:fN (Wk k) k r Y σ' Q)(hc:∀Q':Bool->St->Prop,Q' false σ'->dW (Wk k) k c Y J Q'):fN (Wk k) k (.ifs c t []::r) Y J Q:=hc _ h
theorem fV(h:fN (Wk k) k t Y σ' (qt k r Q))(hc:∀Q':Bool->St->Prop,Q' true σ'->dW (Wk k) k c Y J Q'):fN (Wk k) k (.ifs c t f::r) Y J Q:=hc _ h
theorem Vx(h:fN (Wk k) k f Y σ' (qt k r Q))(hc:∀Q':Bool->St->Prop,Q' false σ'->dW (Wk k) k c Y J Q'):fN (Wk k) k (.ifs c t f::r) Y J Q:=hc _ h
theorem eP(h:wE (Wk k) k e Y J λx J=>fN (Wk k) k r (Y.set i (some x)) J Q):fN (Wk k) k (.asg i e::r) Y J Q:=h
theorem PD(h:pv J Y e=some v)(q:fN (Wk k) k r (Y.set i (some v)) J Q):fN (Wk k) k (.asg i e::r) Y J Q:=iE rfl e h q
theorem pW{is:List Nat}{xs:List V}{dT:du}(h:pv J Y e=some (.bZ xs))(hb:fb Y is xs=some dT)(q:fN (Wk k) k r dT J Q):fN (Wk k) k (.iF is e::r) Y J Q:=
 iE (Q:=λx J=>match x with
  |.bZ xs=>(match fb Y is xs with
   |some dT=>fN (Wk k) k r dT J Q
   |none=>False)
  |_=>False) rfl e h (by show(match fb Y is xs with|some dT=>fN (Wk k) k r dT J Q|none=>False);rw[hb];exact q)
def F5(d:Addr)(y v:V)(P:St->Prop)(J:St):Prop:=∃o c c',aY J d=some (o,c)/\nU c y v=some c'/\ey c/\∀o',P (gN J d o' c')
theorem F5.to{d:Addr}{y v:V}{P:St->Prop}{J:St}(h:F5 d y v P J):(match V.ref d with
  |.ref d=>(match aY J d with
   |some (_,c)=>(match nU c y v with
    |some c'=>ey c/\∀o',P (gN J d o' c')
    |none=>False)
   |none=>False)
  |_=>False):=by
 obtain⟨o,c,c',h1,h2,h3⟩:=h
 show(match aY J d with|some (_,c)=>(match nU c y v with|some c'=>ey c/\∀o',P (gN J d o' c')|none=>False)|none=>False)
 rw[h1];dsimp only;rw[h2];exact h3
theorem MZ{a i:E}{d:Addr}{y:V}(he:pv J Y e=some v)(ha:pv J Y a=some (.ref d))(hi:pv J Y i=some y)(h:F5 d y v (λJ=>fN (Wk k) k r Y J Q) J):fN (Wk k) k (.put a i e::r) Y J Q:=
 iE rfl e (Q:=λv J=>wE (Wk k) k a Y J λx J=>wE (Wk k) k i Y J λy J=>match x with
  |.ref d=>(match aY J d with
   |some (_,c)=>(match nU c y v with
    |some c'=>ey c/\∀o',fN (Wk k) k r Y (gN J d o' c') Q
    |none=>False)
   |none=>False)
  |_=>False) he (iE rfl a (Q:=λx J=>wE (Wk k) k i Y J λy J=>match x with
  |.ref d=>(match aY J d with
   |some (_,c)=>(match nU c y v with
    |some c'=>ey c/\∀o',fN (Wk k) k r Y (gN J d o' c') Q
    |none=>False)
   |none=>False)
  |_=>False) ha (iE rfl i (Q:=λy J=>match V.ref d with
  |.ref d=>(match aY J d with
   |some (_,c)=>(match nU c y v with
    |some c'=>ey c/\∀o',fN (Wk k) k r Y (gN J d o' c') Q
    |none=>False)
   |none=>False)
  |_=>False) hi h.to))
theorem RF(d:Addr)(y:V)(P:St->Prop):(λv J=>match V.ref d with
  |.ref d=>(match aY J d with
   |some (_,c)=>(match nU c y v with
    |some c'=>ey c/\∀o',P (gN J d o' c')
    |none=>False)
   |none=>False)
  |_=>False)=λv J=>F5 d y v P J:=by
 funext v J
 refine propext ⟨λh=>?_,F5.to⟩
 have h:(match aY J d with|some (_,c)=>(match nU c y v with|some c'=>ey c/\∀o',P (gN J d o' c')|none=>False)|none=>False):=h
 cases e:aY J d with
 |none=>rw[e]at h;exact h.elim
 |some p=>
  obtain⟨ob,c⟩:=p
  rw[e]at h;dsimp only at h
  cases e2:nU c y v with
  |none=>rw[e2]at h;exact h.elim
  |some c'=>rw[e2]at h;exact⟨ob,c,c',e,e2,h⟩
theorem RG{i:Nat}{Q:V->St->Prop}(h:Y[i]?=some (some v)):wE (Wk k) k (.aE i) Y J Q=Q v J:=by
 show(match Y[i]? with|some (some x)=>Q x J|_=>False)=_
 rw[h]
theorem PE{a i:Nat}{d:Addr}{y:V}(ha:Y[a]?=some (some (.ref d)))(hi:Y[i]?=some (some y))(h:wE (Wk k) k e Y J λv J=>F5 d y v (λJ=>fN (Wk k) k r Y J Q) J):fN (Wk k) k (.put (.aE a) (.aE i) e::r) Y J Q:=by
 rw[<-RF]at h
 show wE (Wk k) k e Y J λv J=>wE (Wk k) k (.aE a) Y J λx J=>wE (Wk k) k (.aE i) Y J λy J=>match x with
  |.ref d=>(match aY J d with
   |some (_,c)=>(match nU c y v with
    |some c'=>ey c/\∀o',fN (Wk k) k r Y (gN J d o' c') Q
    |none=>False)
   |none=>False)
  |_=>False
 have e2:(λ(v:V) (J:St)=>wE (Wk k) k (.aE a) Y J λx J=>wE (Wk k) k (.aE i) Y J λy J=>match x with
  |.ref d=>(match aY J d with
   |some (_,c)=>(match nU c y v with
    |some c'=>ey c/\∀o',fN (Wk k) k r Y (gN J d o' c') Q
    |none=>False)
   |none=>False)
  |_=>False)=_:=funext λv=>funext λJ=>(RG ha).trans (RG hi)
 rw[e2];exact h
theorem DP(o:Ha)(y:V)(Q:V->St->Prop):(λx J=>match ig o x y with|some z=>Q z J|none=>False)=λ(x:V) (J:St)=>∃z,ig o x y=some z/\Q z J:=funext λx=>funext λJ=>td (ig o x y) λz=>Q z J
theorem PF{o:Ha}{i:Nat}{y:V}{Q:V->St->Prop}(hi:Y[i]?=some (some y))(h:wE (Wk k) k e Y J λx J=>∃z,ig o x y=some z/\Q z J):wE (Wk k) k (.bin o e (.aE i)) Y J Q:=by
 rw[<-DP]at h
 have e2:(λ(x:V) (J:St)=>wE (Wk k) k (.aE i) Y J λy J=>match ig o x y with|some z=>Q z J|none=>False)=_:=funext λx=>funext λJ=>RG hi
 show wE (Wk k) k e Y J λx J=>wE (Wk k) k (.aE i) Y J λy J=>match ig o x y with|some z=>Q z J|none=>False
 rw[e2];exact h
theorem PG{o:Ha}{y:V}{Q:V->St->Prop}(h:wE (Wk k) k e Y J λx J=>∃z,ig o x y=some z/\Q z J):wE (Wk k) k (.bin o e (.ck y)) Y J Q:=by
 rw[<-DP]at h;exact h
theorem M0(is:List Nat)(Y:du)(P:du->St->Prop):(λx J=>match x with
  |.bZ xs=>(match fb Y is xs with
   |some dT=>P dT J
   |none=>False)
  |_=>False)=λ(x:V) (J:St)=>∃xs dT,x=.bZ xs/\fb Y is xs=some dT/\P dT J:=by
 funext x J
 refine propext ⟨λh=>?_,λh=>?_⟩
 ·cases x with
  |bZ xs=>
   cases e:fb Y is xs with
   |none=>
    have h:(match fb Y is xs with|some dT=>P dT J|none=>False):=h
    rw[e]at h;exact h.elim
   |some dT=>
    have h:(match fb Y is xs with|some dT=>P dT J|none=>False):=h
    rw[e]at h;exact⟨xs,dT,rfl,e,h⟩
  |_=>exact h.elim
 ·obtain⟨xs,dT,h1,h2,h3⟩:=h
  rw[h1]
  show(match fb Y is xs with|some dT=>P dT J|none=>False)
  rw[h2];exact h3
theorem pX{is:List Nat}(h:wE (Wk k) k e Y J λx J=>∃xs dT,x=.bZ xs/\fb Y is xs=some dT/\fN (Wk k) k r dT J Q):fN (Wk k) k (.iF is e::r) Y J Q:=by
 rw[<-M0 is Y λdT J=>fN (Wk k) k r dT J Q]at h;exact h
theorem Vy{f:Str}{l:List E}{xs:List V}(h:xW J Y l=some xs)(q:CA k f xs J λx J=>fN (Wk k) k r (Y.set i (some x)) J Q):fN (Wk k) k (.asg i (.call f l)::r) Y J Q:=lD rfl l h q
theorem DQ(h:wE (Wk k) k e Y J λZ J=>fN (Wk k) k r Y J Q):fN (Wk k) k (.ex e::r) Y J Q:=h
theorem ff(h:wE (Wk k) k e Y J λx J=>Q (.ret x) Y J):fN (Wk k) k (.ret e::r) Y J Q:=h
theorem zO{K:V->St->Prop}{f:Str}{l:List E}{xs:List V}(h:xW J Y l=some xs)(q:CA k f xs J λv J=>∃fm,Sub fm J/\K v fm):fN (Wk k) k (.ret (.call f l)::r) Y J (kQ K):=lD rfl l h q
theorem pY(h:pv J Y e=some v)(q:Q (.ret v) Y J):fN (Wk k) k (.ret e::r) Y J Q:=iE rfl e h q
theorem j6{K:V->St->Prop}(h:pv J Y e=some v)(q:K v J):fN (Wk k) k (.ret e::r) Y J (kQ K):=iE rfl e h ⟨J,Sub.refl J,q⟩
end
section
variable{T:du->St->(Bool->St->Prop)->Prop}{B:du->St->(Fl->du->St->Prop)->Prop}{n:Nat}{Y:du}{J σ':St}{Q:Fl->du->St->Prop}
def Y2(T:du->St->(Bool->St->Prop)->Prop)(B:du->St->(Fl->du->St->Prop)->Prop)(n:Nat)(Q:Fl->du->St->Prop)(f:Fl)(Y:du)(J:St):Prop:=match f with
 |.next=>iI T B n Y J Q
 |.cont=>iI T B n Y J Q
 |.brk=>Q .next Y J
 |.ret v=>Q (.ret v) Y J
theorem mO(h:B Y σ' (Y2 T B n Q))(t:∀Q':Bool->St->Prop,Q' true σ'->T Y J Q'):iI T B (n+1) Y J Q:=t _ h
theorem te(h:Q .next Y σ')(t:∀Q':Bool->St->Prop,Q' false σ'->T Y J Q'):iI T B (n+1) Y J Q:=t _ h
end
theorem Y3{k:Nat}{Y:du}{J:St}{a b:E}{Q:Bool->St->Prop}{c:Bool}(h:pv J Y a=some (.bool c))(q:if c then dW (Wk k) k b Y J Q else Q false J):dW (Wk k) k (.and a b) Y J Q:=
 iE (Q:=λx J=>match x with
   |.bool true=>wE (Wk k) k b Y J λy J=>(match y with|.bool c=>Q c J|_=>False)
   |.bool false=>Q false J
   |_=>False) rfl a h (by cases c<;>exact q)
theorem Y4{k:Nat}{Y:du}{J:St}{a b:E}{Q:Bool->St->Prop}{c:Bool}(h:pv J Y a=some (.bool c))(q:if c then Q true J else dW (Wk k) k b Y J Q):dW (Wk k) k (.or a b) Y J Q:=
 iE (Q:=λx J=>match x with
   |.bool false=>wE (Wk k) k b Y J λy J=>(match y with|.bool c=>Q c J|_=>False)
   |.bool true=>Q true J
   |_=>False) rfl a h (by cases c<;>exact q)
theorem M1{k:Nat}{Y:du}{J:St}{a:E}{Q:Bool->St->Prop}(h:dW (Wk k) k a Y J λb J=>Q (!b) J):dW (Wk k) k (.not a) Y J Q:=h
section
variable{k N:Nat}{e:E}{t:Tg}{b r:List dJ6}{Y:du}{J σ₀:St}{x y z:V}{l xs:List V}{d:aN}{Q:Fl->du->St->Prop}{body:V->du->St->(Fl->du->St->Prop)->Prop}{i j:Nat}
def RH(σ₀:St)(x:V)(Q:Fl->du->St->Prop)(f:Fl)(Y:du)(J:St):Prop:=(match f with|.next=>e_ σ₀ x J|.cont=>e_ σ₀ x J|_=>True)/\Q f Y J
def eI(k:Nat)(t:Tg)(b:List dJ6)(σ₀:St)(x:V)(y:V)(Y:du)(J:St)(Q:Fl->du->St->Prop):Prop:=match n9 Y t y with
 |some dT=>fN (Wk k) k b dT J (RH σ₀ x Q)
 |none=>False
def Y5(body:V->du->St->(Fl->du->St->Prop)->Prop)(xs:List V)(Q:Fl->du->St->Prop)(f:Fl)(Y:du)(J:St):Prop:=match f with
 |.next=>eg body xs Y J Q
 |.cont=>eg body xs Y J Q
 |.brk=>Q .next Y J
 |.ret v=>Q (.ret v) Y J
theorem zP(h:body x Y J (Y5 body xs Q)):eg body (x::xs) Y J Q:=h
theorem vE(h:fN (Wk k) k b (Y.set i (some y)) J (RH σ₀ x Q)):eI k (.one i) b σ₀ x y Y J Q:=h
theorem JI(h:fN (Wk k) k b ((Y.set i (some y)).set j (some z)) J (RH σ₀ x Q)):eI k (.two i j) b σ₀ x (.bZ [y,z]) Y J Q:=h
theorem M3(h:pv J Y e=some (.int N))(hz:N<=100000)(q:eg (eI k t b J (.int N)) (fj N) Y J (qt k r Q)):fN (Wk k) k (.fr t (.range e) b::r) Y J Q:=
 iE (Q:=λx J=>match x with
  |.int n=>(0<=n/\n<=100000)/\eg (eI k t b J (.int n)) (fj n.toNat) Y J (qt k r Q)
  |_=>False) rfl e h ⟨⟨bg _,cJ.mpr hz⟩,q⟩
theorem RI(h:pv J Y e=some x)(hv:b6 J x=some (.a9 l))(q:eg (eI k t b J x) l Y J (qt k r Q)):fN (Wk k) k (.fr t (.val e) b::r) Y J Q:=
 iE (Q:=λx J=>match b6 J x with
  |some (.a9 l)=>eg (eI k t b J x) l Y J (qt k r Q)
  |some (.bZ l)=>eg (eI k t b J x) l Y J (qt k r Q)
  |some (.bC l)=>eg (eI k t b J x) (iU l) Y J (qt k r Q)
  |_=>False) rfl e h (by rw[hv];exact q)
theorem M4(h:pv J Y e=some x)(hv:b6 J x=some (.bC d))(q:eg (eI k t b J x) (iU d) Y J (qt k r Q)):fN (Wk k) k (.fr t (.val e) b::r) Y J Q:=
 iE (Q:=λx J=>match b6 J x with
  |some (.a9 l)=>eg (eI k t b J x) l Y J (qt k r Q)
  |some (.bZ l)=>eg (eI k t b J x) l Y J (qt k r Q)
  |some (.bC l)=>eg (eI k t b J x) (iU l) Y J (qt k r Q)
  |_=>False) rfl e h (by rw[hv];exact q)
theorem RJ(h:pv J Y e=some x)(hv:b6 J x=some (.a9 l))(q:eg (eI k t b J x) (fB 0 l) Y J (qt k r Q)):fN (Wk k) k (.fr t (.enum e) b::r) Y J Q:=
 iE (Q:=λx J=>match b6 J x with
  |some (.a9 l)=>eg (eI k t b J x) (fB 0 l) Y J (qt k r Q)
  |some (.bZ l)=>eg (eI k t b J x) (fB 0 l) Y J (qt k r Q)
  |_=>False) rfl e h (by rw[hv];exact q)
theorem Y6(h:pv J Y e=some x)(hv:b6 J x=some (.bZ l))(q:eg (eI k t b J x) (fB 0 l) Y J (qt k r Q)):fN (Wk k) k (.fr t (.enum e) b::r) Y J Q:=
 iE (Q:=λx J=>match b6 J x with
  |some (.a9 l)=>eg (eI k t b J x) (fB 0 l) Y J (qt k r Q)
  |some (.bZ l)=>eg (eI k t b J x) (fB 0 l) Y J (qt k r Q)
  |_=>False) rfl e h (by rw[hv];exact q)
end
theorem JJ{i m:Nat}{Y:du}{J:St}{b:Bool}(h:pv J Y (.bi .len false [.aE i])=some (.int m))(hb:Nat.blt 0 m=b):pv J Y (.cmp .gt (.bi .len false [.aE i]) (.ck (.int 0)))=some (.bool b):=by
 refine cV h (ao (λb=>some (V.bool b)) ?_)
 rw[<-hb]
 cases m with
 |zero=>rfl
 |succ m=>exact bF (Int.natCast_pos.mpr (Nat.succ_pos _))
theorem Vz{i:Nat}{Y:du}{J:St}{v:V}(h:Y[i]?=some (some v)):pv J Y (.aE i)=some v:=by
 show Y[i]?.bind id=_
 rw[h];rfl
theorem VA{α:Type}{body:V->St->α->(St->α->Prop)->Prop}{x:V}{xs:List V}{J:St}{a:α}{K:St->α->Prop}(h:body x J a λJ a=>iter body xs J a K):iter body (x::xs) J a K:=h
section
variable{k:Nat}{Y:du}{J:St}{a b:E}
theorem RK{Q:Bool->St->Prop}(h:dW (Wk k) k a Y J λc J=>if c then Q true J else dW (Wk k) k b Y J Q):dW (Wk k) k (.or a b) Y J Q:=by
 have e:(λ(x:V) (J:St)=>match x with|.bool c=>(if c then Q true J else dW (Wk k) k b Y J Q)|_=>False)=λx J=>match x with
   |.bool false=>wE (Wk k) k b Y J λy J=>(match y with|.bool c=>Q c J|_=>False)
   |.bool true=>Q true J
   |_=>False:=by
  funext x J
  cases x with
  |bool c=>cases c<;>rfl
  |_=>rfl
 have h:wE (Wk k) k a Y J (λ(x:V) (J:St)=>match x with|.bool c=>(if c then Q true J else dW (Wk k) k b Y J Q)|_=>False):=h
 rw[e]at h;exact h
theorem M5{o:GP}{y:V}{Q:Bool->St->Prop}(hb:∀(J:St) (R:V->St->Prop),wE (Wk k) k b Y J R=R y J)(h:wE (Wk k) k a Y J λx J=>∃c,iG J o x y=some c/\Q c J):dW (Wk k) k (.cmp o a b) Y J Q:=
 PB (Q:=λx J=>match x with|.bool b=>Q b J|_=>False) hb h
theorem VB{Q:V->St->Prop}(h:wE (Wk k) k a Y J λx J=>∃b,x=.bool b/\Q (.bool (!b)) J):wE (Wk k) k (.not a) Y J Q:=by
 have e:(λ(x:V) (J:St)=>∃b,x=.bool b/\Q (.bool (!b)) J)=λx J=>match x with
   |.bool b=>Q (.bool (!b)) J
   |_=>False:=by
  funext x J
  refine propext ⟨λh=>?_,λh=>?_⟩
  ·obtain⟨b,h1,h2⟩:=h
   rw[h1];exact h2
  ·cases x with
   |bool b=>exact⟨b,rfl,h⟩
   |_=>exact h.elim
 rw[e]at h;exact h
end
theorem sT{k i:Nat}{Y:du}{J:St}{m:Nat}{b:Bool}(h:pv J Y (.bi .len false [.aE i])=some (.int m))(hb:Nat.blt 0 m=b)(Q:Bool->St->Prop)(q:Q b J):
  dW (Wk k) k (.cmp .gt (.bi .len false [.aE i]) (.ck (.int 0))) Y J Q:=oJ (JJ h hb) q
section
variable{α:Type}{k N:Nat}{e:E}{t:Tg}{cs:List E}{gs:List G}{dI:du->St->α->(St->α->Prop)->Prop}{Y:du}{J:St}{a:α}{K:St->α->Prop}{x:V}{l:List V}{d:aN}
def eJ(k:Nat)(t:Tg)(cs:List E)(gs:List G)(dI:du->St->α->(St->α->Prop)->Prop)(Y:du)(σ₀:St)(x:V)(y:V)(J:St)(a:α)(K:St->α->Prop):Prop:=match n9 Y t y with
 |some dT=>EL (Wk k) k cs dT J λok J=>if ok then mv (mw (Wk k) k gs) dI dT J a λJ a=>e_ σ₀ x J/\K J a else e_ σ₀ x J/\K J a
 |none=>False
theorem iA{i:Nat}{σ₀:St}{y:V}(h:dI (Y.set i (some y)) J a λJ a=>e_ σ₀ x J/\K J a):eJ k (.one i) [] [] dI Y σ₀ x y J a K:=h
theorem zQ{i j:Nat}{σ₀:St}{y z:V}(h:dI ((Y.set i (some y)).set j (some z)) J a λJ a=>e_ σ₀ x J/\K J a):eJ k (.two i j) [] [] dI Y σ₀ x (.bZ [y,z]) J a K:=h
theorem VC{i j:Nat}{σ₀:St}{y z:V}{g:G}(h:mv (mw (Wk k) k (g::gs)) dI ((Y.set i (some y)).set j (some z)) J a λJ a=>e_ σ₀ x J/\K J a):eJ k (.two i j) [] (g::gs) dI Y σ₀ x (.bZ [y,z]) J a K:=h
def RL(k:Nat)(t:Tg)(cs:List E)(gs:List G)(dI:du->St->α->(St->α->Prop)->Prop)(Y:du)(a:α)(K:St->α->Prop)(x:V)(J:St):Prop:=match b6 J x with
 |some (.a9 l)=>iter (eJ k t cs gs dI Y J x) l J a K
 |some (.bZ l)=>iter (eJ k t cs gs dI Y J x) l J a K
 |some (.bC l)=>iter (eJ k t cs gs dI Y J x) (iU l) J a K
 |_=>False
theorem qQ{f:Str}{xs:List V}{ar:List E}(h:xW J Y ar=some xs)(q:CA k f xs J (RL k t cs gs dI Y a K)):mv (mw (Wk k) k (⟨t,.val (.call f ar),cs⟩::gs)) dI Y J a K:=lD rfl ar h q
theorem F6(hv:b6 J x=some (.a9 l))(q:iter (eJ k t cs gs dI Y J x) l J a K):RL k t cs gs dI Y a K x J:=by
 unfold RL;rw[hv];exact q
theorem qR{i:Nat}{σ₀:St}{y:V}{c:E}{b:Bool}(hc:pv J (Y.set i (some y)) c=some (.bool b))(h:if b then dI (Y.set i (some y)) J a λJ a=>e_ σ₀ x J/\K J a else e_ σ₀ x J/\K J a):eJ k (.one i) [c] [] dI Y σ₀ x y J a K:=
 iE (Q:=λz J=>match z with
  |.bool true=>(if true then dI (Y.set i (some y)) J a λJ a=>e_ σ₀ x J/\K J a else e_ σ₀ x J/\K J a)
  |.bool false=>(if false then dI (Y.set i (some y)) J a λJ a=>e_ σ₀ x J/\K J a else e_ σ₀ x J/\K J a)
  |_=>False) rfl c hc (by cases b<;>exact h)
theorem VD{i:Nat}{σ₀:St}{y:V}{c:E}(hc:pv J (Y.set i (some y)) c=some (.bool true))(h:dI (Y.set i (some y)) J a λJ a=>e_ σ₀ x J/\K J a):eJ k (.one i) [c] [] dI Y σ₀ x y J a K:=qR hc h
theorem VE{i:Nat}{σ₀:St}{y:V}{c:E}(hc:pv J (Y.set i (some y)) c=some (.bool false))(h:e_ σ₀ x J/\K J a):eJ k (.one i) [c] [] dI Y σ₀ x y J a K:=qR hc h
theorem JK{i:Nat}{σ₀:St}{y:V}{c:E}(h:wE (Wk k) k c (Y.set i (some y)) J λz J=>match z with
  |.bool true=>dI (Y.set i (some y)) J a λJ a=>e_ σ₀ x J/\K J a
  |.bool false=>e_ σ₀ x J/\K J a
  |_=>False):eJ k (.one i) [c] [] dI Y σ₀ x y J a K:=h
theorem VF{i:Nat}{σ₀:St}{y:V}{g:G}(h:mv (mw (Wk k) k (g::gs)) dI (Y.set i (some y)) J a λJ a=>e_ σ₀ x J/\K J a):eJ k (.one i) [] (g::gs) dI Y σ₀ x y J a K:=h
theorem uC(h:pv J Y e=some (.int N))(hz:N<=100000)(q:iter (eJ k t cs gs dI Y J (.int N)) (fj N) J a K):mv (mw (Wk k) k (⟨t,.range e,cs⟩::gs)) dI Y J a K:=
 ja (e:=e) (Q:=λx J=>match x with
  |.int n=>(0<=n/\n<=100000)/\iter (eJ k t cs gs dI Y J (.int n)) (fj n.toNat) J a K
  |_=>False) h ⟨⟨bg _,cJ.mpr hz⟩,q⟩
theorem jX(h:pv J Y e=some x)(hv:b6 J x=some (.a9 l))(q:iter (eJ k t cs gs dI Y J x) l J a K):mv (mw (Wk k) k (⟨t,.val e,cs⟩::gs)) dI Y J a K:=
 ja (e:=e) (Q:=λx J=>match b6 J x with
  |some (.a9 l)=>iter (eJ k t cs gs dI Y J x) l J a K
  |some (.bZ l)=>iter (eJ k t cs gs dI Y J x) l J a K
  |some (.bC l)=>iter (eJ k t cs gs dI Y J x) (iU l) J a K
  |_=>False) h (by rw[hv];exact q)
theorem Y7(h:pv J Y e=some x)(hv:b6 J x=some (.bZ l))(q:iter (eJ k t cs gs dI Y J x) l J a K):mv (mw (Wk k) k (⟨t,.val e,cs⟩::gs)) dI Y J a K:=
 ja (e:=e) (Q:=λx J=>match b6 J x with
  |some (.a9 l)=>iter (eJ k t cs gs dI Y J x) l J a K
  |some (.bZ l)=>iter (eJ k t cs gs dI Y J x) l J a K
  |some (.bC l)=>iter (eJ k t cs gs dI Y J x) (iU l) J a K
  |_=>False) h (by rw[hv];exact q)
theorem zR(h:pv J Y e=some x)(hv:b6 J x=some (.bC d))(q:iter (eJ k t cs gs dI Y J x) (iU d) J a K):mv (mw (Wk k) k (⟨t,.val e,cs⟩::gs)) dI Y J a K:=
 ja (e:=e) (Q:=λx J=>match b6 J x with
  |some (.a9 l)=>iter (eJ k t cs gs dI Y J x) l J a K
  |some (.bZ l)=>iter (eJ k t cs gs dI Y J x) l J a K
  |some (.bC l)=>iter (eJ k t cs gs dI Y J x) (iU l) J a K
  |_=>False) h (by rw[hv];exact q)
theorem JL(h:pv J Y e=some x)(hv:b6 J x=some (.a9 l))(q:iter (eJ k t cs gs dI Y J x) (fB 0 l) J a K):mv (mw (Wk k) k (⟨t,.enum e,cs⟩::gs)) dI Y J a K:=
 ja (e:=e) (Q:=λx J=>match b6 J x with
  |some (.a9 l)=>iter (eJ k t cs gs dI Y J x) (fB 0 l) J a K
  |some (.bZ l)=>iter (eJ k t cs gs dI Y J x) (fB 0 l) J a K
  |_=>False) h (by rw[hv];exact q)
theorem RM(h:pv J Y e=some x)(hv:b6 J x=some (.bZ l))(q:iter (eJ k t cs gs dI Y J x) (fB 0 l) J a K):mv (mw (Wk k) k (⟨t,.enum e,cs⟩::gs)) dI Y J a K:=
 ja (e:=e) (Q:=λx J=>match b6 J x with
  |some (.a9 l)=>iter (eJ k t cs gs dI Y J x) (fB 0 l) J a K
  |some (.bZ l)=>iter (eJ k t cs gs dI Y J x) (fB 0 l) J a K
  |_=>False) h (by rw[hv];exact q)
end
theorem qB{Q:Bool->St->Prop}{J:St}{b c:Bool}(q:Q c J)(e:b=c):Q b J:=e▸q
theorem M6{a b:Nat}(h:a<=b):decide ((b:Int)<(a:Int))=false:=b9 (cc.mpr (cJ.mpr h))
section
variable{J:St}{a b d:Addr}{o o':Obj}{z:V}{q:Obj×V}
theorem eW(ha:aY J a=none)(h:aY J b=some q):aY ((a,o,z)::J) b=some q:=(ah λe=>by rw[e,ha]at h;cases h).trans h
theorem lE:aY ((a,o,z)::J) a=some (o,z):=ai rfl
theorem f_(ha:aY J a=none)(h:aY J b=some q):b≠a:=λe=>by rw[e,ha]at h;cases h
theorem gC(n:b≠a)(h:aY J b=some q):aY (gN J a o z) b=some q:=(fJ n).trans h
theorem kR(h:aY J a=some q):aY (gN J a o z) a=some (o,z):=kc (by rw[h];rfl)
theorem mP{σ₀:St}(hb:∀b q,aY σ₀ b=some q->aY J b=some q)(h:aY J a=none):aY σ₀ a=none:=by
 cases e:aY σ₀ a with
 |none=>rfl
 |some q=>rw[hb a q e]at h;cases h
end
end
theorem Y8{a b:Nat}(hb:b≠0):ig .mod (.int a) (.int b)=some (.int ((a%b:Nat):Int)):=by
 show(if((b:Int) !=0)=true then some (V.int (Int.fmod a b))else none)=_
 rw[ai (bne_iff_ne.mpr (Int.natCast_ne_zero.mpr hb)),Int.fmod_eq_emod_of_nonneg _ (bg b)];rfl
theorem JM{K:V->St->Prop}{J:St}{k:Nat}:∀(b a:Nat),K (.int (Nat.gcd a b)) J->
  ∃n,iI (dW (Wk k) k (.cmp .ne (.aE 1) (.ck (.int 0)))) (fN (Wk k) k [.iF [0,1] (.bZ [.aE 1,.bin .mod (.aE 0) (.aE 1)])]) n [some (.int a),some (.int b)] J (λf Y J=>match f with
   |.next=>fN (Wk k) k [.ret (.aE 0)] Y J (kQ K)
   |f=>kQ K f Y J):=by
 intro b
 induction b using Nat.strongRecOn with
 |_ b ih=>
  intro a h
  by_cases hb:b=0
  ·subst hb
   rw[Nat.gcd_zero_right]at h
   exact⟨1,te (j6 rfl h) λQ q=>oJ rfl q⟩
  ·obtain⟨n,hn⟩:=ih (a%b) (Nat.mod_lt _ (Nat.pos_of_ne_zero hb)) b (by rw[Nat.gcd_comm,<-Nat.gcd_rec,Nat.gcd_comm];exact h)
   refine⟨n+1,mO (pW (cV (dM rfl (dM (Y8 hb) rfl)) rfl) rfl hn) λQ q=>oJ (b:=true) ?_ q⟩
   show some (V.bool (!((b:Int)==0)))=_
   rw[bX.mpr (Int.natCast_ne_zero.mpr hb)];rfl
theorem Y9(a:Int):(if a<0 then -a else a)=(a.natAbs:Int):=by
 by_cases h:a<0
 ·rw[ai h];exact(Int.ofNat_natAbs_of_nonpos (Int.le_of_lt h)).symm
 ·rw[ah h];exact(Int.natAbs_of_nonneg (cc.mp h)).symm
theorem zS{a b:Int}{k:Nat}{J:St}{K:V->St->Prop}(h:K (.int (Int.gcd a b)) J):CA (k+1) "gcd" [.int a,.int b] J K:=by
 have e:∀a:Int,(vp J .abs [.int a]).bind uz=some (.int (a.natAbs:Int)):=λa=>ao (λi=>some (V.int i)) (Y9 a)
 exact enter Ve rfl (pW (cV (dM (cV rfl (e a)) (dM (cV rfl (e b)) rfl)) rfl) rfl (JM b.natAbs a.natAbs h))
theorem oL{a:Int}{n:Nat}(h:a.natAbs<2^(n+1)):Nat.ble (Nat.log2 a.natAbs) n=true:=by
 rw[Nat.ble_eq]
 by_cases h0:a.natAbs=0
 ·rw[h0];simp
 ·exact Nat.lt_succ_iff.mp ((Nat.log2_lt h0).mpr h)
theorem M7{t b:Int}(hb:b≠0):(Rat.divInt t b).num=t.fdiv (if b>0 then(Int.gcd t b:Int)else 0- (Int.gcd t b:Int))/\((Rat.divInt t b).den:Int)=b.fdiv (if b>0 then(Int.gcd t b:Int)else 0- (Int.gcd t b:Int)):=by
 have pos:∀(t:Int) (d:Nat),d≠0->(Rat.divInt t (d:Int)).num=t.fdiv (Int.gcd t d:Int)/\((Rat.divInt t (d:Int)).den:Int)=(d:Int).fdiv (Int.gcd t d:Int):=by
  intro t d hd
  have e:Rat.divInt t (d:Int)=Rat.normalize t d hd:=by
   show mkRat t d=_
   unfold mkRat
   rw[dif_neg hd]
  rw[e,Rat.normalize_eq hd]
  have hg:Int.gcd t d=t.natAbs.gcd d:=by simp[Int.gcd]
  rw[hg]
  refine⟨?_,?_⟩
  ·rw[Int.fdiv_eq_ediv_of_nonneg _ (bg _)]
  ·rw[Int.fdiv_eq_ediv_of_nonneg _ (bg _)]
   exact Int.natCast_ediv d _
 by_cases h:b>0
 ·rw[ai h]
  obtain⟨d,rfl⟩:=cA (Int.le_of_lt h)
  exact pos t d (bJ (cp.mp h))
 ·rw[ah h]
  obtain⟨d,hd⟩:=cA (Int.neg_nonneg_of_nonpos (cc.mp h))
  obtain rfl:b= -(d:Int):=by rw[<-hd,Int.neg_neg]
  have VG:d≠0:=λe=>hb (by rw[e];rfl)
  obtain⟨h1,h2⟩:=pos (-t) d VG
  rw[show Rat.divInt t (-(d:Int))=Rat.divInt (-t) (d:Int)from Rat.divInt_neg' ..,h1,h2]
  have hg:Int.gcd t (-(d:Int))=Int.gcd (-t) (d:Int):=by simp
  rw[hg]
  generalize(Int.gcd (-t) (d:Int):Int)=g
  rw[Int.zero_sub]
  refine⟨?_,?_⟩
  ·have:=Int.neg_fdiv_neg t (-g)
   rw[Int.neg_neg]at this;exact this
  ·have:=Int.neg_fdiv_neg (d:Int) g
   exact this.symm
theorem vF{t b:Int}(hb:b≠0):Int.gcd t b<=b.natAbs:=Nat.le_of_dvd (Int.natAbs_pos.mpr hb) (Nat.gcd_dvd_right _ _)
theorem JN{a b:Int}(hb:b≠0)(h1:a.natAbs<2^8001)(h2:b.natAbs<2^8001):ig .fdiv (.int a) (.int b)=some (.int (a.fdiv b)):=by
 have up:∀{x:Nat},Nat.ble x 8000=true->Nat.ble x 8100=true:=λh=>aU (dy (le h) rfl)
 refine ai ?_
 rw[up (oL (n:=8000) h1),up (oL (n:=8000) h2),bne_iff_ne.mpr hb];rfl
theorem pZ{t b:Int}{k:Nat}{J:St}{K:V->St->Prop}(hb:b≠0)(ht:t.natAbs<2^8001)(hbs:b.natAbs<2^8001)(h:K (eu (Rat.divInt t b)) J):CA (k+2) "rat" [.int t,.int b] J K:=by
 have hg:Int.gcd t b≠0:=λe=>hb (Int.gcd_eq_zero_iff.mp e).2
 obtain⟨e1,e2⟩:=M7 (t:=t) hb
 rw[eu,e1,e2]at h
 have LH:=aB (vF (t:=t) hb) hbs
 have fin:∀g:Int,g≠0->g.natAbs<2^8001->K (.bZ [.int (t.fdiv g),.int (b.fdiv g)]) J->fN (Wk (k+1)) (k+1) [.ret (.bZ [.bin .fdiv (.aE 0) (.aE 2),.bin .fdiv (.aE 1) (.aE 2)])] [some (.int t),some (.int b),some (.int g)] J (kQ K):=
  λg g0 gl h=>j6 (cV (dM (JN g0 ht gl) (dM (JN g0 hbs gl) rfl)) rfl) h
 refine enter Vf rfl (fG ?_ λQ q=>qB (Q:=Q) q (bX.mpr hb))
 by_cases hp:b>0
 ·rw[ai hp]at h
  refine eP ?_
  show(match V.bool (decide (0<b))with|.bool true=>_|.bool false=>_|_=>False)
  rw[bF hp]
  exact zS (fin _ (Int.natCast_ne_zero.mpr hg) LH h)
 ·rw[ah hp]at h
  refine eP ?_
  show(match V.bool (decide (0<b))with|.bool true=>_|.bool false=>_|_=>False)
  rw[b9 hp]
  refine zS (fin _ ?_ ?_ h)
  ·rw[Int.zero_sub];exact Int.neg_ne_zero.mpr (Int.natCast_ne_zero.mpr hg)
  ·rw[Int.zero_sub,cI];exact LH
@[elab_as_elim] theorem RN{α:Type}{P:List α->Prop}{l:List α}(h:l.length=2)(H:∀a b,P [a,b]):P l:=by
 cases l with
 |nil=>cases h
 |cons a l=>cases l with
  |nil=>cases h
  |cons b l=>cases l with
   |nil=>exact H a b
   |cons=>cases h
theorem jH{α:Type}{l:List α}(h:l.length=2):∃a b,l=[a,b]:=RN h λa b=>⟨a,b,rfl⟩
theorem M8{P:Nat->Prop}{n:Nat}(h1:1<=n)(h3:n<=3)(a:P 1)(b:P 2)(c:P 3):P n:=by
 cases n with
 |zero=>cases h1
 |succ n=>cases n with
  |zero=>exact a
  |succ n=>cases n with
   |zero=>exact b
   |succ n=>cases n with
    |zero=>exact c
    |succ n=>exact aG h3 (Nat.not_le_of_lt (Nat.le_add_left 4 n))
def Sm(q:Rat):Prop:=q.num.natAbs<2^3000/\q.den<2^3000
theorem BL{a:Int}(h:a.natAbs<2^3000):LC a=true:=by
 unfold LC
 have:=oL (n:=2999) h
 exact aU (ae (aX this) (by decide))
theorem BM{a b:Int}(ha:a.natAbs<2^3000)(hb:b.natAbs<2^3000):ig .mul (.int a) (.int b)=some (.int (a*b)):=by
 show(if LC a&&LC b then some (V.int (a*b))else none)=_
 rw[BL ha,BL hb];rfl
theorem lF{a b:Int}(ha:a.natAbs<2^3000)(hb:b.natAbs<2^3000):(a*b).natAbs<2^6000:=by
 rw[bO,show(2:Nat)^6000=2^3000*2^3000 from by rw[<-Nat.pow_add]]
 exact Nat.mul_lt_mul'' ha hb
theorem VH{x:Nat}(h:x<2^6000):x<2^8001:=bI h (bT (by decide) (by decide))
theorem oM(q:Rat):(q.den:Int)≠0:=Int.ofNat_ne_zero.mpr q.den_nz
section
variable{q r:Rat}{k:Nat}{J:St}{K:V->St->Prop}
theorem F7(hq:Sm q)(hr:Sm r)(h:K (eu (q+r)) J):CA (k+3) "radd" [eu q,eu r] J K:=by
 have hs:q+r=Rat.divInt (q.num*r.den+r.num*q.den) (q.den*r.den):=by
  have:=Rat.divInt_add_divInt q.num r.num (oM q) (oM r)
  rw[Rat.num_divInt_den,Rat.num_divInt_den]at this
  exact this
 refine enter Rq rfl (zO (dM (cV (BM hq.1 hr.2) (cV (BM hr.1 hq.2) rfl)) (dM (BM hq.2 hr.2) rfl)) (pZ (Int.mul_ne_zero (oM q) (oM r)) ?_ (VH (lF hq.2 hr.2)) ⟨J,Sub.refl J,hs▸h⟩))
 have b3:(2:Nat)^6000+2^6000<=2^8001:=by
  rw[<-Nat.two_mul,<-Nat.pow_succ']
  exact bT (by decide) (by decide)
 exact aB (Int.natAbs_add_le _ _) (bI (Nat.add_lt_add (lF hq.1 hr.2) (lF hr.1 hq.2)) b3)
theorem qS(hq:Sm q)(hr:Sm r)(h:K (eu (q*r)) J):CA (k+3) "rmul" [eu q,eu r] J K:=by
 have hs:q*r=Rat.divInt (q.num*r.num) (q.den*r.den):=by
  have:=Rat.divInt_mul_divInt q.num r.num (d₁:=q.den) (d₂:=r.den)
  rw[Rat.num_divInt_den,Rat.num_divInt_den]at this
  exact this
 exact enter Rt rfl (zO (dM (BM hq.1 hr.1) (dM (BM hq.2 hr.2) rfl)) (pZ (Int.mul_ne_zero (oM q) (oM r)) (VH (lF hq.1 hr.1)) (VH (lF hq.2 hr.2)) ⟨J,Sub.refl J,hs▸h⟩))
theorem JO(hr:r≠0):r.num≠0:=λe=>hr (Rat.num_eq_zero.mp e)
theorem JP(r:Rat):r⁻¹=Rat.divInt r.den r.num:=by
 have:=Rat.inv_divInt r.num r.den
 rw[Rat.num_divInt_den]at this
 exact this
theorem F8(hq:Sm q)(hr:Sm r)(Y_:r≠0)(h:K (eu (q/r)) J):CA (k+3) "rdiv" [eu q,eu r] J K:=by
 have hs:q/r=Rat.divInt (q.num*r.den) (q.den*r.num):=by
  have:=Rat.divInt_mul_divInt q.num r.den (d₁:=q.den) (d₂:=r.num)
  rw[Rat.num_divInt_den,<-JP]at this
  rw[Rat.div_def];exact this
 exact enter Ru rfl (zO (dM (BM hq.1 hr.2) (dM (BM hq.2 hr.1) rfl)) (pZ (Int.mul_ne_zero (oM q) (JO Y_)) (VH (lF hq.1 hr.2)) (VH (lF hq.2 hr.1)) ⟨J,Sub.refl J,hs▸h⟩))
theorem qT(hr:Sm r)(Y_:r≠0)(h:K (eu r⁻¹) J):CA (k+3) "rinv" [eu r] J K:=
 have up:∀{x:Nat},x<2^3000->x<2^8001:=λh=>bI h (bT (by decide) (by decide))
 enter Rw rfl (zO (xs:=[.int r.den,.int r.num]) rfl (pZ (JO Y_) (up hr.2) (up hr.1) ⟨J,Sub.refl J,JP r▸h⟩))
theorem F9(h:K (eu (-q)) J):CA (k+1) "rneg" [eu q] J K:=by
 have:eu (-q)=.bZ [.int (0- q.num),.int q.den]:=by
  unfold eu
  rw[Rat.neg_num,Rat.neg_den,Int.zero_sub]
 rw[this]at h
 exact enter Rv rfl (j6 rfl h)
end
theorem xX{α β:Type}(f:α->β)(l:List α)(x:α):l.map f++[f x]=(l++[x]).map f:=(b8 (l₂:=[x])).symm
theorem jq{α β:Type}(l:List α)(a:α)(x:β)(r:List β):(l++[a]).length+r.length=l.length+(x::r).length:=by
 rw[aC];exact bW ..
theorem VI{α:Type}{p q:Prop}[Decidable p][Decidable q]{a b:α}(h:p↔q):(if p then a else b)=if q then a else b:=by
 by_cases hp:p
 ·rw[ai hp,ai (h.mp hp)]
 ·rw[ah hp,ah λhq=>hp (h.mpr hq)]
theorem RO{n m c:Nat}(h:n+(m+1)<=c):n<=c:=ae (aS _ _) h
theorem RP{α:Type}{a:List α}{z:α}{m c:Nat}(h:a.length+(m+1)<=c):(a++[z]).length+m<=c:=by
 rw[aC,List.length_singleton,bo];exact h
theorem sU{α β:Type}{P:List α->List β->Prop}(h0:P [] [])(h1:∀x a y b,a.length=b.length->P a b->P (x::a) (y::b)){a:List α}:∀{b:List β},a.length=b.length->P a b:=by
 induction a with
 |nil=>
  intro b h
  cases b with
  |nil=>exact h0
  |cons=>exact Nat.noConfusion h
 |cons x a ih=>
  intro b h
  cases b with
  |nil=>exact Nat.noConfusion h
  |cons y b=>exact h1 x a y b (Nat.succ.inj h) (ih (Nat.succ.inj h))
theorem kS{body:V->St->List V->(St->List V->Prop)->Prop}{J:St}(g:V->V)(aq:List V):∀(a:List V) (K:St->List V->Prop),(∀x∈aq,∀a K,a.length<=100000->K J (a++[g x])->body x J a K)->a.length+aq.length<=100000->K J (a++aq.map g)->iter body aq J a K:=by
 induction aq with
 |nil=>exactλa K Z Z h=>by rw[List.map_nil,bD]at h;exact h
 |cons x r ih=>exactλa K hb hl h=>hb x (.head _) a _ (RO hl) (ih _ K (λy hy=>hb y (.tail _ hy)) (RP hl) (by rw[bx];exact h))
noncomputable def JQ(g:Nat->V->V):Nat->List V->List V
 |_,[]=>[]
 |n,x::r=>g n x::JQ g (n+1) r
theorem F_{body:V->St->List V->(St->List V->Prop)->Prop}{J:St}(g:Nat->V->V)(l:List V):∀(n:Nat) (a:List V) (K:St->List V->Prop),(∀i x,l[i]?=some x->∀a K,a.length<=100000->K J (a++[g (n+i) x])->body (.bZ [.int ((n+i:Nat):Int),x]) J a K)->a.length+l.length<=100000->K J (a++JQ g n l)->iter body (fB n l) J a K:=by
 induction l with
 |nil=>exactλn a K Z Z h=>(bD a▸h:K J a)
 |cons x r ih=>
  exactλn a K hb hl h=>hb 0 x rfl a _ (RO hl) (ih (n+1) _ K (λi y hy=>by
   have:=hb (i+1) y hy
   rw[<-bo]at this
   exact this) (RP hl) (by rw[bx];exact h))
theorem JR(op:Int->Int->Int)(a b:List Int)(n:Nat)(c:List Int)(hc:c.length=n)(h:a.length=b.length):JQ (λi x=>match x,(c++b)[i]? with|.int u,some v=>.int (op u v)|_,_=>.none) n (a.map .int)=(List.zipWith op a b).map .int:=
 sU (P:=λa b=>∀(n:Nat) (c:List Int),c.length=n->JQ (λi x=>match x,(c++b)[i]? with|.int u,some v=>.int (op u v)|_,_=>.none) n (a.map .int)=(List.zipWith op a b).map .int) (λZ Z Z=>rfl) (λx a y b Z ih n c hc=>by
  have i:=ih (n+1) (c++[y]) (by rw[aC,hc];rfl)
  rw[<-List.append_cons]at i
  rw[bP]
  show(match V.int x,(c++y::b)[n]? with|.int u,some v=>.int (op u v)|_,_=>.none)::JQ _ (n+1) (a.map .int)=.int (op x y)::(List.zipWith op a b).map .int
  rw[i,ba (aP hc),hc,Nat.sub_self];rfl) h n c hc
section
variable{k:Nat}{J:St}{K:V->St->Prop}{a b:List Int}
theorem nA{i:Nat}{y:Int}(h:b[i]?=some y)(hb:b.length<100):iT J (bj b) (.int (i:Int))=some (.int y):=by
 show(if AO (i:Int)=true then(b.map V.int)[(i:Int).toNat]? else none)=_
 rw[ai (show AO (i:Int)=true from aU (aT (bI (Nat.lt_trans (cg.mp h).1 hb) (by decide)))),Int.toNat_natCast,aA,h];rfl
theorem RQ{i:Nat}{x:V}(hl:a.length=b.length)(h:(a.map V.int)[i]?=some x):∃u v,x=.int u/\a[i]?=some u/\b[i]?=some v:=by
 rw[aA]at h
 cases hu:a[i]? with
 |none=>rw[hu]at h;cases h
 |some u=>
  rw[hu]at h
  cases h
  have hi:i<a.length:=by
   rcases cM i a.length with h'|h'
   ·exact h'
   ·rw[bu h']at hu;cases hu
  exact⟨u,b[i]'(hl▸hi),rfl,rfl,aH (hl▸hi)⟩
theorem p5(op:Int->Int->Int)(e:E)(hl:a.length=b.length)(hb:b.length<100)(he:∀(i:Nat) (u v:Int),b[i]?=some v->pv J [some (bj a),some (bj b),some (.int i),some (.int u)] e=some (.int (op u v)))
  (h:K (bj (List.zipWith op a b)) J):fN (Wk k) k [.ret (.bi .tuple false [.lc false e [.mk (.two 2 3) (.enum (.aE 0)) []]])] [some (bj a),some (bj b),none,none] J (kQ K):=by
 have hz:(a.map V.int).length<=1000:=by rw[ag,hl];exact dy (aT hb) rfl
 refine ff (mM (oK rfl (RM rfl rfl (F_ (λi x=>match x,([]++b)[i]? with|.int u,some v=>.int (op u v)|_,_=>.none) (a.map V.int) 0 [] _ (λi x hx cB K' fe hK=>?_) ?_ ?_))))
 ·obtain⟨u,v,rfl,hu,hv⟩:=RQ hl hx
  refine zQ (ja (he _ u v ?_) ⟨fe,trivial,?_⟩)
  ·rw[bS];exact hv
  ·rw[bS,cq,hv]at hK;exact hK
 ·rw[List.length_nil,bS];exact dy hz rfl
 ·rw[JR op a b 0 [] rfl hl]
  refine⟨_,rfl,?_,J,Sub.refl J,h⟩
  show(List.map V.int (List.zipWith op a b)).length<=100000
  rw[ag,dg]
  exact ae (Nat.min_le_right ..) (dy (aT hb) rfl)
theorem jj(hl:a.length=b.length)(hb:b.length<100)(h:K (bj (List.zipWith (·+·) a b)) J):CA (k+1) "powers_product" [bj a,bj b] J K:=
 enter qP rfl (p5 (·+·) _ hl hb (λi u v hv=>cV rfl (cV (nA (J:=J) hv hb) rfl)) h)
theorem gr(hl:a.length=b.length)(hb:b.length<100)(h:K (bj (List.zipWith (· - ·) a b)) J):CA (k+1) "powers_quotient" [bj a,bj b] J K:=
 enter pR rfl (p5 (· - ·) _ hl hb (λi u v hv=>cV rfl (cV (nA (J:=J) hv hb) rfl)) h)
theorem iN(hl:a.length=b.length)(hb:b.length<100)(h:K (bj (List.zipWith (λu v=>if v>u then v else u) a b)) J):CA (k+1) "powers_join" [bj a,bj b] J K:=
 enter vB rfl (p5 (λu v=>if v>u then v else u) _ hl hb (λi u v hv=>cV (dM rfl (dM (nA (J:=J) hv hb) rfl)) rfl) h)
theorem qU(hl:a.length=b.length)(hb:b.length<100)(h:K (bj (List.zipWith (λu v=>if v<u then v else u) a b)) J):CA (k+1) "powers_meet" [bj a,bj b] J K:=
 enter vC rfl (p5 (λu v=>if v<u then v else u) _ hl hb (λi u v hv=>cV (dM rfl (dM (nA (J:=J) hv hb) rfl)) rfl) h)
end
noncomputable def mq:List Int->List Int->Bool
 |x::a,y::b=>decide (x<=y)&&mq a b
 |_,_=>true
inductive e6|lex|mQ|grevlex
noncomputable def e6.name:e6->Str
 |.lex=>"lex"
 |.mQ=>"grlex"
 |.grevlex=>"grevlex"
noncomputable def eX:List Int->Int
 |[]=>0
 |x::r=>x+eX r
def eR:e6->List Int->List Int
 |.lex,m=>m
 |.mQ,m=>eX m::m
 |.grevlex,m=>eX m::m.reverse.map (-·)
noncomputable def dZ:List Int->List Int->Bool
 |[],[]=>false
 |[],_::_=>true
 |_::_,[]=>false
 |x::a,y::b=>if x==y then dZ a b else decide (x<y)
theorem uD{x y:Int}{a b:List Int}:dZ (x::a) (y::b)=if x==y then dZ a b else decide (x<y):=rfl
theorem tf:∀(a b:List Int) (n:Nat),s6 true (n+1) (bj a) (bj b)=some (dZ a b)/\s6 false (n+1) (bj a) (bj b)=some (dZ b a):=by
 intro a b n
 have e1:∀x y,iS n (V.int x) (V.int y)=some (x==y):=λx y=>by cases n<;>rfl
 have e2:∀up x y,s6 up n (V.int x) (V.int y)=some (if up then decide (x<y)else decide (y<x)):=λup x y=>by cases n<;>rfl
 have step:∀up x y (a b:List V),sD up (iS n) (s6 up n) (V.int x::a) (V.int y::b)=if x==y then sD up (iS n) (s6 up n) a b else some (if up then decide (x<y)else decide (y<x)):=λup x y a b=>by
  show oS (iS n (V.int x) (V.int y)) (λc=>if c=true then sD up (iS n) (s6 up n) a b else s6 up n (V.int x) (V.int y))=_
  rw[e1,e2]
  cases x==y<;>rfl
 have main:∀(a b:List Int),sD true (iS n) (s6 true n) (a.map V.int) (b.map V.int)=some (dZ a b)/\sD false (iS n) (s6 false n) (a.map V.int) (b.map V.int)=some (dZ b a):=by
  intro a
  induction a with
  |nil=>intro b;cases b<;>exact⟨rfl,rfl⟩
  |cons x a ih=>
   intro b
   cases b with
   |nil=>exact⟨rfl,rfl⟩
   |cons y b=>
    rw[bP,bP,step,step,uD,uD,(BEq.comm:(y==x)=(x==y))]
    cases h:x==y with
    |true=>exact ih b
    |false=>exact⟨rfl,rfl⟩
 exact main a b
theorem p6(m:List Int):xe (m.map V.int)=some (eX m):=by
 induction m with
 |nil=>rfl
 |cons x r ih=>
  show oS (xe (r.map V.int)) (λs=>some (x+s))=_
  rw[ih];rfl
section
variable{k:Nat}{J:St}{K:V->St->Prop}{a b:List Int}
theorem zT{A B:List Int}(hB:B.length<100):∀(a b c:List Int) (n:Nat) (r2 r3:Option V),B=c++b->c.length=n->a.length=b.length->(K (.bool (mq a b)) J)->
  eg (eI k (.two 2 3) [.ifs (.cmp .gt (.aE 3) (.sub (.aE 1) (.aE 2))) [.ret (.ck (.bool false))] []] J (bj A)) (fB n (a.map V.int)) [some (bj A),some (bj B),r2,r3] J (qt k [.ret (.ck (.bool true))] (kQ K)):=by
 intro a
 induction a with
 |nil=>
  intro b c n r2 r3 hc hn hl h
  cases b with
  |nil=>exact j6 (r:=[]) rfl h
  |cons=>cases hl
 |cons x a ih=>
  intro b c n r2 r3 hc hn hl h
  cases b with
  |nil=>cases hl
  |cons y b=>
   have hy:B[n]?=some y:=by rw[hc,ba (aP hn),hn,Nat.sub_self];rfl
   have hp:pv J [some (bj A),some (bj B),some (.int n),some (.int x)] (.cmp .gt (.aE 3) (.sub (.aE 1) (.aE 2)))=some (.bool (decide (y<x))):=cV rfl (cV (nA (J:=J) hy hB) rfl)
   refine zP (JI ?_)
   by_cases Th:y<x
   ·have e:decide (x<=y)=false:=b9 (Int.not_le.mpr Th)
    rw[show mq (x::a) (y::b)=(decide (x<=y)&&mq a b)from rfl,e,Bool.false_and]at h
    exact fV (pY rfl ⟨trivial,cG (Y:=[]) h⟩) λQ q=>oJ hp ((bF Th).symm▸q)
   ·have e:decide (x<=y)=true:=bF (cc.mp Th)
    rw[show mq (x::a) (y::b)=(decide (x<=y)&&mq a b)from rfl,e,Bool.true_and]at h
    refine fG ⟨trivial,ih b (c++[y]) (n+1) _ _ ?_ ?_ (Nat.succ.inj hl) h⟩ λQ q=>oJ hp ((b9 Th).symm▸q)
    ·rw[hc,bx];rfl
    ·rw[aC,hn];rfl
theorem jI(hl:a.length=b.length)(hb:b.length<100)(h:K (.bool (mq a b)) J):CA (k+1) "powers_divide" [bj a,bj b] J K:=
 enter sO rfl (Y6 rfl rfl (zT hb a b [] 0 none none rfl rfl hl h))
theorem mR(m:List Int):vp J .sum [bj m]=some (.int (eX m)):=ao (Option.map V.int) (p6 m)
theorem mS(hl:a.length=b.length)(hb:b.length<100)(h:K (.bool (eX (List.zipWith (λu v=>if v<u then v else u) a b)==0)) J):CA (k+2) "are_apart" [bj a,bj b] J K:=by
 exact enter zC rfl (ff (zN (mM (cx (xs:=[bj a,bj b]) rfl (qU hl hb ⟨_,mR _,trivial,_,rfl,cG h⟩)))))
theorem jJ{o:e6}{m:List Int}(hm:m.length<100)(h:K (bj (eR o m)) J):CA (k+1) "order_key" [.str o.name,bj m] J K:=by
 have ht:∀l:List Int,l.length<100->ig .add (.bZ [.int (eX m)]) (.bZ (l.map V.int))=some (bj (eX m::l)):=λl hl=>ai (by rw[ag];exact ae (aF (aT hl) 1) (le rfl))
 have hs:pv J [some (.str o.name),some (bj m),none] (.bZ [.bi .sum false [.aE 1]])=some (.bZ [.int (eX m)]):=cV (dM (cV rfl (cV (mR m) rfl)) rfl) rfl
 have eq:∀(s t:Str) (b:Bool),(s==t)=b->pv J [some (.str s),some (bj m),none] (.cmp .eq (.aE 0) (.ck (.str t)))=some (.bool b):=λs t b e=>ao (λb=>some (V.bool b)) e
 refine enter zB rfl ?_
 cases o with
 |lex=>exact fV (pY rfl (cG (Y:=[]) h)) λQ q=>oJ (eq _ _ true (by decide+kernel)) q
 |mQ=>
  refine fG (fV (f:=[]) ?_ λQ q=>oJ (eq _ _ true (by decide+kernel)) q) λQ q=>oJ (eq _ _ false (by decide+kernel)) q
  exact pY (cV hs (cV rfl (ht m hm))) (cG (Y:=[]) h)
 |grevlex=>
  refine fG (fG (fV (f:=[]) ?_ λQ q=>oJ (eq _ _ true (by decide+kernel)) q) λQ q=>oJ (eq _ _ false (by decide+kernel)) q) λQ q=>oJ (eq _ _ false (by decide+kernel)) q
  have hr:m.reverse.length<100:=by rw[List.length_reverse];exact hm
  have hz:(m.map V.int).length<=100:=by rw[ag];exact aT hm
  have e3:(m.map V.int).reverse.map (λx=>match x with|.int i=>V.int (-i)|x=>x)=(m.reverse.map (-·)).map V.int:=by
   rw[<-List.map_reverse,b_,b_];rfl
  have Y':pv J [some (.str e6.grevlex.name),some (bj m),none] (.rev (.aE 1))=some (.bZ (m.map V.int).reverse):=ai (aU (dy hz rfl))
  refine ff (DN hs (mM (oK rfl (Y7 Y' rfl (kS (λx=>match x with|.int i=>.int (-i)|x=>x) _ [] _ (λx hx cB K' fe hK=>?_) ?_ ?_)))))
  ·rw[<-List.map_reverse]at hx
   obtain⟨i,_,rfl⟩:=aQ.mp hx
   exact iA (ja rfl ⟨fe,trivial,hK⟩)
  ·rw[List.length_reverse];exact ae (aF hz 0) (le rfl)
  ·rw[e3]
   refine⟨_,rfl,?_,_,ht (m.reverse.map (-·)) (by rw[ag];exact hr),cG (Y:=[]) h⟩
   show((m.reverse.map (-·)).map V.int).length<=100000
   rw[ag,ag];exact dy (aT hr) rfl
end
end
section
open PySem
set_option tactic.hygienic true
noncomputable abbrev bM:=List Int->Rat
noncomputable def bd(n:Nat):Nat:=if n=3 then 4 else 8
def gc(n:Nat)(k:List Int):Prop:=k.length=n/\∀i∈k,0<=i/\i<bd n
theorem bd8(n:Nat):bd n<=8:=by
 unfold bd
 split<;>decide
theorem gc.Ti{n:Nat}{k:List Int}(h:gc n k):∀i∈k,0<=i/\i<8:=λi hi=>⟨(h.2 i hi).1,Int.lt_of_lt_of_le (h.2 i hi).2 (cJ.mpr (bd8 n))⟩
structure Pl(n:Nat)(l:aN)(f:bM):Prop where
 nd:(l.map (·.1)).Nodup
 has:∀k,dp l k=if f k=0 then none else some (eu (f k))
 key:∀k,f k≠0->gc n k
theorem pig(N:Nat):∀(l:List Nat),l.Nodup->(∀x∈l,x<N)->l.length<=N:=by
 induction N with
 |zero=>
  intro l _ h
  cases l with
  |nil=>exact bc _
  |cons x r=>exact aG (h x (.head _)) (Nat.not_lt_zero _)
 |succ N ih=>
  intro l nd h
  by_cases hm:N∈l
  ·have:=ih (l.erase N) (nd.erase N) λx hx=>Nat.lt_of_le_of_ne (Nat.le_of_lt_succ (h x (nd.mem_erase_iff.mp hx).2)) (nd.mem_erase_iff.mp hx).1
   rw[List.length_erase_of_mem hm]at this
   exact Nat.le_succ_of_pred_le this
  ·exact cR (ih l nd λx hx=>Nat.lt_of_le_of_ne (Nat.le_of_lt_succ (h x hx)) λe=>hm (e▸hx))
noncomputable def mT:List Int->Nat
 |[]=>0
 |x::r=>x.toNat*8^r.length+mT r
theorem p7(k:List Int):(∀i∈k,0<=i/\i<8)->mT k<8^k.length:=by
 induction k with
 |nil=>exactλZ=>Nat.zero_lt_one
 |cons x r ih=>
  intro h
  have h2:=h x (.head _)
  have h3:x.toNat+1<=8:=(Int.toNat_lt h2.1).mpr h2.2
  show x.toNat*8^r.length+mT r<8^(r.length+1)
  rw[Nat.pow_succ,Nat.mul_comm (8^r.length)]
  exact bI (Nat.add_lt_add_left (ih λi hi=>h i (.tail _ hi)) _) (by rw[<-Nat.succ_mul];exact cC _ h3)
theorem wR(a b:List Int)(ha:∀i∈a,0<=i/\i<8)(hb:∀i∈b,0<=i/\i<8)(hl:a.length=b.length)(e:mT a=mT b):a=b:=
 sU (P:=λa b=>(∀i∈a,0<=i/\i<8)->(∀i∈b,0<=i/\i<8)->mT a=mT b->a=b) (λZ Z Z=>rfl) (λx a y b hl ih ha hb e=>by
  have h1:=p7 a λi hi=>ha i (.tail _ hi)
  have h2:=p7 b λi hi=>hb i (.tail _ hi)
  have e:x.toNat*8^a.length+mT a=y.toNat*8^b.length+mT b:=e
  rw[hl]at e h1
  have dv:∀{u v P:Nat},v<P->(u*P+v)/P=u:=λ{u v P} h=>by rw[Nat.mul_comm,Nat.mul_add_div (Nat.zero_lt_of_lt h),Nat.div_eq_of_lt h];rfl
  have key:x.toNat=y.toNat:=by rw[<-dv (u:=x.toNat) h1,<-dv (u:=y.toNat) h2,e]
  rw[key]at e
  have Th:x=y:=by rw[<-Int.toNat_of_nonneg (ha x (.head _)).1,key,Int.toNat_of_nonneg (hb y (.head _)).1]
  rw[Th,ih (λi hi=>ha i (.tail _ hi)) (λi hi=>hb i (.tail _ hi)) (Nat.add_left_cancel e)]) hl ha hb e
theorem ef{l:aN}{k:List Int}:k∈l.map (·.1)↔(dp l k).isSome=true:=by
 induction l with
 |nil=>exact⟨λh=>(a7 h).elim,λh=>no h⟩
 |cons p r ih=>
  obtain⟨k',v'⟩:=p
  by_cases h:k'=k
  ·subst h;rw[eC];exact⟨λZ=>rfl,λZ=>.head _⟩
  ·rw[dU h,<-ih,bP,au]
   exact⟨λx=>x.resolve_left λe=>h e.symm,.inr⟩
theorem qV{l:aN}{k m:List Int}{v:V}:dp (fA l k v) m=if k=m then some v else dp l m:=by
 induction l with
 |nil=>rfl
 |cons p r ih=>
  obtain⟨k',v'⟩:=p
  by_cases h:k'=k
  ·subst h
   rw[o8]
   by_cases h2:k'=m
   ·subst h2;rw[eC,ai rfl]
   ·rw[dU h2,dU h2,ah h2]
  ·rw[kE h]
   by_cases h2:k'=m
   ·subst h2;rw[eC,eC,ah (λe=>h e.symm)]
   ·rw[dU h2,dU h2,ih]
theorem wV{m k:List Int}{l:aN}:(l.map (·.1)).Nodup->dp (jA l k) m=if k=m then none else dp l m:=by
 induction l with
 |nil=>exactλZ=>by by_cases h:k=m;rw[ai h];rfl;rw[ah h];rfl
 |cons p r ih=>
  intro nd
  obtain⟨k',v'⟩:=p
  rw[bP,aZ]at nd
  by_cases h:k'=k
  ·subst h
   rw[tO]
   by_cases h2:k'=m
   ·subst h2
    rw[ai rfl]
    cases e:dp r k' with
    |none=>rfl
    |some v=>exact aG (ef.mpr (by rw[e];rfl)) nd.1
   ·rw[ah h2,dU h2]
  ·rw[o9 h]
   by_cases h2:k'=m
   ·subst h2;rw[eC,eC,ah (λe=>h e.symm)]
   ·rw[dU h2,dU h2,ih nd.2]
theorem DR{l:aN}{k:List Int}(h:(l.map (·.1)).Nodup):((jA l k).map (·.1)).Nodup:=yW.nodup h
theorem F'(k:List Int):dN (k.map V.int)=some k:=gY k
theorem uE(p q:Rat)(n:Nat):iS (n+1) (eu p) (eu q)=some (decide (p=q)):=by
 have e:∀a b:Int,iS n (V.int a) (V.int b)=some (a==b):=λa b=>by cases n<;>rfl
 show oS (iS n (V.int p.num) (V.int q.num)) (λb=>oS (oS (iS n (V.int p.den) (V.int q.den)) λc=>oS (some true) λd=>some (c&&d)) λc=>some (b&&c))=_
 rw[e,e]
 show some ((p.num==q.num)&&(((p.den:Int)==q.den)&&true))=_
 congr 1
 rw[Bool.and_true]
 by_cases h:p=q
 ·subst h;simp
 ·have:¬(p.num=q.num/\(p.den:Int)=q.den):=λx=>h (Rat.ext x.1 (di x.2))
  simp only[h,decide_false]
  cases h1:p.num==q.num
  ·rfl
  ·cases h2:((p.den:Int)==q.den)
   ·rfl
   ·exact aG ⟨by simpa using h1,by simpa using h2⟩ this
section
variable{n:Nat}{l:aN}{f g:bM}
theorem Pl.size(p:Pl n l f)(hn:n<=3):l.length<=512:=by
 have hk:∀k∈l.map (·.1),gc n k:=λk hk=>by
  have:=ef.mp hk
  rw[p.has]at this
  by_cases h:f k=0
  ·rw[ai h]at this;cases this
  ·exact p.key k h
 have h1:=pig 512 ((l.map (·.1)).map mT) ?_ λx hx=>?_
 ·simpa using h1
 ·rw[List.Nodup,List.pairwise_map]
  refine List.Pairwise.imp_of_mem (λ{a b} ha hb xn e=>xn ?_) p.nd
  have h1:=hk a ha
  have h2:=hk b hb
  exact wR a b h1.Ti h2.Ti (h1.1.trans h2.1.symm) e
 ·obtain⟨k,hm,rfl⟩:=aQ.mp hx
  have h1:=hk k hm
  have:=p7 k h1.Ti
  rw[h1.1]at this
  exact bI this (bT (by decide) hn)
theorem Pl.congr(p:Pl n l f)(h:∀k,f k=g k):Pl n l g:=(funext h:f=g)▸p
noncomputable def gP(f:bM)(k:List Int)(q:Rat):bM:=λm=>if k=m then f m+q else f m
theorem Pl.del(p:Pl n l f){k:List Int}{q:Rat}(h:f k+q=0):Pl n (jA l k) (gP f k q)where
 nd:=DR p.nd
 has m:=by
  rw[wV p.nd]
  unfold gP
  by_cases e:k=m
  ·subst e;rw[ai rfl,ai rfl,ai h]
  ·rw[ah e,ah e,p.has]
 key m hm:=by
  unfold gP at hm
  split at hm
  ·rename_i e;subst e;exact aG h hm
  ·exact p.key m hm
theorem Pl.put(p:Pl n l f){k:List Int}{q:Rat}(hk:gc n k)(h:f k+q≠0):Pl n (fA l k (eu (f k+q))) (gP f k q)where
 nd:=iK p.nd
 has m:=by
  rw[qV]
  unfold gP
  by_cases e:k=m
  ·subst e;rw[ai rfl,ai rfl,ah h]
  ·rw[ah e,ah e,p.has]
 key m hm:=by
  unfold gP at hm
  split at hm
  ·rename_i e;exact e▸hk
  ·exact p.key m hm
theorem Pl.zero:Pl n [] λZ=>0:=⟨.nil,λk=>rfl,λk h=>aG rfl h⟩
end
noncomputable def wW(b:Nat):Nat->aM
 |0=>[[]]
 |n+1=>(List.range b).flatMap λi=>(wW b n).map λk=>((i:Nat):Int)::k
theorem ju{b:Nat}(k:List Int):(∀i∈k,0<=i/\i<(b:Int))->k∈wW b k.length:=by
 induction k with
 |nil=>exactλZ=>.head _
 |cons x r ih=>
  intro h
  have hx:=h x (.head _)
  refine List.mem_flatMap.mpr ⟨x.toNat,List.mem_range.mpr ((Int.toNat_lt hx.1).mpr hx.2),aQ.mpr ⟨r,ih λi hi=>h i (.tail _ hi),?_⟩⟩
  rw[Int.toNat_of_nonneg hx.1]
theorem p8{α β:Type}(f:α->β){l:List α}:(l.map f).Nodup->∀a∈l,∀b∈l,f a=f b->a=b:=by
 induction l with
 |nil=>exactλZ a ha=>(a7 ha).elim
 |cons x r ih=>
  intro h a ha b hb e
  rw[bP,aZ]at h
  have off:∀{c},c∈r->f c=f x->False:=λhc e=>h.1 (aQ.mpr ⟨_,hc,e⟩)
  rcases au.mp ha with rfl|h1
  ·exact(au.mp hb).elim Eq.symm λh2=>(off h2 e.symm).elim
  ·exact(au.mp hb).elim (λh2=>(off h1 (h2▸e)).elim) λh2=>ih h.2 a h1 b h2 e
set_option maxRecDepth 100000 in
theorem VJ:((wW 8 2).map Hk).Nodup:=by decide+kernel
set_option maxRecDepth 100000 in
theorem VK:((wW 4 3).map Hk).Nodup:=by decide+kernel
theorem RR{n:Nat}(hn:n=2\/n=3){a b:List Int}(ha:gc n a)(hb:gc n b)(e:Hk a=Hk b):a=b:=by
 rcases hn with rfl|rfl
 ·have h1:=ju (b:=8) a ha.2
  have h2:=ju (b:=8) b hb.2
  rw[ha.1]at h1
  rw[hb.1]at h2
  exact p8 Hk VJ a h1 b h2 e
 ·have h1:=ju (b:=4) a ha.2
  have h2:=ju (b:=4) b hb.2
  rw[ha.1]at h1
  rw[hb.1]at h2
  exact p8 Hk VK a h1 b h2 e
theorem Pl.hash{n:Nat}{l:aN}{f:bM}(p:Pl n l f)(hn:n=2\/n=3):(l.map λx=>Hk x.1).Nodup:=by
 have hk:∀k∈l.map (·.1),gc n k:=λk hk=>by
  have:=ef.mp hk
  rw[p.has]at this
  by_cases h:f k=0
  ·rw[ai h]at this;cases this
  ·exact p.key k h
 have e:(l.map λx=>Hk x.1)=(l.map (·.1)).map Hk:=by rw[b_];rfl
 rw[e,List.Nodup,List.pairwise_map]
 exact List.Pairwise.imp_of_mem (λ{a b} ha hb xn e=>xn (RR hn (hk a ha) (hk b hb) e)) p.nd
end
section
open PySem
section
variable{n j:Nat}{J:St}{K:V->St->Prop}{x:V}{l:aN}{f g:bM}{k:List Int}{q:Rat}
theorem DS(hv:b6 J x=some (.bC l)):Xw J (bj k) x=some (dp l k).isSome:=by
 unfold Xw
 rw[hv]
 show oS (dN (k.map V.int)) (λk=>some (dp l k).isSome)=_
 rw[gY];rfl
theorem fW(hv:b6 J x=some (.bC l)):iT J x (bj k)=dp l k:=by
 unfold iT
 rw[hv]
 show oS (dN (k.map V.int)) (dp l)=_
 rw[gY];rfl
theorem PH:gv "R0"=some (eu 0):=by kernel_rfl
theorem DT:gv "R1"=some (eu 1):=by kernel_rfl
theorem Pl.aY(p:Pl n l f)(h:f k≠0):dp l k=some (eu (f k)):=by rw[p.has,ah h]
theorem Pl.off(p:Pl n l f)(h:f k=0):dp l k=none:=by rw[p.has,ai h]
theorem p9{c:aN}{v:V}:nU (.bC c) (bj k) v=some (.bC (fA c k v)):=by
 show oS (dN (k.map V.int)) (λk=>some (V.bC (fA c k v)))=_
 rw[gY];rfl
theorem JS{c:aN}{v:V}:mu J .rD (.bC c) [bj k,v]=some (.bC (jA c k),(dp c k).getD v):=by
 show oS (dN (k.map V.int)) (λk=>some (V.bC (jA c k),(dp c k).getD v))=_
 rw[gY];rfl
theorem Pl.hz(p:Pl n l f)(hn:n<=3):ey (.bC l):=dy (p.size hn) rfl
theorem kl{d:Addr}{o:Obj}(hn:n<=3)(AF:aY J d=some (o,.bC l))(p:Pl n l f)(hk:gc n k)(hq:Sm q)(hf:Sm (f k))(h:∀o' l',Pl n l' (gP f k q)->K .none (gN J d o' (.bC l'))):
  CA (j+4) "add_term" [.ref d,bj k,eu q] J K:=by
 have hv:b6 J (.ref d)=some (.bC l):=ao (Option.map λp:Obj×V=>p.2) AF
 have fin:fN (Wk (j+3)) (j+3) [.ifs (.cmp .eq (.aE 3) (.yI "R0")) [.ex (.met .rD (.aE 0) [.aE 1,.ck .none])] [.put (.aE 0) (.aE 1) (.aE 3)]] [some (.ref d),some (bj k),some (eu q),some (eu (f k+q))] J (kQ K):=by
  have ht:pv J [some (.ref d),some (bj k),some (eu q),some (eu (f k+q))] (.cmp .eq (.aE 3) (.yI "R0"))=some (.bool (decide (f k+q=0))):=cV rfl (cV PH (cV (uE _ _ 4) rfl))
  by_cases h0:f k+q=0
  ·have p':=p.del (q:=q) h0
   exact fV (DQ (mN rfl AF rfl rfl JS (p.hz hn) (p'.hz hn) λo'=>⟨_,Sub.refl _,h o' _ p'⟩)) λQ q=>oJ ht ((bF h0).symm▸q)
  ·exact Vx (MZ rfl rfl rfl ⟨_,_,_,AF,p9,p.hz hn,λo'=>⟨_,Sub.refl _,h o' _ (p.put hk h0)⟩⟩) λQ q=>oJ ht ((b9 h0).symm▸q)
 have iD:pv J [some (.ref d),some (bj k),some (eu q),none] (.cmp .CT (.aE 1) (.aE 0))=some (.bool (dp l k).isSome):=cV rfl (cV rfl (cV (DS hv) rfl))
 refine enter BB rfl (eP (JG iD ?_))
 by_cases h0:f k=0
 ·rw[p.off h0]
  rw[h0,Rat.zero_add]at fin
  exact fin
 ·rw[p.aY h0]
  exact cx (dM ((fW hv).trans (p.aY h0)) rfl) (F7 hf hq fin)
noncomputable def iW(f:bM)(R:aM):bM:=λm=>if m∈R then 0 else f m
theorem nB(f:bM):iW f []=f:=funext λm=>by simp[iW]
theorem cQ(J:St)(x:V):e_ J x J:=by cases x<;>trivial
theorem nE(p:Pl n l f):iW f (l.map (·.1))=λZ=>0:=funext λm=>by
 unfold iW
 by_cases h:m∈l.map (·.1)
 ·rw[ai h]
 ·rw[ah h]
  have:¬(dp l m).isSome=true:=λe=>h (ef.mpr e)
  rw[p.has]at this
  by_cases e:f m=0
  ·exact e
  ·rw[ah e]at this;exact aG rfl this
theorem lG{k:List Int}{R:aM}(h:k∉R)(f:bM):iW f R=gP (iW f (k::R)) k (f k):=funext λm=>by
 unfold iW gP
 by_cases e:k=m
 ·subst e;simp[h,Rat.zero_add]
 ·rw[ah e]
  have:(m∈k::R)↔m∈R:=⟨λx=>(au.mp x).resolve_left λy=>e y.symm,λx=>cD _ x⟩
  simp only[this]
theorem e7(l:aN):iU l=(l.map (·.1)).map bj:=by
 unfold iU
 rw[b_];rfl
theorem Pl.mem(p:Pl n l f){k:List Int}(h:k∈l.map (·.1)):f k≠0:=λe=>by
 have:=ef.mp h
 rw[p.off e]at this;cases this
theorem Pl.kh(p:Pl n l f)(hk:gc n k)(h0:f k=0)(hq:q≠0):Pl n (fA l k (eu q)) (gP f k q):=by
 have:=p.put (q:=q) hk (by rw[h0,Rat.zero_add];exact hq)
 rwa[h0,Rat.zero_add]at this
theorem jv{body:V->St->aN->(St->aN->Prop)->Prop}(I:aM->aN->Prop)(ks:aM):
  ∀(a:aN) (Kk:St->aN->Prop),I ks a->(∀k r a K,I (k::r) a->(∀a',I r a'->K J a')->body (bj k) J a K)->(∀a,I [] a->Kk J a)->iter body (ks.map bj) J a Kk:=by
 induction ks with
 |nil=>exactλa Kk h Z hf=>hf a h
 |cons k r ih=>exactλa Kk h hb hf=>hb k r a _ h λa' h'=>ih a' Kk h' hb hf
theorem BN(hn:n<=3)(hv:b6 J x=some (.bC l))(p:Pl n l f)(h:∀l',Pl n l' (λm=> - f m)->K (.bC l') J):CA (j+2) "mvneg" [x] J K:=by
 refine enter MR rfl (ff (Tf rfl (zR rfl hv ?_)))
 rw[e7]
 refine jv (λks a=>ks.Nodup/\(∀k∈ks,f k≠0)/\Pl n a (λm=> - iW f ks m)) _ _ _ ⟨p.nd,λk hk=>p.mem hk,?_⟩ (λk r a K' hI hK=>?_) λa hI=>cG (Y:=[]) (h a (by have:=hI.2.2;rwa[nB]at this))
 ·rw[nE p]
  exact Pl.zero.congr λk=>Rat.neg_zero.symm
 ·obtain⟨h1,h2,h3⟩:=hI
  rw[aZ]at h1
  have rX:=h2 k (.head _)
  refine iA (Vv rfl (cx (dM ((fW hv).trans (p.aY rX)) rfl) (F9 ⟨dy (h3.size hn) rfl,cQ J x,hK _ ⟨h1.2,λk hk=>h2 k (.tail _ hk),?_⟩⟩)))
  refine(h3.kh (p.key k rX) (by rw[iW,ai (.head _)];rfl) (q:= - f k) (λe=>rX (by grind))).congr λm=>?_
  rw[lG h1.1 f]
  unfold gP
  split<;>grind
end
noncomputable def dj(n:Nat)(f:bM)(s:List Int)(r:Rat):bM:=λm=>if m.length=n then f (List.zipWith (· - ·) m s)*r else 0
theorem iX{a s:List Int}(h:a.length=s.length):List.zipWith (· - ·) (List.zipWith (·+·) a s) s=a:=
 sU (P:=λa s=>List.zipWith (· - ·) (List.zipWith (·+·) a s) s=a) rfl (λx a y s Z ih=>by
  show(x+y- y)::List.zipWith (· - ·) (List.zipWith (·+·) a s) s=x::a
  rw[ih,Int.add_sub_cancel]) h
theorem hM{a s:List Int}(h:a.length=s.length):List.zipWith (·+·) (List.zipWith (· - ·) a s) s=a:=
 sU (P:=λa s=>List.zipWith (·+·) (List.zipWith (· - ·) a s) s=a) rfl (λx a y s Z ih=>by
  show(x- y+y)::List.zipWith (·+·) (List.zipWith (· - ·) a s) s=x::a
  rw[ih,Int.sub_add_cancel]) h
section
variable{n j:Nat}{J:St}{K:V->St->Prop}{x y:V}{l lb:aN}{f g:bM}{k s:List Int}{q r:Rat}
theorem JT{a b:Rat}(ha:a≠0)(hb:b≠0):a*b≠0:=λe=>by
 rcases Rat.mul_eq_zero.mp e with h|h
 ·exact ha h
 ·exact hb h
theorem VL{Y:du}{i:Nat}{q:Rat}(h:Y[i]?=some (some (eu q))):pv J Y (.cmp .eq (.aE i) (.yI "R0"))=some (.bool (decide (q=0))):=by
 refine cV (x:=eu q) ?_ (cV PH (cV (uE _ _ 4) rfl))
 show Y[i]?.bind id=_
 rw[h];rfl
theorem xY(hn:n<=3)(hv:b6 J x=some (.bC l))(p:Pl n l f)(hf:∀k,Sm (f k))(hr:Sm r)(h:∀l',Pl n l' (λm=>f m*r)->K (.bC l') J):CA (j+4) "mvscale" [x,eu r] J K:=by
 refine enter FW rfl ?_
 by_cases h0:r=0
 ·exact fV (ff (Q:=qt _ _ _) (cG (Y:=[]) (h [] (Pl.zero.congr λm=>by rw[h0,Rat.mul_zero])))) λQ q=>oJ (VL rfl) ((bF h0).symm▸q)
 refine fG (ff (Tf rfl (zR rfl hv ?_))) λQ q=>oJ (VL rfl) ((b9 h0).symm▸q)
 rw[e7]
 refine jv (λks a=>ks.Nodup/\(∀k∈ks,f k≠0)/\Pl n a (λm=>iW f ks m*r)) _ _ _ ⟨p.nd,λk hk=>p.mem hk,?_⟩ (λk R a K' hI hK=>?_) λa hI=>cG (Y:=[]) (h a (by have:=hI.2.2;rwa[nB]at this))
 ·rw[nE p]
  exact Pl.zero.congr λk=>by rw[da]
 ·obtain⟨h1,h2,h3⟩:=hI
  rw[aZ]at h1
  have rX:=h2 k (.head _)
  refine iA (Vv rfl (cx (dM ((fW hv).trans (p.aY rX)) rfl) (qS (hf k) hr ⟨dy (h3.size hn) rfl,cQ J x,hK _ ⟨h1.2,λk hk=>h2 k (.tail _ hk),?_⟩⟩)))
  refine(h3.kh (p.key k rX) (by rw[iW,ai (.head _),da]) (JT rX h0)).congr λm=>?_
  rw[lG h1.1 f]
  unfold gP
  split<;>grind
theorem lH(hn:n<=3)(hv:b6 J x=some (.bC l))(p:Pl n l f)(hf:∀k,Sm (f k))(hr:Sm r)(hs:s.length=n)(hb:∀k,f k≠0->gc n (List.zipWith (·+·) k s))(h:∀l',Pl n l' (dj n f s r)->K (.bC l') J):
  CA (j+4) "mvshift" [x,bj s,eu r] J K:=by
 refine enter FX rfl ?_
 have z0:∀m,0=dj n (λZ=>0) s r m:=λm=>by unfold dj;rw[da];split<;>rfl
 by_cases h0:r=0
 ·exact fV (ff (Q:=qt _ _ _) (cG (Y:=[]) (h [] (Pl.zero.congr λm=>by unfold dj;rw[h0,Rat.mul_zero];split<;>rfl)))) λQ q=>oJ (VL rfl) ((bF h0).symm▸q)
 refine fG (ff (Tf rfl (zR rfl hv ?_))) λQ q=>oJ (VL rfl) ((b9 h0).symm▸q)
 rw[e7]
 refine jv (λks a=>ks.Nodup/\(∀k∈ks,f k≠0)/\Pl n a (dj n (iW f ks) s r)) _ _ _ ⟨p.nd,λk hk=>p.mem hk,?_⟩ (λk R a K' hI hK=>?_) λa hI=>cG (Y:=[]) (h a (by have:=hI.2.2;rwa[nB]at this))
 ·rw[nE p]
  exact Pl.zero.congr z0
 ·obtain⟨h1,h2,h3⟩:=hI
  rw[aZ]at h1
  have rX:=h2 k (.head _)
  have M9:k.length=s.length:=(p.key k rX).1.trans hs.symm
  have hm:=hb k rX
  have hz:dj n (iW f (k::R)) s r (List.zipWith (·+·) k s)=0:=by
   unfold dj
   rw[ai hm.1,iX M9,iW,ai (.head _),da]
  refine iA (dEc (xs:=[bj k,bj s]) rfl (jj M9 (by rw[hs];exact dy (aL hn) rfl) ?_))
  refine Vu (K:=λσ' a=>e_ J x σ'/\K' σ' a) (cx (dM ((fW hv).trans (p.aY rX)) rfl) (qS (hf k) hr ⟨dy (h3.size hn) rfl,cQ J x,hK _ ⟨h1.2,λk hk=>h2 k (.tail _ hk),?_⟩⟩))
  refine(h3.kh hm hz (JT rX h0)).congr λm=>?_
  rw[lG h1.1 f]
  unfold gP dj
  dsimp only
  by_cases e:List.zipWith (·+·) k s=m
  ·subst e
   rw[ai rfl,ai hm.1,ai hm.1,iX M9,ai rfl,iW,ai (.head _),da,Rat.zero_add,Rat.zero_add]
  ·rw[ah e]
   by_cases hl:m.length=n
   ·rw[ai hl,ai hl,ah]
    exactλe2=>e (by rw[e2];exact hM (hl.trans hs.symm))
   ·rw[ah hl,ah hl]
theorem hO{d:Addr}{o:Obj}{z w:V}(hd:aY J d=none)(hv:b6 J y=some w):b6 ((d,o,z)::J) y=some w:=by
 cases y with
 |ref a=>
  by_cases e:a=d
  ·exact nn ((ao (Option.map Prod.snd) (e▸hd:aY J a=none)).symm.trans hv)
  ·exact(ao (Option.map Prod.snd) (gf e)).trans hv
 |_=>exact hv
theorem nF{d:Addr}{o o':Obj}{z z' w:V}(hd:aY J d=none)(hv:b6 J y=some w):e_ ((d,o,z)::J) y ((d,o',z')::J):=by
 cases y with
 |ref a=>
  by_cases e:a=d
  ·exact nn ((ao (Option.map Prod.snd) (e▸hd:aY J a=none)).symm.trans hv)
  ·exact(gf e).trans (gf e).symm
 |_=>exact trivial
theorem xZ:Sm 0:=⟨by decide,by decide⟩
theorem BO(hn:n<=3){d:Addr}(hd:aY J d=none)(hy:b6 J y=some (.bC lb))(pb:Pl n lb g)(hf:∀k,Sm (f k))(hg:∀k,Sm (g k)){o₀:Obj}{Za:V}(h:∀o l',Pl n l' (λm=>f m+g m)->K (.ref d) ((d,o,.bC l')::J)):
  ∀(ks:aM) (o:Obj) (cB:aN) (r4:Option V),ks.Nodup->(∀k∈ks,g k≠0)->Pl n cB (λm=>f m+iW g ks m)->
  eg (eI (j+4) (.one 3) [.ex (.call "add_term" [.aE 2,.aE 3,.sub (.aE 1) (.aE 3)])] ((d,o₀,Za)::J) y) (ks.map bj) [some x,some y,some (.ref d),r4] ((d,o,.bC cB)::J) (qt (j+4) [.ret (.aE 2)] (kQ K)):=by
 intro ks
 induction ks with
 |nil=>
  intro o cB r4 _ _ p
  rw[nB]at p
  exact j6 (r:=[]) rfl (h o cB p)
 |cons k R ih=>
  intro o cB r4 nd gO p
  rw[aZ]at nd
  have Tj:=gO k (.head _)
  refine zP (vE (DQ (cx (dM rfl (dM rfl (dM ((fW (hO hd hy)).trans (pb.aY Tj)) rfl))) (kl hn lE p (pb.key k Tj) (hg k) ?_ λo' l' p'=>?_))))
  ·rw[iW,ai (.head _),Rat.add_zero];exact hf k
  ·rw[xc]
   exact⟨nF hd hy,ih o' l' _ nd.2 (λk hk=>gO k (.tail _ hk)) (p'.congr λm=>by
    rw[lG nd.1 g]
    unfold gP
    split<;>grind)⟩
theorem Pl.hk(p:Pl n l f)(hn:n<=3):ey (.bC l):=p.hz hn
end
theorem n3{n:Nat}(h:n=2\/n=3):n<=3:=h.elim (λe=>e▸(by decide)) λe=>e▸bc 3
theorem Sm.neg{q:Rat}(h:Sm q):Sm (-q):=⟨by rw[Rat.neg_num,cI];exact h.1,by rw[Rat.neg_den];exact h.2⟩
theorem mU{x:Int}{a b:List Int}:dZ (x::a) (x::b)=dZ a b:=ai (cv x)
theorem zU{x y:Int}{a b:List Int}(h:x≠y):dZ (x::a) (y::b)=decide (x<y):=ah λe=>h (bt e)
theorem jK{x y:Int}{a b:List Int}(h:x<y):dZ (x::a) (y::b)=true:=(zU (Int.ne_of_lt h)).trans (bF h)
theorem mV{x y:Int}{a b:List Int}(h:y<x):dZ (x::a) (y::b)=false:=(zU (Int.ne_of_gt h)).trans (b9 (cc.mpr (Int.le_of_lt h)))
theorem rY{a:List Int}:∀{b c:List Int},dZ a b=true->dZ b c=true->dZ a c=true:=by
 induction a with
 |nil=>
  intro b c h1 h2
  cases b with
  |nil=>exact no h1
  |cons y b=>cases c with
   |nil=>exact no h2
   |cons z c=>rfl
 |cons x a ih=>
  intro b c h1 h2
  cases b with
  |nil=>exact no h1
  |cons y b=>cases c with
   |nil=>exact no h2
   |cons z c=>
    rcases Int.lt_trichotomy x y with h|h|h
    ·rcases Int.lt_trichotomy y z with k|k|k
     ·exact jK (Int.lt_trans h k)
     ·exact jK (k▸h)
     ·rw[mV k]at h2;exact no h2
    ·subst h
     rcases Int.lt_trichotomy x z with k|k|k
     ·exact jK k
     ·subst k
      rw[mU]at h1 h2⊢
      exact ih h1 h2
     ·rw[mV k]at h2;exact no h2
    ·rw[mV h]at h1;exact no h1
theorem jw(a:List Int):dZ a a=false:=by
 induction a with
 |nil=>rfl
 |cons x a ih=>exact mU.trans ih
def dn(o:e6)(f:bM)(m:List Int):Prop:=f m≠0/\∀k,f k≠0->dZ (eR o m) (eR o k)=false
section
variable{n j:Nat}{J:St}{K:V->St->Prop}{x y:V}{l la lb:aN}{f g:bM}{k s:List Int}{q r:Rat}{o:e6}
theorem BP(hn:n=2\/n=3)(hx:b6 J x=some (.bC la))(pa:Pl n la f)(hy:b6 J y=some (.bC lb))(pb:Pl n lb g)(hf:∀k,Sm (f k))(hg:∀k,Sm (g k))
  (h:∀d o l',aY J d=none->Pl n l' (λm=>f m+g m)->K (.ref d) ((d,o,.bC l')::J)):CA (j+5) "mvadd" [x,y] J K:=by
 have hd:vp J .dict [x]=some (.bC la):=by
  show yL J x=_
  unfold yL
  rw[hx]
  exact ai (pa.hash hn)
 refine enter MQ rfl (eP (mM ⟨_,hd,pa.hz (n3 hn),λd ob VG=>M4 rfl (hO VG hy) ?_⟩))
 rw[e7]
 exact BO (n3 hn) VG hy pb hf hg (λo l' p=>h d o l' VG p) (lb.map (·.1)) ob la none pb.nd (λk hk=>pb.mem hk) (pa.congr λm=>by rw[nE pb,Rat.add_zero])
theorem lI(hn:n=2\/n=3)(hx:b6 J x=some (.bC la))(pa:Pl n la f)(hy:b6 J y=some (.bC lb))(pb:Pl n lb g)(hf:∀k,Sm (f k))(hg:∀k,Sm (g k))
  (h:∀d o l',aY J d=none->Pl n l' (λm=>f m- g m)->K (.ref d) ((d,o,.bC l')::J)):CA (j+6) "mvsub" [x,y] J K:=
 enter MS rfl (ff (mK (x:=x) rfl (cx (xs:=[y]) rfl (BN (n3 hn) hy pb λl' p'=>BP hn hx pa (y:=.bC l') rfl p' hf (λk=>(hg k).neg) λd o l2 hd p2=>cG (Y:=[]) (h d o l2 hd (p2.congr λm=>(Rat.sub_eq_add_neg _ _).symm))))))
theorem zV(a b:List Int):iG J .gt (bj a) (bj b)=some (dZ b a):=(tf a b 4).2
def VM:Option (List Int)->V
 |none=>.none
 |some m=>bj m
def Zb(o:e6):Option (List Int)->V
 |none=>.none
 |some m=>bj (eR o m)
theorem dn.below{m k:List Int}(kq:dZ (eR o m) (eR o k)=true){k':List Int}(h:dZ (eR o m) (eR o k')=false):dZ (eR o k) (eR o k')=false:=by
 cases e:dZ (eR o k) (eR o k')with
 |false=>rfl
 |true=>rw[rY kq e]at h;cases h
theorem zW(hv:b6 J x=some (.bC l))(p:Pl n l f)(hn:n<=3)(h0:(∀k,f k=0)->K .none J)(h1:∀m,dn o f m->K (.bZ [bj m,eu (f m)]) J):
  ∀(ks:aM) (b:Option (List Int)) (r4 r5:Option V),(∀k∈ks,f k≠0)->(∀m,b=some m->f m≠0)->(∀k,f k≠0->k∈ks\/∃m,b=some m/\dZ (eR o m) (eR o k)=false)->
  eg (eI (j+1) (.one 4) [.asg 5 (.call "order_key" [.aE 1,.aE 4]),.ifs (.or (.cmp .GQ (.aE 2) (.ck .none)) (.cmp .gt (.aE 5) (.aE 3))) [.iF [2,3] (.bZ [.aE 4,.aE 5])] []] J x) (ks.map bj) [some x,some (.str o.name),some (VM b),some (Zb o b),r4,r5] J
   (qt (j+1) [.ret (.ite (.cmp .GQ (.aE 2) (.ck .none)) (.ck .none) (.bZ [.aE 2,.sub (.aE 0) (.aE 2)]))] (kQ K)):=by
 intro ks
 induction ks with
 |nil=>
  intro b r4 r5 _ hb hk
  cases b with
  |none=>
   refine j6 (r:=[]) rfl (h0 λk=>?_)
   by_cases e:f k=0
   ·exact e
   ·exact(hk k e).elim nofun nofun
  |some m=>
   have hm:=hb m rfl
   refine j6 (r:=[]) (cV rfl (cV rfl (cV (dM rfl (dM ((fW hv).trans (p.aY hm)) rfl)) rfl))) (h1 m ⟨hm,λk GS=>?_⟩)
   rcases hk k GS with h|⟨m',h,h2⟩
   ·cases h
   ·cases h;exact h2
 |cons k R ih=>
  intro b r4 r5 gO hb hk
  have rX:=gO k (.head _)
  have hR:∀k∈R,f k≠0:=λk hk=>gO k (.tail _ hk)
  refine zP (vE (eP (cx (xs:=[.str o.name,bj k]) rfl (jJ (o:=o) (m:=k) (by rw[(p.key k rX).1];exact dy (aL hn) rfl) ?_))))
  cases b with
  |none=>
   refine fV (pW (xs:=[bj k,bj (eR o k)]) rfl rfl ⟨cQ J x,ih (some k) _ _ hR (λm e=>by cases e;exact rX) λk' h'=>?_⟩) λQ q=>oJ rfl q
   rcases hk k' h' with h|⟨m,h,_⟩
   ·rcases au.mp h with h|h
    ·exact .inr ⟨k,rfl,h▸jw _⟩
    ·exact .inl h
   ·cases h
  |some m=>
   have ht:∀{r},pv J [some x,some (.str o.name),some (bj m),some (bj (eR o m)),r,some (bj (eR o k))] (.or (.cmp .GQ (.aE 2) (.ck .none)) (.cmp .gt (.aE 5) (.aE 3)))=some (.bool (dZ (eR o m) (eR o k))):=
    cV rfl (cV rfl (cV (cV rfl (cV rfl (cV (zV _ _) rfl))) rfl))
   cases kq:dZ (eR o m) (eR o k)with
   |true=>
    rw[kq]at ht
    refine fV (pW (xs:=[bj k,bj (eR o k)]) rfl rfl ⟨cQ J x,ih (some k) _ _ hR (λm e=>by cases e;exact rX) λk' h'=>?_⟩) λQ q=>oJ ht q
    rcases hk k' h' with h|⟨m',h,h2⟩
    ·rcases au.mp h with h|h
     ·exact .inr ⟨k,rfl,h▸jw _⟩
     ·exact .inl h
    ·cases h
     exact .inr ⟨k,rfl,dn.below kq h2⟩
   |false=>
    rw[kq]at ht
    refine fG ⟨cQ J x,ih (some m) _ _ hR hb λk' h'=>?_⟩ λQ q=>oJ ht q
    rcases hk k' h' with h|h
    ·rcases au.mp h with h|h
     ·exact .inr ⟨m,rfl,h▸kq⟩
     ·exact .inl h
    ·exact .inr h
theorem fg(hv:b6 J x=some (.bC l))(p:Pl n l f)(hn:n<=3)(h0:(∀k,f k=0)->K .none J)(h1:∀m,dn o f m->K (.bZ [bj m,eu (f m)]) J):CA (j+2) "mvlead" [x,.str o.name] J K:=by
 refine enter JA rfl (pW (xs:=[.none,.none]) rfl rfl (M4 rfl hv ?_))
 rw[e7]
 exact zW hv p hn h0 h1 (l.map (·.1)) none none none (λk hk=>p.mem hk) (λm e=>by cases e) λk hk=>.inl (ef.mpr (by rw[p.aY hk];rfl))
end
theorem zX{a b:List Int}(hl:a.length=b.length):a≠b->dZ a b=false->dZ b a=true:=
 sU (P:=λa b=>a≠b->dZ a b=false->dZ b a=true) (λh Z=>aG rfl h) (λx a y b Z ih h h1=>by
  rcases Int.lt_trichotomy x y with k|k|k
  ·rw[jK k]at h1;exact no h1.symm
  ·subst k
   rw[mU]at h1⊢
   exact ih (λe=>h (by rw[e])) h1
  ·exact jK k) hl
theorem Ga{a b c:List Int}(h1:a.length=b.length):b.length=c.length->dZ (List.zipWith (·+·) a c) (List.zipWith (·+·) b c)=dZ a b:=
 sU (P:=λa b=>∀{c:List Int},b.length=c.length->dZ (List.zipWith (·+·) a c) (List.zipWith (·+·) b c)=dZ a b) (λZ=>rfl) (λx a y b Z ih c h2=>by
  cases c with
  |nil=>exact Nat.noConfusion h2
  |cons z c=>
   show dZ ((x+z)::List.zipWith (·+·) a c) ((y+z)::List.zipWith (·+·) b c)=_
   rcases Int.lt_trichotomy x y with k|k|k
   ·rw[jK k,jK (Int.add_lt_add_right k z)]
   ·subst k;rw[mU,mU];exact ih (Nat.succ.inj h2)
   ·rw[mV k,mV (Int.add_lt_add_right k z)]) h1
theorem zY{a b:List Int}(h:a.length=b.length):eX (List.zipWith (·+·) a b)=eX a+eX b:=
 sU (P:=λa b=>eX (List.zipWith (·+·) a b)=eX a+eX b) rfl (λx a y b Z ih=>by
  show x+y+eX (List.zipWith (·+·) a b)=x+eX a+(y+eX b)
  rw[ih,bQ,Int.add_left_comm y,<-bQ]) h
theorem neg_add{a:List Int}:∀{b:List Int},(List.zipWith (·+·) a b).map (-·)=List.zipWith (·+·) (a.map (-·)) (b.map (-·)):=by
 induction a with
 |nil=>exact rfl
 |cons x a ih=>
  intro b
  cases b with
  |nil=>rfl
  |cons y b=>
   show -(x+y)::(List.zipWith (·+·) a b).map (-·)=(-x+ -y)::_
   rw[ih,Int.neg_add]
theorem M_{a b:List Int}(h:a.length=b.length):(List.zipWith (·+·) a b).reverse=List.zipWith (·+·) a.reverse b.reverse:=(List.reverse_zipWith h)
theorem zZ(o:e6){a b:List Int}(h:a.length=b.length):eR o (List.zipWith (·+·) a b)=List.zipWith (·+·) (eR o a) (eR o b):=by
 cases o with
 |lex=>rfl
 |mQ=>simp only[eR,List.zipWith_cons_cons,zY h]
 |grevlex=>
  simp only[eR,List.zipWith_cons_cons,zY h]
  rw[M_ h,neg_add]
theorem uF(o:e6){a b:List Int}(h:a.length=b.length):(eR o a).length=(eR o b).length:=by
 cases o<;>simp[eR,h]
theorem z3{a b:List Int}(h:a.map (-·)=b.map (-·)):a=b:=by
 have:(a.map (-·)).map (-·)=(b.map (-·)).map (-·):=by rw[h]
 simpa[List.map_map,Function.comp_def]using this
theorem z4(o:e6){a b:List Int}(h:eR o a=eR o b):a=b:=by
 cases o with
 |lex=>exact h
 |mQ=>exact(cH h).2
 |grevlex=>exact List.reverse_inj.mp (z3 (cH h).2)
def rZ(o:e6)(a b:List Int):Bool:=dZ (eR o a) (eR o b)
theorem Na(o:e6){a b c:List Int}(h1:a.length=b.length)(h2:b.length=c.length):rZ o (List.zipWith (·+·) a c) (List.zipWith (·+·) b c)=rZ o a b:=by
 unfold rZ
 rw[zZ o (h1.trans h2),zZ o h2,Ga (uF o h1) (uF o h2)]
theorem nG{o:e6}{a b:List Int}(hl:a.length=b.length)(h:a≠b)(h1:rZ o a b=false):rZ o b a=true:=
 zX (uF o hl) (λe=>h (z4 o e)) h1
theorem dn.uniq{o:e6}{n:Nat}{f:bM}(hf:∀k,f k≠0->k.length=n){a b:List Int}(ha:dn o f a)(hb:dn o f b):a=b:=by
 by_cases e:a=b
 ·exact e
 ·have h1:=ha.2 b hb.1
  have h2:=hb.2 a ha.1
  have:=nG (o:=o) ((hf a ha.1).trans (hf b hb.1).symm) e h1
  rw[show rZ o b a=dZ (eR o b) (eR o a)from rfl,h2]at this
  cases this
theorem r_:(1:Nat)<2^3000:=bI (show 1<2^1 by decide) (bT (by decide) (by decide))
theorem Sm.inv{q:Rat}(h:Sm q):Sm q⁻¹:=by
 have hp:=r_
 refine⟨?_,?_⟩
 ·rw[Rat.num_inv,bO]
  refine aB ?_ h.2
  have:q.num.sign.natAbs<=1:=by rw[Int.natAbs_sign];split<;>decide
  calc q.num.sign.natAbs*(q.den:Int).natAbs<=1*(q.den:Int).natAbs:=cC _ this
   _=q.den:=by rw[Nat.one_mul];rfl
 ·rw[Rat.den_inv]
  split
  ·exact hp
  ·exact h.1
section
variable{n j:Nat}{J:St}{K:V->St->Prop}{x y:V}{l la lb:aN}{f g:bM}{k s:List Int}{q r:Rat}{o:e6}
theorem lJ(hn:n<=3)(hv:b6 J x=some (.bC l))(p:Pl n l f)(hf:∀k,Sm (f k))(h0:(∀k,f k=0)->K (.bC []) J)(h1:∀m l',dn o f m->Pl n l' (λk=>f k*(f m)⁻¹)->K (.bC l') J):
  CA (j+5) "mvmonic" [x,.str o.name] J K:=
 enter FY rfl (eP (cx (xs:=[x,.str o.name]) rfl (fg hv p hn (λhz=>ff (JG (c:=true) rfl (cG (Y:=[]) (h0 hz)))) λm hm=>
  ff (JG (c:=false) rfl (mK (x:=x) rfl (cx (xs:=[eu (f m)]) rfl (qT (hf m) hm.1 (xY hn hv p hf (hf m).inv λl' p'=>cG (Y:=[]) (h1 m l' hm p')))))))))
end
def kT(p:List Int×Rat):V:=.bZ [bj p.1,eu p.2]
noncomputable def dG(m:List Int):Nat->aM->Int
 |_,[]=> -1
 |i,lm::r=>if mq lm m then(i:Int)else dG m (i+1) r
section
variable{n j:Nat}{J:St}{K:V->St->Prop}{x y:V}{l la lb:aN}{f g:bM}{k s m:List Int}{q r:Rat}{o:e6}
theorem BQ(hm:m.length<100):∀(L:List (List Int×Rat)) (i:Nat) (r2 r3:Option V),(∀p∈L,p.1.length=m.length)->K (.int (dG m i (L.map (·.1)))) J->
  eg (eI (j+1) (.two 2 3) [.ifs (.and (.cmp .EJ (.aE 3) (.ck .none)) (.call "powers_divide" [.sub (.aE 3) (.ck (.int 0)),.aE 0])) [.ret (.aE 2)] []] J y) (fB i (L.map kT)) [some (bj m),some y,r2,r3] J (qt (j+1) [.ret (.neg (.ck (.int 1)))] (kQ K)):=by
 intro L
 induction L with
 |nil=>intro i r2 r3 _ h;exact j6 (r:=[]) rfl h
 |cons p L ih=>
  intro i r2 r3 hl h
  have h:K (.int (if mq p.1 m then(i:Int)else dG m (i+1) (L.map (·.1)))) J:=h
  have ht:∀(Q:Bool->St->Prop) {r},Q (mq p.1 m) J->dW (Wk (j+1)) (j+1) (.and (.cmp .EJ (.aE 3) (.ck .none)) (.call "powers_divide" [.sub (.aE 3) (.ck (.int 0)),.aE 0])) [some (bj m),some y,r,some (kT p)] J Q:=λQ r q=>
   Y3 (c:=true) rfl (cx (xs:=[bj p.1,bj m]) rfl (jI (hl p (.head _)) hm q))
  refine zP (JI ?_)
  cases hd:mq p.1 m with
  |true=>
   rw[hd]at h ht
   exact fV (pY rfl ⟨trivial,cG (Y:=[]) h⟩) λQ q=>ht Q q
  |false=>
   rw[hd]at h ht
   exact fG ⟨cQ J y,ih (i+1) _ _ (λp hp=>hl p (.tail _ hp)) h⟩ λQ q=>ht Q q
theorem gV{L:List (List Int×Rat)}(hy:b6 J y=some (.a9 (L.map kT)))(hm:m.length<100)(hl:∀p∈L,p.1.length=m.length)(h:K (.int (dG m 0 (L.map (·.1)))) J):CA (j+2) "first_divisor" [bj m,y] J K:=
 enter sP rfl (RJ rfl hy (BQ hm L 0 none none hl h))
inductive Dv(n:Nat)(o:e6)(G:List bM)(L:List (List Int×Rat)):bM->bM->bM->Nat->Prop
 |done {left rest}:(∀k,left k=0)->Dv n o G L left rest rest 0
 |keep {left rest r t m}:dn o left m->dG m 0 (L.map (·.1))= -1->Dv n o G L (λk=>if k=m then 0 else left k) (λk=>if k=m then left m else rest k) r t->Dv n o G L left rest r (t+1)
 |step {left rest r t m} {i:Nat} {g lm lc}:dn o left m->dG m 0 (L.map (·.1))=(i:Int)->G[i]?=some g->L[i]?=some (lm,lc)->(∀k,Sm (left k))->Sm (left m/lc)->
   (∀k,Sm (dj n g (List.zipWith (· - ·) m lm) (left m/lc) k))->(∀k,g k≠0->gc n (List.zipWith (·+·) k (List.zipWith (· - ·) m lm)))->gc n (List.zipWith (· - ·) m lm)->
   Dv n o G L (λk=>left k- dj n g (List.zipWith (· - ·) m lm) (left m/lc) k) rest r t->Dv n o G L left rest r (t+1)
structure Gs(n:Nat)(o:e6)(G:List bM)(L:List (List Int×Rat)):Prop where
 len:G.length=L.length
 lead:∀(i:Nat) (g:bM) (lm:List Int) (lc:Rat),G[i]?=some g->L[i]?=some (lm,lc)->dn o g lm/\lc=g lm
 mon:∀g∈G,∀k,g k≠0->gc n k
 sm:∀g∈G,∀k,Sm (g k)
end
end
section
open PySem
set_option tactic.hygienic true
structure DI(n:Nat)(o:e6)(J:St)(L:List (List Int×Rat))(ds:List Addr)(σ':St)(dr dl:Addr)(left rest:bM):Prop where
 base:∀b q,aY J b=some q->aY σ' b=some q
 r:∃ob l,aY σ' dr=some (ob,V.bC l)/\Pl n l rest
 l:∃ob l,aY σ' dl=some (ob,V.bC l)/\Pl n l left
 q:∀(i:Nat) d,ds[i]?=some d->∃ob l q,aY σ' d=some (ob,V.bC l)/\Pl n l q/\∀lm lc,L[i]?=some (lm,lc)->∀s k,q s≠0->left k≠0->rZ o k (List.zipWith (·+·) s lm)=true
 nr:aY J dr=none
 nq:∀d∈ds,aY J d=none
 nl:aY J dl=none
 rl:dr≠dl
 rq:∀d∈ds,d≠dr/\d≠dl
 nd:ds.Nodup
theorem kU{J σ':St}{y w:V}(hb:∀b q,aY J b=some q->aY σ' b=some q)(hv:b6 J y=some w):b6 σ' y=some w:=by
 cases y with
 |ref a=>
  have O9:(aY J a).map (·.2)=some w:=hv
  show(aY σ' a).map (·.2)=some w
  cases e:aY J a with
  |none=>rw[e]at O9;cases O9
  |some q=>rw[hb a q e];rw[e]at O9;exact O9
 |_=>exact hv
theorem cT{J:St}{d:Addr}{ob:Obj}{z:V}(h:aY J d=some (ob,z)):b6 J (.ref d)=some z:=by
 show(aY J d).map (·.2)=_
 rw[h];rfl
theorem dw{α:Type}{l:List α}{i:Nat}{a:α}(h:l[i]?=some a):a∈l:=List.mem_of_getElem? h
theorem Gb{a b:List Int}(h:a.length=b.length):List.zipWith (· - ·) a (List.zipWith (· - ·) a b)=b:=
 sU (P:=λa b=>List.zipWith (· - ·) a (List.zipWith (· - ·) a b)=b) rfl (λx a y b Z ih=>by
  show(x- (x- y))::List.zipWith (· - ·) a (List.zipWith (· - ·) a b)=y::b
  rw[ih,Int.sub_sub_self]) h
theorem qW{a b:List Int}(h:a.length=b.length):List.zipWith (·+·) b (List.zipWith (· - ·) a b)=a:=
 sU (P:=λa b=>List.zipWith (·+·) b (List.zipWith (· - ·) a b)=a) rfl (λx a y b Z ih=>by
  show(y+(x- y))::List.zipWith (·+·) b (List.zipWith (· - ·) a b)=x::a
  rw[ih,Int.add_comm,Int.sub_add_cancel]) h
theorem nH(a:List Int):∀(b:List Int),List.zipWith (·+·) a b=List.zipWith (·+·) b a:=by
 induction a with
 |nil=>exactλb=>(List.zipWith_nil_right).symm
 |cons x a ih=>
  intro b
  cases b with
  |nil=>rfl
  |cons y b=>
   show(x+y)::List.zipWith (·+·) a b=(y+x)::List.zipWith (·+·) b a
   rw[ih b,Int.add_comm]
theorem nI{o:e6}{a b c:List Int}(h1:rZ o a b=true)(h2:rZ o b c=true):rZ o a c=true:=rY h1 h2
theorem BR{n:Nat}{o:e6}{left g:bM}{m lm:List Int}{lc:Rat}(hl:∀k,left k≠0->k.length=n)(hg:∀k,g k≠0->k.length=n)(hm:dn o left m)(LH:dn o g lm)(GZ:lc=g lm){k:List Int}
  (h:left k- dj n g (List.zipWith (· - ·) m lm) (left m/lc) k≠0):k.length=n/\rZ o k m=true:=by
 have LJ:=hl m hm.1
 have oc:=hg lm LH.1
 have fR:m.length=lm.length:=LJ.trans oc.symm
 have nW:(List.zipWith (· - ·) m lm).length=n:=by rw[dg,LJ,oc,Nat.min_self]
 have VN:lc≠0:=by rw[GZ];exact LH.1
 have Yl:left m- dj n g (List.zipWith (· - ·) m lm) (left m/lc) m=0:=by
  unfold dj
  rw[ai LJ,Gb fR,<-GZ]
  grind
 have z5:k≠m:=λe=>h (e▸Yl)
 by_cases h1:left k=0
 ·have h2:dj n g (List.zipWith (· - ·) m lm) (left m/lc) k≠0:=λe=>h (by rw[h1,e];grind)
  unfold dj at h2
  split at h2
  ·rename_i M9
   have Tj:g (List.zipWith (· - ·) k (List.zipWith (· - ·) m lm))≠0:=λe=>h2 (by rw[e,da])
   have hks:k.length=(List.zipWith (· - ·) m lm).length:=M9.trans nW.symm
   have gO:lm≠List.zipWith (· - ·) k (List.zipWith (· - ·) m lm):=λe=>z5 (by
    have:=hM hks
    rw[<-e,qW fR]at this
    exact this.symm)
   have kq:=nG (o:=o) (oc.trans (hg _ Tj).symm) gO (LH.2 _ Tj)
   have:=Na o (a:=List.zipWith (· - ·) k (List.zipWith (· - ·) m lm)) (b:=lm) (c:=List.zipWith (· - ·) m lm) ((hg _ Tj).trans oc.symm) (oc.trans nW.symm)
   rw[hM hks,qW fR,kq]at this
   exact⟨M9,this⟩
  ·exact aG rfl h2
 ·exact⟨hl k h1,nG (LJ.trans (hl k h1).symm) (λe=>z5 e.symm) (hm.2 k h1)⟩
section
variable{n j:Nat}{J:St}{K:V->St->Prop}{x y:V}{o:e6}{L:List (List Int×Rat)}{G:List bM}{Gv:List V}
theorem uG{σ':St}{dl:Addr}{ob:Obj}{l:aN}{left:bM}(hn:n<=3)(h:aY σ' dl=some (ob,.bC l))(p:Pl n l left):vp σ' .len [.ref dl]=some (.int l.length):=by
 show xf σ' (.ref dl)=_
 unfold xf
 rw[cT h]
 exact ai (p.hz hn)
theorem Pl.p_{l:aN}{f:bM}(p:Pl n l f):l=[]↔∀k,f k=0:=by
 constructor
 ·intro h k
  subst h
  by_cases e:f k=0
  ·exact e
  ·cases p.aY e
 ·intro h
  cases l with
  |nil=>rfl
  |cons a r=>exact aG (h a.1) (p.mem (.head _))
theorem Pl.pos{l:aN}{f:bM}(p:Pl n l f){m:List Int}(hm:f m≠0):Nat.blt 0 l.length=true:=by
 cases l with
 |nil=>exact aG (p.p_.mp rfl m) hm
 |cons=>rfl
theorem gD{J:St}{w v:V}{l:List V}{i:Nat}(hv:b6 J w=some (.a9 l))(h:l[i]?=some v)(hi:i<=1000):iT J w (.int (i:Int))=some v:=by
 unfold iT
 rw[hv]
 show(if AO (i:Int)=true then l[(i:Int).toNat]? else none)=_
 rw[ai (show AO (i:Int)=true from aU (ae hi (by decide))),Int.toNat_natCast,h]
theorem Pl.RS{n:Nat}{l:aN}{f:bM}(p:Pl n l f){k:List Int}{q:Rat}(hk:gc n k)(hq:q≠0):Pl n (fA l k (eu q)) (λm=>if m=k then q else f m)where
 nd:=iK p.nd
 has m:=by
  rw[qV]
  by_cases e:k=m
  ·subst e;rw[ai rfl,ai rfl,ah hq]
  ·rw[ah e,p.has,show(if m=k then q else f m)=f m from ah λh=>e h.symm]
 key m hm:=by
  split at hm
  ·rename_i e;exact e▸hk
  ·exact p.key m hm
theorem Pl.cut{n:Nat}{l:aN}{f:bM}(p:Pl n l f){k:List Int}:Pl n (jA l k) (λm=>if m=k then 0 else f m)where
 nd:=DR p.nd
 has m:=by
  rw[wV p.nd]
  by_cases e:k=m
  ·subst e;rw[ai rfl,ai rfl,ai rfl]
  ·rw[ah e,p.has,show(if m=k then 0 else f m)=f m from ah λh=>e h.symm]
 key m hm:=by
  split at hm
  ·exact aG rfl hm
  ·exact p.key m hm
noncomputable abbrev Zc:List dJ6:=[.iF [9,10] (.call "mvlead" [.aE 8,.aE 2]),
  .asg 11 (.call "first_divisor" [.aE 9,.aE 4]),
  .ifs (.cmp .lt (.aE 11) (.ck (.int 0))) [.put (.aE 7) (.aE 9) (.aE 10),
  .ex (.met .rC (.aE 8) [.aE 9]),
  .cont] [],
  .iF [12,13] (.bZ [.call "powers_quotient" [.aE 9,.sub (.sub (.aE 4) (.aE 11)) (.ck (.int 0))],.call "rdiv" [.aE 10,.sub (.sub (.aE 4) (.aE 11)) (.ck (.int 1))]]),
  .ex (.call "add_term" [.sub (.aE 6) (.aE 11),.aE 12,.aE 13]),
  .asg 8 (.call "mvsub" [.aE 8,.call "mvshift" [.sub (.aE 1) (.aE 11),.aE 12,.aE 13]])]
noncomputable abbrev Zd:E:=.cmp .gt (.bi .len false [.aE 8]) (.ck (.int 0))
abbrev Ze(j:Nat)(K:V->St->Prop):Fl->du->St->Prop:=λf Y J=>match f with
 |.next=>fN (Wk (j+6)) (j+6) [.ret (.bZ [.aE 6,.CU (.aE 7)])] Y J (kQ K)
 |f=>kQ K f Y J
theorem gW{α:Type}{l:List α}{i:Nat}{a:α}(h:l[i]?=some a):i<l.length:=(cg.mp h).1
theorem Gs.PI(gs:Gs n o G L){m:List Int}(hm:m.length=n):∀p∈L,p.1.length=m.length:=λp hp=>by
 obtain⟨i,hi⟩:=cL hp
 have hgi:=aH (by rw[gs.len];exact gW hi:i<G.length)
 rw[hm]
 exact(gs.mon _ (dw hgi) p.1 ((gs.lead i _ p.1 p.2 hgi hi).1.1)).1
theorem JU{J:St}{c:aN}{k:List Int}{v:V}(h:dp c k=some v):mu J .rC (.bC c) [bj k]=some (.bC (jA c k),v):=by
 show oS (dN (k.map V.int)) (λk=>oS (dp c k) λv=>some (V.bC (jA c k),v))=_
 rw[gY]
 show oS (dp c k) (λv=>some (V.bC (jA c k),v))=_
 rw[h];rfl
theorem DI.keep{ds:List Addr}{σ':St}{dr dl:Addr}{left rest:bM}(I:DI n o J L ds σ' dr dl left rest){m:List Int}{o1 o2:Obj}{lr ll:aN}{PJ sV:Obj}(hr:aY σ' dr=some (PJ,.bC lr))(hl:aY σ' dl=some (sV,.bC ll)){lr' ll':aN}
  (pr:Pl n lr' λk=>if k=m then left m else rest k) (pl:Pl n ll' λk=>if k=m then 0 else left k):
  DI n o J L ds (gN (gN σ' dr o1 (.bC lr')) dl o2 (.bC ll')) dr dl (λk=>if k=m then 0 else left k) λk=>if k=m then left m else rest k:=by
 refine⟨λb q hb=>gC (f_ I.nl hb) (gC (f_ I.nr hb) (I.base b q hb)),⟨o1,_,gC I.rl (kR hr),pr⟩,⟨o2,_,kR (gC I.rl.symm hl),pl⟩,λi d hd=>?_,I.nr,I.nq,I.nl,I.rl,I.rq,I.nd⟩
 obtain⟨ob,lq,q,h1,h2,h3⟩:=I.q i d hd
 obtain⟨e1,e2⟩:=I.rq d (dw hd)
 exact⟨ob,lq,q,gC e2 (gC e1 h1),h2,λlm lc hL s k hs hk=>h3 lm lc hL s k hs λe=>hk (by rw[e];split<;>rfl)⟩
theorem DI.step{ds:List Addr}{σ':St}{dr dl dq d:Addr}{left rest DU:bM}(I:DI n o J L ds σ' dr dl left rest){m lm s:List Int}{lc fac:Rat}{i:Nat}{o1 o2:Obj}{obq:Obj}{q:bM}{JV l3:aN}{zq:V}(Be:ds[i]?=some dq)(hL:L[i]?=some (lm,lc))(PK:aY σ' dq=some (obq,zq))
  (To:∀lm lc,L[i]?=some (lm,lc)->∀s k,q s≠0->left k≠0->rZ o k (List.zipWith (·+·) s lm)=true) (pq:Pl n JV (gP q s fac)) (LK:aY (gN σ' dq o1 (.bC JV)) d=none) (p3:Pl n l3 DU) (hm:left m≠0) (hs:List.zipWith (·+·) s lm=m) (fall:∀k,DU k≠0->rZ o k m=true):
  DI n o J L ds ((d,o2,.bC l3)::gN σ' dq o1 (.bC JV)) dr d DU rest:=by
 obtain⟨PJ,lr,hr,pr⟩:=I.r
 obtain⟨Tp,hql⟩:=I.rq dq (dw Be)
 have Zf:=eW (o:=o2) (z:=V.bC l3) LK (gC (o:=o1) (z:=V.bC JV) Tp.symm hr)
 have b1:∀b q,aY J b=some q->aY (gN σ' dq o1 (.bC JV)) b=some q:=λb q hb=>gC (f_ (I.nq dq (dw Be)) hb) (I.base b q hb)
 have Q:∀(i':Nat) d',ds[i']?=some d'->d'≠d/\∃ob l q,aY ((d,o2,V.bC l3)::gN σ' dq o1 (.bC JV)) d'=some (ob,V.bC l)/\Pl n l q/\∀lm lc,L[i']?=some (lm,lc)->∀s k,q s≠0->DU k≠0->rZ o k (List.zipWith (·+·) s lm)=true:=λi' d' AE=>by
  by_cases e:d'=dq
  ·subst e
   obtain rfl:i'=i:=(List.getElem?_inj (gW AE) I.nd).mp (AE.trans Be.symm)
   have VP:=kR (o:=o1) (z:=V.bC JV) PK
   refine⟨f_ LK VP,o1,JV,_,eW LK VP,pq,λlm' lc' PL s' k tN hk=>?_⟩
   rw[hL]at PL
   cases PL
   have z5:=fall k hk
   unfold gP at tN
   by_cases e2:s=s'
   ·subst e2;rw[hs];exact z5
   ·rw[ah e2]at tN
    exact nI z5 (To lm lc hL s' m tN hm)
  ·obtain⟨ob',l',q',g1,g2,g3⟩:=I.q i' d' AE
   have VP:=gC (o:=o1) (z:=V.bC JV) e g1
   exact⟨f_ LK VP,ob',l',q',eW LK VP,g2,λlm' lc' PL s' k tN hk=>nI (fall k hk) (g3 lm' lc' PL s' m tN hm)⟩
 refine⟨λb q hb=>eW LK (b1 b q hb),⟨PJ,lr,Zf,pr⟩,⟨o2,l3,lE,p3⟩,λi' d' AE=>(Q i' d' AE).2,I.nr,I.nq,mP b1 LK,f_ LK (gC Tp.symm hr),λd' AE=>⟨(I.rq d' AE).1,?_⟩,I.nd⟩
 obtain⟨i',DV⟩:=cL AE
 exact(Q i' d' DV).1
abbrev VQ(x y:V)(o:e6)(L:List (List Int×Rat))(ds:List Addr)(dr dl:Addr)(r9 DW yA Tq wX:Option V):du:=[some x,some y,some (.str o.name),none,some (.a9 (L.map kT)),none,some (.a9 (ds.map .ref)),some (.ref dr),some (.ref dl),r9,DW,yA,Tq,wX]
theorem JW{T:du->St->(Bool->St->Prop)->Prop}{B:du->St->(Fl->du->St->Prop)->Prop}(hT:∀Y J Q,T Y J Q=dW (Wk (j+6)) (j+6) Zd Y J Q)(hB:∀Y J Q,B Y J Q=fN (Wk (j+6)) (j+6) Zc Y J Q)(hn:n=2\/n=3)(hy:b6 J y=some (.a9 Gv))(JX:∀(i:Nat) g,G[i]?=some g->∃lg,Gv[i]?=some (.bC lg)/\Pl n lg g)(gs:Gs n o G L)(hG:G.length<=100){ds:List Addr}(S8:ds.length=G.length)
  {res:bM} (h:∀qv lr,Pl n lr res->K (.bZ [qv,.bC lr]) J) {left rest:bM} {t:Nat} (D:Dv n o G L left rest res t):
  ∀(σ':St) (dr dl:Addr) (r9 DW yA Tq wX:Option V),DI n o J L ds σ' dr dl left rest->
   iI T B (t+1) (VQ x y o L ds dr dl r9 DW yA Tq wX) σ' (Ze j K):=by
 have hX:=n3 hn
 induction D with
 |done hz=>
  intro σ' dr dl r9 DW yA Tq wX I
  obtain⟨sV,ll,hl,pl⟩:=I.l
  obtain⟨PJ,lr,hr,pr⟩:=I.r
  obtain rfl:ll=[]:=pl.p_.mpr hz
  refine te ?_ λQ q=>(hT _ _ _).mpr (sT (cV rfl (cV (uG hX hl pl) rfl)) rfl Q q)
  refine ff (l8 (ja rfl ?_))
  exact RC hr ⟨J,λb q hb=>(e9 (f_ I.nr hb)).trans (I.base b q hb),h _ lr pr⟩
 |@keep left rest r t m hm Tr D' ih=>
  intro σ' dr dl r9 DW yA Tq wX I
  obtain⟨sV,ll,hl,pl⟩:=I.l
  obtain⟨PJ,lr,hr,pr⟩:=I.r
  have ip:=pl.key m hm.1
  have pr':=pr.RS ip hm.1
  have G3:=pl.cut (k:=m)
  refine mO ?_ λQ q=>(hT _ _ _).mpr (sT (cV rfl (cV (uG hX hl pl) rfl)) (pl.pos hm.1) Q q)
  refine(hB _ _ _).mpr (pX (cx (xs:=[.ref dl,.str o.name]) rfl (fg (cT hl) pl hX (λhz=>aG (hz m) hm.1) λm' wY=>⟨_,_,rfl,rfl,?_⟩)))
  obtain rfl:=dn.uniq (λk hk=>(pl.key k hk).1) hm wY
  refine eP (cx (xs:=[bj m,.a9 (L.map kT)]) rfl (gV rfl (by rw[ip.1];exact dy (aL hX) rfl) (gs.PI ip.1) ?_))
  rw[Tr]
  refine fV (MZ rfl rfl rfl ⟨_,_,_,hr,p9,pr.hz hX,λo1=>?_⟩) λQ q=>oJ rfl q
  have VR:=gC (o:=o1) (z:=V.bC (fA lr m (eu (left m)))) I.rl.symm hl
  refine DQ (mN rfl VR rfl rfl (JU (pl.aY hm.1)) (pl.hz hX) (G3.hz hX) λo2=>?_)
  exact ih h _ dr dl _ _ _ _ _ (I.keep hr hl pr' G3)
 |@step left rest r t m i g lm lc hm Tr hg hL DX JY hs3 JZ yQ D' ih=>
  intro σ' dr dl r9 DW yA Tq wX I
  obtain⟨sV,ll,hl,pl⟩:=I.l
  have ip:=pl.key m hm.1
  obtain⟨kW,GZ⟩:=gs.lead i g lm lc hg hL
  have RT:=gs.mon g (dw hg)
  have hgs:=gs.sm g (dw hg)
  have Ts:=RT lm kW.1
  have VN:lc≠0:=by rw[GZ];exact kW.1
  have Zg:Sm lc:=by rw[GZ];exact hgs lm
  have hi:i<=1000:=ae (aT (gW hg)) (dy hG rfl)
  obtain⟨lg,Tt,pg⟩:=JX i g hg
  obtain⟨dq,Be⟩:∃dq,ds[i]?=some dq:=⟨_,aH (by rw[S8];exact gW hg)⟩
  obtain⟨obq,lq,q,PK,DY,To⟩:=I.q i dq Be
  have hql:=(I.rq dq (dw Be)).2
  have fall:=λk hk=>(BR (o:=o) (k:=k) (λk hk=>(pl.key k hk).1) (λk hk=>(RT k hk).1) hm kW GZ hk).2
  have x5:List.zipWith (·+·) (List.zipWith (· - ·) m lm) lm=m:=(nH _ _).trans (qW (ip.1.trans Ts.1.symm))
  generalize hS:List.zipWith (· - ·) m lm=s at*
  generalize hF:left m/lc=fac at*
  have hqs:q s=0:=by
   by_cases e:q s=0
   ·exact e
   ·have:=To lm lc hL s m e hm.1
    rw[x5,show rZ o m m=dZ (eR o m) (eR o m)from rfl,jw]at this
    cases this
  refine mO ?_ λQ q=>(hT _ _ _).mpr (sT (cV rfl (cV (uG hX hl pl) rfl)) (pl.pos hm.1) Q q)
  refine(hB _ _ _).mpr (pX (cx (xs:=[.ref dl,.str o.name]) rfl (fg (cT hl) pl hX (λhz=>aG (hz m) hm.1) λm' wY=>⟨_,_,rfl,rfl,?_⟩)))
  obtain rfl:=dn.uniq (λk hk=>(pl.key k hk).1) hm wY
  refine eP (cx (xs:=[bj m,.a9 (L.map kT)]) rfl (gV rfl (by rw[ip.1];exact dy (aL hX) rfl) (gs.PI ip.1) ?_))
  rw[Tr]
  refine fG ?_ λQ q=>qB (Q:=Q) q (b9 (cc.mpr (bg i)))
  have Pa:iT σ' (.a9 (L.map kT)) (.int (i:Int))=some (kT (lm,lc)):=gD (l:=L.map kT) rfl (by rw[aA,hL];rfl) hi
  have hdV:iT σ' (.a9 (ds.map V.ref)) (.int (i:Int))=some (.ref dq):=gD (l:=ds.map V.ref) rfl (by rw[aA,Be];rfl) hi
  refine pX (l8 (cx (dM rfl (dM (cV (x:=kT (lm,lc)) Pa rfl) rfl)) (gr (ip.1.trans Ts.1.symm) (by rw[Ts.1];exact dy (aL hX) rfl) ?_)))
  rw[hS]
  refine cx (dM rfl (dM (cV (x:=kT (lm,lc)) Pa rfl) rfl)) (F8 (DX m) Zg VN ⟨_,_,rfl,rfl,?_⟩)
  rw[hF]
  refine DQ (cx (dM hdV (dM rfl (dM rfl rfl))) (kl hX PK DY yQ JY (by rw[hqs];exact xZ) λo1 JV pq'=>?_))
  have b1:∀b q,aY J b=some q->aY (gN σ' dq o1 (.bC JV)) b=some q:=λb q hb=>gC (f_ (I.nq dq (dw Be)) hb) (I.base b q hb)
  refine eP (mK (x:=.ref dl) rfl (cx (dM (gD (kU b1 hy) Tt hi) (dM rfl (dM rfl rfl))) (lH (x:=.bC lg) hX rfl pg hgs JY yQ.1 JZ λls ps=>lI (x:=.ref dl) (y:=.bC ls) hn (cT (gC hql.symm hl)) pl rfl ps DX hs3 λd o2 l3 LK p3=>?_)))
  exact ih h _ dr d _ _ _ _ _ (I.step Be hL PK To pq' LK p3 hm.1 x5 fall)
end
end
section
open PySem
theorem gE{body:V->St->List V->(St->List V->Prop)->Prop}{J:St}(aq outs:List V)(a:List V)(K:St->List V->Prop)(hl:aq.length=outs.length):(∀(i:Nat) x z,aq[i]?=some x->outs[i]?=some z->∀a K,a.length<=100000->K J (a++[z])->body x J a K)->
  a.length+aq.length<=100000->K J (a++outs)->iter body aq J a K:=
 sU (P:=λaq outs=>∀(a:List V) (K:St->List V->Prop),(∀(i:Nat) x z,aq[i]?=some x->outs[i]?=some z->∀a K,a.length<=100000->K J (a++[z])->body x J a K)->a.length+aq.length<=100000->K J (a++outs)->iter body aq J a K)
  (λa K Z Z h=>(bD a▸h:K J a)) (λx r z s Z ih a K hb hz h=>hb 0 x z rfl rfl a _ (RO hz) (ih _ K (λi=>hb (i+1)) (RP hz) (by rw[bx];exact h))) hl a K
structure QI(n:Nat)(J:St)(ds:List Addr)(σ':St):Prop where
 base:∀b q,aY J b=some q->aY σ' b=some q
 q:∀d∈ds,∃ob,aY σ' d=some (ob,V.bC [])
 fresh:∀d∈ds,aY J d=none
 nd:ds.Nodup
section
variable{n j:Nat}{J:St}{K:V->St->Prop}{x y:V}{o:e6}{L:List (List Int×Rat)}{G:List bM}{Gv:List V}
theorem Gd{body:V->St->List V->(St->List V->Prop)->Prop}{σ₀:St}{y:V}{w:V}(hy:b6 J y=some w)(hb:∀v a6 a Kq,(∀d ob,aY a6 d=none->a.length<=100000/\e_ σ₀ y ((d,ob,.bC [])::a6)/\Kq ((d,ob,.bC [])::a6) (a++[.ref d]))->body v a6 a Kq)(Zh:QI n J [] σ₀):
  ∀(aq:List V) (ds:List Addr) (a6:St) (Kk:St->List V->Prop),QI n J ds a6->ds.length+aq.length<=1000->(∀Te σ',Te.length=ds.length+aq.length->QI n J Te σ'->Kk σ' (Te.map V.ref))->iter body aq a6 (ds.map V.ref) Kk:=by
 intro aq
 induction aq with
 |nil=>intro ds a6 Kk I _ h;exact h ds a6 rfl I
 |cons v r ih=>
  intro ds a6 Kk I hz h
  refine hb v a6 _ _ λd ob hd=>?_
  have I2:QI n J (ds++[d]) ((d,ob,.bC [])::a6):=by
   refine⟨λb q hb=>eW hd (I.base b q hb),λd' AE=>?_,λd' AE=>?_,?_⟩
   ·rcases bN.mp AE with h1|h1
    ·obtain⟨ob',h2⟩:=I.q d' h1
     exact⟨ob',eW hd h2⟩
    ·rw[az.mp h1];exact⟨ob,lE⟩
   ·rcases bN.mp AE with h1|h1
    ·exact I.fresh d' h1
    ·rw[az.mp h1];exact mP I.base hd
   ·refine List.nodup_append.mpr ⟨I.nd,aZ.mpr ⟨nofun,.nil⟩,λa ha b hb=>?_⟩
    rw[az.mp hb]
    obtain⟨ob',h2⟩:=I.q a ha
    exact f_ hd h2
  refine⟨?_,?_,?_⟩
  ·rw[ag];exact ae (aS _ _) (dy hz rfl)
  ·cases y with
   |ref a=>
    have hv:(aY J a).map (·.2)=some w:=hy
    show aY _ a=aY σ₀ a
    cases e:aY J a with
    |none=>rw[e]at hv;cases hv
    |some q=>rw[I2.base a q e,Zh.base a q e]
   |_=>trivial
  ·rw[xX]
   exact ih (ds++[d]) _ Kk I2 (by rw[jq];exact hz) λTe σ' hl I'=>h Te σ' (hl.trans (jq ..)) I'
theorem Nb{lf:aN}{f:bM}(hn:n=2\/n=3)(hx:b6 J x=some (.bC lf))(pf:Pl n lf f):vp J .dict [x]=some (.bC lf):=by
 show yL J x=_
 unfold yL
 rw[hx]
 exact ai (pf.hash hn)
theorem vG{lf:aN}{f res:bM}{t:Nat}(hn:n=2\/n=3)(hx:b6 J x=some (.bC lf))(pf:Pl n lf f)(hy:b6 J y=some (.a9 Gv))(th:Gv.length=G.length)(JX:∀(i:Nat) g,G[i]?=some g->∃lg,Gv[i]?=some (.bC lg)/\Pl n lg g)
  (gs:Gs n o G L) (hG:G.length<=100) (D:Dv n o G L f (λZ=>0) res t) (h:∀qv lr,Pl n lr res->K (.bZ [qv,.bC lr]) J):CA (j+7) "mvdivide" [x,y,.str o.name] J K:=by
 have hX:=n3 hn
 have LL:Gv.length<=1000:=by rw[th];exact dy hG rfl
 refine enter BD rfl (eP (oK rfl (jX rfl hy (gE Gv (L.map kT) [] _ (by rw[ag,th,gs.len]) (λi v z h1 h2 cB K' fe hK=>?_) (fz (dy LL rfl)) ?_))))
 ·rw[aA]at h2
  obtain⟨p,hp,rfl⟩:=aO.mp h2
  have hg:=aH (by rw[gs.len];exact gW hp:i<G.length)
  obtain⟨lg,Tt,pg⟩:=JX i _ hg
  rw[h1]at Tt
  cases Tt
  obtain⟨kW,GZ⟩:=gs.lead i _ p.1 p.2 hg hp
  refine iA (cx (xs:=[.bC lg,.str o.name]) rfl (fg rfl pg hX (λhz=>aG (hz _) kW.1) λm hm=>?_))
  obtain rfl:=dn.uniq (λk hk=>(pg.key k hk).1) kW hm
  rw[<-GZ]
  exact⟨fe,cQ J y,hK⟩
 ·have I0:QI n J [] J:=⟨λb q e=>e,nofun,nofun,.nil⟩
  refine eP (oK rfl (jX rfl hy (Gd (n:=n) (σ₀:=J) hy (λv a6 a Kq hq=>iA hq) I0 Gv [] J _ I0 (ae (aP (bS _)) LL) λds a6 OY I1=>?_)))
  have Zi:ds.length=G.length:=by rw[OY,th];exact bS _
  refine pX (l8 λdr PJ VS=>?_)
  have b1:∀b q,aY J b=some q->aY ((dr,PJ,V.bC [])::a6) b=some q:=λb q hb=>eW VS (I1.base b q hb)
  refine mM ⟨_,Nb hn (kU b1 hx) pf,pf.hz hX,λdl sV Ge=>⟨_,_,rfl,rfl,?_⟩⟩
  refine⟨t+1,JW (λZ Z Z=>rfl) (λZ Z Z=>rfl) hn hy JX gs hG Zi h D _ dr dl none none none none none ⟨λb q hb=>eW Ge (b1 b q hb),⟨PJ,[],eW Ge lE,Pl.zero⟩,⟨sV,lf,lE,pf⟩,λi d hd=>?_,mP I1.base VS,I1.fresh,mP b1 Ge,f_ Ge lE,λd hd=>?_,I1.nd⟩⟩
  ·obtain⟨ob,h1⟩:=I1.q d (dw hd)
   exact⟨ob,[],λZ=>0,eW Ge (eW VS h1),Pl.zero,λlm lc hL s k hs hk=>aG rfl hs⟩
  ·obtain⟨ob,h1⟩:=I1.q d hd
   exact⟨f_ VS h1,f_ Ge (eW VS h1)⟩
end
section
variable{n j:Nat}{J:St}{K:V->St->Prop}{x y:V}{o:e6}{L:List (List Int×Rat)}{G:List bM}{Gv:List V}{f g res:bM}{lf lg:aN}{t:Nat}{m mf mg:List Int}
theorem lK(hn:n=2\/n=3)(hx:b6 J x=some (.bC lf))(pf:Pl n lf f)(hy:b6 J y=some (.a9 Gv))(th:Gv.length=G.length)(JX:∀(i:Nat) g,G[i]?=some g->∃lg,Gv[i]?=some (.bC lg)/\Pl n lg g)
  (gs:Gs n o G L) (hG:G.length<=100) (D:Dv n o G L f (λZ=>0) res t) (h:∀lr,Pl n lr res->K (.bC lr) J):CA (j+8) "rest_of" [x,y,.str o.name] J K:=
 enter F0 rfl (ff (DO (cx (xs:=[x,y,.str o.name]) rfl (vG hn hx pf hy th JX gs hG D λqv lr p=>⟨_,rfl,cG (Y:=[]) (h lr p)⟩))))
theorem nJ{z:V}{l:aN}{f:bM}(hn:n<=3)(hv:b6 J z=some (.bC l))(p:Pl n l f):vp J .len [z]=some (.int l.length):=by
 show xf J z=_
 unfold xf
 rw[hv]
 exact ai (p.hz hn)
theorem iq(hn:n=2\/n=3)(hx:b6 J x=some (.bC lf))(pf:Pl n lf f)(hy:b6 J y=some (.a9 Gv))(th:Gv.length=G.length)(JX:∀(i:Nat) g,G[i]?=some g->∃lg,Gv[i]?=some (.bC lg)/\Pl n lg g)
  (gs:Gs n o G L) (hG:G.length<=100) (D:Dv n o G L f (λZ=>0) res t) (h:∀b:Bool,(b=true↔∀k,res k=0)->K (.bool b) J):CA (j+9) "is_member" [x,y,.str o.name] J K:=by
 refine enter zD rfl (ff (zN (mM (cx (xs:=[x,y,.str o.name]) rfl (lK hn hx pf hy th JX gs hG D λlr p=>⟨_,nJ (n3 hn) rfl p,trivial,_,rfl,cG (Y:=[]) (h _ ?_)⟩)))))
 rw[<-p.p_]
 cases lr with
 |nil=>exact⟨λZ=>rfl,λZ=>rfl⟩
 |cons a b=>exact⟨nofun,nofun⟩
theorem l9{ls:aM}(hy:b6 J y=some (.a9 (ls.map bj)))(hm:m.length<100)(x7:ls.length<=1000)(hl:∀p∈ls,p.length=m.length)(h:K (.bool (decide (0<=dG m 0 ls))) J):CA (j+3) "is_divided" [bj m,y] J K:=by
 refine enter xS rfl (ff (zN (mK (x:=bj m) rfl (oK rfl (jX rfl hy (kS (λv=>.bZ [v,eu 1]) _ [] _ (λv hv cB K' fe hK=>iA (ja (cV (dM rfl (dM DT rfl)) rfl) ⟨fe,cQ J y,hK⟩)) ?_ ?_))))))
 ·rw[ag];exact fz (dy x7 rfl)
 ·have e:(ls.map bj).map (λv=>V.bZ [v,eu 1])=(ls.map λp=>(p,(1:Rat))).map kT:=by
   rw[b_,b_];rfl
  rw[e]
  refine gV (L:=ls.map λp=>(p,(1:Rat))) rfl hm (λp hp=>?_) ⟨_,rfl,?_⟩
  ·obtain⟨q,hq,rfl⟩:=aQ.mp hp
   exact hl q hq
  ·rw[b_,show((λ(p:List Int×Rat)=>p.1)∘λp=>(p,(1:Rat)))=id from rfl,List.map_id]
   exact cG (Y:=[]) h
noncomputable def qa(n:Nat)(f g:bM)(mf mg:List Int):bM:=
 let jn:=List.zipWith (λu v=>if v>u then v else u) mf mg
 λk=>dj n f (List.zipWith (· - ·) jn mf) (f mf)⁻¹ k- dj n g (List.zipWith (· - ·) jn mg) (g mg)⁻¹ k
theorem z6(hn:n=2\/n=3)(hx:b6 J x=some (.bC lf))(pf:Pl n lf f)(hy:b6 J y=some (.bC lg))(pg:Pl n lg g)(hf:∀k,Sm (f k))(hg:∀k,Sm (g k))(XQ:dn o f mf)(XR:dn o g mg)
  (h1:∀k,f k≠0->gc n (List.zipWith (·+·) k (List.zipWith (· - ·) (List.zipWith (λu v=>if v>u then v else u) mf mg) mf))) (h2:∀k,g k≠0->gc n (List.zipWith (·+·) k (List.zipWith (· - ·) (List.zipWith (λu v=>if v>u then v else u) mf mg) mg)))
  (s1:∀k,Sm (dj n f (List.zipWith (· - ·) (List.zipWith (λu v=>if v>u then v else u) mf mg) mf) (f mf)⁻¹ k)) (s2:∀k,Sm (dj n g (List.zipWith (· - ·) (List.zipWith (λu v=>if v>u then v else u) mf mg) mg) (g mg)⁻¹ k))
  (h:∀l,Pl n l (qa n f g mf mg)->K (.bC l) J):CA (j+7) "s_poly" [x,y,.str o.name] J K:=by
 have hX:=n3 hn
 have XS:=(pf.key mf XQ.1).1
 have Tu:=(pg.key mg XR.1).1
 have fR:mf.length=mg.length:=XS.trans Tu.symm
 have small:∀{m:List Int},m.length=n->m.length<100:=λh=>by rw[h];exact dy (aL hX) rfl
 refine enter JB rfl (pX (l8 (cx (xs:=[x,.str o.name]) rfl (fg hx pf hX (λhz=>aG (hz _) XQ.1) λm1 BS=>?_))))
 obtain rfl:=dn.uniq (λk hk=>(pf.key k hk).1) XQ BS
 refine cx (xs:=[y,.str o.name]) rfl (fg hy pg hX (λhz=>aG (hz _) XR.1) λm2 LM=>⟨_,_,rfl,rfl,?_⟩)
 obtain rfl:=dn.uniq (λk hk=>(pg.key k hk).1) XR LM
 refine eP (cx (xs:=[bj mf,bj mg]) rfl (iN fR (small Tu) ?_))
 generalize hjn:List.zipWith (λu v=>if v>u then v else u) mf mg=jn at*
 have Zj:jn.length=n:=by rw[<-hjn,dg,fR,Nat.min_self];exact Tu
 have sl:∀{m:List Int},m.length=n->(List.zipWith (· - ·) jn m).length=n:=λh=>by rw[dg,Zj,h,Nat.min_self]
 refine eP (uA (x:=x) rfl (cx (xs:=[bj jn,bj mf]) rfl (gr (Zj.trans XS.symm) (small XS) (cx (xs:=[eu (f mf)]) rfl (qT (hf mf) XQ.1 (lH hX hx pf hf (hf mf).inv (sl XS) h1 λl1 p1=>?_))))))
 refine ff (JH (mK (x:=.bC l1) rfl (uA (x:=y) rfl (cx (xs:=[bj jn,bj mg]) rfl (gr (Zj.trans Tu.symm) (small Tu) (cx (xs:=[eu (g mg)]) rfl (qT (hg mg) XR.1 (lH hX hy pg hg (hg mg).inv (sl Tu) h2 λl2 p2=>?_))))))))
 refine lI (x:=.bC l1) (y:=.bC l2) hn rfl p1 rfl p2 s1 s2 λd ob l3 hd p3=>F3.ref lE ⟨J,λb q hb=>?_,h l3 ?_⟩
 ·rw[e9 (f_ hd hb)];exact eW hd hb
 ·unfold qa
  rw[hjn]
  exact p3
end
noncomputable abbrev ir(a b:List Int):List Int:=List.zipWith (λu v=>if v>u then v else u) a b
noncomputable def pV(p:Nat×Nat):V:=.bZ [.int p.1,.int p.2]
noncomputable def pL(p:Nat×Nat):List Int:=[(p.1:Int),(p.2:Int)]
theorem J0(p:Nat×Nat):pV p=bj (pL p):=rfl
def qX(o:e6)(ls:aM)(p:Nat×Nat):List Int:=eR o (ir (ls.getD p.1 []) (ls.getD p.2 []))
def sa(o:e6)(ls:aM)(p:Nat×Nat):V:=.bZ [bj (qX o ls p),pV p]
def jL(o:e6)(ls:aM)(p q:Nat×Nat):Bool:=if qX o ls p==qX o ls q then dZ (pL p) (pL q)else dZ (qX o ls p) (qX o ls q)
noncomputable def gL(o:e6)(ls:aM):Option (Nat×Nat)->List (Nat×Nat)->Option (Nat×Nat)
 |b,[]=>b
 |none,p::r=>gL o ls (some p) r
 |some b,p::r=>gL o ls (if jL o ls p b then some p else some b) r
structure Ls(n:Nat)(ls:aM):Prop where
 len:∀p∈ls,p.length=n
 k4:ls.length<=100
def LN(ls:aM)(p:Nat×Nat):Prop:=p.1<ls.length/\p.2<ls.length
theorem kX:∀(a b:List Int) (n:Nat),iS (n+1) (bj a) (bj b)=some (a==b):=by
 intro a b n
 have main:∀(a b:List Int),sC (iS n) (a.map V.int) (b.map V.int)=some (a==b):=by
  intro a
  induction a with
  |nil=>intro b;cases b<;>rfl
  |cons x a ih=>
   intro b
   cases b with
   |nil=>rfl
   |cons y b=>
    have e1:iS n (V.int x) (V.int y)=some (x==y):=by cases n<;>rfl
    show oS (iS n (V.int x) (V.int y)) (λe=>oS (sC (iS n) (a.map V.int) (b.map V.int)) λc=>some (e&&c))=_
    rw[e1,ih b];rfl
 exact main a b
theorem Nc(o:e6)(ls:aM)(p q:Nat×Nat)(J:St):iG J .lt (sa o ls p) (sa o ls q)=some (jL o ls p q):=by
 show oS (iS 4 (bj (qX o ls p)) (bj (qX o ls q))) (λe=>if e=true then oS (iS 4 (pV p) (pV q)) (λe=>if e=true then some false else s6 true 4 (pV p) (pV q))else s6 true 4 (bj (qX o ls p)) (bj (qX o ls q)))=_
 rw[kX,J0,J0,kX,(tf _ _ 3).1,(tf _ _ 3).1]
 unfold jL
 cases h:(qX o ls p==qX o ls q)with
 |true=>
  cases h2:(pL p==pL q)with
  |true=>exact ao some ((bt h2).symm▸(jw _).symm:false=dZ (pL p) (pL q))
  |false=>rfl
 |false=>rfl
section
variable{n j:Nat}{J:St}{K:V->St->Prop}{x y z:V}{o:e6}{ls:aM}{ws:List (Nat×Nat)}{p q:Nat×Nat}
theorem qb(hv:b6 J y=some (.a9 (ls.map bj)))(hn:ls.length<=100){i:Nat}(h:i<ls.length):iT J y (.int (i:Int))=some (bj (ls.getD i [])):=by
 refine gD hv ?_ (ae (aT h) (ae hn (by decide)))
 rw[aA,aH h,aK,aH h]
 rfl
theorem qc(hl:Ls n ls){i:Nat}(h:i<ls.length):(ls.getD i []).length=n:=by
 rw[aK,aH h]
 exact hl.len _ (List.getElem_mem h)
theorem iu{m:List Int}(h:m.length=n)(hn:n<=3):m.length<100:=by rw[h];exact dy (aL hn) rfl
theorem DZ{f:Int->Int->Int}{a b:List Int}(h1:a.length=n)(h2:b.length=n):(List.zipWith f a b).length=n:=by rw[dg,h1,h2,Nat.min_self]
theorem vH(hn:n<=3)(hy:b6 J y=some (.a9 (ls.map bj)))(hl:Ls n ls)(hp:LN ls p)(h:K (sa o ls p) J):CA (j+2) "pair_key" [pV p,y,.str o.name] J K:=by
 have l1:=qc hl hp.1
 have l2:=qc hl hp.2
 exact enter BE rfl (eP (cx (dM (qb hy hl.k4 hp.1) (dM (qb hy hl.k4 hp.2) rfl)) (iN (l1.trans l2.symm) (iu l2 hn)
  (ff (l8 (cx (xs:=[.str o.name,bj (ir (ls.getD p.1 []) (ls.getD p.2 []))]) rfl (jJ (o:=o) (iu (DZ l1 l2) hn) (ja rfl (cG (Y:=[]) h)))))))))
def Nd:Option (Nat×Nat)->V
 |none=>.none
 |some p=>pV p
def Zk(o:e6)(ls:aM):Option (Nat×Nat)->V
 |none=>.none
 |some p=>sa o ls p
theorem BU(hn:n<=3)(hy:b6 J y=some (.a9 (ls.map bj)))(hl:Ls n ls):∀(ws:List (Nat×Nat)) (b:Option (Nat×Nat)) (r5 r6:Option V),(∀p∈ws,LN ls p)->K (Nd (gL o ls b ws)) J->
  eg (eI (j+2) (.one 5) [.asg 6 (.call "pair_key" [.aE 5,.aE 1,.aE 2]),.ifs (.or (.cmp .GQ (.aE 3) (.ck .none)) (.cmp .lt (.aE 6) (.aE 4))) [.iF [3,4] (.bZ [.aE 5,.aE 6])] []] J x) (ws.map pV) [some x,some y,some (.str o.name),some (Nd b),some (Zk o ls b),r5,r6] J (qt (j+2) [.ret (.aE 3)] (kQ K)):=by
 intro ws
 induction ws with
 |nil=>intro b r5 r6 _ h;exact j6 (r:=[]) rfl h
 |cons p ws ih=>
  intro b r5 r6 hp h
  have GX:∀p∈ws,LN ls p:=λp h=>hp p (.tail _ h)
  refine zP (vE (eP (cx (xs:=[pV p,y,.str o.name]) rfl (vH hn hy hl (hp p (.head _)) ?_))))
  cases b with
  |none=>exact fV (pW (xs:=[pV p,sa o ls p]) rfl rfl ⟨cQ J x,ih (some p) _ _ GX h⟩) λQ q=>oJ rfl q
  |some q=>
   have ht:∀{r},pv J [some x,some y,some (.str o.name),some (pV q),some (sa o ls q),r,some (sa o ls p)] (.or (.cmp .GQ (.aE 3) (.ck .none)) (.cmp .lt (.aE 6) (.aE 4)))=some (.bool (jL o ls p q)):=
    cV rfl (cV rfl (cV (cV rfl (cV rfl (cV (Nc ..) rfl))) rfl))
   have h:K (Nd (gL o ls (if jL o ls p q then some p else some q) ws)) J:=h
   cases kq:jL o ls p q with
   |true=>
    rw[kq]at h ht
    exact fV (pW (xs:=[pV p,sa o ls p]) rfl rfl ⟨cQ J x,ih (some p) _ _ GX h⟩) λQ q=>oJ ht q
   |false=>
    rw[kq]at h ht
    exact fG ⟨cQ J x,ih (some q) _ _ GX h⟩ λQ q=>oJ ht q
theorem sW(hn:n<=3)(hx:b6 J x=some (.a9 (ws.map pV)))(hy:b6 J y=some (.a9 (ls.map bj)))(hl:Ls n ls)(hp:∀p∈ws,LN ls p)(h:K (Nd (gL o ls none ws)) J):CA (j+3) "least_pair" [x,y,.str o.name] J K:=
 enter xT rfl (pW (xs:=[.none,.none]) rfl rfl (RI rfl hx (BU hn hy hl ws none none none hp h)))
end
noncomputable def BV(a b:Int):Int:=if b<a then b else a
noncomputable def BW(a b:Int):Int:=if b>a then b else a
def qd(ws:List (Nat×Nat))(a b:Int):Bool:=(ws.map pL).contains [a,b]
noncomputable def l_(p:Nat×Nat)(ws:List (Nat×Nat))(jn:List Int):Nat->aM->Bool
 |_,[]=>false
 |i,m::r=>if(pL p).contains (i:Int)|| !mq m jn then l_ p ws jn (i+1) r
  else if !qd ws (BV p.1 i) (BW p.1 i)&& !qd ws (BV p.2 i) (BW p.2 i)then true
  else l_ p ws jn (i+1) r
theorem BX{p:Nat×Nat}{ws:List (Nat×Nat)}{jn:List Int}{i:Nat}{m:List Int}{r:aM}:l_ p ws jn i (m::r)=if(pL p).contains (i:Int)|| !mq m jn then l_ p ws jn (i+1) r
  else if !qd ws (BV p.1 i) (BW p.1 i)&& !qd ws (BV p.2 i) (BW p.2 i)then true else l_ p ws jn (i+1) r:=rfl
def gQ(p:Nat×Nat)(ws:List (Nat×Nat))(ls:aM):Bool:=
 if eX (List.zipWith (λu v=>if v<u then v else u) (ls.getD p.1 []) (ls.getD p.2 []))==0 then true
 else l_ p ws (ir (ls.getD p.1 []) (ls.getD p.2 [])) 0 ls
theorem Gf(ws:List (Nat×Nat)):ox (ws.map pV)=some (ws.map pL):=by
 induction ws with
 |nil=>rfl
 |cons p r ih=>
  show oS (ox (r.map pV)) (λm=>some (pL p::m))=_
  rw[ih];rfl
section
variable{n j:Nat}{J:St}{K:V->St->Prop}{x y z:V}{o:e6}{ls:aM}{ws:List (Nat×Nat)}{p q:Nat×Nat}
theorem z7(hx:b6 J x=some (.a9 (ws.map pV)))(a b:Int):iG J .n7 (.bZ [.int a,.int b]) x=some (!qd ws a b):=by
 show tB (b6 J x) (λl=>EK (S5 (.bZ [.int a,.int b]) l)) _ _=_
 rw[hx]
 show EK (oS (ox (ws.map pV)) λm=>some (m.contains [a,b]))=_
 rw[Gf];rfl
noncomputable abbrev VT:List dJ6:=[.ifs (.or (.cmp .CT (.aE 6) (.aE 0)) (.not (.call "powers_divide" [.aE 7,.aE 5]))) [.cont] [],
  .ifs (.and (.cmp .n7 (.bZ [.bi .min false [.aE 3,.aE 6],.bi .max false [.aE 3,.aE 6]]) (.aE 1)) (.cmp .n7 (.bZ [.bi .min false [.aE 4,.aE 6],.bi .max false [.aE 4,.aE 6]]) (.aE 1))) [.ret (.ck (.bool true))] []]
theorem Gg{Qf:Fl->du->St->Prop}(h0:∀Y,K (.bool false) J->Qf .next Y J)(h1:∀Y,K (.bool true) J->Qf (.ret (.bool true)) Y J)(hn:n<=3)(hx:b6 J x=some (.a9 (ws.map pV))){jn:List Int}(hj:jn.length=n):∀(r:aM) (i:Nat) (r6 r7:Option V),(∀m∈r,m.length=n)->K (.bool (l_ p ws jn i r)) J->
  eg (eI (j+2) (.two 6 7) VT J y) (fB i (r.map bj)) [some (pV p),some x,some y,some (.int p.1),some (.int p.2),some (bj jn),r6,r7] J Qf:=by
 intro r
 induction r with
 |nil=>intro i r6 r7 _ h;exact h0 _ h
 |cons m r ih=>
  intro i r6 r7 hm h
  have go:∀r6 r7,K (.bool (l_ p ws jn (i+1) r)) J->_:=λr6 r7=>ih (i+1) r6 r7 (λm h=>hm m (.tail _ h))
  have st:=cQ J y
  rw[BX]at h
  refine zP (JI ?_)
  have t2:∀Q:Bool->St->Prop,(pL p).contains (i:Int)=false->Q (!mq m jn) J->dW (Wk (j+2)) (j+2) (.or (.cmp .CT (.aE 6) (.aE 0)) (.not (.call "powers_divide" [.aE 7,.aE 5]))) [some (pV p),some x,some y,some (.int p.1),some (.int p.2),some (bj jn),some (.int (i:Int)),some (bj m)] J Q:=λQ hc q=>
   Y4 (c:=false) (ao (λb=>some (V.bool b)) hc) (M1 (cx (xs:=[bj m,bj jn]) rfl (jI ((hm m (.head _)).trans hj.symm) (iu hj hn) q)))
  cases iD:(pL p).contains (i:Int)with
  |true=>
   rw[iD]at h
   exact fV ⟨st,go _ _ h⟩ λQ q=>Y4 (c:=true) (ao (λb=>some (V.bool b)) iD) q
  |false=>
   rw[iD,Bool.false_or]at h
   cases hd:mq m jn with
   |false=>
    rw[hd]at h t2
    exact fV ⟨st,go _ _ h⟩ λQ q=>t2 Q iD q
   |true=>
    rw[hd]at h t2
    have t3:pv J [some (pV p),some x,some y,some (.int p.1),some (.int p.2),some (bj jn),some (.int (i:Int)),some (bj m)] (.and (.cmp .n7 (.bZ [.bi .min false [.aE 3,.aE 6],.bi .max false [.aE 3,.aE 6]]) (.aE 1)) (.cmp .n7 (.bZ [.bi .min false [.aE 4,.aE 6],.bi .max false [.aE 4,.aE 6]]) (.aE 1)))=some (.bool (!qd ws (BV p.1 i) (BW p.1 i)&& !qd ws (BV p.2 i) (BW p.2 i))):=by
     refine cV (cV rfl (cV rfl (cV (z7 hx (BV p.1 i) (BW p.1 i)) rfl))) ?_
     cases qd ws (BV p.1 i) (BW p.1 i)with
     |true=>rfl
     |false=>exact cV (x:=true) rfl (cV (cV rfl (cV rfl (cV (z7 hx (BV p.2 i) (BW p.2 i)) rfl))) rfl)
    refine fG ?_ λQ q=>t2 Q iD q
    cases hg:(!qd ws (BV p.1 i) (BW p.1 i)&& !qd ws (BV p.2 i) (BW p.2 i))with
    |true=>
     rw[hg]at h t3
     exact fV (pY rfl ⟨trivial,h1 _ h⟩) λQ q=>oJ t3 q
    |false=>
     rw[hg]at h t3
     exact fG ⟨st,go _ _ h⟩ λQ q=>oJ t3 q
theorem qY(hn:n<=3)(hx:b6 J x=some (.a9 (ws.map pV)))(hy:b6 J y=some (.a9 (ls.map bj)))(hl:Ls n ls)(hp:LN ls p)(h:K (.bool (gQ p ws ls)) J):CA (j+3) "is_needless" [pV p,x,y] J K:=by
 have l1:=qc hl hp.1
 have l2:=qc hl hp.2
 have args:∀{Y:du},Y[2]?=some (some y)->Y[3]?=some (some (.int p.1))->Y[4]?=some (some (.int p.2))->xW J Y [.sub (.aE 2) (.aE 3),.sub (.aE 2) (.aE 4)]=some [bj (ls.getD p.1 []),bj (ls.getD p.2 [])]:=λ{Y} e2 e3 e4=>by
  have v2:pv J Y (.aE 2)=some y:=by show Y[2]?.bind id=_;rw[e2];rfl
  have v3:pv J Y (.aE 3)=some (.int p.1):=by show Y[3]?.bind id=_;rw[e3];rfl
  have v4:pv J Y (.aE 4)=some (.int p.2):=by show Y[4]?.bind id=_;rw[e4];rfl
  exact dM (cV v2 (cV v3 (qb hy hl.k4 hp.1))) (dM (cV v2 (cV v4 (qb hy hl.k4 hp.2))) rfl)
 refine enter vD rfl (pW (xs:=[.int p.1,.int p.2]) rfl rfl ?_)
 unfold gQ at h
 cases ha:(eX (List.zipWith (λu v=>if v<u then v else u) (ls.getD p.1 []) (ls.getD p.2 []))==0)with
 |true=>
  rw[ha]at h
  exact fV (pY rfl (cG (Y:=[]) h)) λQ q=>cx (args rfl rfl rfl) (mS (l1.trans l2.symm) (iu l2 hn) (by rw[ha];exact q))
 |false=>
  rw[ha]at h
  refine fG (eP (cx (args rfl rfl rfl) (iN (l1.trans l2.symm) (iu l2 hn) (RJ rfl hy (Gg (K:=K) (Qf:=qt (j+2) [.ret (.ck (.bool false))] (kQ K)) (λY h=>?_) (λY h=>cG (Y:=[]) h) hn hx (DZ l1 l2) ls 0 none none hl.len h))))) λQ q=>cx (args rfl rfl rfl) (mS (l1.trans l2.symm) (iu l2 hn) (by rw[ha];exact q))
  exact j6 (r:=[]) rfl h
end
end
section
open PySem
set_option tactic.hygienic true
noncomputable def term(k:List Int)(q:Rat):bM:=λm=>if m=k then q else 0
theorem Pl.term{n:Nat}{k:List Int}{q:Rat}(hk:gc n k)(hq:q≠0):Pl n [(k,eu q)] (term k q)where
 nd:=by simp
 has m:=by
  unfold Internal.term
  by_cases e:k=m
  ·subst e;rw[eC,ai rfl,ah hq]
  ·rw[dU e,show(if m=k then q else 0)=0 from ah λh=>e h.symm,ai rfl];rfl
 key m hm:=by
  unfold Internal.term at hm
  split at hm
  ·rename_i e;exact e▸hk
  ·exact aG rfl hm
section
variable{n j:Nat}{J:St}{K:V->St->Prop}{k:List Int}{q:Rat}
theorem z8(hk:gc n k)(h:∀l,Pl n l (term k q)->K (.bC l) J):CA (j+1) "mvterm" [bj k,eu q] J K:=by
 refine enter Jz rfl (ff (JG (VL rfl) ?_))
 by_cases h0:q=0
 ·rw[bF h0]
  refine cG (Y:=[]) (h [] (Pl.zero.congr λm=>?_))
  unfold term;rw[h0];split<;>rfl
 ·rw[b9 h0]
  exact ja (cV rfl (cV (F' k) rfl)) (cG (Y:=[]) (h _ (.term hk h0)))
theorem Gh{n:Nat}:gc n (List.replicate n 0):=⟨by simp,λi hi=>by
 rw[(List.mem_replicate.mp hi).2]
 refine⟨Int.le_refl _,?_⟩
 unfold bd;split<;>decide⟩
theorem oi(hn:n<=3)(h:∀l,Pl n l (term (List.replicate n 0) q)->K (.bC l) J):CA (j+2) "mvnumber" [eu q,.int n] J K:=by
 have e:ig .mul (.bZ [.int 0]) (.int (n:Int))=some (bj (List.replicate n 0)):=by
  cases n with
  |zero=>rfl
  |succ n=>exact M8 (P:=λn=>ig .mul (.bZ [.int 0]) (.int (n:Int))=some (bj (List.replicate n 0))) (Nat.succ_pos n) hn rfl rfl rfl
 exact enter Bz rfl (ff (cx (xs:=[bj (List.replicate n 0),eu q]) (dM (cV rfl (cV rfl e)) rfl) (z8 Gh λl p=>cG (Y:=[]) (h l p))))
end
end
section
open PySem
noncomputable def dF(f:bM)(m:List Int):bM:=λk=>f k*(f m)⁻¹
noncomputable def cP(ls:aM):List (List Int×Rat):=ls.map λm=>(m,1)
noncomputable def d6(p:Nat×Nat)(ws:List (Nat×Nat)):List (Nat×Nat):=ws.filter λq=> !(q==p)
noncomputable def d5(N:Nat):List (Nat×Nat):=(List.range N).map λi=>(i,N)
structure J1(n:Nat)(f g:bM)(mf mg:List Int):Prop where
 m1:∀k,f k≠0->gc n (List.zipWith (·+·) k (List.zipWith (· - ·) (ir mf mg) mf))
 m2:∀k,g k≠0->gc n (List.zipWith (·+·) k (List.zipWith (· - ·) (ir mf mg) mg))
 s1:∀k,Sm (dj n f (List.zipWith (· - ·) (ir mf mg) mf) (f mf)⁻¹ k)
 s2:∀k,Sm (dj n g (List.zipWith (· - ·) (ir mf mg) mg) (g mg)⁻¹ k)
inductive Gr(n:Nat)(o:e6)(ew:Nat):List bM->aM->List (Nat×Nat)->Nat->List bM->Nat->Prop
 |done {G ls d}:Gr n o ew G ls [] d G 0
 |skip {G ls ws d R t p}:gL o ls none ws=some p->gQ p (d6 p ws) ls=true->Gr n o ew G ls (d6 p ws) d R t->Gr n o ew G ls ws d R (t+1)
 |zero {G ls ws d R t p f g mf mg res s}:gL o ls none ws=some p->gQ p (d6 p ws) ls=false->d+1<=ew->G[p.1]?=some f->G[p.2]?=some g->ls[p.1]?=some mf->ls[p.2]?=some mg->J1 n f g mf mg->
   Dv n o G (cP ls) (qa n f g mf mg) (λZ=>0) res s->(∀k,res k=0)->Gr n o ew G ls (d6 p ws) (d+1) R t->Gr n o ew G ls ws d R (t+1)
 |more {G ls ws d R t p f g mf mg res s m}:gL o ls none ws=some p->gQ p (d6 p ws) ls=false->d+1<=ew->G[p.1]?=some f->G[p.2]?=some g->ls[p.1]?=some mf->ls[p.2]?=some mg->J1 n f g mf mg->
   Dv n o G (cP ls) (qa n f g mf mg) (λZ=>0) res s->dn o res m->(∀k,Sm (res k))->(∀k,Sm (dF res m k))->G.length<60->Gr n o ew (G++[dF res m]) (ls++[m]) (d6 p ws++d5 G.length) (d+1) R t->Gr n o ew G ls ws d R (t+1)
theorem lL{o:e6}{ls:aM}(ws:List (Nat×Nat)):∀(b:Option (Nat×Nat)) (p:Nat×Nat),gL o ls b ws=some p->p∈ws\/b=some p:=by
 induction ws with
 |nil=>exactλb p h=>.inr h
 |cons q r ih=>
  intro b p h
  cases b with
  |none=>exact(ih _ p h).elim (λh=>.inl (.tail _ h)) λh=>.inl (by cases h;exact .head _)
  |some b=>
   have h:gL o ls (if jL o ls q b then some q else some b) r=some p:=h
   by_cases e:jL o ls q b=true
   ·rw[ai e]at h
    exact(ih _ p h).elim (λh=>.inl (.tail _ h)) λh=>.inl (by cases h;exact .head _)
   ·rw[ah e]at h
    exact(ih _ p h).elim (λh=>.inl (.tail _ h)) .inr
structure GI(n:Nat)(o:e6)(J σ':St)(ab al aw:Addr)(G:List bM)(ls:aM)(ws:List (Nat×Nat)):Prop where
 base:∀b q,aY J b=some q->aY σ' b=some q
 b:∃ob Gv,aY σ' ab=some (ob,V.a9 Gv)/\Gv.length=G.length/\∀(i:Nat) g,G[i]?=some g->∃lg,Gv[i]?=some (.bC lg)/\Pl n lg g
 l:∃ob,aY σ' al=some (ob,V.a9 (ls.map bj))
 w:∃ob,aY σ' aw=some (ob,V.a9 (ws.map pV))
 nb:aY J ab=none
 nl:aY J al=none
 nw:aY J aw=none
 bl:ab≠al
 bw:ab≠aw
 lw:al≠aw
 gs:Gs n o G (cP ls)
 ok:∀p∈ws,LN ls p
 k4:G.length<=60
theorem qZ{body:V->St->List V->(St->List V->Prop)->Prop}{J:St}(keep:V->Bool):∀(aq a:List V) (K:St->List V->Prop),(∀x∈aq,∀a K,a.length<=100000->K J (if keep x=true then a++[x]else a)->body x J a K)->a.length+aq.length<=100000->K J (a++aq.filter keep)->iter body aq J a K:=by
 intro aq
 induction aq with
 |nil=>intro a K _ _ h;rw[List.filter_nil,bD]at h;exact h
 |cons x r ih=>
  intro a K hb hl h
  have XT:=λy hy=>hb y (.tail _ hy)
  refine hb x (.head _) a _ (ae (aS _ _) hl) ?_
  rw[List.filter_cons]at h
  cases hk:keep x with
  |true=>
   rw[hk]at h
   exact ih (a++[x]) K XT (by rw[jq a x x r];exact hl) (by rw[bx];exact h)
  |false=>
   rw[hk]at h
   exact ih a K XT (ae (aF (Nat.le_succ _) _) hl) h
theorem RU{p q:Nat×Nat}(h:pL p=pL q):p=q:=by
 have h:[(p.1:Int),(p.2:Int)]=[(q.1:Int),(q.2:Int)]:=h
 exact Prod.ext (di (cH h).1) (di (cH (cH h).2).1)
theorem D0(J:St)(p q:Nat×Nat):iG J .ne (pV q) (pV p)=some (!(q==p)):=by
 have e:iS 5 (.bZ [.int q.1,.int q.2]) (.bZ [.int p.1,.int p.2])=some (pL q==pL p):=kX (pL q) (pL p) 4
 show EK (iS 5 (.bZ [.int q.1,.int q.2]) (.bZ [.int p.1,.int p.2]))=_
 rw[e]
 show some (!(pL q==pL p))=_
 congr 2
 by_cases h:q=p
 ·subst h;simp
 ·have h1:(q==p)=false:=by simpa using h
  have h2:(pL q==pL p)=false:=by simpa usingλe=>h (RU e)
  rw[h1,h2]
section
variable{n j:Nat}{J:St}{ws:List (Nat×Nat)}{p:Nat×Nat}
theorem wZ{x0 x1 x2 x4 x6 w x10:V}{Q:V->St->Prop}{wX:Option V}(hw:b6 J w=some (.a9 (ws.map pV)))(hz:ws.length<=10000)(h:∀a ob,aY J a=none->Q (.ref a) ((a,ob,.a9 ((d6 p ws).map pV))::J)):
  wE (Wk j) j (.lc true (.aE 12) [.mk (.one 12) (.val (.aE 9)) [.cmp .ne (.aE 12) (.aE 11)]]) [some x0,some x1,some x2,none,some x4,none,some x6,none,none,some w,some x10,some (pV p),none,wX,none] J Q:=by
 let keep:V->Bool:=λv=>match iG J .ne v (pV p)with|some b=>b|none=>false
 have hk:∀q,keep (pV q)= !(q==p):=λq=>by
  show(match iG J .ne (pV q) (pV p)with|some b=>b|none=>false)=_
  rw[D0]
 refine F4 rfl (jX rfl hw (qZ keep _ [] _ (λv hv cB K' fe hK=>?_) ?_ λa ob ha=>?_))
 ·obtain⟨q,hq,rfl⟩:=aQ.mp hv
  rw[hk]at hK
  refine qR (cV rfl (cV rfl (cV (D0 J p q) rfl))) ?_
  cases hb:(q==p)with
  |true=>rw[hb]at hK;exact⟨cQ J w,hK⟩
  |false=>rw[hb]at hK;exact⟨fe,cQ J w,hK⟩
 ·rw[ag];exact fz (dy hz rfl)
 ·have e:(ws.map pV).filter keep=(d6 p ws).map pV:=by
   unfold d6
   rw[List.filter_map]
   congr 1
   exact List.filter_congr λq Z=>hk q
  rw[e]
  exact h a ob ha
end
noncomputable abbrev Zl:E:=.cmp .gt (.bi .len false [.aE 9]) (.ck (.int 0))
noncomputable abbrev VU:List dJ6:=[.asg 11 (.call "least_pair" [.aE 9,.aE 6,.aE 1]),
  .asg 9 (.lc true (.aE 12) [.mk (.one 12) (.val (.aE 9)) [.cmp .ne (.aE 12) (.aE 11)]]),
  .ifs (.call "is_needless" [.aE 11,.aE 9,.aE 6]) [.cont] [],
  .aug 10 (.ck (.int 1)),
  .ifs (.cmp .gt (.aE 10) (.aE 2)) [.bad] [],
  .asg 13 (.call "rest_of" [.call "s_poly" [.sub (.aE 4) (.sub (.aE 11) (.ck (.int 0))),.sub (.aE 4) (.sub (.aE 11) (.ck (.int 1))),.aE 1],.aE 4,.aE 1]),
  .ifs (.cmp .gt (.bi .len false [.aE 13]) (.ck (.int 0))) [.ex (.met .extend (.aE 9) [.lc false (.bZ [.aE 14,.bi .len false [.aE 4]]) [.mk (.one 14) (.range (.bi .len false [.aE 4])) []]]),
  .ex (.met .append (.aE 4) [.call "mvmonic" [.aE 13,.aE 1]]),
  .ex (.met .append (.aE 6) [.sub (.call "mvlead" [.aE 13,.aE 1]) (.ck (.int 0))])] []]
section
variable{n j:Nat}{J:St}{K:V->St->Prop}{x:V}{o:e6}{ew:Nat}
theorem GI.ls{σ':St}{ab al aw:Addr}{G:List bM}{ls:aM}{ws:List (Nat×Nat)}(I:GI n o J σ' ab al aw G ls ws):Ls n ls/\ls.length=G.length:=by
 have hl:ls.length=G.length:=by rw[I.gs.len];unfold cP;rw[ag]
 refine⟨⟨λp hp=>?_,hl▸ae I.k4 (by decide)⟩,hl⟩
 obtain⟨i,hi⟩:=cL hp
 have hiG:i<G.length:=by
  rw[<-hl]
  rcases cM i ls.length with h|h
  ·exact h
  ·rw[bu h]at hi;cases hi
 have hg:=aH hiG
 obtain⟨h1,_⟩:=I.gs.lead i _ p 1 hg (by unfold cP;rw[aA,hi];rfl)
 exact(I.gs.mon _ (dw hg) p h1.1).1
theorem q6{J:St}{z:V}{l:List V}(h:b6 J z=some (.a9 l))(hz:l.length<=100000):vp J .len [z]=some (.int l.length):=by
 show xf J z=_
 unfold xf
 rw[h]
 exact ai hz
noncomputable abbrev Zm:dJ6:=.ifs (.cmp .gt (.bi .len false [.aE 13]) (.ck (.int 0))) [.ex (.met .extend (.aE 9) [.lc false (.bZ [.aE 14,.bi .len false [.aE 4]]) [.mk (.one 14) (.range (.bi .len false [.aE 4])) []]]),
  .ex (.met .append (.aE 4) [.call "mvmonic" [.aE 13,.aE 1]]),
  .ex (.met .append (.aE 6) [.sub (.call "mvlead" [.aE 13,.aE 1]) (.ck (.int 0))])] []
theorem uH(hn:n<=3){ls:aM}{ws:List (Nat×Nat)}{p:Nat×Nat}{x y:V}(hx:b6 J x=some (.a9 (ws.map pV)))(hy:b6 J y=some (.a9 (ls.map bj)))(hl:Ls n ls)(hp:∀p∈ws,LN ls p)(e:gL o ls none ws=some p)(h:K (pV p) J):CA (j+3) "least_pair" [x,y,.str o.name] J K:=
 sW hn hx hy hl hp (by rw[e];exact h)
theorem sb(hn:n<=3){ls:aM}{ws:List (Nat×Nat)}{p:Nat×Nat}{x y:V}{b:Bool}(hx:b6 J x=some (.a9 (ws.map pV)))(hy:b6 J y=some (.a9 (ls.map bj)))(hl:Ls n ls)(hp:LN ls p)(e:gQ p ws ls=b)(h:K (.bool b) J):CA (j+3) "is_needless" [pV p,x,y] J K:=
 qY hn hx hy hl hp (by rw[e];exact h)
abbrev D4(x:V)(o:e6)(ew:Nat)(ab al aw:Addr)(d:Nat)(yA wX:Option V):du:=[some x,some (.str o.name),some (.int ew),none,some (.ref ab),none,some (.ref al),none,none,some (.ref aw),some (.int d),yA,none,wX,none]
theorem z_{Q:Fl->du->St->Prop}(hn:n=2\/n=3){G:List bM}{ls:aM}{ws:List (Nat×Nat)}{d:Nat}{p:Nat×Nat}{f g res:bM}{mf mg:List Int}{s:Nat}(Gi:ws.length<=5000)
  (hp:gL o ls none ws=some p) (gO:gQ p (d6 p ws) ls=false) (hd:d+1<=ew) (hf:G[p.1]?=some f) (hg:G[p.2]?=some g) (VV:ls[p.1]?=some mf) (PM:ls[p.2]?=some mg) (sp:J1 n f g mf mg)
  (D:Dv n o G (cP ls) (qa n f g mf mg) (λZ=>0) res s) {σ':St} {ab al aw:Addr} {yA wX:Option V} (I:GI n o J σ' ab al aw G ls ws)
  (h:∀yB ob' lr,aY σ' yB=none->Pl n lr res->fN (Wk (j+9)) (j+9) [Zm] (D4 x o ew ab al yB (d+1) (some (pV p)) (some (.bC lr))) ((yB,ob',.a9 ((d6 p ws).map pV))::σ') Q):
  fN (Wk (j+9)) (j+9) VU (D4 x o ew ab al aw d yA wX) σ' Q:=by
 have hX:=n3 hn
 obtain⟨Aa,hw⟩:=I.w
 obtain⟨sV,hl⟩:=I.l
 obtain⟨Tw,oc⟩:=I.ls
 obtain⟨Tx,Gv,gb,gl,gv⟩:=I.b
 obtain⟨lf,hGf,pf⟩:=gv p.1 f hf
 obtain⟨lg,hGg,pg⟩:=gv p.2 g hg
 have RV:=I.ok p ((lL ws none p hp).resolve_right nofun)
 have k4:=I.k4
 have b1:ls.length<=1000:=by rw[oc];exact dy k4 rfl
 have L:∀{i:Nat} {m},ls[i]?=some m->(cP ls)[i]?=some (m,1):=λh=>by unfold cP;rw[aA,h];rfl
 refine uH hX (cT hw) (cT hl) Tw I.ok hp (wZ (cT hw) (dy Gi rfl) λyB BY uI=>?_)
 refine fG (fG ?_ λQ q=>qB (Q:=Q) q (M6 hd)) λZ q=>sb hX (cT lE) (cT (eW uI hl)) Tw RV gO q
 have Zn:=cT (eW (o:=BY) (z:=V.a9 ((d6 p ws).map pV)) uI gb)
 refine eP (gK (cx (dM (gD Zn hGf (ae (aT RV.1) b1)) (dM (gD Zn hGg (ae (aT RV.2) b1)) rfl)) ?_))
 refine z6 (x:=.bC lf) (y:=.bC lg) hn rfl pf rfl pg (I.gs.sm f (dw hf)) (I.gs.sm g (dw hg)) (I.gs.lead p.1 f mf 1 hf (L VV)).1 (I.gs.lead p.2 g mg 1 hg (L PM)).1 sp.m1 sp.m2 sp.s1 sp.s2 λl pl=>?_
 exact lK (x:=.bC l) hn rfl pl Zn gl gv I.gs (dy k4 rfl) D λlr pr=>h yB BY lr uI pr
theorem Zo(ws:List (Nat×Nat))(N:Nat):(ws.map pV)++(d5 N).map pV=(ws++d5 N).map pV:=b8.symm
theorem GI.turn{σ':St}{ab al aw yB:Addr}{ob':Obj}{G:List bM}{ls:aM}{ws:List (Nat×Nat)}{p:Nat×Nat}(I:GI n o J σ' ab al aw G ls ws)(h:aY σ' yB=none):GI n o J ((yB,ob',.a9 ((d6 p ws).map pV))::σ') ab al yB G ls (d6 p ws):=by
 obtain⟨ob,Gv,g1,g2⟩:=I.b
 obtain⟨sV,hl⟩:=I.l
 exact⟨λb q hb=>eW h (I.base b q hb),⟨ob,Gv,eW h g1,g2⟩,⟨sV,eW h hl⟩,⟨ob',lE⟩,I.nb,I.nl,mP I.base h,I.bl,f_ h g1,f_ h hl,I.gs,λq hq=>I.ok q (List.mem_filter.mp hq).1,I.k4⟩
theorem BZ{α:Type}{l:List α}{a:α}(h:a∈l):Nat.blt 0 l.length=true:=by
 cases l with
 |nil=>cases h
 |cons=>rfl
theorem Gs.snoc{G:List bM}{ls:aM}{res:bM}{m:List Int}(gs:Gs n o G (cP ls))(oc:ls.length=G.length)(hm:dn o res m)(hk:∀k,res k≠0->gc n k)(hs:∀k,Sm (dF res m k)):Gs n o (G++[dF res m]) (cP (ls++[m])):=by
 have D5:dF res m m=1:=by unfold dF;have:=hm.1;grind
 have MG:dF res m m≠0:=by rw[D5];decide
 have hz:∀k,dF res m k≠0->res k≠0:=λk hk e=>hk (by unfold dF;rw[e,da])
 have hw:cP (ls++[m])=cP ls++[(m,1)]:=b8
 have ti:(cP ls).length=G.length:=by unfold cP;rw[ag,oc]
 refine⟨?_,λi g' lm lc h1 h2=>?_,λg' vm k GS=>?_,λg' vm k=>?_⟩
 ·rw[hw,aC,aC,ti];rfl
 ·rw[hw]at h2
  rcases cM i G.length with hi|hi
  ·rw[cj hi]at h1
   rw[cj (by rw[ti];exact hi)]at h2
   exact gs.lead i g' lm lc h1 h2
  ·rw[ba hi]at h1
   rw[ba (by rw[ti];exact hi),ti]at h2
   cases PN:i- G.length with
   |zero=>
    rw[PN]at h1 h2
    cases h1
    cases h2
    exact⟨⟨MG,λk hk=>hm.2 k (hz k hk)⟩,D5.symm⟩
   |succ k=>rw[PN]at h1;cases h1
 ·rcases bN.mp vm with vm|vm
  ·exact gs.mon g' vm k GS
  ·rw[az.mp vm]at GS
   exact hk k (hz k GS)
 ·rcases bN.mp vm with vm|vm
  ·exact gs.sm g' vm k
  ·rw[az.mp vm];exact hs k
theorem Nf{ls:aM}{ws:List (Nat×Nat)}{p:Nat×Nat}{m:List Int}(h:∀p∈ws,LN ls p):∀q∈d6 p ws++d5 ls.length,LN (ls++[m]) q:=λq hq=>by
 have e:(ls++[m]).length=ls.length+1:=aC
 rcases bN.mp hq with hq|hq
 ·have:=h q (List.mem_filter.mp hq).1
  exact⟨by rw[e];exact dx this.1,by rw[e];exact dx this.2⟩
 ·obtain⟨i,hi,rfl⟩:=aQ.mp hq
  exact⟨by rw[e];exact dx (List.mem_range.mp hi),by rw[e];exact ct _⟩
theorem Gj{Gv:List V}{G:List bM}{f:bM}{l:aN}(gl:Gv.length=G.length)(gv:∀(i:Nat) g,G[i]?=some g->∃lg,Gv[i]?=some (.bC lg)/\Pl n lg g)(p:Pl n l f):∀(i:Nat) g,(G++[f])[i]?=some g->∃lg,(Gv++[.bC l])[i]?=some (.bC lg)/\Pl n lg g:=λi g hg=>by
 rcases cM i G.length with hi|hi
 ·rw[cj hi]at hg
  rw[cj (by rw[gl];exact hi)]
  exact gv i g hg
 ·rw[ba hi]at hg
  rw[ba (by rw[gl];exact hi),gl]
  cases PN:i- G.length with
  |zero=>rw[PN]at hg;cases hg;exact⟨l,rfl,p⟩
  |succ k=>rw[PN]at hg;cases hg
theorem Gk{k:Nat}{J:St}{ab al aw:Addr}{d:Nat}{yA wX:Option V}{Gv:List V}{N:Nat}{Q:V->St->Prop}(hv:b6 J (.ref ab)=some (.a9 Gv))(hN:Gv.length=N)(hz:N<=1000)(q:Q (.a9 ((d5 N).map pV)) J):
  wE (Wk k) k (.lc false (.bZ [.aE 14,.bi .len false [.aE 4]]) [.mk (.one 14) (.range (.bi .len false [.aE 4])) []]) (D4 x o ew ab al aw d yA wX) J Q:=by
 subst hN
 have hl:=q6 hv (dy hz rfl)
 refine⟨rfl,uC (cV rfl (cV hl rfl)) (dy hz rfl) ?_⟩
 refine kS (λv=>.bZ [v,.int Gv.length]) (fj Gv.length) [] _ (λv hv cB K' fe hK=>?_) ?_ ?_
 ·refine iA ?_
  exact ja (cV (dM rfl (dM (cV rfl (cV hl rfl)) rfl)) rfl) ⟨fe,trivial,hK⟩
 ·rw[fj,ag,cS];exact dy (ae (aP (bS _)) hz) rfl
 ·have hnp:(fj Gv.length).map (λv=>V.bZ [v,.int Gv.length])=(d5 Gv.length).map pV:=by
   unfold fj d5
   rw[b_,b_];rfl
  rw[hnp];exact q
theorem J2{T:du->St->(Bool->St->Prop)->Prop}{B:du->St->(Fl->du->St->Prop)->Prop}{Qf:Fl->du->St->Prop}(hT:∀Y J Q,T Y J Q=dW (Wk (j+9)) (j+9) Zl Y J Q)(hB:∀Y J Q,B Y J Q=fN (Wk (j+9)) (j+9) VU Y J Q)(hn:n=2\/n=3)
  {G R:List bM} {ls:aM} {ws:List (Nat×Nat)} {d t:Nat} (D:Gr n o ew G ls ws d R t) (Gi:ws.length<=G.length*60)
  (h:∀Y σ' ab,Y[4]?=some (some (V.ref ab))->(∃ob Gv,aY σ' ab=some (ob,V.a9 Gv)/\Gv.length=R.length/\∀(i:Nat) g,R[i]?=some g->∃lg,Gv[i]?=some (.bC lg)/\Pl n lg g)->(∀b q,aY J b=some q->aY σ' b=some q)->aY J ab=none->Qf .next Y σ'):
  ∀(σ':St) (ab al aw:Addr) (yA wX:Option V),GI n o J σ' ab al aw G ls ws->
   iI T B (t+1) (D4 x o ew ab al aw d yA wX) σ' Qf:=by
 have hX:=n3 hn
 induction D with
 |done=>
  intro σ' ab al aw yA wX I
  obtain⟨Aa,hw⟩:=I.w
  exact te (h _ σ' ab rfl I.b I.base I.nb) λQ q=>(hT _ _ _).mpr (sT (cV rfl (cV (q6 (cT hw) (bK _)) rfl)) rfl Q q)
 |@skip G ls ws d R t p hp gO D' ih=>
  intro σ' ab al aw yA wX I
  obtain⟨Aa,hw⟩:=I.w
  obtain⟨sV,hl⟩:=I.l
  obtain⟨Tw,oc⟩:=I.ls
  have Tz:p∈ws:=(lL ws none p hp).resolve_right nofun
  have ti:ws.length<=5000:=ae Gi (ae (cC 60 I.k4) (le rfl))
  refine mO ?_ λQ q=>(hT _ _ _).mpr (sT (cV rfl (cV (q6 (cT hw) (by rw[ag];exact dy ti rfl)) rfl)) (by rw[ag];exact BZ Tz) Q q)
  refine(hB _ _ _).mpr (uH hX (cT hw) (cT hl) Tw I.ok hp (wZ (cT hw) (dy ti rfl) λyB BY uI=>?_))
  refine fV ?_ λZ q=>sb hX (cT lE) (cT (eW uI hl)) Tw (I.ok p Tz) gO q
  exact ih (ae (dk ..) Gi) h _ ab al yB _ _ (I.turn uI)
 |@zero G ls ws d R t p f g mf mg res s hp gO hd hf hg VV PM sp Dd hz D' ih=>
  intro σ' ab al aw yA wX I
  obtain⟨Aa,hw⟩:=I.w
  have Tz:p∈ws:=(lL ws none p hp).resolve_right nofun
  have ti:ws.length<=5000:=ae Gi (ae (cC 60 I.k4) (le rfl))
  refine mO ?_ λQ q=>(hT _ _ _).mpr (sT (cV rfl (cV (q6 (cT hw) (by rw[ag];exact dy ti rfl)) rfl)) (by rw[ag];exact BZ Tz) Q q)
  refine(hB _ _ _).mpr (z_ hn ti hp gO hd hf hg VV PM sp Dd I λyB BY lr uI pr=>?_)
  obtain rfl:lr=[]:=pr.p_.mpr hz
  refine fG ?_ λQ q=>sT (cV rfl (cV (nJ hX rfl pr) rfl)) rfl Q q
  exact ih (ae (dk ..) Gi) h _ ab al yB _ _ (I.turn uI)
 |@more G ls ws d R t p f g mf mg res s m hp gO hd hf hg VV PM sp Dd hm Ml Pj qA D' ih=>
  intro σ' ab al aw yA wX I
  obtain⟨Aa,hw⟩:=I.w
  obtain⟨Tw,oc⟩:=I.ls
  have Tz:p∈ws:=(lL ws none p hp).resolve_right nofun
  have ti:ws.length<=5000:=ae Gi (ae (cC 60 I.k4) (le rfl))
  refine mO ?_ λQ q=>(hT _ _ _).mpr (sT (cV rfl (cV (q6 (cT hw) (by rw[ag];exact dy ti rfl)) rfl)) (by rw[ag];exact BZ Tz) Q q)
  refine(hB _ _ _).mpr (z_ hn ti hp gO hd hf hg VV PM sp Dd I λyB BY lr uI pr=>?_)
  have I':=I.turn (p:=p) (ob':=BY) uI
  generalize(yB,BY,V.a9 ((d6 p ws).map pV))::σ'=mh at I'⊢
  obtain⟨Tx,Gv,gb,gl,gv⟩:=I'.b
  obtain⟨ac9,Zp⟩:=I'.w
  obtain⟨sV,hl⟩:=I'.l
  have Tb:(d6 p ws).length<=5000:=ae (dk ..) ti
  have hG:Gv.length<=60:=by rw[gl];exact aT qA
  have gO:lr≠[]:=λe=>hm.1 (pr.p_.mp e m)
  have hlr:Nat.blt 0 lr.length=true:=by
   cases lr with
   |nil=>exact aG rfl gO
   |cons=>rfl
  refine fV ?_ λQ q=>sT (cV rfl (cV (nJ hX rfl pr) rfl)) hlr Q q
  have e1:((d5 Gv.length).map pV).length<=60:=by rw[ag,d5,ag,cS];exact hG
  refine DQ (RA rfl Zp rfl (Gk (cT gb) rfl (dy hG rfl) ⟨_,_,_,_,Zp,rfl,?_,?_,λo1=>?_⟩))
  ·show List.length _<=100000;rw[ag];exact dy Tb rfl
  ·show List.length _<=100000;rw[aC,ag];exact dy (bz Tb e1) rfl
  rw[Zo]
  have Ng:=gC (o:=o1) (z:=V.a9 ((d6 p ws++d5 Gv.length).map pV)) I'.bw gb
  have D6:=gC (o:=o1) (z:=V.a9 ((d6 p ws++d5 Gv.length).map pV)) I'.lw hl
  have VW:=kR (o:=o1) (z:=V.a9 ((d6 p ws++d5 Gv.length).map pV)) Zp
  have yQ:∀b q,aY J b=some q->aY (gN mh yB o1 (V.a9 ((d6 p ws++d5 Gv.length).map pV))) b=some q:=λb q hb=>gC (f_ I'.nw hb) (I'.base b q hb)
  generalize gN mh yB o1 (V.a9 ((d6 p ws++d5 Gv.length).map pV))=vI at Ng D6 VW yQ⊢
  refine DQ (JD rfl Ng rfl (lJ hX (x:=.bC lr) rfl pr Ml (λhz=>aG (hz m) hm.1) λm' l' wY G3=>Vs Ng gl (dy (aT qA) rfl) λo2=>?_))
  obtain rfl:=dn.uniq (λk hk=>(pr.key k hk).1) hm wY
  have RW:=gC (o:=o2) (z:=V.a9 (Gv++[.bC l'])) I'.bl.symm D6
  have TA:=gC (o:=o2) (z:=V.a9 (Gv++[.bC l'])) I'.bw.symm VW
  have gb3:=kR (o:=o2) (z:=V.a9 (Gv++[.bC l'])) Ng
  have RX:∀b q,aY J b=some q->aY (gN vI ab o2 (V.a9 (Gv++[.bC l']))) b=some q:=λb q hb=>gC (f_ I.nb hb) (yQ b q hb)
  generalize gN vI ab o2 (V.a9 (Gv++[.bC l']))=LO at RW TA gb3 RX⊢
  have x7:(ls.map bj).length=G.length:=by rw[ag,oc]
  refine DQ (JD rfl RW rfl (DO (fg (x:=.bC lr) rfl pr hX (λhz=>aG (hz m) hm.1) λm' wY=>⟨_,rfl,Vs RW x7 (dy (aT qA) rfl) λo3=>?_⟩)))
  obtain rfl:=dn.uniq (λk hk=>(pr.key k hk).1) hm wY
  have eL:ls.map bj++[bj m]=(ls++[m]).map bj:=(b8 (l₂:=[m])).symm
  rw[eL]
  refine ih ?_ h _ ab al yB _ _ ⟨λb q hb=>gC (f_ I.nl hb) (RX b q hb),⟨o2,Gv++[.bC l'],gC I'.bl gb3,?_,Gj (f:=dF res m) gl gv G3⟩,⟨o3,kR RW⟩,⟨o1,?_⟩,I.nb,I.nl,I'.nw,I.bl,I'.bw,I'.lw,I.gs.snoc oc hm (λk hk=>pr.key k hk) Pj,?_,?_⟩
  ·rw[aC,aC,List.length_singleton,Nat.add_mul]
   refine bz (ae (dk ..) Gi) ?_
   rw[d5,ag,cS];exact dy (aT qA) rfl
  ·rw[aC,aC,gl];rfl
  ·rw[<-gl];exact gC I'.lw.symm TA
  ·have:=Nf (m:=m) I.ok (p:=p);rw[oc]at this;exact this
  ·rw[aC];exact qA
end
noncomputable def gp(n:Nat):List V->List bM->Prop
 |[],[]=>True
 |v::vs,f::fs=>(∃l,v=.bC l/\Pl n l f)/\gp n vs fs
 |_,_=>False
theorem gp.ind{n:Nat}{P:List V->List bM->Prop}(h0:P [] [])(h1:∀v vs f fs,(∃l,v=.bC l/\Pl n l f)->gp n vs fs->P vs fs->P (v::vs) (f::fs)){fs:List bM}:∀{vs:List V},gp n vs fs->P vs fs:=by
 induction fs with
 |nil=>
  intro vs h
  cases vs with
  |nil=>exact h0
  |cons=>exact h.elim
 |cons f fs ih=>
  intro vs h
  cases vs with
  |nil=>exact h.elim
  |cons v vs=>exact h1 v vs f fs h.1 h.2 (ih h.2)
theorem gp.len{n:Nat}{vs:List V}{fs:List bM}(h:gp n vs fs):vs.length=fs.length:=
 h.ind (P:=λvs fs=>vs.length=fs.length) rfl λZ Z Z Z Z Z=>ao Nat.succ
theorem gp.get{n:Nat}{vs:List V}{fs:List bM}(h:gp n vs fs):∀(i:Nat) f,fs[i]?=some f->∃l,vs[i]?=some (.bC l)/\Pl n l f:=
 h.ind (P:=λvs fs=>∀(i:Nat) f,fs[i]?=some f->∃l,vs[i]?=some (.bC l)/\Pl n l f) (λZ Z h=>nn h) λv vs g fs hv Z ih i f e=>by
  cases i with
  |zero=>
   cases e
   obtain⟨l,rfl,p⟩:=hv
   exact⟨l,rfl,p⟩
  |succ i=>exact ih i f e
theorem gp.snoc{n:Nat}{vs:List V}{fs:List bM}{l:aN}{f:bM}(h:gp n vs fs)(p:Pl n l f):gp n (vs++[.bC l]) (fs++[f]):=
 h.ind (P:=λvs fs=>gp n (vs++[V.bC l]) (fs++[f])) ⟨⟨_,rfl,p⟩,trivial⟩ λZ Z Z Z hv Z ih=>⟨hv,ih⟩
section
variable{n j:Nat}{J:St}{o:e6}{x y:V}
theorem B7{body:V->St->List V->(St->List V->Prop)->Prop}(hb:∀(l:aN) (f:bM) m a Kq,Pl n l f->dn o f m->(∀k,Sm (f k))->a.length<=100000->(∀l',Pl n l' (dF f m)->Kq J (a++[.bC l']))->body (.bC l) J a Kq):
  ∀(dJ6:List bM) (Sv:List V) (ms:aM) (a:List V) (G0:List bM) (K:St->List V->Prop),gp n Sv dJ6->dJ6.length=ms.length->(∀(i:Nat) f m,dJ6[i]?=some f->ms[i]?=some m->dn o f m/\∀k,Sm (f k))->gp n a G0->a.length+Sv.length<=1000->
   (∀Gv,gp n Gv (G0++List.zipWith dF dJ6 ms)->K J Gv)->iter body Sv J a K:=by
 intro dJ6
 induction dJ6 with
 |nil=>
  intro Sv ms a G0 K hp hl _ ha _ h
  cases Sv with
  |cons=>exact hp.elim
  |nil=>exact h a (by rw[List.zipWith_nil_left,bD];exact ha)
 |cons f dJ6 ih=>
  intro Sv ms a G0 K hp hl hm ha hz h
  cases Sv with
  |nil=>exact hp.elim
  |cons v Sv=>
   cases ms with
   |nil=>cases hl
   |cons m ms=>
    obtain⟨⟨l,rfl,p⟩,GX⟩:=hp
    obtain⟨h1,h2⟩:=hm 0 f m rfl rfl
    refine hb l f m a _ p h1 h2 (ae (aS _ _) (dy hz rfl)) λl' p'=>?_
    refine ih Sv ms _ (G0++[dF f m]) K GX (Nat.succ.inj hl) (λi g k a b=>hm (i+1) g k a b) (ha.snoc p') (by rw[jq a (V.bC l') (V.bC l) Sv];exact hz) λGv hG=>h Gv ?_
    rw[bx]at hG
    exact hG
noncomputable def jM(N:Nat):List (Nat×Nat):=(List.range N).flatMap λb=>(List.range b).map λa=>(a,b)
theorem Gm{body:V->St->List V->(St->List V->Prop)->Prop}(g:V->List V)(N:Nat)(hN:N<=1000):∀(aq:List V) (a:List V) (K:St->List V->Prop),(∀x∈aq,(g x).length<=N)->(∀x∈aq,∀a K,a.length+N<=100000->K J (a++g x)->body x J a K)->
  a.length+aq.length*N<=90000->K J (a++aq.flatMap g)->iter body aq J a K:=by
 intro aq
 induction aq with
 |nil=>intro a K _ _ _ h;rw[List.flatMap_nil,bD]at h;exact h
 |cons x r ih=>
  intro a K hg hb hz h
  have h1:=hg x (.head _)
  rw[cu,Nat.succ_mul]at hz
  refine hb x (.head _) a _ (ae (cn (ae (aS _ _) hz) N) (ae (aF hN _) (le rfl))) ?_
  refine ih _ K (λy hy=>hg y (.tail _ hy)) (λy hy=>hb y (.tail _ hy)) ?_ (by rw[bx,<-List.flatMap_cons];exact h)
  rw[aC]
  exact ae (cn (aF h1 _) _) (ae (aP (by rw[Nat.add_assoc,Nat.add_comm N])) hz)
end
theorem gp.of{n:Nat}{vs:List V}{fs:List bM}(h:vs.length=fs.length):(∀(i:Nat) f,fs[i]?=some f->∃l,vs[i]?=some (.bC l)/\Pl n l f)->gp n vs fs:=
 sU (P:=λvs fs=>(∀(i:Nat) f,fs[i]?=some f->∃l,vs[i]?=some (.bC l)/\Pl n l f)->gp n vs fs) (λZ=>trivial) (λv vs f fs Z ih g=>⟨(g 0 f rfl).imp λl h=>⟨aW h.1,h.2⟩,ih λi=>g (i+1)⟩) h
section
variable{n j:Nat}{J:St}{K:V->St->Prop}{o:e6}{x y:V}{ew:Nat}
theorem lM{body:V->St->List V->(St->List V->Prop)->Prop}{G:List bM}{ms:aM}{Gv:List V}{Kk:St->List V->Prop}(hb:∀(l:aN) (f:bM) m a Kq,Pl n l f->dn o f m->a.length<=100000->Kq J (a++[bj m])->body (.bC l) J a Kq)
  (hG:gp n Gv G) (hl:G.length=ms.length) (hm:∀(i:Nat) f m,G[i]?=some f->ms[i]?=some m->dn o f m) (hz:G.length<=1000) (h:Kk J (ms.map bj)):iter body Gv J [] Kk:=by
 have fR:=hG.len
 refine gE Gv (ms.map bj) [] Kk (by rw[ag,fR,hl]) (λi v z hv Q5 a Kq ha hK=>?_) (by rw[fR];exact fz (dy hz rfl)) h
 rw[aA]at Q5
 obtain⟨m,Zq,rfl⟩:=aO.mp Q5
 have hg:=aH (l:=G) (i:=i) (by rw[<-fR];exact gW hv)
 obtain⟨l,e,p⟩:=hG.get i _ hg
 rw[hv]at e
 cases e
 exact hb l _ m a Kq p (hm i _ m hg Zq) ha hK
theorem nK{k b c:Nat}{Y:du}{l:aN}{f:bM}{m:List Int}{a:List V}{Kq:St->List V->Prop}(hn:n<=3)(p:Pl n l f)(hm:dn o f m)(ha:a.length<=100000)(hK:Kq J (a++[bj m]))(hρ:(Y.set b (some (V.bC l)))[b]?=some (some (.bC l)))(ho:(Y.set b (some (V.bC l)))[c]?=some (some (.str o.name))):
  eJ (k+2) (.one b) [] [] (λY J cB K=>wE (Wk (k+2)) (k+2) (.sub (.call "mvlead" [.aE b,.aE c]) (.ck (.int 0))) Y J λv J=>cB.length<=100000/\K J (cB++[v])) Y J x (.bC l) J a Kq:=by
 have args:xW J (Y.set b (some (V.bC l))) [.aE b,.aE c]=some [.bC l,.str o.name]:=by
  refine dM (x:=.bC l) ?_ (dM (x:=.str o.name) ?_ rfl)
  ·show(Y.set b (some (V.bC l)))[b]?.bind id=_
   rw[hρ];rfl
  ·show(Y.set b (some (V.bC l)))[c]?.bind id=_
   rw[ho];rfl
 refine iA (DO (cx args (fg rfl p hn (λhz=>aG (hz m) hm.1) λm' wY=>⟨_,rfl,ha,cQ J x,?_⟩)))
 obtain rfl:=dn.uniq (λk hk=>(p.key k hk).1) hm wY
 exact hK
theorem J3{k:Nat}{J:St}{Q:V->St->Prop}{N ew:Nat}{x4 x6:V}{Gv:List V}(hv:b6 J x4=some (.a9 Gv))(hN:Gv.length=N)(hz:N<=50)(h:∀a ob,aY J a=none->Q (.ref a) ((a,ob,.a9 ((jM N).map pV))::J)):
  wE (Wk k) k (.lc true (.bZ [.aE 8,.aE 7]) [.mk (.one 7) (.range (.bi .len false [.aE 4])) [],.mk (.one 8) (.range (.aE 7)) []]) [some x,some (.str o.name),some (.int ew),none,some x4,none,some x6,none,none,none,none,none,none,none,none] J Q:=by
 subst hN
 let g:V->List V:=λv=>match v with|.int i=>(List.range i.toNat).map λ(a:Nat)=>pV (a,i.toNat)|_=>[]
 refine F4 rfl (uC (cV rfl (cV (q6 hv (dy hz rfl)) rfl)) (dy hz rfl) (Gm g 50 (le rfl) _ [] _ (λv hv=>?_) (λv hv a Kq ha hK=>?_) ?_ λa ob ha=>?_))
 ·obtain⟨i,hi,rfl⟩:=aQ.mp hv
  show((List.range i).map _).length<=50
  rw[ag,cS]
  exact ae (aT (List.mem_range.mp hi)) hz
 ·obtain⟨i,hi,rfl⟩:=aQ.mp hv
  have DV:i<=50:=ae (aT (List.mem_range.mp hi)) hz
  refine VF (uC (N:=i) rfl (dy DV rfl) (kS (λv=>.bZ [v,.int (i:Int)]) _ _ _ (λv hv a' K' ha' J4=>iA (ja rfl ⟨ha',trivial,J4⟩)) ?_ ?_))
  ·rw[fj,ag,cS];exact ae (aF DV _) ha
  ·have e:(fj i).map (λv=>V.bZ [v,.int (i:Int)])=(List.range i).map λ(a:Nat)=>pV (a,i):=by
    unfold fj
    rw[b_];rfl
   rw[e]
   exact⟨trivial,hK⟩
 ·rw[fj,ag,cS]
  exact fz (ae (cC 50 hz) (le rfl))
 ·have hp0:(fj Gv.length).flatMap g=(jM Gv.length).map pV:=by
   unfold fj jM
   rw[List.flatMap_map,List.map_flatMap]
   congr 1
   funext i
   rw[b_];rfl
  rw[hp0]
  exact h a ob ha
theorem RY(c:Nat):∀l:List Nat,(∀b∈l,b<=c)->l.sum<=l.length*c:=λl=>by
 induction l with
 |nil=>intro _;exact bK _
 |cons b l ih=>
  intro hc
  rw[List.sum_cons,cu,Nat.succ_mul,Nat.add_comm]
  exact bz (ih λb hb=>hc b (.tail _ hb)) (hc b (.head _))
theorem vJ(hn:n=2\/n=3){dJ6 R:List bM}{ms:aM}{Sv:List V}{t:Nat}(hx:b6 J x=some (.a9 Sv))(hS:gp n Sv dJ6)(hl:dJ6.length=ms.length)
  (hm:∀(i:Nat) f m,dJ6[i]?=some f->ms[i]?=some m->dn o f m/\(∀k,Sm (f k))/\∀k,Sm (dF f m k)) (hz:dJ6.length<=50)
  (D:Gr n o ew (List.zipWith dF dJ6 ms) ms (jM dJ6.length) 0 R t) (h:∀Gv,gp n Gv R->K (.a9 Gv) J):CA (j+10) "groebner" [x,.str o.name,.int ew] J K:=by
 have hX:=n3 hn
 have RZ:=hS.len
 refine enter BF rfl (eP (F4 rfl (jX rfl hx (B7 (n:=n) (o:=o) (λl f m a Kq p BS hs ha hK=>?_) dJ6 Sv ms [] [] _ hS hl (λi f m h1 h2=>⟨(hm i f m h1 h2).1,(hm i f m h1 h2).2.1⟩) trivial (by rw[RZ];exact fz (dy hz rfl)) λGv hG ab ob xn=>?_))))
 ·refine qR (b:=true) (JJ (cV rfl (cV (nJ hX rfl p) rfl)) (p.pos BS.1)) (cx (xs:=[.bC l,.str o.name]) rfl (lJ hX rfl p hs (λhz=>aG (hz m) BS.1) λm' l' wY p'=>?_))
  obtain rfl:=dn.uniq (λk hk=>(p.key k hk).1) BS wY
  exact⟨ha,cQ J x,hK l' p'⟩
 rw[cq]at hG
 have D7:∀(i:Nat) f m,(List.zipWith dF dJ6 ms)[i]?=some f->ms[i]?=some m->(dn o f m/\f m=1)/\(∀k,Sm (f k))/\∀k,f k≠0->∃g,dJ6[i]?=some g/\g k≠0:=λi f m h1 h2=>by
  rw[List.getElem?_zipWith]at h1
  cases hs:dJ6[i]? with
  |none=>rw[hs]at h1;cases h1
  |some g=>
   rw[hs,h2]at h1
   cases h1
   obtain⟨g1,g2,g3⟩:=hm i g m hs h2
   have D5:dF g m m=1:=by unfold dF;have:=g1.1;grind
   have hz:∀k,dF g m k≠0->g k≠0:=λk hk e=>hk (by unfold dF;rw[e,da])
   exact⟨⟨⟨by rw[D5];decide,λk hk=>g1.2 k (hz k hk)⟩,D5⟩,g3,λk hk=>⟨g,rfl,hz k hk⟩⟩
 have th:(List.zipWith dF dJ6 ms).length=dJ6.length:=by rw[dg,<-hl,Nat.min_self]
 generalize List.zipWith dF dJ6 ms=G0 at*
 have JX:=hG.len
 have LL:G0.length<=50:=by rw[th];exact hz
 have gb:aY ((ab,ob,V.a9 Gv)::J) ab=some (ob,.a9 Gv):=lE
 have b1:∀b q,aY J b=some q->aY ((ab,ob,V.a9 Gv)::J) b=some q:=λb q hb=>eW xn hb
 generalize(ab,ob,V.a9 Gv)::J=mh at gb b1⊢
 refine eP (F4 rfl (jX rfl (cT gb) (lM (n:=n) (o:=o) (λl f m a Kq p BS ha hK=>nK hX p BS ha hK rfl rfl) hG (th.trans hl) (λi f m h1 h2=>(D7 i f m h1 h2).1.1) (dy LL rfl) λal sV G4=>?_)))
 have Ng:=eW (o:=sV) (z:=V.a9 (ms.map bj)) G4 gb
 have Zr:aY ((al,sV,V.a9 (ms.map bj))::mh) al=some (sV,.a9 (ms.map bj)):=lE
 have nl:=mP b1 G4
 have VX:=f_ G4 gb
 have b2:∀b q,aY J b=some q->aY ((al,sV,V.a9 (ms.map bj))::mh) b=some q:=λb q hb=>eW G4 (b1 b q hb)
 generalize(al,sV,V.a9 (ms.map bj))::mh=vI at Ng Zr b2⊢
 refine eP (J3 (cT Ng) (JX.trans th) hz λaw Aa uI=>PD rfl ⟨t+1,J2 (λZ Z Z=>rfl) (λZ Z Z=>rfl) hn D ?_ (λY σ' ab hρ hb VY zj=>?_) _ ab al aw none none
  ⟨λb q hb=>eW uI (b2 b q hb),⟨ob,Gv,eW uI Ng,JX,λi g hg=>hG.get i g hg⟩,⟨sV,eW uI Zr⟩,⟨Aa,lE⟩,xn,nl,mP b2 uI,VX,f_ uI Ng,f_ uI Zr,?_,λp hp=>?_,dy LL rfl⟩⟩)
 ·unfold jM
  rw[List.length_flatMap,th]
  have:=RY 60 ((List.range dJ6.length).map λb=>((List.range b).map λa=>(a,b)).length) λb hb=>by
   obtain⟨c,hc,rfl⟩:=aQ.mp hb
   rw[ag,cS]
   exact ae (aT (List.mem_range.mp hc)) (dy hz rfl)
  rw[ag,cS]at this
  exact this
 ·obtain⟨ob',Gv',g1,g2,g3⟩:=hb
  refine ff (RC (hρ:=?_) g1 ⟨J,λb q hb=>?_,h Gv' (gp.of g2 g3)⟩)
  ·rw[e9 (f_ zj hb)];exact VY b q hb
  ·show Y[4]?.bind id=_
   rw[hρ];rfl
 ·have at0:∀g∈G0,∃i m,G0[i]?=some g/\ms[i]?=some m:=λg hg=>by
   obtain⟨i,hi⟩:=cL hg
   exact⟨i,_,hi,aH (by rw[<-hl,<-th];exact gW hi)⟩
  refine⟨by unfold cP;rw[ag,th,hl],λi g lm lc h1 h2=>?_,λg hg k hk=>?_,λg hg k=>?_⟩
  ·unfold cP at h2
   rw[aA]at h2
   obtain⟨m,Zq,e⟩:=aO.mp h2
   cases e
   obtain⟨⟨g1,g2⟩,_⟩:=D7 i g lm h1 Zq
   exact⟨g1,g2.symm⟩
  ·obtain⟨i,m,h1,h2⟩:=at0 g hg
   obtain⟨f,h3,h4⟩:=(D7 i g m h1 h2).2.2 k hk
   obtain⟨l,_,p⟩:=hS.get i f h3
   exact p.key k h4
  ·obtain⟨i,m,h1,h2⟩:=at0 g hg
   exact(D7 i g m h1 h2).2.1 k
 ·unfold jM at hp
  obtain⟨b,hb,hp⟩:=List.mem_flatMap.mp hp
  obtain⟨a,ha,rfl⟩:=aQ.mp hp
  have hb:=List.mem_range.mp hb
  rw[hl]at hb
  exact⟨Nat.lt_trans (List.mem_range.mp ha) hb,hb⟩
end
noncomputable def eV(all:aM)(i:Nat)(m:List Int):aM:=all.take i++(all.drop (i+1)).filter λq=> !(q==m)
noncomputable def iY{α:Type}(z:α)(all:aM)(G:List α):Nat->aM->List α
 |_,[]=>[]
 |i,m::r=>if decide (0<=dG m 0 (eV all i m))then iY z all G (i+1) r else G.getD i z::iY z all G (i+1) r
noncomputable abbrev Zs:List dJ6:=[.asg 10 (.cat false (.qs false (.aE 5) none (some (.aE 7))) (.lc false (.aE 9) [.mk (.one 9) (.val (.qs false (.aE 5) (some (.bin .add (.aE 7) (.ck (.int 1)))) none)) [.cmp .ne (.aE 9) (.aE 8)]])),
  .ifs (.not (.call "is_divided" [.aE 8,.aE 10])) [.ex (.met .append (.aE 6) [.sub (.aE 3) (.aE 7)])] []]
section
variable{n j:Nat}{J:St}{K:V->St->Prop}{o:e6}{x y:V}{ew:Nat}
theorem J5(J:St)(a b:List Int):iG J .ne (bj a) (bj b)=some (!(a==b)):=by
 show EK (iS 5 (bj a) (bj b))=_
 rw[kX];rfl
theorem uJ{l:List V}(hz:l.length<=100000)(i:Nat):(kz J (.a9 l) none (some (.int (i:Int)))).bind uz=some (.a9 (l.take i)):=by
 have e:kz J (.a9 l) none (some (.int (i:Int)))=some (.a9 (l.take i)):=by
  show(if l.length<=100000 then((if(0:Int)<=(i:Int)then some (l.take (i:Int).toNat)else none).map V.a9)else none)=_
  rw[ai hz,ai (bg i)];rfl
 exact cV e (ai (aU (ae (List.length_take_le' ..) hz)))
theorem Ab{l:List V}(hz:l.length<=100000)(i:Nat):(kz J (.a9 l) (some (.int (i:Int))) none).bind uz=some (.a9 (l.drop i)):=by
 have e:kz J (.a9 l) (some (.int (i:Int))) none=some (.a9 (l.drop i)):=by
  show(if l.length<=100000 then((if(0:Int)<=(i:Int)then some (l.drop (i:Int).toNat)else none).map V.a9)else none)=_
  rw[ai hz,ai (bg i)];rfl
 refine cV e (ai (aU ?_))
 show(l.drop i).length<=100000
 rw[List.length_drop];exact ae (Nat.sub_le ..) hz
theorem sd{ls:aM}(i:Nat)(m:List Int):(eV ls i m).length<=ls.length+ls.length:=by
 unfold eV
 rw[aC]
 refine bz (List.length_take_le' ..) (ae (dk ..) ?_)
 rw[List.length_drop];exact Nat.sub_le ..
theorem Ac{ls:aM}{i:Nat}{m p:List Int}(hp:p∈eV ls i m):p∈ls:=by
 unfold eV at hp
 rcases bN.mp hp with hp|hp
 ·exact List.mem_of_mem_take hp
 ·exact List.mem_of_mem_drop (List.mem_filter.mp hp).1
theorem Gn{k:Nat}{J:St}{ls:aM}{m:List Int}{i:Nat}{x0 x1 x3 x6:V}{DW:Option V}{Q:V->St->Prop}(hz:ls.length<=100)(q:Q (.a9 ((eV ls i m).map bj)) J):
  wE (Wk k) k (.cat false (.qs false (.aE 5) none (some (.aE 7))) (.lc false (.aE 9) [.mk (.one 9) (.val (.qs false (.aE 5) (some (.bin .add (.aE 7) (.ck (.int 1)))) none)) [.cmp .ne (.aE 9) (.aE 8)]])) [some x0,some x1,none,some x3,none,some (.a9 (ls.map bj)),some x6,some (.int (i:Int)),some (bj m),none,DW] J Q:=by
 let keep:V->Bool:=λv=>match iG J .ne v (bj m)with|some b=>b|none=>false
 have hk:∀q,keep (bj q)= !(q==m):=λq=>by
  show(match iG J .ne (bj q) (bj m)with|some b=>b|none=>false)=_
  rw[J5]
 have LJ:(ls.map bj).length<=100000:=by rw[ag];exact dy hz rfl
 have eo:(ls.map bj).take i++((ls.map bj).drop (i+1)).filter keep=(eV ls i m).map bj:=by
  unfold eV
  rw[b8,List.map_take,<-List.map_drop,List.filter_map]
  congr 2
  exact List.filter_congr λq Z=>hk q
 refine RE (cV rfl (uJ LJ i)) (oK rfl (jX (cV rfl (Ab LJ (i+1))) rfl (qZ keep _ [] _ (λv hv cB K' fe J4=>?_) ?_ (uB.ok rfl rfl ?_ ?_))))
 ·rw[<-List.map_drop]at hv
  obtain⟨q,hq,rfl⟩:=aQ.mp hv
  rw[hk]at J4
  refine qR (cV rfl (cV rfl (cV (J5 J q m) rfl))) ?_
  cases hb:(q==m)with
  |true=>rw[hb]at J4;exact⟨trivial,J4⟩
  |false=>rw[hb]at J4;exact⟨fe,trivial,J4⟩
 ·rw[List.length_drop,ag];exact fz (ae (Nat.sub_le ..) (dy hz rfl))
 ·rw[<-aC,cq,eo,ag]
  exact ae (sd i m) (dy (bz hz hz) rfl)
 ·rw[cq,eo];exact q
theorem J6{Qf:Fl->du->St->Prop}{σ₀:St}{Gv:List V}{G:List bM}{ls:aM}{z:bM}(hn:n<=3)(hG:gp n Gv G)(fR:G.length=ls.length)(hz:ls.length<=100)(x7:∀m∈ls,m.length=n){d:Addr}
  (h:∀Y uK ob',Y[6]?=some (some (.ref d))->gp n uK (iY z ls G 0 ls)->Qf .next Y ((d,ob',.a9 uK)::J)):
  ∀(r c:aM) (i:Nat) (Kv:List V) (A:List bM) (ob:Obj) (r7 r8 DW:Option V),ls=c++r->c.length=i->gp n Kv A->A.length<=i->A++iY z ls G i r=iY z ls G 0 ls->
   eg (eI (j+3) (.two 7 8) Zs σ₀ (.a9 (ls.map bj))) (fB i (r.map bj)) [some x,some y,none,some (.a9 Gv),none,some (.a9 (ls.map bj)),some (.ref d),r7,r8,none,DW] ((d,ob,.a9 Kv)::J) Qf:=by
 intro r
 induction r with
 |nil=>
  intro c i Kv A ob r7 r8 DW hc hi hK hA e
  rw[show iY z ls G i []=[]from rfl,bD]at e
  exact h _ Kv ob rfl (e▸hK)
 |cons m r ih=>
  intro c i Kv A ob r7 r8 DW hc hi hK hA e
  have GZ:ls.length=c.length+(r.length+1):=by rw[hc,aC,cu]
  have TB:i<ls.length:=by rw[GZ,hi];exact cW (Nat.succ_pos _)
  have J7:i<=100:=ae (aT TB) hz
  have XU:m.length=n:=x7 m (by rw[hc];exact List.mem_append_right _ (.head _))
  have hA':A.length<=i+1:=cR hA
  have go:=λKv A ob r7 r8 DW=>ih (c++[m]) (i+1) Kv A ob r7 r8 DW (by rw[hc,bx];rfl) (by rw[aC,hi];rfl)
  have dv:∀{Y:du} {J:St} {Q:Bool->St->Prop},Y[8]?=some (some (bj m))->Y[10]?=some (some (.a9 ((eV ls i m).map bj)))->Q (!decide (0<=dG m 0 (eV ls i m))) J->dW (Wk (j+3)) (j+3) (.not (.call "is_divided" [.aE 8,.aE 10])) Y J Q:=λ{Y J Q} e8 e10 q=>by
   have args:xW J Y [.aE 8,.aE 10]=some [bj m,.a9 ((eV ls i m).map bj)]:=by
    refine dM (x:=bj m) ?_ (dM (x:=.a9 ((eV ls i m).map bj)) ?_ rfl)
    ·show Y[8]?.bind id=_
     rw[e8];rfl
    ·show Y[10]?.bind id=_
     rw[e10];rfl
   exact M1 (cx args (l9 rfl (iu XU hn) (ae (sd i m) (dy (bz hz hz) rfl)) (λp hp=>(x7 p (Ac hp)).trans XU.symm) q))
  have e:A++(if decide (0<=dG m 0 (eV ls i m))then iY z ls G (i+1) r else G.getD i z::iY z ls G (i+1) r)=iY z ls G 0 ls:=e
  refine zP (JI (eP (Gn hz ?_)))
  cases hb:decide (0<=dG m 0 (eV ls i m))with
  |true=>
   rw[hb]at e dv
   exact fG ⟨trivial,go Kv A ob _ _ _ hK hA' e⟩ λQ q=>dv rfl rfl q
  |false=>
   rw[hb]at e dv
   have hg:=aH (l:=G) (i:=i) (by rw[fR];exact TB)
   obtain⟨lg,Tt,pg⟩:=hG.get i _ hg
   have nY:iT ((d,ob,V.a9 Kv)::J) (.a9 Gv) (.int (i:Int))=some (.bC lg):=gD rfl Tt (dy J7 rfl)
   refine fV (DQ (mN rfl lE rfl (dM nY rfl) rfl ?_ ?_ λo'=>?_)) λQ q=>dv rfl rfl q
   ·show Kv.length<=100000
    rw[hK.len];exact ae hA (dy J7 rfl)
   ·show(Kv++[V.bC lg]).length<=100000
    rw[aC,hK.len];exact ae (aL hA) (dy (aL J7) rfl)
   ·rw[xc]
    refine⟨trivial,go (Kv++[V.bC lg]) (A++[G[i]]) o' _ _ _ (hK.snoc pg) (by rw[aC];exact aL hA) ?_⟩
    rw[bx,<-e,aK,hg];rfl
theorem oN(hn:n<=3){G:List bM}{ls:aM}{Gv:List V}{z:bM}(hx:b6 J x=some (.a9 Gv))(hG:gp n Gv G)(hl:G.length=ls.length)
  (hm:∀(i:Nat) f m,G[i]?=some f->ls[i]?=some m->dn o f m) (hz:G.length<=100)
  (h:∀d ob Kv,aY J d=none->gp n Kv (iY z ls G 0 ls)->K (.ref d) ((d,ob,.a9 Kv)::J)):CA (j+4) "minimal_basis" [x,.str o.name] J K:=by
 have th:=hG.len
 have LL:Gv.length<=1000:=by rw[th];exact dy hz rfl
 refine enter sQ rfl (eP (oK rfl (jX rfl hx (gE Gv Gv [] _ rfl (λi v z hv Q5 a Kq ha hK=>?_) (fz (dy LL rfl)) ?_))))
 ·rw[hv]at Q5
  cases Q5
  have hg:=aH (l:=G) (i:=i) (by rw[<-th];exact gW hv)
  obtain⟨l,e,p⟩:=hG.get i _ hg
  rw[hv]at e
  cases e
  have BS:=hm i _ _ hg (aH (by rw[<-hl,<-th];exact gW hv))
  exact qR (b:=true) (JJ (cV rfl (cV (nJ hn rfl p) rfl)) (p.pos BS.1)) (ja rfl ⟨ha,cQ J x,hK⟩)
 have Zt:∀m∈ls,m.length=n:=λm wY=>by
  obtain⟨i,hi⟩:=cL wY
  have hg:=aH (l:=G) (i:=i) (by rw[hl];exact gW hi)
  obtain⟨l,_,p⟩:=hG.get i _ hg
  exact(p.key m (hm i _ m hg hi).1).1
 refine eP (oK rfl (jX rfl rfl (lM (n:=n) (o:=o) (λl f m a Kq p BS ha hK=>nK hn p BS ha hK rfl rfl) hG hl hm (dy hz rfl) ?_)))
 refine eP ⟨le rfl,λd ob hd=>RJ rfl rfl (J6 hn hG hl (by rw[<-hl];exact hz) Zt (z:=z) (λY uK ob' hρ hP=>?_) ls [] 0 [] [] ob none none none rfl rfl trivial (bK _) rfl)⟩
 refine j6 (r:=[]) (v:=.ref d) ?_ (h d ob' uK hd hP)
 show Y[6]?.bind id=_
 rw[hρ];rfl
end
end
section
open PySem PySem.W
inductive Rf(n:Nat)(o:e6):Nat->List bM->aM->List bM->aM->Prop
 |done {i G ls}:i=G.length->Rf n o i G ls G ls
 |step {i G ls R rs f res s m}:G[i]?=some f->Dv n o (G.eraseIdx i) (cP (ls.eraseIdx i)) f (λZ=>0) res s->dn o res m->(∀k,Sm (res k))->(∀k,Sm (dF res m k))->
   Rf n o (i+1) (G.set i (dF res m)) (ls.set i m) R rs->Rf n o i G ls R rs
def Nh(o:e6)(ms:aM)(i j:Nat):Option Bool:=match ms[i]?,ms[j]? with
 |some a,some b=>some (if eR o a==eR o b then decide ((i:Int)<(j:Int))else rZ o a b)
 |_,_=>none
def sX(o:e6)(ms:aM):Option (List Nat):=
 if ms.length<2 then some (List.range ms.length)else match AQ (Nh o ms) (kas_sort ms.length)with
  |some p=>some p.toList
  |none=>none
theorem gp.erase{n:Nat}{vs:List V}{fs:List bM}(i:Nat)(h:gp n vs fs):gp n (vs.eraseIdx i) (fs.eraseIdx i):=
 h.ind (P:=λvs fs=>∀i,gp n (vs.eraseIdx i) (fs.eraseIdx i)) (λZ=>trivial) (λZ Z Z Z hv h ih i=>by
  cases i with
  |zero=>exact h
  |succ i=>exact⟨hv,ih i⟩) i
theorem gp.put{n:Nat}{l:aN}{g:bM}(p:Pl n l g){vs:List V}{fs:List bM}(i:Nat)(h:gp n vs fs):gp n (vs.set i (.bC l)) (fs.set i g):=
 h.ind (P:=λvs fs=>∀i,gp n (vs.set i (V.bC l)) (fs.set i g)) (λZ=>trivial) (λZ Z Z Z hv h ih i=>by
  cases i with
  |zero=>exact⟨⟨l,rfl,p⟩,h⟩
  |succ i=>exact⟨hv,ih i⟩) i
theorem vK(ls:aM)(i:Nat):cP (ls.eraseIdx i)=(cP ls).eraseIdx i:=by
 unfold cP
 induction ls generalizing i with
 |nil=>rfl
 |cons a l ih=>cases i with
  |zero=>rfl
  |succ i=>rw[List.eraseIdx_cons_succ,bP,bP,List.eraseIdx_cons_succ,ih]
theorem w2{α:Type}:∀{l:List α} {i:Nat} {a:α},a∈l.eraseIdx i->a∈l:=λ{l i a} h=>List.mem_of_mem_eraseIdx h
theorem Gs.erase{n:Nat}{o:e6}{G:List bM}{L:List (List Int×Rat)}(gs:Gs n o G L)(i:Nat):Gs n o (G.eraseIdx i) (L.eraseIdx i)where
 len:=by
  have:=gs.len
  rw[List.length_eraseIdx,List.length_eraseIdx,this]
 lead j g lm lc h1 h2:=by
  rw[List.getElem?_eraseIdx]at h1 h2
  by_cases h:j<i
  ·rw[ai h]at h1 h2;exact gs.lead j g lm lc h1 h2
  ·rw[ah h]at h1 h2;exact gs.lead (j+1) g lm lc h1 h2
 mon g hg k hk:=gs.mon g (w2 hg) k hk
 sm g hg k:=gs.sm g (w2 hg) k
theorem Gs.put{n:Nat}{o:e6}{G:List bM}{ls:aM}(gs:Gs n o G (cP ls)){i:Nat}{res:bM}{m:List Int}(hm:dn o res m)(hk:∀k,res k≠0->gc n k)(hs:∀k,Sm (dF res m k)):
  Gs n o (G.set i (dF res m)) (cP (ls.set i m)):=by
 have D5:dF res m m=1:=by unfold dF;have:=hm.1;grind
 have hz:∀k,dF res m k≠0->res k≠0:=λk hk e=>hk (by unfold dF;rw[e,da])
 have hw:cP (ls.set i m)=(cP ls).set i (m,1):=by unfold cP;rw[List.map_set]
 rw[hw]
 refine⟨by rw[List.length_set,List.length_set];exact gs.len,λj g lm lc h1 h2=>?_,λg hg k GS=>?_,λg hg k=>?_⟩
 ·rw[List.getElem?_set]at h1 h2
  by_cases h:i=j
  ·subst h
   rw[ai rfl]at h1 h2
   split at h1
   ·cases h1
    rw[ai (by rw[<-gs.len];assumption)]at h2
    cases h2
    exact⟨⟨by rw[D5];decide,λk hk=>hm.2 k (hz k hk)⟩,D5.symm⟩
   ·cases h1
  ·rw[ah h]at h1 h2
   exact gs.lead j g lm lc h1 h2
 ·rcases List.mem_or_eq_of_mem_set hg with h|h
  ·exact gs.mon g h k GS
  ·rw[h]at GS;exact hk k (hz k GS)
 ·rcases List.mem_or_eq_of_mem_set hg with h|h
  ·exact gs.sm g h k
  ·rw[h];exact hs k
theorem j7{d:Addr}{o o':Obj}{z z':V}{J:St}:gN ((d,o,z)::J) d o' z'=(d,o',z')::J:=xc
theorem ee{d:Addr}{o:Obj}{z:V}{J:St}:aY ((d,o,z)::J) d=some (o,z):=CS
theorem J8{J:St}{y:V}{l:List V}(hv:b6 J y=some (.a9 l))(hz:l.length<=100000)(i:Nat):(kz J y none (some (.int (i:Int)))).bind uz=some (.a9 (l.take i)):=by
 have e:kz J y none (some (.int (i:Int)))=kz J (.a9 l) none (some (.int (i:Int))):=by unfold kz;rw[hv];rfl
 rw[e];exact uJ hz i
theorem J9{J:St}{y:V}{l:List V}(hv:b6 J y=some (.a9 l))(hz:l.length<=100000)(i:Nat):(kz J y (some (.int (i:Int))) none).bind uz=some (.a9 (l.drop i)):=by
 have e:kz J y (some (.int (i:Int))) none=kz J (.a9 l) (some (.int (i:Int))) none:=by unfold kz;rw[hv];rfl
 rw[e];exact Ab hz i
theorem Zu{c:List V}{i:Nat}{v:V}(hi:i<c.length)(hz:c.length<=1000):nU (.a9 c) (.int (i:Int)) v=some (.a9 (c.set i v)):=by
 show(if AO (i:Int)&&Nat.blt (i:Int).toNat c.length then some (V.a9 (c.set (i:Int).toNat v))else none)=_
 rw[Int.toNat_natCast,show AO (i:Int)=true from aU (ae (aT hi) (dy hz rfl)),show Nat.blt i c.length=true from aU hi];rfl
noncomputable abbrev rfB:List dJ6:=[.put (.aE 2) (.aE 3) (.call "mvmonic" [.call "rest_of" [.sub (.aE 2) (.aE 3),.cat false (.qs false (.aE 2) none (some (.aE 3))) (.qs false (.aE 2) (some (.bin .add (.aE 3) (.ck (.int 1)))) none),.aE 1],.aE 1])]
section
variable{n j:Nat}{J:St}{K:V->St->Prop}{o:e6}{x y:V}{ew:Nat}
theorem Ni{Qf:Fl->du->St->Prop}{σ₀:St}{N:Nat}(hn:n=2\/n=3){d:Addr}:
  ∀(m i:Nat) (G R:List bM) (ls rs:aM) (Kv:List V) (ob:Obj) (r3:Option V),Rf n o i G ls R rs->i+m=G.length->G.length<=100->gp n Kv G->Gs n o G (cP ls)->
   (∀uK ob' Gp,gp n uK R->Gs n o R (cP rs)->R.length=G.length->Qf .next [some x,some (.str o.name),some (.ref d),Gp,none,none,none,none,none] ((d,ob',.a9 uK)::J))->
   eg (eI (j+8) (.one 3) rfB σ₀ (.int N)) ((List.range' i m).map λ(i:Nat)=>.int (i:Int)) [some x,some (.str o.name),some (.ref d),r3,none,none,none,none,none] ((d,ob,.a9 Kv)::J) Qf:=by
 intro m
 induction m with
 |zero=>
  intro i G R ls rs Kv ob r3 H hi hz hP gs h
  cases H with
  |done _=>exact h Kv ob r3 hP gs rfl
  |step h1=>exact aG (gW h1) (Nat.not_lt.mpr (aP hi.symm))
 |succ m ih=>
  intro i G R ls rs Kv ob r3 H hi hz hP gs h
  have LP:=hP.len
  have TB:i<G.length:=by rw[<-hi];exact cW (Nat.succ_pos _)
  cases H with
  |done h1=>exact aG TB (Nat.not_lt.mpr (aP h1.symm))
  |@step i G ls R rs f res s m' h1 D wY DX JY H'=>
   have hX:=n3 hn
   obtain⟨lf,XW,pf⟩:=hP.get i f h1
   have PO:Kv.length<=1000:=by rw[LP];exact dy hz rfl
   have hv:b6 ((d,ob,V.a9 Kv)::J) (.ref d)=some (.a9 Kv):=cT ee
   have TC:=hP.erase i
   have hE:Kv.take i++Kv.drop (i+1)=Kv.eraseIdx i:=(List.eraseIdx_eq_take_drop_succ ..).symm
   refine zP (vE (PE rfl rfl (gK (Ry (gD hv XW (ae (aT TB) (dy hz rfl))) (RE (cV rfl (J8 hv (dy PO rfl) i)) (ja (cV rfl (J9 hv (dy PO rfl) (i+1))) (uB.ok rfl rfl ?_ ?_)))))))
   ·rw[<-aC,hE];exact ae (List.length_eraseIdx_le ..) (dy PO rfl)
   rw[hE]
   refine lK (x:=.bC lf) (G:=G.eraseIdx i) hn rfl pf rfl TC.len (λi g hg=>TC.get i g hg) (by rw[vK];exact gs.erase i) (ae (List.length_eraseIdx_le ..) hz) D λlr pr=>?_
   refine lJ (x:=.bC lr) hX rfl pr DX (λhz=>aG (hz m') wY.1) λm2 l' LM G3=>?_
   obtain rfl:=dn.uniq (λk hk=>(pr.key k hk).1) wY LM
   refine⟨_,_,_,ee,Zu (by rw[LP];exact TB) PO,dy PO rfl,λo'=>?_⟩
   rw[j7]
   exact⟨trivial,ih (i+1) _ R _ rs _ o' _ H' (by rw[List.length_set,<-hi,Nat.add_assoc,Nat.add_comm 1]) (by rw[List.length_set];exact hz) (hP.put G3 i) (gs.put (i:=i) wY pr.key JY) λuK ob' Gp a b c=>h uK ob' Gp a b (by rw[c,List.length_set])⟩
end
theorem q7(l:List V):∀(n i:Nat),(fB n l)[i]?=(l[i]?).map λx=>V.bZ [.int ((n+i:Nat):Int),x]:=by
 induction l with
 |nil=>exactλZ Z=>rfl
 |cons x l ih=>
  intro n i
  cases i with
  |zero=>rfl
  |succ i=>exact(ih (n+1) i).trans (by rw[bo];rfl)
theorem jx(l:List V):∀(n:Nat),(fB n l).length=l.length:=by
 induction l with
 |nil=>exactλZ=>rfl
 |cons x l ih=>exactλn=>ao Nat.succ (ih (n+1))
def jb(o:e6)(ms:aM)(i:Nat):V:=.bZ [bj (eR o (ms.getD i [])),.int i]
def gu(o:e6)(ms:aM):List V:=(List.range ms.length).map (jb o ms)
theorem q8(o:e6)(ms:aM)(i:Nat):(gu o ms).getD i .none=if i<ms.length then jb o ms i else .none:=by
 unfold gu
 rw[aK,aA]
 by_cases h:i<ms.length
 ·rw[List.getElem?_range h,ai h];rfl
 ·rw[bu (by simpa using h),ah h];rfl
theorem B8{α:Type}{c c':Nat->Nat->Option Bool}(h:∀i j,c i j=c' i j)(t:KasT α):AQ c t=AQ c' t:=by
 induction t with
 |ret a=>rfl
 |ask i j k ih=>
  show oS (c i j) _=oS (c' i j) _
  rw[h]
  cases c' i j with
  |none=>rfl
  |some b=>exact ih b
theorem R3(u:Bool)(f g:V->V->Option Bool)(x y:V)(a b:Int)(hf:f (.int a) (.int b)=some (a==b))(hg:g (.int a) (.int b)=some (decide (a<b))){e:Bool}(he:f x y=some e){l:Bool}(hl:g x y=some l):
  sD u f g [x,.int a] [y,.int b]=some (if e then decide (a<b)else l):=by
 show oS (f x y) (λc=>if c=true then oS (f (.int a) (.int b)) (λd=>if d=true then some (bif true then false else u)else g (.int a) (.int b))else g x y)=_
 rw[he,hf,hg,hl]
 cases e with
 |false=>rfl
 |true=>
  by_cases h:a=b
  ·subst h
   show(if(a==a)=true then some false else some (decide (a<a)))=some (decide (a<a))
   rw[ai (cv a),b9 (Int.lt_irrefl a)]
  ·show(if(a==b)=true then some false else some (decide (a<b)))=some (decide (a<b))
   rw[ah (λe=>h (bt e))]
theorem Gq(o:e6)(ms:aM)(i j:Nat):s6 true 5 ((gu o ms).getD i .none) ((gu o ms).getD j .none)=Nh o ms i j:=by
 rw[q8,q8]
 unfold Nh
 by_cases hi:i<ms.length
 ·rw[ai hi,aH hi]
  by_cases hj:j<ms.length
  ·rw[ai hj,aH hj]
   have ei:ms.getD i []=ms[i]:=by rw[aK,aH hi];rfl
   have ej:ms.getD j []=ms[j]:=by rw[aK,aH hj];rfl
   show sD true (iS 4) (s6 true 4) [bj (eR o (ms.getD i [])),.int i] [bj (eR o (ms.getD j [])),.int j]=_
   rw[R3 true (iS 4) (s6 true 4) _ _ (i:Int) (j:Int) rfl rfl (kX _ _ 3) (tf _ _ 3).1,ei,ej]
   rfl
  ·rw[ah hj,bu (Nat.le_of_not_lt hj)]
   rfl
 ·rw[ah hi,bu (Nat.le_of_not_lt hi)]
  rfl
theorem B9{o:e6}{ms:aM}{p:List Nat}(h:sX o ms=some p)(hz:ms.length<64)(hp:∀i∈p,i<ms.length):iV (gu o ms)=some (.a9 (p.map (jb o ms))):=by
 have hl:(gu o ms).length=ms.length:=by simp[gu]
 unfold sX at h
 unfold iV
 by_cases h2:ms.length<2
 ·rw[ai h2]at h
  rw[hl,ai h2]
  cases h
  rfl
 ·rw[ah h2]at h
  rw[hl,ah h2]
  have hT:T_ (gu o ms)=true:=by
   unfold gu
   generalize List.range ms.length=r
   induction r with
   |nil=>rfl
   |cons a r ih=>exact ih
  rw[ai ⟨hz,by rw[hT,Bool.or_true]⟩,B8 (Gq o ms)]
  cases e:AQ (Nh o ms) (kas_sort ms.length)with
  |none=>rw[e]at h;cases h
  |some q=>
   rw[e]at h
   cases h
   show some (V.a9 (q.toList.map λi=>(gu o ms).getD i .none))=_
   congr 2
   refine List.map_congr_left λi hi=>?_
   rw[q8,ai (hp i hi)]
section
variable{n j:Nat}{J:St}{K:V->St->Prop}{o:e6}{x y:V}{ew:Nat}
theorem gp.pick{z:bM}{Kv:List V}{R:List bM}(h:gp n Kv R)(p:List Nat):(∀i∈p,i<R.length)->gp n (p.map λi=>Kv.getD i .none) (p.map λi=>R.getD i z):=by
 induction p with
 |nil=>exactλZ=>trivial
 |cons i p ih=>
  intro hp
  have hg:=aH (hp i (.head _))
  obtain⟨l,e,pl⟩:=h.get i _ hg
  refine⟨⟨l,?_,?_⟩,ih λi hi=>hp i (.tail _ hi)⟩
  ·show List.getD Kv i .none=_
   rw[aK,e];rfl
  ·show Pl n l (List.getD R i z)
   rw[aK,hg];exact pl
theorem qe(hn:n=2\/n=3){G R:List bM}{ls rs:aM}{Gv:List V}{z:bM}{p:List Nat}(hx:b6 J x=some (.a9 Gv))(hG:gp n Gv G)(hl:G.length=ls.length)
  (gs:Gs n o (iY z ls G 0 ls) (cP (iY [] ls ls 0 ls)))
  (hm:∀(i:Nat) f m,G[i]?=some f->ls[i]?=some m->dn o f m) (hz:G.length<=60) (VZ:(iY z ls G 0 ls).length<=60)
  (H:Rf n o 0 (iY z ls G 0 ls) (iY [] ls ls 0 ls) R rs) (hs:sX o rs=some p) (hp:∀i∈p,i<R.length) (s7:p.length<=100)
  (h:∀Kv,gp n Kv (p.map λi=>R.getD i z)->K (.a9 Kv) J):CA (j+9) "reduced_form" [x,.str o.name] J K:=by
 have hX:=n3 hn
 refine enter uy rfl (eP (cx (xs:=[x,.str o.name]) rfl (oN hX (z:=z) hx hG hl hm (dy hz rfl) λd ob Kv hd hP=>?_)))
 have LP:=hP.len
 have PO:Kv.length<=60:=by rw[LP];exact VZ
 have hv:b6 ((d,ob,V.a9 Kv)::J) (.ref d)=some (.a9 Kv):=cT ee
 refine M3 (cV rfl (cV (q6 hv (dy PO rfl)) rfl)) (dy PO rfl) ?_
 rw[fj,List.range_eq_range']
 refine Ni hn Kv.length 0 _ R _ rs Kv ob none H (by rw[bS,LP]) (dy VZ rfl) hP gs λuK ob' Gp TC gs' hRl=>?_
 have Nj:=TC.len
 have Zv:R.length<=60:=by rw[hRl];exact VZ
 have Zw:uK.length<=1000:=by rw[Nj];exact dy Zv rfl
 have O9:b6 ((d,ob',V.a9 uK)::J) (.ref d)=some (.a9 uK):=cT ee
 have Ml:R.length=rs.length:=by have:=gs'.len;unfold cP at this;rw[ag]at this;exact this
 have fR:(gu o rs).length=rs.length:=by rw[gu,ag,cS]
 refine eP (F4 rfl (JL rfl O9 (gE (fB 0 uK) (gu o rs) [] _ (by rw[jx,fR,Nj,Ml]) (λi v w GU hw a Kq ha hK=>?_) (by rw[jx];exact fz (dy Zw rfl)) λd2 V0 hd2=>?_)))
 ·rw[q7]at GU
  obtain⟨u,XW,rfl⟩:=aO.mp GU
  have hi:=gW XW
  rw[Nj]at hi
  have hg:=aH (l:=R) (i:=i) hi
  have wY:=aH (l:=rs) (i:=i) (by rw[<-Ml];exact hi)
  obtain⟨l,e,pl⟩:=TC.get i _ hg
  rw[XW]at e
  cases e
  have hw':w=jb o rs i:=by
   unfold gu at hw
   rw[aA,List.getElem?_range (by rw[<-Ml];exact hi)]at hw
   cases hw;rfl
  subst hw'
  have rI:=(gs'.lead i _ rs[i] 1 hg (by unfold cP;rw[aA,wY];rfl)).1
  have ei:rs.getD i []=rs[i]:=by rw[aK,wY];rfl
  refine zQ (l8 (mK (x:=.str o.name) rfl (DO (cx (xs:=[.bC l,.str o.name]) rfl (fg rfl pl hX (λhz=>aG (hz _) rI.1) λm' LM=>⟨_,rfl,?_⟩)))))
  obtain rfl:=dn.uniq (λk hk=>(pl.key k hk).1) rI LM
  refine jJ (o:=o) (iu (pl.key _ rI.1).1 hX) ⟨ha,cQ _ _,?_⟩
  unfold jb at hK
  rw[ei]at hK
  rw[bS]
  exact hK
 have gO:d≠d2:=f_ hd2 ee
 have hrz:rs.length<=60:=by rw[<-Ml];exact Zv
 have Ad:mu ((d2,V0,V.a9 (gu o rs))::(d,ob',V.a9 uK)::J) .sort (.a9 (gu o rs)) []=some (.a9 (p.map (jb o rs)),.none):=by
  show oS (iV (gu o rs)) (λs=>some (s,V.none))=_
  rw[B9 hs (aB hrz (le rfl)) (λi hi=>by have:=hp i hi;rw[Ml]at this;exact this)];rfl
 refine DQ (mN rfl ee rfl rfl Ad ?_ ?_ λo3=>?_)
 ·show List.length _<=100000;rw[cq,fR];exact dy hrz rfl
 ·show List.length _<=100000;rw[ag];exact dy s7 rfl
 rw[j7]
 have hv3:b6 ((d2,o3,V.a9 (p.map (jb o rs)))::(d,ob',V.a9 uK)::J) (.ref d2)=some (.a9 (p.map (jb o rs))):=cT ee
 have hv4:b6 ((d2,o3,V.a9 (p.map (jb o rs)))::(d,ob',V.a9 uK)::J) (.ref d)=some (.a9 uK):=cT (eW hd2 ee)
 have RX:∀b q,aY J b=some q->aY ((d2,o3,V.a9 (p.map (jb o rs)))::(d,ob',V.a9 uK)::J) b=some q:=λb q hb=>eW hd2 (eW hd hb)
 generalize(d2,o3,V.a9 (p.map (jb o rs)))::(d,ob',V.a9 uK)::J=LO at hv3 hv4 RX⊢
 refine ff (oK rfl (jX rfl hv3 (gE (p.map (jb o rs)) (p.map λi=>uK.getD i .none) [] _ (by rw[ag,ag]) (λi v w GU hw a Kq ha hK=>?_) (by rw[ag];exact fz (dy s7 rfl)) ⟨J,RX,h _ (gp.pick TC p hp)⟩)))
 rw[aA]at GU hw
 obtain⟨q,hpi,rfl⟩:=aO.mp GU
 rw[hpi]at hw
 cases hw
 have hq:=hp q (dw hpi)
 have B_:=aH (l:=uK) (i:=q) (by rw[Nj];exact hq)
 have nY:iT LO (.ref d) (.int (q:Int))=some (uK.getD q .none):=by
  rw[aK,B_]
  exact gD hv4 B_ (ae (aT hq) (dy Zv rfl))
 exact zQ (ja nY ⟨ha,cQ _ _,hK⟩)
end
def Rb(n:Nat)(o:e6)(ew:Nat)(dJ6 B:List bM):Prop:=∃(ms:aM) (G:List bM) (ls:aM) (t:Nat) (R:List bM) (rs:aM) (p:List Nat),
 dJ6.length=ms.length/\(∀(i:Nat) f m,dJ6[i]?=some f->ms[i]?=some m->dn o f m/\(∀k,Sm (f k))/\∀k,Sm (dF f m k))/\dJ6.length<=50/\
 Gr n o ew (List.zipWith dF dJ6 ms) ms (jM dJ6.length) 0 G t/\G.length=ls.length/\(∀(i:Nat) f m,G[i]?=some f->ls[i]?=some m->dn o f m)/\G.length<=60/\
 Gs n o (iY (λZ=>0) ls G 0 ls) (cP (iY [] ls ls 0 ls))/\(iY (λZ=>0:bM) ls G 0 ls).length<=60/\
 Rf n o 0 (iY (λZ=>0) ls G 0 ls) (iY [] ls ls 0 ls) R rs/\sX o rs=some p/\(∀i∈p,i<R.length)/\p.length<=100/\B=p.map λi=>R.getD i λZ=>0
section
variable{n j:Nat}{J:St}{K:V->St->Prop}{o:e6}{x y:V}{ew:Nat}
theorem eS(hn:n=2\/n=3){dJ6 B:List bM}{Sv:List V}(hx:b6 J x=some (.a9 Sv))(hS:gp n Sv dJ6)(H:Rb n o ew dJ6 B)(h:∀Kv,gp n Kv B->K (.a9 Kv) J):CA (j+11) "reduced_basis" [x,.str o.name,.int ew] J K:=by
 obtain⟨ms,G,ls,t,R,rs,p,h1,h2,h3,h4,h5,h6,h7,h8,h9,MG,Zx,Zy,Zz,rfl⟩:=H
 exact enter sR rfl (ff (gK (cx (xs:=[x,.str o.name,.int ew]) rfl (vJ hn hx hS h1 h2 h3 h4 λGv hG=>
  qe (x:=.a9 Gv) hn (z:=λZ=>0) rfl hG h5 h8 h6 h7 h9 MG Zx Zy Zz λKv hK=>cG (Y:=[]) (h Kv hK)))))
def qf(at_:Nat)(m:List Int):Bool:=decide (0<m.getD at_ 0)&&eX m==m.getD at_ 0
def J_(ls:aM):Bool:=ls.any (λm=>eX m==0)||(ls.any (qf 0)&&ls.any (qf 1))
theorem Ae(f:List Int->Bool)(ls:aM):qw (ls.map λm=>V.bool (f m))=some (ls.map f):=by
 induction ls with
 |nil=>rfl
 |cons m r ih=>
  show oS (qw (r.map λm=>V.bool (f m))) (λs=>some (f m::s))=_
  rw[ih];rfl
theorem any_map(f:List Int->Bool)(ls:aM):vp J .any [V.a9 (ls.map λm=>.bool (f m))]=some (.bool (ls.any f)):=by
 show(qw (ls.map λm=>V.bool (f m))).map (λbs=>V.bool (bs.any id))=_
 rw[Ae,Option.map_some,List.any_map];rfl
theorem D8(m:List Int):vp J .sum [bj m]=some (.int (eX m)):=mR m
theorem uL{body:V->St->List V->(St->List V->Prop)->Prop}(f:List Int->Bool){ls:aM}{Kk:St->List V->Prop}(hb:∀m∈ls,∀a Kq,a.length<=100000->Kq J (a++[.bool (f m)])->body (bj m) J a Kq)
  (hz:ls.length<=1000) (h:Kk J (ls.map λm=>.bool (f m))):iter body (ls.map bj) J [] Kk:=by
 refine gE (ls.map bj) (ls.map λm=>.bool (f m)) [] Kk (by rw[ag,ag]) (λi v w hv hw a Kq ha hK=>?_) (by rw[ag];exact fz (dy hz rfl)) h
 rw[aA]at hv hw
 obtain⟨m,hm,rfl⟩:=aO.mp hv
 rw[hm]at hw
 cases hw
 exact hb m (dw hm) a Kq ha hK
theorem Nk{m:List Int}(h:m.length=2){i:Nat}(hi:i<2):m[i]?=some (m.getD i 0):=by
 rw[aK,aH (by rw[h];exact hi)];rfl
theorem Af{ls:aM}(x7:∀m∈ls,m.length=2)(hz:ls.length<=1000){i:Nat}{r6:Option V}{Q:Fl->du->St->Prop}{σ₀:St}(hi:i<2)
  (q0:ls.any (qf i)=false->∀Y,Q (.ret (.bool false)) Y J) (q1:ls.any (qf i)=true->Q .next [some x,some (.str o.name),some (.int 2),none,some (.a9 (ls.map bj)),none,some (.int (i:Int)),none] J):
  eI (j+2) (.one 6) [.ifs (.not (.bi .any false [.lc false (.and (.cmp .gt (.sub (.aE 7) (.aE 6)) (.ck (.int 0))) (.cmp .eq (.bi .sum false [.aE 7]) (.sub (.aE 7) (.aE 6)))) [.mk (.one 7) (.val (.aE 4)) []]])) [.ret (.ck (.bool false))] []] σ₀ (.int 2) (.int (i:Int)) [some x,some (.str o.name),some (.int 2),none,some (.a9 (ls.map bj)),none,r6,none] J Q:=by
 have ht:∀Q':Bool->St->Prop,Q' (!ls.any (qf i)) J->dW (Wk (j+2)) (j+2) (.not (.bi .any false [.lc false (.and (.cmp .gt (.sub (.aE 7) (.aE 6)) (.ck (.int 0))) (.cmp .eq (.bi .sum false [.aE 7]) (.sub (.aE 7) (.aE 6)))) [.mk (.one 7) (.val (.aE 4)) []]])) [some x,some (.str o.name),some (.int 2),none,some (.a9 (ls.map bj)),none,some (.int (i:Int)),none] J Q':=λQ' q=>by
  refine M1 (mM (oK rfl (jX rfl rfl (uL (qf i) (λm D5 a Kq ha hK=>?_) hz ⟨_,any_map (qf i) ls,trivial,q⟩))))
  have hs:=nA (J:=J) (Nk (x7 m D5) hi) (by rw[x7 m D5];exact le rfl)
  refine iA (ja ?_ ⟨ha,trivial,hK⟩)
  unfold qf
  refine cV (cV hs (cV rfl rfl)) (cV rfl ?_)
  cases decide ((0:Int)<m.getD i 0)with
  |true=>exact cV (cV (cV rfl (cV (D8 m) rfl)) (cV hs rfl)) rfl
  |false=>rfl
 refine vE ?_
 cases hb:ls.any (qf i)with
 |true=>
  rw[hb]at ht
  exact fG ⟨trivial,q1 hb⟩ λQ q=>ht Q q
 |false=>
  rw[hb]at ht
  exact fV (pY rfl ⟨trivial,q0 hb _⟩) λQ q=>ht Q q
theorem uM{G:List bM}{ls:aM}{Gv:List V}(hx:b6 J x=some (.a9 Gv))(hG:gp 2 Gv G)(hl:G.length=ls.length)(hm:∀(i:Nat) f m,G[i]?=some f->ls[i]?=some m->dn o f m)(hz:G.length<=100)
  (x7:∀m∈ls,m.length=2) (h:K (.bool (J_ ls)) J):CA (j+3) "is_finite" [x,.str o.name,.int 2] J K:=by
 have V1:ls.length<=1000:=by rw[<-hl];exact dy hz rfl
 refine enter zF rfl (eP (oK rfl (jX rfl hx (lM (n:=2) (o:=o) (λl f m a Kq p BS ha hK=>nK (le rfl) p BS ha hK rfl rfl) hG hl hm (dy hz rfl) ?_))))
 have ht:∀Q:Bool->St->Prop,Q (ls.any λm=>eX m==0) J->dW (Wk (j+2)) (j+2) (.bi .any false [.lc false (.cmp .eq (.bi .sum false [.aE 5]) (.ck (.int 0))) [.mk (.one 5) (.val (.aE 4)) []]]) [some x,some (.str o.name),some (.int 2),none,some (.a9 (ls.map bj)),none,none,none] J Q:=λQ q=>
  mM (oK rfl (jX rfl rfl (uL (λm=>eX m==0) (λm D5 a Kq ha hK=>iA (ja (cV (cV rfl (cV (D8 m) rfl)) rfl) ⟨ha,trivial,hK⟩)) V1 ⟨_,any_map (λm=>eX m==0) ls,trivial,q⟩)))
 unfold J_ at h
 cases h0:ls.any (λm=>eX m==0)with
 |true=>
  rw[h0]at h ht
  exact fV (pY rfl (cG (Y:=[]) h)) λQ q=>ht Q q
 |false=>
  rw[h0,Bool.false_or]at h
  rw[h0]at ht
  refine fG (M3 (N:=2) rfl (le rfl) (zP (Af x7 V1 (i:=0) (le rfl) (λhb Y=>?_) λhb=>?_))) λQ q=>ht Q q
  ·rw[hb,Bool.false_and]at h
   exact cG (Y:=[]) h
  ·rw[hb,Bool.true_and]at h
   refine zP (Af x7 V1 (i:=1) (le rfl) (λhb Y=>?_) λhb=>?_)
   ·rw[hb]at h
    exact cG (Y:=[]) h
   ·rw[hb]at h
    exact j6 (r:=[]) rfl h
end
inductive Sp(ls:aM):aM->aM->aM->Nat->Prop
 |done {f}:f.length<=100->Sp ls [] f f 0
 |skip {w f r t a b}:(f.contains [a,b]||decide (0<=dG [a,b] 0 ls))=true->w.length<=100->Sp ls w f r t->Sp ls (w++[[a,b]]) f r (t+1)
 |take {w f r t a b}:(f.contains [a,b]||decide (0<=dG [a,b] 0 ls))=false->w.length<=100->f.length<=100->Sp ls (w++[[a+1,b],[a,b+1]]) (f++[[a,b]]) r t->Sp ls (w++[[a,b]]) f r (t+1)
noncomputable def mW(f:aM):aN:=f.map λm=>(m,V.bool true)
theorem Ca(f:aM)(m:List Int):(dp (mW f) m).isSome=f.contains m:=by
 induction f with
 |nil=>rfl
 |cons k f ih=>
  rw[List.contains_cons]
  by_cases h:k=m
  ·subst h;rw[cv];exact ao Option.isSome eC
  ·rw[bX.mpr (λe=>h e.symm),Bool.false_or,<-ih]
   exact ao Option.isSome (dU h)
theorem Gu(f:aM)(m:List Int):f.contains m=false->fA (mW f) m (.bool true)=mW (f++[m]):=by
 induction f with
 |nil=>exactλZ=>rfl
 |cons k f ih=>
  intro h
  rw[List.contains_cons,Bool.or_eq_false_iff]at h
  exact(kE λ(e:k=m)=>bX.mp h.1 e.symm).trans (ao _ (ih h.2))
noncomputable abbrev spT:E:=.cmp .gt (.bi .len false [.aE 6]) (.ck (.int 0))
noncomputable abbrev spB:List dJ6:=[.asg 8 (.met .pop (.aE 6) []),
  .ifs (.or (.cmp .CT (.aE 8) (.aE 7)) (.call "is_divided" [.aE 8,.aE 4])) [.cont] [],
  .put (.aE 7) (.aE 8) (.ck (.bool true)),
  .ex (.met .append (.aE 5) [.aE 8]),
  .fr (.one 9) (.range (.aE 2)) [.ex (.met .append (.aE 6) [.bin .add (.bin .add (.qs false (.aE 8) none (some (.aE 9))) (.bZ [.bin .add (.sub (.aE 8) (.aE 9)) (.ck (.int 1))])) (.qs false (.aE 8) (some (.bin .add (.aE 9) (.ck (.int 1)))) none)])]]
structure SI(J σ':St)(af aw ak:Addr)(ws fs:aM):Prop where
 base:∀b q,aY J b=some q->aY σ' b=some q
 f:∃ob,aY σ' af=some (ob,V.a9 (fs.map bj))
 w:∃ob,aY σ' aw=some (ob,V.a9 (ws.map bj))
 k:∃ob,aY σ' ak=some (ob,V.bC (mW fs))
 nf:aY J af=none
 nw:aY J aw=none
 nk:aY J ak=none
 fw:af≠aw
 fk:af≠ak
 wk:aw≠ak
section
variable{n j:Nat}{J:St}{K:V->St->Prop}{o:e6}{x y:V}{ew:Nat}
theorem Ag(J:St)(l:List V)(v:V):mu J .pop (.a9 (l++[v])) []=some (.a9 l,v):=by
 show oS (l++[v]).getLast? (λx=>some (V.a9 (l++[v]).dropLast,x))=_
 rw[List.getLast?_concat,List.dropLast_concat];rfl
theorem SI.wU{σ':St}{af aw ak:Addr}{ws fs ws':aM}{o':Obj}(I:SI J σ' af aw ak ws fs):SI J (gN σ' aw o' (.a9 (ws'.map bj))) af aw ak ws' fs:=by
 obtain⟨PQ,hf⟩:=I.f
 obtain⟨Aa,hw⟩:=I.w
 obtain⟨TF,hk⟩:=I.k
 exact⟨λb q hb=>gC (f_ I.nw hb) (I.base b q hb),⟨PQ,gC I.fw hf⟩,⟨o',kR hw⟩,⟨TF,gC I.wk.symm hk⟩,I.nf,I.nw,I.nk,I.fw,I.fk,I.wk⟩
theorem SI.fU{σ':St}{af aw ak:Addr}{ws fs fs':aM}{o1 o2:Obj}(I:SI J σ' af aw ak ws fs):SI J (gN (gN σ' ak o1 (.bC (mW fs'))) af o2 (.a9 (fs'.map bj))) af aw ak ws fs':=by
 obtain⟨PQ,hf⟩:=I.f
 obtain⟨Aa,hw⟩:=I.w
 obtain⟨TF,hk⟩:=I.k
 exact⟨λb q hb=>gC (f_ I.nf hb) (gC (f_ I.nk hb) (I.base b q hb)),⟨o2,kR (gC I.fk hf)⟩,⟨Aa,gC I.fw.symm (gC I.wk hw)⟩,⟨o1,gC I.fk.symm (kR hk)⟩,I.nf,I.nw,I.nk,I.fw,I.fk,I.wk⟩
abbrev J'(x y:V)(ls:aM)(af aw ak:Addr)(r8 r9:Option V):du:=[some x,some y,some (.int 2),none,some (.a9 (ls.map bj)),some (.ref af),some (.ref aw),some (.ref ak),r8,r9]
theorem D9{σ':St}{ls ws:aM}{af aw ak:Addr}{ob:Obj}{a b c d:Int}{i:Nat}{r9:Option V}{Q:Fl->du->St->Prop}{σ₀:St}(hw:aY σ' aw=some (ob,.a9 (ws.map bj)))(hL:ws.length<=1000)(hi:(i=0/\c=a+1/\d=b)\/(i=1/\c=a/\d=b+1))
  (h:∀o',Q .next (J' x y ls af aw ak (some (bj [a,b])) (some (.int (i:Int)))) (gN σ' aw o' (.a9 ((ws++[[c,d]]).map bj)))):
  eI (j+3) (.one 9) [.ex (.met .append (.aE 6) [.bin .add (.bin .add (.qs false (.aE 8) none (some (.aE 9))) (.bZ [.bin .add (.sub (.aE 8) (.aE 9)) (.ck (.int 1))])) (.qs false (.aE 8) (some (.bin .add (.aE 9) (.ck (.int 1)))) none)])] σ₀ (.int 2) (.int (i:Int)) (J' x y ls af aw ak (some (bj [a,b])) r9) σ' Q:=by
 have hz:(ws.map bj).length<=1000:=by rw[ag];exact hL
 have ht:pv σ' (J' x y ls af aw ak (some (bj [a,b])) (some (.int (i:Int)))) (.bin .add (.bin .add (.qs false (.aE 8) none (some (.aE 9))) (.bZ [.bin .add (.sub (.aE 8) (.aE 9)) (.ck (.int 1))])) (.qs false (.aE 8) (some (.bin .add (.aE 9) (.ck (.int 1)))) none))=some (bj [c,d]):=by
  rcases hi with⟨rfl,rfl,rfl⟩|⟨rfl,rfl,rfl⟩<;>rfl
 refine vE (DQ (mN rfl hw rfl (dM ht rfl) rfl (dy hz rfl) ?_ λo'=>⟨trivial,?_⟩))
 ·show List.length _<=100000;rw[aC];exact dy (aL hz) rfl
 ·rw[xX];exact h o'
theorem D_{ls f:aM}{σ':St}{af aw ak:Addr}{ob:Obj}{a b:Int}{r9:Option V}{Q:Bool->St->Prop}(x7:ls.length<=1000)(D6:∀m∈ls,m.length=2)(hk:aY σ' ak=some (ob,.bC (mW f)))(q:Q (f.contains [a,b]||decide (0<=dG [a,b] 0 ls)) σ'):
  dW (Wk (j+3)) (j+3) (.or (.cmp .CT (.aE 8) (.aE 7)) (.call "is_divided" [.aE 8,.aE 4])) (J' x y ls af aw ak (some (bj [a,b])) r9) σ' Q:=by
 have h0:pv σ' (J' x y ls af aw ak (some (bj [a,b])) r9) (.cmp .CT (.aE 8) (.aE 7))=some (.bool (f.contains [a,b])):=cV rfl (cV rfl (cV ((DS (cT hk)).trans (ao some (Ca f [a,b]))) rfl))
 refine Y4 h0 ?_
 cases iD:f.contains [a,b]with
 |true=>rw[iD]at q;exact q
 |false=>
  rw[iD,Bool.false_or]at q
  exact cx (xs:=[bj [a,b],.a9 (ls.map bj)]) rfl (l9 rfl (show 2<100 from le rfl) x7 (λp hp=>D6 p hp) q)
theorem Nl{Qf:Fl->du->St->Prop}{ls:aM}(x7:ls.length<=1000)(D6:∀m∈ls,m.length=2){ws f r:aM}{t:Nat}(D:Sp ls ws f r t)
  (h:∀Y σ' af,Y[5]?=some (some (V.ref af))->(∃ob,aY σ' af=some (ob,V.a9 (r.map bj)))->r.length<=100->(∀b q,aY J b=some q->aY σ' b=some q)->aY J af=none->Qf .next Y σ'):
  ∀(σ':St) (af aw ak:Addr) (r8 r9:Option V),SI J σ' af aw ak ws f->
   iI (dW (Wk (j+3)) (j+3) spT) (fN (Wk (j+3)) (j+3) spB) (t+1) [some x,some y,some (.int 2),none,some (.a9 (ls.map bj)),some (.ref af),some (.ref aw),some (.ref ak),r8,r9] σ' Qf:=by
 induction D with
 |done hf=>
  intro σ' af aw ak r8 r9 I
  obtain⟨Aa,hw⟩:=I.w
  exact te (h _ σ' af rfl I.f hf I.base I.nf) λQ q=>sT (cV rfl (cV (q6 (cT hw) (bK _)) rfl)) rfl Q q
 |@skip w f r t a b hc ti D' ih=>
  intro σ' af aw ak r8 r9 I
  obtain⟨Aa,hw⟩:=I.w
  have hz:((w++[[a,b]]).map bj).length<=1000:=by rw[ag,aC];exact dy (aL ti) rfl
  refine mO ?_ λQ q=>sT (cV rfl (cV (q6 (cT hw) (dy hz rfl)) rfl)) (by rw[ag,aC];rfl) Q q
  rw[b8]at hw hz
  refine eP (mN rfl hw rfl rfl (Ag ..) (dy hz rfl) (by show List.length _<=100000;rw[ag];exact dy ti rfl) λo1=>?_)
  have I1:=I.wU (ws':=w) (o':=o1)
  obtain⟨TF,hk⟩:=I1.k
  exact fV (ih h _ af aw ak _ _ I1) λQ q=>D_ x7 D6 hk (by rw[hc];exact q)
 |@take w f r t a b hc ti XO D' ih=>
  intro σ' af aw ak r8 r9 I
  obtain⟨Aa,hw⟩:=I.w
  have hz:((w++[[a,b]]).map bj).length<=1000:=by rw[ag,aC];exact dy (aL ti) rfl
  refine mO ?_ λQ q=>sT (cV rfl (cV (q6 (cT hw) (dy hz rfl)) rfl)) (by rw[ag,aC];rfl) Q q
  rw[b8]at hw hz
  refine eP (mN rfl hw rfl rfl (Ag ..) (dy hz rfl) (by show List.length _<=100000;rw[ag];exact dy ti rfl) λo1=>?_)
  have I1:=I.wU (ws':=w) (o':=o1)
  generalize gN σ' aw o1 (.a9 (w.map bj))=mh at I1⊢
  obtain⟨TF,hk⟩:=I1.k
  obtain⟨PQ,hf⟩:=I1.f
  have iD:f.contains [a,b]=false:=by
   cases e:f.contains [a,b]with
   |false=>rfl
   |true=>rw[e]at hc;cases hc
  refine fG (MZ rfl rfl rfl ⟨_,_,_,hk,p9,?_,λo2=>?_⟩) λQ q=>D_ x7 D6 hk (by rw[hc];exact q)
  ·show List.length _<=100000;rw[mW,ag];exact dy XO rfl
  have hfz:(f.map bj).length<=100:=by rw[ag];exact XO
  refine DQ (mN rfl (gC I1.fk hf) rfl (xs:=[bj [a,b]]) rfl rfl (dy hfz rfl) ?_ λo3=>?_)
  ·show List.length _<=100000;rw[aC];exact dy (aL hfz) rfl
  rw[Gu f _ iD,xX]
  have I3:=I1.fU (fs':=f++[[a,b]]) (o1:=o2) (o2:=o3)
  generalize gN (gN mh ak o2 (.bC (mW (f++[[a,b]])))) af o3 (.a9 ((f++[[a,b]]).map bj))=LO at I3⊢
  obtain⟨ow3,TA⟩:=I3.w
  refine M3 (N:=2) rfl (le rfl) (zP (D9 (c:=a+1) (d:=b) (i:=0) TA (dy ti rfl) (.inl ⟨rfl,rfl,rfl⟩) λo4=>?_))
  have I4:=I3.wU (ws':=w++[[a+1,b]]) (o':=o4)
  obtain⟨ow4,hw4⟩:=I4.w
  refine zP (D9 (c:=a) (d:=b+1) (i:=1) hw4 (by rw[aC];exact dy (aL ti) rfl) (.inr ⟨rfl,rfl,rfl⟩) λo5=>?_)
  rw[bx]
  exact ih h _ af aw ak _ _ I4.wU
theorem iZ{G:List bM}{ls r:aM}{Gv s:List V}{t:Nat}(hx:b6 J x=some (.a9 Gv))(hG:gp 2 Gv G)(hl:G.length=ls.length)(hm:∀(i:Nat) f m,G[i]?=some f->ls[i]?=some m->dn o f m)(hz:G.length<=100)
  (x7:∀m∈ls,m.length=2) (D:Sp ls [[0,0]] [] r t) (hs:iV (r.map bj)=some (.a9 s)) (nW:s.length<=1000) (h:K (.a9 s) J):CA (j+4) "standard_powers" [x,.str o.name,.int 2] J K:=by
 refine enter pS rfl (eP (oK rfl (jX rfl hx (lM (n:=2) (o:=o) (λl f m a Kq p BS ha hK=>nK (le rfl) p BS ha hK rfl rfl) hG hl hm (dy hz rfl) ?_))))
 refine⟨le rfl,λaf PQ XX=>⟨le rfl,⟨le rfl,λaw Aa uI=>?_⟩⟩⟩
 intro ak TF TG
 refine⟨le rfl,?_⟩
 have hf1:aY ((af,PQ,V.a9 [])::J) af=some (PQ,.a9 []):=ee
 have hf2:=eW (o:=Aa) (z:=V.a9 [bj [0,0]]) uI hf1
 have VW:aY ((aw,Aa,V.a9 [bj [0,0]])::(af,PQ,V.a9 [])::J) aw=some (Aa,.a9 [bj [0,0]]):=ee
 refine⟨t+1,Nl (by rw[<-hl];exact dy hz rfl) x7 D (λY σ' af hρ hf hr hb hn=>?_) _ af aw ak none none ⟨λb q hb=>eW TG (eW uI (eW XX hb)),⟨PQ,eW TG hf2⟩,⟨Aa,eW TG VW⟩,⟨TF,ee⟩,XX,mP (λb q hb=>eW XX hb) uI,mP (λb q hb=>eW uI (eW XX hb)) TG,f_ uI hf1,f_ TG hf2,f_ TG VW⟩⟩
 obtain⟨ob,hf⟩:=hf
 have hv:xW σ' Y [.aE 5]=some [.ref af]:=by
  refine dM (x:=.ref af) ?_ rfl
  show Y[5]?.bind id=_
  rw[hρ];rfl
 have tN:vp σ' .sorted [.ref af]=some (.a9 s):=by
  show tD σ' (.ref af) iV=_
  unfold tD
  rw[cT hf];exact hs
 exact ff (ja (cV hv (cV tN (ai (aU (dy nW rfl))))) ⟨J,hb,h⟩)
end
noncomputable abbrev Rows:=List (List Int×Int)
def kY(r:List Int×Int):V:=.bZ [bj r.1,.int r.2]
noncomputable def aI:Rows->List Int->Int
 |[],_=>0
 |(k,x)::r,m=>(if k=m then x else 0)+aI r m
noncomputable def cX(c:List Int->Int):bM:=λm=>((c m:Int):Rat)
noncomputable def gR(φ:List Int->Int):Rows->Int
 |[]=>0
 |(k,x)::r=>x*φ k+gR φ r
theorem gF(a b:Rows)(m:List Int):aI (a++b) m=aI a m+aI b m:=by
 induction a with
 |nil=>exact(bU _).symm
 |cons p a ih=>
  show(if p.1=m then p.2 else 0)+aI (a++b) m=(if p.1=m then p.2 else 0)+aI a m+aI b m
  rw[ih,bQ]
theorem lN(φ:List Int->Int)(a b:Rows):gR φ (a++b)=gR φ a+gR φ b:=by
 induction a with
 |nil=>exact(bU _).symm
 |cons p a ih=>
  show p.2*φ p.1+gR φ (a++b)=p.2*φ p.1+gR φ a+gR φ b
  rw[ih,bQ]
noncomputable def Cb(r:Rows):Rows:=r.map λp=>(p.1, -p.2)
theorem w4(a:Rows)(m:List Int):aI (Cb a) m= - aI a m:=by
 induction a with
 |nil=>rfl
 |cons p a ih=>
  show(if p.1=m then -p.2 else 0)+aI (Cb a) m= -((if p.1=m then p.2 else 0)+aI a m)
  rw[ih,Int.neg_add]
  by_cases h:p.1=m
  ·rw[ai h,ai h]
  ·rw[ah h,ah h,Int.neg_zero]
theorem Nm(φ:List Int->Int)(a:Rows):gR φ (Cb a)= - gR φ a:=by
 induction a with
 |nil=>rfl
 |cons p a ih=>
  show -p.2*φ p.1+gR φ (Cb a)= -(p.2*φ p.1+gR φ a)
  rw[ih,Int.neg_mul,Int.neg_add]
theorem tj{p:List Int×Int}{k:List Int}{r:Rows}(h:p.1=k):(p::r).filter (λp=> !(p.1==k))=r.filter λp=> !(p.1==k):=List.filter_cons_of_neg (by rw[h,cv];exact aJ)
theorem Ea{p:List Int×Int}{k:List Int}{r:Rows}(h:¬p.1=k):(p::r).filter (λp=> !(p.1==k))=p::r.filter λp=> !(p.1==k):=List.filter_cons_of_pos (by rw[bX.mpr h];rfl)
theorem q9{p:List Int×Int}{m:List Int}{r:Rows}(h:p.1=m):aI (p::r) m=p.2+aI r m:=ao (·+aI r m) (ai h)
theorem jy{p:List Int×Int}{m:List Int}{r:Rows}(h:¬p.1=m):aI (p::r) m=aI r m:=(ao (·+aI r m) (ah h)).trans (bU _)
theorem Gw(k:List Int)(r:Rows)(m:List Int):aI (r.filter λp=> !(p.1==k)) m=if k=m then 0 else aI r m:=by
 induction r with
 |nil=>exact(ite_self _).symm
 |cons p r ih=>
  by_cases h:p.1=k
  ·rw[tj h,ih]
   by_cases h2:k=m
   ·rw[ai h2,ai h2]
   ·rw[ah h2,ah h2,jy λe=>h2 (h.symm.trans e)]
  ·rw[Ea h]
   by_cases h2:k=m
   ·rw[jy λe=>h (e.trans h2.symm),ih,ai h2,ai h2]
   ·show(if p.1=m then p.2 else 0)+aI (r.filter λp=> !(p.1==k)) m=_
    rw[ih,ah h2,ah h2];rfl
theorem Nn(φ:List Int->Int)(k:List Int)(r:Rows):gR φ r=aI r k*φ k+gR φ (r.filter λp=> !(p.1==k)):=by
 induction r with
 |nil=>exact(ao (·+(0:Int)) (Int.zero_mul _)).symm
 |cons p r ih=>
  show p.2*φ p.1+gR φ r=_
  rw[ih]
  by_cases h:p.1=k
  ·rw[tj h,q9 h,Int.add_mul,h,bQ]
  ·rw[Ea h,jy h]
   exact Int.add_left_comm ..
theorem Ka(φ:List Int->Int)(n:Nat):∀(r:Rows),r.length<=n->(∀m,aI r m=0)->gR φ r=0:=by
 induction n with
 |zero=>exactλr h Z=>by rw[List.eq_nil_of_length_eq_zero (Nat.le_zero.mp h)];rfl
 |succ n ih=>
  intro r hl h
  cases r with
  |nil=>rfl
  |cons p r=>
   rw[Nn φ p.1,h p.1,tj rfl,ih _ (ae (dk ..) (Nat.le_of_succ_le_succ hl)) λm=>?_,Int.zero_mul];rfl
   rw[<-tj (p:=p) rfl,Gw,h m,ite_self]
@[elab_as_elim] theorem Np{P:Int->Prop}{c:Int}(m:Nat)(h0:0<=c)(h:c<m)(H:∀k:Nat,k<m->P k):P c:=by
 obtain⟨k,rfl⟩:=cA h0
 exact H k (cp.mp h)
theorem al{α:Type}{P:α->Prop}{a:α}{l:List α}(h:P a)(H:∀x∈l,P x):∀x∈a::l,P x:=List.forall_mem_cons.mpr ⟨h,H⟩
theorem PR{α:Type}{P:α->Prop}:∀x∈([]:List α),P x:=λZ h=>(a7 h).elim
theorem V2{a b:Nat}(ha:a<8)(hb:b<8):gc 2 [(a:Int),(b:Int)]:=⟨rfl,λi hi=>by
 rcases au.mp hi with rfl|hi
 ·exact⟨bg a,cp.mpr ha⟩
 ·rw[az.mp hi];exact⟨bg b,cp.mpr hb⟩⟩
theorem R4{a b c:Nat}(ha:a<4)(hb:b<4)(hc:c<4):gc 3 [(a:Int),(b:Int),(c:Int)]:=⟨rfl,λi hi=>by
 rcases au.mp hi with rfl|hi
 ·exact⟨bg a,cp.mpr ha⟩
 rcases au.mp hi with rfl|hi
 ·exact⟨bg b,cp.mpr hb⟩
 ·rw[az.mp hi];exact⟨bg c,cp.mpr hc⟩⟩
theorem nL(φ:List Int->Int){a b:Rows}(h:∀m,aI a m=aI b m):gR φ a=gR φ b:=by
 have:=Ka φ _ (a++Cb b) (bc _) λm=>by rw[gF,w4,h m];exact Int.add_right_neg _
 rw[lN,Nm]at this
 exact Int.eq_of_sub_eq_zero this
theorem nM(m:List Int)(r:Rows):aI r m=gR (λk=>if k=m then 1 else 0) r:=by
 induction r with
 |nil=>rfl
 |cons p r ih=>
  show(if p.1=m then p.2 else 0)+aI r m=p.2*(if p.1=m then 1 else 0)+gR _ r
  rw[ih]
  by_cases h:p.1=m
  ·rw[ai h,ai h,Int.mul_one]
  ·rw[ah h,ah h,Int.mul_zero]
noncomputable def gn(a b:List Int):List Int:=List.zipWith (·+·) a b
def dX(a:List Int)(x:Int)(r:Rows):Rows:=r.map λq=>(gn a q.1,x*q.2)
def dS(a b:Rows):Rows:=a.flatMap λp=>dX p.1 p.2 b
theorem q_(φ:List Int->Int)(a:List Int)(x:Int)(r:Rows):gR φ (dX a x r)=x*gR (λk=>φ (gn a k)) r:=by
 induction r with
 |nil=>exact(Int.mul_zero _).symm
 |cons p r ih=>
  show x*p.2*φ (gn a p.1)+gR φ (dX a x r)=x*(p.2*φ (gn a p.1)+gR _ r)
  rw[ih,Int.mul_add,Int.mul_assoc]
theorem uN(φ:List Int->Int)(a b:Rows):gR φ (dS a b)=gR (λk=>gR (λk'=>φ (gn k k')) b) a:=by
 induction a with
 |nil=>rfl
 |cons p a ih=>
  show gR φ (dX p.1 p.2 b++dS a b)=_
  rw[lN,q_,ih]
  rfl
theorem Nr{φ ψ:List Int->Int}(h:∀k,φ k=ψ k)(r:Rows):gR φ r=gR ψ r:=by rw[funext h]
theorem uO{a b a' b':Rows}(h1:∀m,aI a m=aI a' m)(h2:∀m,aI b m=aI b' m)(m:List Int):aI (dS a b) m=aI (dS a' b') m:=by
 rw[nM,nM,uN,uN,nL _ h1]
 exact Nr (λk=>nL _ h2) _
noncomputable def eB(x:Int)(r:Rows):Rows:=r.map λq=>(q.1,x*q.2)
theorem se(x:Int)(m:List Int)(r:Rows):aI (eB x r) m=x*aI r m:=by
 induction r with
 |nil=>exact(Int.mul_zero _).symm
 |cons p r ih=>
  show(if p.1=m then x*p.2 else 0)+aI (eB x r) m=x*((if p.1=m then p.2 else 0)+aI r m)
  rw[ih,Int.mul_add]
  by_cases h:p.1=m
  ·rw[ai h,ai h]
  ·rw[ah h,ah h,Int.mul_zero]
theorem jz{m:List Int}{r:Rows}:aI r m≠0->∃x,(m,x)∈r:=by
 induction r with
 |nil=>exactλh=>aG rfl h
 |cons p r ih=>
  intro h
  by_cases e:p.1=m
  ·exact⟨p.2,e▸.head _⟩
  ·rw[jy e]at h
   exact(ih h).imp λZ=>.tail _
def sY(r:Rows):Prop:=∀p∈r,gc 2 p.1
theorem eT{c:List Int->Int}{m:List Int}:cX c m=0↔c m=0:=by
 unfold cX
 exact⟨λh=>by exact_mod_cast h,λh=>by rw[h];rfl⟩
section
variable{n j:Nat}{J:St}{K:V->St->Prop}{x y:V}{l la lb:aN}{c d:List Int->Int}
structure Wl(l:aN)(c:List Int->Int):Prop where
 nd:(l.map (·.1)).Nodup
 has:∀k,dp l k=some (.int (c k))\/(dp l k=none/\c k=0)
 mon:∀k∈l.map (·.1),gc 2 k
theorem Kb{l:aN}{k:List Int}{v:V}:(fA l k v).length<=l.length+1:=yV
theorem Kc{k m:List Int}{v:V}{l:aN}(h:m∈(fA l k v).map (·.1)):m=k\/m∈l.map (·.1):=by
 rw[v5]at h
 by_cases e:(dp l k).isSome=true
 ·rw[ai e]at h;exact .inr h
 ·rw[ah e]at h
  exact(bN.mp h).elim .inr λh=>.inl (az.mp h)
noncomputable abbrev V3:List dJ6:=[.put (.aE 1) (.aE 2) (.bin .add (.met .yH (.aE 1) [.aE 2,.ck (.int 0)]) (.aE 3))]
theorem Gx{Qf:Fl->du->St->Prop}{σ₀:St}{d:Addr}(i9:∀o l,e_ σ₀ x ((d,o,.bC l)::J)):
  ∀(R:Rows) (l:aN) (c:List Int->Int) (ob:Obj) (r2 r3:Option V),Wl l c->sY R->l.length+R.length<=90000->
   (∀l' ob' ZA Gp,Wl l' (λm=>c m+aI R m)->l'.length<=90000->Qf .next [some x,some (.ref d),ZA,Gp,none] ((d,ob',.bC l')::J))->
   eg (eI j (.two 2 3) V3 σ₀ x) (R.map kY) [some x,some (.ref d),r2,r3,none] ((d,ob,.bC l)::J) Qf:=by
 intro R
 induction R with
 |nil=>
  intro l c ob r2 r3 W hR hz h
  have e:c=λm=>c m+aI [] m:=funext λm=>(cy _).symm
  exact h l ob r2 r3 (e▸W) (ae (aS _ _) hz)
 |cons p R ih=>
  obtain⟨m,v⟩:=p
  intro l c ob r2 r3 W hR hz h
  have ZC:ey (.bC l):=ae (ae (aS _ _) hz) (le rfl)
  have ZD:mu ((d,ob,V.bC l)::J) .yH (.bC l) [bj m,.int 0]=some (.bC l,.int (c m)):=by
   show oS (dN (m.map V.int)) (λk=>some (V.bC l,(dp l k).getD (.int 0)))=_
   rw[gY]
   show some (V.bC l,(dp l m).getD (.int 0))=_
   rcases W.has m with e|⟨e,e2⟩
   ·rw[e];rfl
   ·rw[e,e2];rfl
  refine zP (JI (PE rfl rfl (PF rfl (mN rfl lE rfl rfl ZD ZC ZC λo1=>⟨_,rfl,_,_,_,kR lE,p9,ZC,λo2=>⟨?_,?_⟩⟩))))
  ·rw[j7,j7];exact i9 _ _
  rw[j7,j7]
  have W':Wl (fA l m (.int (c m+v))) (λk=>c k+if m=k then v else 0):=by
   refine⟨iK W.nd,λk=>?_,λk hk=>?_⟩
   ·rw[qV]
    by_cases e:m=k
    ·subst e;rw[ai rfl,ai rfl];exact .inl rfl
    ·rw[ah e,ah e,cy];exact W.has k
   ·rcases Kc hk with h1|h1
    ·rw[h1];exact hR _ (.head _)
    ·exact W.mon k h1
  refine ih _ _ o2 _ _ W' (λp hp=>hR p (.tail _ hp)) (ae (cn Kb _) (ae (aP (bW ..)) hz)) λl' ob' ZA Gp Wf GV=>h l' ob' ZA Gp ?_ GV
  have e:(λTH=>c TH+(if m=TH then v else 0)+aI R TH)=λTH=>c TH+aI ((m,v)::R) TH:=funext λk=>bQ ..
  rw[e]at Wf
  exact Wf
end
section
variable{n j:Nat}{J:St}{K:V->St->Prop}{x y:V}{l la lb:aN}{c d:List Int->Int}
theorem f6{R:Rows}(hx:b6 J x=some (.a9 (R.map kY)))(hR:sY R)(hz:R.length<=80000)(h:∀l,Pl 2 l (cX (aI R))->K (.bC l) J):CA (j+1) "_law_made" [x] J K:=by
 refine enter BI rfl (eP λad ob hd=>RI rfl (hO hd hx) (Gx (λo l=>nF hd hx) R [] (λZ=>0) ob none none ⟨.nil,λk=>.inr ⟨rfl,rfl⟩,nofun⟩ hR (fz (ae hz (le rfl))) λl ob' r2 r3 W hl=>?_))
 have W':Wl l (aI R):=by
  have e:(λm=>(0:Int)+aI R m)=aI R:=funext λm=>bU _
  rw[<-e];exact W
 have hv:b6 ((ad,ob',V.bC l)::J) (.ref ad)=some (.bC l):=cT ee
 refine ff (Tf rfl (zR rfl hv ?_))
 rw[e7]
 refine jv (λks a=>ks.Nodup/\(∀k∈ks,k∈l.map (·.1))/\Pl 2 a (cX λm=>if m∈ks then 0 else aI R m)) _ _ _ ⟨W'.nd,λk hk=>hk,?_⟩ (λk r a K' hI hK=>?_) λa hI=>⟨J,λb q hb=>eW hd hb,h a hI.2.2⟩
 ·refine Pl.zero.congr λm=>(eT.mpr ?_).symm
  by_cases e:m∈l.map (·.1)
  ·rw[ai e]
  ·rw[ah e]
   rcases W'.has m with e1|⟨_,e1⟩
   ·exact aG (ef.mpr (by rw[e1];rfl)) e
   ·exact e1
 ·obtain⟨h1,h2,h3⟩:=hI
  rw[aZ]at h1
  have z5:=h2 k (.head _)
  have AF:dp l k=some (.int (aI R k)):=by
   rcases W'.has k with e|⟨e,_⟩
   ·exact e
   ·have:=ef.mp z5
    rw[e]at this;cases this
  have nY:=(fW (k:=k) hv).trans AF
  have Nt:∀m,¬k=m->((m∈k::r)=(m∈r)):=λm hm=>propext ⟨λx=>(au.mp x).resolve_left λy=>hm y.symm,λx=>cD _ x⟩
  have hk0:k∈k::r:=.head _
  have ht:pv ((ad,ob',V.bC l)::J) [some x,some (.ref ad),r2,r3,some (bj k)] (.cmp .ne (.sub (.aE 1) (.aE 4)) (.ck (.int 0)))=some (.bool (!(aI R k==0))):=cV nY rfl
  by_cases hc:aI R k=0
  ·have e:(!(aI R k==0))=false:=by rw[hc];rfl
   rw[e]at ht
   refine VE ht ⟨cQ _ _,hK a ⟨h1.2,λk hk=>h2 k (.tail _ hk),h3.congr λm=>?_⟩⟩
   refine ao (λz:Int=>(z:Rat)) ?_
   by_cases hm:k=m
   ·subst hm;exact(ai hk0).trans ((ah h1.1).trans hc).symm
   ·exact VI (iff_of_eq (Nt m hm))
  ·have e:(!(aI R k==0))=true:=by rw[bX.mpr hc];rfl
   rw[e]at ht
   refine VD ht (Vv rfl (ja (cV (dM nY rfl) rfl) ⟨dy (h3.size (le rfl)) rfl,cQ _ _,hK _ ⟨h1.2,λk hk=>h2 k (.tail _ hk),?_⟩⟩))
   have hz0:cX (λm=>if m∈k::r then 0 else aI R m) k=0:=ao (λz:Int=>(z:Rat)) (ai hk0)
   refine(h3.kh (W'.mon k z5) hz0 (q:=((aI R k:Int):Rat)) (λe=>hc (by exact_mod_cast e))).congr λm=>?_
   unfold gP
   by_cases hm:k=m
   ·subst hm
    rw[ai rfl,hz0,Rat.zero_add]
    exact ao (λz:Int=>(z:Rat)) (ah h1.1).symm
   ·rw[ah hm]
    exact ao (λz:Int=>(z:Rat)) (VI (iff_of_eq (Nt m hm)))
theorem Pl.V4{l:aN}{f:bM}(p:Pl 2 l f):l.length<=64:=by
 have hk:∀k∈l.map (·.1),gc 2 k:=λk hk=>p.key k (p.mem hk)
 have h1:=pig 64 ((l.map (·.1)).map mT) ?_ λx hx=>?_
 ·rw[ag,ag]at h1;exact h1
 ·rw[List.Nodup,List.pairwise_map]
  refine List.Pairwise.imp_of_mem (λ{a b} ha hb xn e=>xn ?_) p.nd
  have h1:=hk a ha
  have h2:=hk b hb
  exact wR a b h1.Ti h2.Ti (h1.1.trans h2.1.symm) e
 ·obtain⟨k,hm,rfl⟩:=aQ.mp hx
  have h1:=hk k hm
  have:=p7 k h1.Ti
  rw[h1.1]at this
  exact this
structure V5(c:List Int->Int)(R:Rows):Prop where
 sum:∀m,aI R m=c m
 mon:sY R
 k4:R.length<=64
 val:∀p∈R,p.2=c p.1
 ne:∀p∈R,c p.1≠0
theorem uP{c:List Int->Int}(m:List Int)(ks:aM):ks.Nodup->aI (ks.map λk=>(k,c k)) m=if m∈ks then c m else 0:=by
 induction ks with
 |nil=>exactλZ=>rfl
 |cons k ks ih=>
  intro h
  rw[aZ]at h
  rw[bP]
  by_cases e:k=m
  ·subst e;rw[q9 rfl,ih h.2,ah h.1,ai (List.mem_cons_self ..),cy]
  ·rw[jy e,ih h.2]
   exact(VI ⟨λx=>(au.mp x).resolve_left λy=>e y.symm,λx=>cD _ x⟩).symm
theorem gw(hx:b6 J x=some (.bC l))(p:Pl 2 l (cX c))(h:∀R,V5 c R->K (.a9 (R.map kY)) J):CA (j+1) "_law_plain" [x] J K:=by
 have hs:(l.map (·.1)).length<=64:=by rw[ag];exact p.V4
 refine enter zG rfl (ff (oK rfl (zR rfl hx ?_)))
 rw[e7]
 refine gE ((l.map (·.1)).map bj) (((l.map (·.1)).map λk=>(k,c k)).map kY) [] _ (by rw[ag,ag,ag,ag,ag]) (λi v w hv hw a Kq ha hK=>?_) (by rw[ag];exact fz (dy hs rfl)) ?_
 ·rw[aA]at hv
  rw[aA,aA]at hw
  obtain⟨k,hk,rfl⟩:=aO.mp hv
  rw[hk]at hw
  cases hw
  have nY:=(fW (k:=k) hx).trans (p.aY (p.mem (dw hk)))
  exact iA (ja (cV (dM rfl (dM (x:=.int (c k)) (cV nY rfl) rfl)) rfl) ⟨ha,cQ _ _,hK⟩)
 have tQ:∀k∈l.map (·.1),c k≠0:=λk hk e=>p.mem hk (eT.mpr e)
 refine cG (Y:=[]) (h _ ⟨λm=>?_,λq hq=>?_,by rw[ag];exact hs,λq hq=>?_,λq hq=>?_⟩)
 ·rw[uP _ _ p.nd]
  by_cases e:m∈l.map (·.1)
  ·rw[ai e]
  ·rw[ah e]
   by_cases e2:c m=0
   ·exact e2.symm
   ·exact aG (ef.mpr (by rw[p.aY (λh=>e2 (eT.mp h))];rfl)) e
 ·obtain⟨k,hk,rfl⟩:=aQ.mp hq
  exact p.key k (p.mem hk)
 ·obtain⟨k,hk,rfl⟩:=aQ.mp hq
  rfl
 ·obtain⟨k,hk,rfl⟩:=aQ.mp hq
  exact tQ k hk
theorem okS{a:Int}(h:a.natAbs<=10^300):LC a=true:=BL (aB h (by decide+kernel))
theorem Cc{a b:Int}(ha:a.natAbs<=10^300)(hb:b.natAbs<=10^300):ig .mul (.int a) (.int b)=some (.int (a*b)):=by
 show(if LC a&&LC b then some (V.int (a*b))else none)=_
 rw[okS ha,okS hb];rfl
theorem TJ(a b:Rows):(dS a b).length=a.length*b.length:=by
 induction a with
 |nil=>exact(Nat.zero_mul _).symm
 |cons p a ih=>
  show(dX p.1 p.2 b++dS a b).length=_
  rw[aC,ih,dX,ag,cu,Nat.succ_mul,Nat.add_comm]
theorem Ce{body:V->St->List V->(St->List V->Prop)->Prop}{d:List Int->Int}{R2:Rows}(hd:∀m,d m=aI R2 m){K:St->List V->Prop}:∀(A Rr:Rows),
  (∀p∈A,∀cB Kq,cB.length+64<=100000->(∀B,V5 d B->Kq J (cB++(dX p.1 p.2 B).map kY))->body (kY p) J cB Kq)->(∀p∈A,∀B,V5 d B->sY (dX p.1 p.2 B))->sY Rr->Rr.length+A.length*64<=70000->
  (∀Rf,(∀m,aI Rf m=aI Rr m+aI (dS A R2) m)->sY Rf->Rf.length<=70000->K J (Rf.map kY))->iter body (A.map kY) J (Rr.map kY) K:=by
 intro A
 induction A with
 |nil=>intro Rr _ _ hr hz h;exact h Rr (λm=>(cy _).symm) hr hz
 |cons p A ih=>
  intro Rr hb hm hr hz h
  rw[cu,Nat.succ_mul,Nat.add_comm (A.length*64),<-Nat.add_assoc]at hz
  refine hb p (.head _) _ _ (by rw[ag];exact ae (aS _ _) (ae hz (le rfl))) λB hB=>?_
  rw[<-b8]
  refine ih (Rr++dX p.1 p.2 B) (λq hq=>hb q (.tail _ hq)) (λq hq=>hm q (.tail _ hq)) (λq hq=>?_) ?_ λRf hs hR hl=>h Rf (λm=>?_) hR hl
  ·rcases bN.mp hq with hq|hq
   ·exact hr q hq
   ·exact hm p (.head _) B hB q hq
  ·rw[aC,dX,ag]
   exact ae (cn (aF hB.k4 _) _) hz
  ·have e1:aI (dS (p::A) R2) m=aI (dX p.1 p.2 R2) m+aI (dS A R2) m:=by
    show aI (dX p.1 p.2 R2++dS A R2) m=_
    rw[gF]
   have e2:aI (dX p.1 p.2 B) m=aI (dX p.1 p.2 R2) m:=by
    rw[nM,nM,q_,q_,nL _ λm=>(hB.sum m).trans (hd m)]
   rw[hs m,gF,e1,e2,bQ]
theorem mX{R1 R2:Rows}(hx:b6 J x=some (.bC la))(pa:Pl 2 la (cX (aI R1)))(hy:b6 J y=some (.bC lb))(pb:Pl 2 lb (cX (aI R2)))
  (hm:∀p∈R1,∀q∈R2,gc 2 (gn p.1 q.1)) (DX:∀m,(aI R1 m).natAbs<=10^300) (JY:∀m,(aI R2 m).natAbs<=10^300)
  (h:∀l,Pl 2 l (cX (aI (dS R1 R2)))->K (.bC l) J):CA (j+2) "_law_times" [x,y] J K:=by
 have key:∀A:Rows,V5 (aI R1) A->∀B:Rows,V5 (aI R2) B->∀p∈A,∀q∈B,gc 2 (gn p.1 q.1):=λA hA B hB p hp q hq=>by
  obtain⟨u,hu⟩:=jz (hA.ne p hp)
  obtain⟨w,hw⟩:=jz (hB.ne q hq)
  exact hm (p.1,u) hu (q.1,w) hw
 refine enter zH rfl (ff (gK (oK rfl (qQ (xs:=[x]) rfl (gw hx pa λA hA=>F6 rfl (Ce (d:=aI R2) (R2:=R2) (λZ=>rfl) A [] (λp hp cB Kq hz hK=>?_) (λp hp B hB q hq=>?_) nofun ?_ λRf hs hR hl=>?_))))))
 ·refine VC (qQ (xs:=[y]) rfl (gw hy pb λB hB=>F6 rfl (gE (B.map kY) ((dX p.1 p.2 B).map kY) cB _ ?_ (λi v w hv hw a Kq' ha J4=>?_) ?_ ⟨trivial,hK B hB⟩)))
  ·rw[dX,ag,ag,ag]
  ·unfold dX at hw
   rw[aA]at hv
   rw[aA,aA]at hw
   obtain⟨q,hq,rfl⟩:=aO.mp hv
   rw[hq]at hw
   cases hw
   have V6:=dw hq
   obtain⟨p1,p2⟩:=p
   obtain⟨q1,q2⟩:=q
   obtain⟨a0,a1,rfl⟩:=jH (hA.mon _ hp).1
   obtain⟨b0,b1,rfl⟩:=jH (hB.mon _ V6).1
   have Kd:p2.natAbs<=10^300:=by rw[show p2=aI R1 [a0,a1]from hA.val _ hp];exact DX _
   have DY:q2.natAbs<=10^300:=by rw[show q2=aI R2 [b0,b1]from hB.val _ V6];exact JY _
   exact zQ (ja (cV (dM rfl (dM (Cc Kd DY) rfl)) rfl) ⟨ha,trivial,J4⟩)
  ·rw[ag];exact ae (aF hB.k4 _) hz
 ·obtain⟨r,hr,rfl⟩:=aQ.mp hq
  exact key A hA B hB p hp r hr
 ·exact fz (ae (cC 64 hA.k4) (le rfl))
 ·refine f6 (R:=Rf) rfl hR (ae hl (le rfl)) λl p=>cG (Y:=[]) (h l (p.congr λm=>?_))
  unfold cX
  rw[hs m,show aI [] m=0 from rfl,bU,uO hA.sum (λZ=>rfl) m]
end
noncomputable def dz:Rows->Nat
 |[]=>0
 |p::r=>p.2.natAbs+dz r
theorem hY(r:Rows)(m:List Int):(aI r m).natAbs<=dz r:=by
 induction r with
 |nil=>exact bc _
 |cons p r ih=>
  by_cases h:p.1=m
  ·rw[q9 h]
   exact ae (Int.natAbs_add_le ..) (aF ih _)
  ·rw[jy h]
   exact ae ih (Nat.le_add_left _ _)
theorem lO(a b:Rows):dz (a++b)=dz a+dz b:=by
 induction a with
 |nil=>exact(bS _).symm
 |cons p a ih=>
  show p.2.natAbs+dz (a++b)=p.2.natAbs+dz a+dz b
  rw[ih,Nat.add_assoc]
theorem Ah(k:List Int)(x:Int)(b:Rows):dz (dX k x b)=x.natAbs*dz b:=by
 induction b with
 |nil=>rfl
 |cons p b ih=>
  show(x*p.2).natAbs+dz (dX k x b)=x.natAbs*(p.2.natAbs+dz b)
  rw[ih,bO,Nat.mul_add]
theorem lP(a b:Rows):dz (dS a b)=dz a*dz b:=by
 induction a with
 |nil=>exact(Nat.zero_mul _).symm
 |cons p a ih=>
  show dz (dX p.1 p.2 b++dS a b)=(p.2.natAbs+dz a)*dz b
  rw[lO,Ah,ih,Nat.add_mul]
noncomputable def uQ(p:Int):Rows:=[([1,0],1),([0,0],0- p)]
noncomputable def mY:Rows->List Int->Rows
 |cB,[]=>cB
 |cB,p::r=>mY (dS cB (uQ p)) r
def bY(ps:List Int):Rows:=mY [([0,0],1)] ps
noncomputable def jN:Nat->List Int->Rows
 |_,[]=>[]
 |i,h::r=>([(i:Int),0],0- h)::jN (i+1) r
def dK(H:List Int):Rows:=([0,1],1)::jN 0 H
noncomputable def mZ(x:Int):Nat->List Int->List Int
 |_,[]=>[]
 |i,h::r=>h*x^i::mZ x (i+1) r
def iO(H:List Int)(x:Int):Int:=eX (mZ x 0 H)
noncomputable def ev(x y:Int)(m:List Int):Int:=x^(m.getD 0 0).toNat*y^(m.getD 1 0).toNat
section
variable{n j:Nat}{J:St}{K:V->St->Prop}{x y:V}{l la lb:aN}{c d:List Int->Int}
theorem lQ{R1 R2:Rows}{s:Int}(hx:b6 J x=some (.bC la))(pa:Pl 2 la (cX (aI R1)))(hy:b6 J y=some (.bC lb))(pb:Pl 2 lb (cX (aI R2)))(hs:s.natAbs<=10^300)(JY:∀m,(aI R2 m).natAbs<=10^300)
  (h:∀l,Pl 2 l (cX (aI (R1++eB s R2)))->K (.bC l) J):CA (j+2) "_law_sum" [x,y,.int s] J K:=by
 refine enter F2 rfl (ff (gK (PC (cx (xs:=[x]) rfl (gw hx pa λA hA=>oK rfl (qQ (xs:=[y]) rfl (gw hy pb λB hB=>F6 rfl (gE (B.map kY) ((eB s B).map kY) [] _ ?_ (λi v w hv hw a Kq' ha J4=>?_) ?_ (uB.ok rfl rfl ?_ ?_)))))))))
 ·rw[eB,ag,ag,ag]
 ·unfold eB at hw
  rw[aA]at hv
  rw[aA,aA]at hw
  obtain⟨q,hq,rfl⟩:=aO.mp hv
  rw[hq]at hw
  cases hw
  have DY:q.2.natAbs<=10^300:=by rw[hB.val _ (dw hq)];exact JY _
  exact zQ (ja (cV (dM rfl (dM (Cc hs DY) rfl)) rfl) ⟨ha,trivial,J4⟩)
 ·rw[ag];exact fz (dy hB.k4 rfl)
 ·rw[cq,ag,ag,eB,ag];exact dy (bz hA.k4 hB.k4) rfl
 rw[cq,<-b8]
 refine f6 (R:=A++eB s B) rfl (λq hq=>?_) (by rw[aC,eB,ag];exact dy (bz hA.k4 hB.k4) rfl) λl p=>cG (Y:=[]) (h l (p.congr λm=>?_))
 ·rcases bN.mp hq with hq|hq
  ·exact hA.mon q hq
  ·obtain⟨r,hr,rfl⟩:=aQ.mp hq
   exact hB.mon r hr
 unfold cX
 rw[gF,gF,se,se,hA.sum,hB.sum]
theorem x8:Pl 2 [([0,0],V.bZ [.int 1,.int 1])] (cX (aI [([0,0],1)])):=by
 have:=Pl.term (n:=2) (k:=[0,0]) (q:=1) ⟨rfl,by decide⟩ (by decide)
 refine this.congr λm=>?_
 unfold term cX aI aI
 by_cases e:m=[0,0]
 ·subst e;simp
 ·rw[ah e,ah (λh=>e h.symm)];rfl
def uR(i:Nat)(r:Rows):Prop:=∀p∈r,∃a:Nat,p.1=[(a:Int),0]/\a<=i
theorem uR.prod{i:Nat}{r:Rows}(h:uR i r)(p:Int):uR (i+1) (dS r (uQ p)):=λq hq=>by
 obtain⟨u,hu,hq⟩:=List.mem_flatMap.mp hq
 obtain⟨w,hw,rfl⟩:=aQ.mp hq
 obtain⟨a,ha,XY⟩:=h u hu
 rw[ha]
 rcases au.mp hw with rfl|hw
 ·exact⟨a+1,rfl,aL XY⟩
 ·rw[az.mp hw]
  exact⟨a,rfl,cR XY⟩
theorem uR.mon{i:Nat}(hi:i<8){r:Rows}(h:uR i r):sY r:=λp hp=>by
 obtain⟨a,ha,XY⟩:=h p hp
 rw[ha]
 exact V2 (aB XY hi) (by decide:0<8)
theorem uR.mul{i:Nat}(hi:i<7){r:Rows}(h:uR i r)(p:Int):∀u∈r,∀w∈uQ p,gc 2 (gn u.1 w.1):=λu hu w hw=>by
 refine(h.prod p).mon (Nat.succ_lt_succ hi) (gn u.1 w.1,u.2*w.2) ?_
 exact List.mem_flatMap.mpr ⟨u,hu,aQ.mpr ⟨w,hw,rfl⟩⟩
theorem Nu(p:Int):sY (uQ p):=λq hq=>by
 rcases au.mp hq with rfl|hq
 ·exact⟨rfl,show∀i∈([1,0]:List Int),0<=i/\i<((bd 2:Nat):Int) by decide⟩
 ·rw[az.mp hq];exact⟨rfl,show∀i∈([0,0]:List Int),0<=i/\i<((bd 2:Nat):Int) by decide⟩
theorem ZE:(11:Nat)^6<=10^300:=by decide+kernel
theorem Cf{Qf:Fl->du->St->Prop}:∀(ps:List Int) (i:Nat) (cB:Rows) (l:aN) (r2:Option V),(∀p∈ps,p.natAbs<=10)->Pl 2 l (cX (aI cB))->uR i cB->dz cB<=11^i->i+ps.length<=6->
   (∀l r2,Pl 2 l (cX (aI (mY cB ps)))->Qf .next [some x,some (.bC l),r2] J)->eg (eI (j+2) (.one 2) [.asg 1 (.call "_law_times" [.aE 1,.call "_law_made" [.a9 false [.bZ [.bZ [.ck (.int 1),.ck (.int 0)],.ck (.int 1)],.bZ [.bZ [.ck (.int 0),.ck (.int 0)],.bin .sub (.ck (.int 0)) (.aE 2)]]]])] J x) (ps.map V.int) [some x,some (.bC l),r2] J Qf:=by
 intro ps
 induction ps with
 |nil=>intro i cB l r2 hp pl hk hn hi h;exact h l r2 pl
 |cons p ps ih=>
  intro i cB l r2 hp pl hk hn hi h
  have hi6:i<6:=bI (cW (Nat.succ_pos _)) hi
  have Bm:dz (uQ p)<=11:=by
   show(1:Int).natAbs+((0- p).natAbs+0)<=11
   rw[Int.zero_sub,cI];exact aF (hp p (.head _)) 1
  have h1:dz cB<=11^6:=ae hn (bT (by decide) (aT hi6))
  refine zP (vE (eP (mK (x:=.bC l) rfl (cx (xs:=[.a9 ((uQ p).map kY)]) rfl (f6 (R:=uQ p) rfl (Nu p) (show 2<=80000 from le rfl) λl2 p2=>
   mX (x:=.bC l) (y:=.bC l2) rfl pl rfl p2 (hk.mul (dx hi6) p) (λm=>ae (hY cB m) (ae h1 ZE)) (λm=>ae (hY (uQ p) m) (ae Bm (by decide+kernel))) λl3 p3=>⟨cQ _ _,?_⟩)))))
  refine ih (i+1) (dS cB (uQ p)) l3 _ (λq hq=>hp q (.tail _ hq)) p3 (hk.prod p) ?_ (ae (aP (bW ..)) hi) λl r2 pl=>h l r2 pl
  rw[lP,Nat.pow_succ]
  exact bE hn Bm
theorem gx{ps:List Int}(hx:b6 J x=some (.a9 (ps.map .int)))(hp:∀p∈ps,p.natAbs<=10)(hl:ps.length<=6)(h:∀l,Pl 2 l (cX (aI (bY ps)))->K (.bC l) J):CA (j+3) "_law_zeros" [x] J K:=by
 refine enter zI rfl (PD rfl (RI rfl hx (Cf ps 0 [([0,0],1)] _ none hp x8 (λq hq=>?_) (by decide) (ae (aP (bS _)) hl) λl r2 pl=>j6 (r:=[]) rfl (h l pl))))
 rw[az.mp hq];exact⟨0,rfl,bc _⟩
theorem R5{a:Int}{n:Nat}(hn:n<=20)(ha:a.natAbs<=1000):ig .pow (.int a) (.int (n:Int))=some (.int (a^n))/\(a^n).natAbs<=10^60:=by
 constructor
 ·show(if AO (n:Int)&&(Nat.ble (n:Int).toNat 100&&Nat.ble a.natAbs 1000000000)then some (V.int (a^(n:Int).toNat))else none)=_
  rw[Int.toNat_natCast,show AO (n:Int)=true from aU (dy hn rfl),show Nat.ble n 100=true from aU (dy hn rfl),show Nat.ble a.natAbs 1000000000=true from aU (dy ha rfl)]
  rfl
 ·rw[Int.natAbs_pow]
  calc a.natAbs^n<=1000^n:=Nat.pow_le_pow_left ha n
   _<=1000^20:=bT (by decide) hn
   _=10^60:=by decide+kernel
theorem Gy(x:Int)(H:List Int):∀(i k:Nat),(mZ x i H)[k]?=(H[k]?).map λh=>h*x^(i+k):=by
 induction H with
 |nil=>exactλZ Z=>rfl
 |cons h H ih=>
  intro i k
  cases k with
  |zero=>rfl
  |succ k=>exact(ih (i+1) k).trans (by rw[bo];rfl)
theorem Ci(x:Int)(H:List Int):∀(i:Nat),(mZ x i H).length=H.length:=by
 induction H with
 |nil=>exactλZ=>rfl
 |cons h H ih=>exactλi=>ao Nat.succ (ih (i+1))
theorem Eb{a:Nat}(h:a<=10^60):a<=10^300:=ae h (by decide+kernel)
theorem ma{H:List Int}{z:Int}(hx:b6 J x=some (.a9 (H.map .int)))(hl:H.length<=10)(hH:∀h∈H,h.natAbs<=1000)(hz:z.natAbs<=1000)(h:K (.int (iO H z)) J):CA (j+1) "_law_height" [x,.int z] J K:=by
 refine enter xV rfl (ff (mM (oK rfl (JL rfl hx (gE (fB 0 (H.map V.int)) ((mZ z 0 H).map V.int) [] _ (by rw[jx,ag,ag,Ci]) (λi v w hv hw a Kq ha hK=>?_) (by rw[jx,ag];exact fz (dy hl rfl)) ⟨_,ao (Option.map V.int) (p6 (mZ z 0 H)),trivial,cG (Y:=[]) h⟩)))))
 rw[q7,aA]at hv
 rw[aA,Gy]at hw
 cases hq:H[i]? with
 |none=>rw[hq]at hv;cases hv
 |some q=>
  rw[hq]at hv hw
  cases hv
  cases hw
  obtain⟨p1,p2⟩:=R5 (a:=z) (n:=i) (ae (aT (gW hq)) (dy hl rfl)) hz
  have hm:ig .mul (.int q) (.int (z^i))=some (.int (q*z^i)):=Cc (ae (hH q (dw hq)) (by decide+kernel)) (Eb p2)
  rw[bS]at hK⊢
  exact zQ (ja (cV rfl (cV (cV rfl (cV rfl p1)) hm)) ⟨ha,cQ _ _,hK⟩)
theorem w5(H:List Int):∀(i k:Nat),(jN i H)[k]?=(H[k]?).map λh=>([((i+k:Nat):Int),0],0- h):=by
 induction H with
 |nil=>exactλZ Z=>rfl
 |cons h H ih=>
  intro i k
  cases k with
  |zero=>rfl
  |succ k=>exact(ih (i+1) k).trans (by rw[bo];rfl)
theorem uS(H:List Int):∀(i:Nat),(jN i H).length=H.length:=by
 induction H with
 |nil=>exactλZ=>rfl
 |cons h H ih=>exactλi=>ao Nat.succ (ih (i+1))
theorem w6{H:List Int}(hl:H.length<=8):sY (dK H):=λp hp=>by
 rcases au.mp hp with rfl|hp
 ·exact⟨rfl,by decide⟩
 ·obtain⟨k,hk⟩:=cL hp
  rw[w5]at hk
  cases hq:H[k]? with
  |none=>rw[hq]at hk;cases hk
  |some q=>
   rw[hq]at hk
   cases hk
   have hi:k<H.length:=by
    rcases cM k H.length with h'|h'
    ·exact h'
    ·rw[bu h']at hq;cases hq
   refine⟨rfl,λz hz=>?_⟩
   have e:((bd 2:Nat):Int)=8:=rfl
   rw[e]
   rcases au.mp hz with rfl|hz
   ·omega
   ·rw[az.mp hz];omega
theorem jO{H:List Int}(hx:b6 J x=some (.a9 (H.map .int)))(hl:H.length<=8)(h:∀l,Pl 2 l (cX (aI (dK H)))->K (.bC l) J):CA (j+2) "_law_above" [x] J K:=by
 have GV:(jN 0 H).length<=8:=by rw[uS];exact hl
 refine enter zJ rfl (ff (gK (RE (x:=.a9 [kY ([0,1],1)]) rfl (oK rfl (JL rfl hx (gE (fB 0 (H.map V.int)) ((jN 0 H).map kY) [] _ (by rw[jx,ag,ag,uS]) (λi v w hv hw a Kq ha hK=>?_) (by rw[jx,ag];exact fz (dy hl rfl)) (uB.ok rfl rfl ?_ (f6 (R:=dK H) rfl (w6 hl) (dy (aL GV) rfl) λl p=>cG (Y:=[]) (h l p)))))))))
 ·rw[q7,aA]at hv
  rw[aA,w5]at hw
  cases hq:H[i]? with
  |none=>rw[hq]at hv;cases hv
  |some q=>
   rw[hq]at hv hw
   cases hv
   cases hw
   rw[bS]at hK⊢
   exact zQ (ja rfl ⟨ha,cQ _ _,hK⟩)
 ·rw[cq,ag];exact dy (aF GV 1) rfl
theorem uT{R:Rows}{u v:Int}(hx:b6 J x=some (.bC l))(p:Pl 2 l (cX (aI R)))(hc:∀m,(aI R m).natAbs<=10^60)(hu:u.natAbs<=1000)(hv:v.natAbs<=1000)(h:K (.int (gR (ev u v) R)) J):CA (j+2) "_law_worth" [x,.int u,.int v] J K:=by
 refine enter zK rfl (ff (mM (oK rfl (qQ (xs:=[x]) rfl (gw hx p λB hB=>F6 rfl (gE (B.map kY) ((B.map λq=>q.2*ev u v q.1).map V.int) [] _ ?_ (λi w z hw hz cB Kq ha hK=>?_) ?_ ⟨.int (gR (ev u v) R),?_,trivial,cG (Y:=[]) h⟩))))))
 ·rw[ag,ag,ag]
 ·rw[aA]at hw
  rw[aA,aA]at hz
  obtain⟨q,hq,rfl⟩:=aO.mp hw
  rw[hq]at hz
  cases hz
  have V6:=dw hq
  have DY:q.2.natAbs<=10^60:=by rw[hB.val _ V6];exact hc _
  have ip:=hB.mon _ V6
  obtain⟨q1,q2⟩:=q
  obtain⟨a,b,rfl⟩:=jH ip.1
  have ha0:=ip.2 a (.head _)
  have hb0:=ip.2 b (.tail _ (.head _))
  obtain⟨a,rfl⟩:=cA ha0.1
  obtain⟨b,rfl⟩:=cA hb0.1
  have a20:a<=20:=ae (aT (cp.mp ha0.2)) (le rfl)
  have b20:b<=20:=ae (aT (cp.mp hb0.2)) (le rfl)
  obtain⟨p1,p2⟩:=R5 (a:=u) a20 hu
  obtain⟨p3,p4⟩:=R5 (a:=v) b20 hv
  have LM:ig .mul (.int (q2*u^a)) (.int (v^b))=some (.int (q2*u^a*v^b)):=by
   refine Cc ?_ (Eb p4)
   rw[bO]
   exact ae (bE DY p2) (by decide+kernel)
  have e:q2*u^a*v^b=q2*ev u v [(a:Int),(b:Int)]:=Int.mul_assoc ..
  have hK:Kq J (cB++[V.int (q2*ev u v [(a:Int),(b:Int)])]):=hK
  rw[<-e]at hK
  exact zQ (ja (cV (cV rfl (cV (cV rfl (cV rfl p1)) (Cc (Eb DY) (Eb p2)))) (cV (cV rfl (cV rfl p3)) LM)) ⟨ha,trivial,hK⟩)
 ·rw[ag];exact fz (dy hB.k4 rfl)
 ·show(xe ((B.map λq=>q.2*ev u v q.1).map V.int)).map V.int=_
  rw[p6,<-nL (ev u v) hB.sum]
  refine ao (λi=>some (V.int i)) ?_
  clear hB
  induction B with
  |nil=>rfl
  |cons q B ih=>show q.2*ev u v q.1+eX _=q.2*ev u v q.1+gR (ev u v) B;rw[ih]
end
structure Bx(J:St)(ab al:Addr)(N:Nat):Prop where
 ex:∃(ob ol:Obj) (L:List Int) (c:Nat) (s:Int),aY J ab=some (ob,V.a9 [.ref al,.int (c:Int),.int s])/\aY J al=some (ol,V.a9 (L.map V.int))/\L.length<=30/\c<=N/\0<=s/\s<997
 ne:ab≠al
def mi(J σ':St)(ab al:Addr):Prop:=∀b,b≠ab->b≠al->aY σ' b=aY J b
theorem mi.refl(J:St)(ab al:Addr):mi J J ab al:=λZ Z Z=>rfl
theorem mi.trans{J σ' fm:St}{ab al:Addr}(h:mi J σ' ab al)(h':mi σ' fm ab al):mi J fm ab al:=λb h1 h2=>(h' b h1 h2).trans (h b h1 h2)
section
variable{n j:Nat}{J:St}{K:V->St->Prop}{x y:V}
theorem rf{a w:Int}(hw:0<w):0<=a.fmod w/\a.fmod w<w:=by
 rw[Int.fmod_eq_emod_of_nonneg a (Int.le_of_lt hw)]
 exact⟨Int.emod_nonneg _ (Int.ne_of_gt hw),Int.emod_lt_of_pos _ hw⟩
theorem Cj{w:Int}(hw:0<w)(a:Int):ig .mod (.int a) (.int w)=some (.int (a.fmod w)):=ai (bne_iff_ne.mpr (Int.ne_of_gt hw))
theorem R6{c:Nat}(h:c<=1000):((c+1:Nat):Int).natAbs<=10^300:=ae (show c+1<=1001 from aL h) (by decide+kernel)
theorem V7{c:Nat}(h:c<=1000):ig .fdiv (.int (((c+1:Nat):Int)*((c+1:Nat):Int))) (.int 3)=some (.int ((((c+1:Nat):Int)*((c+1:Nat):Int)).fdiv 3)):=by
 refine JN (by decide) ?_ (by decide+kernel)
 rw[bO]
 exact aB (bE (show c+1<=1001 from aL h) (show c+1<=1001 from aL h)) (by decide+kernel)
theorem eA{ab al:Addr}{N:Nat}{w:Int}(hb:Bx J ab al N)(hN:N<=1000)(hw:0<w)(h:∀v σ',0<=v->v<w->Bx σ' ab al (N+1)->mi J σ' ab al->K (.int v) σ'):CA (j+1) "_law_take" [.ref ab,.int w] J K:=by
 obtain⟨⟨ob,ol,L,c,s,h1,h2,hL,hc,YC,DX⟩,gO⟩:=hb
 have AG:c<=1000:=ae hc hN
 have hv:b6 J (.ref ab)=some (V.a9 [.ref al,.int (c:Int),.int s]):=cT h1
 have e1:iT J (.ref ab) (.int 1)=some (.int (c:Int)):=gD (i:=1) hv rfl (by decide)
 have ZF:nU (V.a9 [.ref al,.int (c:Int),.int s]) (.int 1) (.int ((c+1:Nat):Int))=some (V.a9 [.ref al,.int ((c+1:Nat):Int),.int s]):=rfl
 refine enter BH rfl (MZ (v:=.int ((c+1:Nat):Int)) (cV (cV rfl (cV rfl e1)) rfl) rfl rfl ⟨_,_,_,h1,ZF,le rfl,λo1=>?_⟩)
 have k1:=kR (o:=o1) (z:=V.a9 [.ref al,.int ((c+1:Nat):Int),.int s]) h1
 have k2:=gC (o:=o1) (z:=V.a9 [.ref al,.int ((c+1:Nat):Int),.int s]) gO.symm h2
 have off:mi J (gN J ab o1 (V.a9 [.ref al,.int ((c+1:Nat):Int),.int s])) ab al:=λb JZ yQ=>fJ JZ
 generalize gN J ab o1 (V.a9 [.ref al,.int ((c+1:Nat):Int),.int s])=mh at k1 k2 off⊢
 have GU:b6 mh (.ref ab)=some (V.a9 [.ref al,.int ((c+1:Nat):Int),.int s]):=cT k1
 have s0:iT mh (.ref ab) (.int 0)=some (.ref al):=gD (i:=0) GU rfl (by decide)
 have s1:iT mh (.ref ab) (.int 1)=some (.int ((c+1:Nat):Int)):=gD (i:=1) GU rfl (by decide)
 have s2:iT mh (.ref ab) (.int 2)=some (.int s):=gD (i:=2) GU rfl (by decide)
 have ZG:(L.map V.int).length<=30:=by rw[ag];exact hL
 have fR:=q6 (cT k2) (dy ZG rfl)
 cases L with
 |cons z L=>
  have ZH:mu mh .rB (.a9 ((z::L).map V.int)) [.int 0]=some (.a9 (L.map V.int),.int z):=rfl
  obtain⟨g1,g2⟩:=rf (a:=if z<0 then -z else z) hw
  refine fV (ff (PF rfl (mM (mN (cV rfl s0) k2 rfl rfl ZH (dy ZG rfl) (dy (Nat.le_of_succ_le ZG) rfl) λo2=>⟨_,rfl,trivial,_,Cj hw _,cG (Y:=[]) (h _ _ g1 g2 ⟨⟨o1,o2,L,c+1,s,gC gO k1,kR k2,Nat.le_of_succ_le hL,aL hc,YC,DX⟩,gO⟩ λb JZ yQ=>?_)⟩))))
   λQ q=>oJ (b:=true) (cV (cV (dM (cV rfl s0) rfl) (cV fR rfl)) (ao (λb=>some (V.bool b)) (bF (Int.natCast_pos.mpr (Nat.succ_pos _))))) q
  rw[fJ yQ];exact off b JZ yQ
 |nil=>
  obtain⟨g1,g2⟩:=rf (a:=7*((c+1:Nat):Int)+(((c+1:Nat):Int)*((c+1:Nat):Int)).fdiv 3+s) hw
  have c5:=R6 AG
  have m1:ig .mul (.int 7) (.int ((c+1:Nat):Int))=some (.int (7*((c+1:Nat):Int))):=Cc (by decide+kernel) c5
  exact fG (j6 (r:=[]) (cV (cV (cV (cV rfl (cV s1 m1)) (cV (cV (cV s1 (cV s1 (Cc c5 c5))) (cV rfl (V7 AG))) rfl)) (cV s2 rfl)) (cV rfl (Cj hw _)))
   (h _ _ g1 g2 ⟨⟨o1,ol,[],c+1,s,k1,k2,bK _,aL hc,YC,DX⟩,gO⟩ off)) λQ q=>oJ (cV (cV (dM (cV rfl s0) rfl) (cV fR rfl)) rfl) q
end
noncomputable def d7(r:Rows):Rows:=r.map λp=>(0::p.1,p.2)
theorem Ck(r:Rows)(k:List Int):aI (d7 r) (0::k)=aI r k:=by
 induction r with
 |nil=>rfl
 |cons p r ih=>
  show(if(0::p.1:List Int)=0::k then p.2 else 0)+aI (d7 r) (0::k)=(if p.1=k then p.2 else 0)+aI r k
  rw[ih]
  by_cases h:p.1=k
  ·rw[ai h,ai (ao _ h)]
  ·rw[ah h,ah (λe=>h (cH e).2)]
theorem w7(r:Rows)(m:List Int)(h:∀k,m≠0::k):aI (d7 r) m=0:=by
 induction r with
 |nil=>rfl
 |cons p r ih=>
  show(if(0::p.1:List Int)=m then p.2 else 0)+aI (d7 r) m=0
  rw[ih,ah (λe=>h p.1 e.symm)];rfl
noncomputable def jr(f:bM):bM:=λk=>f (0::k)
theorem V8{a:Int}(h:a.natAbs<=10^300):Sm ((a:Int):Rat):=by
 refine⟨?_,?_⟩
 ·show a.natAbs<_
  exact aB h (by decide+kernel)
 ·show 1<_
  exact r_
section
variable{n j:Nat}{J:St}{K:V->St->Prop}{x y:V}{l la lb:aN}{c d:List Int->Int}{f:bM}
theorem om(h:∀l,Pl 3 l (cX (aI [([1,0,0],1)]))->K (.bC l) J):CA (j+1) "mvletter" [.int 0,.int 3] J K:=by
 have hg:∀{k:Nat} {Y:du} (J:St) (R:V->St->Prop),wE (Wk k) k (.yI "R1") Y J R=R (eu 1) J:=λJ R=>by
  show(match gv "R1"with|some x=>R x J|none=>False)=_
  rw[DT]
 refine enter BA rfl (ff (Vw hg (mM (oK rfl (uC (N:=3) rfl (le rfl) (kS (λv=>match v with|.int i=>if i==0 then .int 1 else .int 0|_=>.none) _ [] _ (λv hv cB K' fe hK=>?_) (by decide) ⟨.bZ [.int 1,.int 0,.int 0],rfl,le rfl,[1,0,0],rfl,cG (Y:=[]) (h _ ?_)⟩))))))
 ·obtain⟨i,hi,rfl⟩:=aQ.mp hv
  refine iA (JG (c:=(i:Int)==0) rfl ?_)
  dsimp only at hK
  cases hb:((i:Int)==0)with
  |true=>rw[hb]at hK;exact⟨fe,trivial,hK⟩
  |false=>rw[hb]at hK;exact⟨fe,trivial,hK⟩
 ·refine(Pl.term (n:=3) (k:=[1,0,0]) (q:=1) ⟨rfl,by decide⟩ (by decide)).congr λm=>?_
  unfold term cX aI aI
  by_cases e:m=[1,0,0]
  ·subst e;rfl
  ·rw[ah e,ah (λh=>e h.symm)];rfl
theorem sf{α:Type}{k m:α}{r:List α}(h:¬k=m):m∈k::r↔m∈r:=⟨λx=>(au.mp x).resolve_left λy=>h y.symm,λx=>cD _ x⟩
def PS(R:Rows)(ks:aM)(m:List Int):Int:=match m with
 |[]=>0
 |i::k=>if i=0/\k∉ks then aI R k else 0
theorem js{R:Rows}(hv:b6 J x=some (.bC l))(p:Pl 2 l (cX (aI R)))(hm:∀k,aI R k≠0->gc 3 (0::k))(h:∀l',Pl 3 l' (cX (aI (d7 R)))->K (.bC l') J):CA (j+1) "mvwiden" [x,.int 1] J K:=by
 refine enter FZ rfl (ff (Tf rfl (zR rfl hv ?_)))
 rw[e7]
 refine jv (λks a=>ks.Nodup/\(∀k∈ks,cX (aI R) k≠0)/\Pl 3 a (cX (PS R ks))) _ _ _ ⟨p.nd,λk hk=>p.mem hk,?_⟩ (λk r a K' hI hK=>?_) λa hI=>cG (Y:=[]) (h a (hI.2.2.congr λm=>ao (λz:Int=>(z:Rat)) ?_))
 ·refine Pl.zero.congr λm=>(eT.mpr ?_).symm
  cases m with
  |nil=>rfl
  |cons i k=>
   show(if i=0/\k∉l.map (·.1)then aI R k else 0)=0
   by_cases e:i=0/\k∉l.map (·.1)
   ·rw[ai e]
    by_cases e2:cX (aI R) k=0
    ·exact eT.mp e2
    ·exact aG (ef.mpr (by rw[p.aY e2];rfl)) e.2
   ·exact ah e
 ·obtain⟨h1,h2,h3⟩:=hI
  rw[aZ]at h1
  have rX:=h2 k (.head _)
  have e1:ig .add (.bZ [.int 0]) (bj k)=some (bj (0::k)):=ai (by rw[ag,(p.key k rX).1];decide)
  have hz:cX (PS R (k::r)) (0::k)=0:=ao (λz:Int=>(z:Rat)) (ah λh=>h.2 (.head _))
  refine iA (Vv (m:=0::k) (cV rfl (cV rfl e1)) (ja ((fW hv).trans (p.aY rX)) ⟨dy (h3.size (le rfl)) rfl,cQ _ _,hK _ ⟨h1.2,λk hk=>h2 k (.tail _ hk),?_⟩⟩))
  refine(h3.kh (hm k (λe=>rX (eT.mpr e))) hz (q:=cX (aI R) k) rX).congr λm=>?_
  unfold gP
  by_cases e:0::k=m
  ·subst e
   rw[ai rfl,hz,Rat.zero_add]
   exact ao (λz:Int=>(z:Rat)) (ai ⟨rfl,h1.1⟩).symm
  ·rw[ah e]
   refine ao (λz:Int=>(z:Rat)) ?_
   cases m with
   |nil=>rfl
   |cons i k'=>
    have h:(i=0/\k'∉k::r)↔(i=0/\k'∉r):=⟨λx=>⟨x.1,λy=>x.2 (.tail _ y)⟩,λx=>⟨x.1,λy=>x.2 ((sf λh=>e (by rw[h,x.1])).mp y)⟩⟩
    exact VI h
 ·cases m with
  |nil=>exact(w7 R [] nofun).symm
  |cons i k=>
   show(if i=0/\k∉[]then aI R k else 0)=_
   by_cases hi:i=0
   ·subst hi;rw[Ck];exact ai ⟨rfl,nofun⟩
   ·rw[w7 R _ (λk' e=>hi (cH e).1)];exact ah λh=>hi h.1
theorem vL(hv:b6 J x=some (.bC l))(p:Pl 3 l f)(hm:∀k,f k≠0->∃r,k=0::r)(h:∀l',Pl 2 l' (jr f)->K (.bC l') J):CA (j+1) "mvnarrow" [x,.int 1] J K:=by
 refine enter BC rfl (ff (Tf rfl (zR rfl hv ?_)))
 rw[e7]
 refine jv (λks a=>ks.Nodup/\(∀k∈ks,f k≠0)/\Pl 2 a (λk=>if 0::k∈ks then 0 else f (0::k))) _ _ _ ⟨p.nd,λk hk=>p.mem hk,?_⟩ (λk r a K' hI hK=>?_) λa hI=>cG (Y:=[]) (h a (hI.2.2.congr λm=>ah nofun))
 ·refine Pl.zero.congr λm=>?_
  by_cases e:0::m∈l.map (·.1)
  ·rw[ai e]
  ·rw[ah e]
   by_cases e2:f (0::m)=0
   ·exact e2.symm
   ·exact aG (ef.mpr (by rw[p.aY e2];rfl)) e
 ·obtain⟨h1,h2,h3⟩:=hI
  rw[aZ]at h1
  have rX:=h2 k (.head _)
  obtain⟨k0,rfl⟩:=hm k rX
  have ip:=p.key _ rX
  have Ai:gc 2 k0:=⟨Nat.succ.inj ip.1,λi hi=>⟨(ip.2 i (.tail _ hi)).1,Int.lt_of_lt_of_le (ip.2 i (.tail _ hi)).2 (by decide)⟩⟩
  have e1:(kz J (bj (0::k0)) (some (.int 1)) none).bind uz=some (bj k0):=by
   have e:kz J (bj (0::k0)) (some (.int 1)) none=some (bj k0):=by
    show(if((0::k0).map V.int).length<=100000 then some (bj k0)else none)=_
    exact ai (by rw[ag,ip.1];decide)
   refine cV e (ai (aU ?_))
   rw[ag,Ai.1];decide
  have hz:(λk=>if 0::k∈(0::k0)::r then 0 else f (0::k)) k0=0:=ai (.head _)
  refine iA (Vv (m:=k0) (cV rfl e1) (ja ((fW hv).trans (p.aY rX)) ⟨dy (h3.size (le rfl)) rfl,cQ _ _,hK _ ⟨h1.2,λk hk=>h2 k (.tail _ hk),?_⟩⟩))
  refine(h3.kh Ai hz (q:=f (0::k0)) rX).congr λm=>?_
  unfold gP
  by_cases e:k0=m
  ·subst e
   rw[ai rfl,hz,Rat.zero_add];exact(ah h1.1).symm
  ·rw[ah e]
   exact VI (sf λh=>e (cH h).2)
end
noncomputable abbrev PT:List dJ6:=[.ex (.call "add_term" [.aE 2,.call "powers_product" [.aE 4,.aE 3],.call "rmul" [.sub (.aE 0) (.aE 4),.sub (.aE 1) (.aE 3)]])]
structure IsN(n:Nat)(c:List Int->Int)(R:Rows):Prop where
 sum:∀m,aI R m=c m
 mon:∀p∈R,gc n p.1
 k4:R.length<=512
 val:∀p∈R,p.2=c p.1
 ne:∀p∈R,c p.1≠0
section
variable{n j:Nat}{J:St}{K:V->St->Prop}{x y:V}{l la lb:aN}{c e:List Int->Int}{f:bM}
theorem Pl.rows(p:Pl n l (cX c))(hn:n<=3):∃R:Rows,IsN n c R/\l.map (·.1)=R.map (·.1):=by
 refine⟨(l.map (·.1)).map λk=>(k,c k),⟨λm=>?_,λq hq=>?_,by rw[ag,ag];exact p.size hn,λq hq=>?_,λq hq=>?_⟩,by rw[b_];exact(List.map_id _).symm⟩
 ·rw[uP _ _ p.nd]
  by_cases e:m∈l.map (·.1)
  ·rw[ai e]
  ·rw[ah e]
   by_cases e2:c m=0
   ·exact e2.symm
   ·exact aG (ef.mpr (by rw[p.aY (λh=>e2 (eT.mp h))];rfl)) e
 ·obtain⟨k,hk,rfl⟩:=aQ.mp hq
  exact p.key k (p.mem hk)
 ·obtain⟨k,hk,rfl⟩:=aQ.mp hq
  rfl
 ·obtain⟨k,hk,rfl⟩:=aQ.mp hq
  exactλe=>p.mem hk (eT.mpr e)
theorem w8(a b:Int):((a:Int):Rat)*((b:Int):Rat)=((a*b:Int):Rat):=by push_cast;rfl
theorem ZI{a N:Nat}(ha:a<=N*10^120)(hN:N<=10^7):a<=10^300:=ae ha (ae (cC _ hN) (by decide+kernel))
theorem XZ{a:Nat}(h:a<=10^60):a<=10^300:=ae h (by decide+kernel)
theorem R7{Qf:Fl->du->St->Prop}{d:Addr}{q:List Int×Int}{σ₀:St}(i9:∀o l,e_ σ₀ x ((d,o,.bC l)::J))(hn:n<=3)(hd:aY J d=none)(hx:b6 J x=some (.bC la))(pa:Pl n la (cX c))(hy:b6 J y=some (.bC lb))(pb:Pl n lb (cX e))(hc:∀m,(c m).natAbs<=10^60)(he:∀m,(e m).natAbs<=10^60)(hq:e q.1≠0)(DY:q.2=e q.1):
  ∀(A:Rows) (l:aN) (g:List Int->Int) (N:Nat) (ob:Obj) (r4:Option V),(∀p∈A,c p.1≠0/\p.2=c p.1/\gc n (gn p.1 q.1))->Pl n l (cX g)->(∀m,(g m).natAbs<=N*10^120)->N+A.length<=10^7->
   (∀l' ob' Nw,Pl n l' (cX λm=>g m+aI (dX q.1 q.2 A) m)->(∀m,(g m+aI (dX q.1 q.2 A) m).natAbs<=(N+A.length)*10^120)->Qf .next [some x,some y,some (.ref d),some (bj q.1),Nw] ((d,ob',.bC l')::J))->
   eg (eI (j+4) (.one 4) PT σ₀ x) ((A.map (·.1)).map bj) [some x,some y,some (.ref d),some (bj q.1),r4] ((d,ob,.bC l)::J) Qf:=by
 intro A
 induction A with
 |nil=>
  intro l g N ob r4 hA pl hg hN h
  have e:(λm=>g m+aI (dX q.1 q.2 []) m)=g:=funext λm=>cy _
  refine h l ob r4 (by rw[e];exact pl) λm=>?_
  rw[show g m+aI (dX q.1 q.2 []) m=g m from cy _];exact hg m
 |cons p A ih=>
  intro l g N ob r4 hA pl hg hN h
  obtain⟨LQ,Kd,hp3⟩:=hA p (.head _)
  have Ec:N+1+A.length<=10^7:=ae (aP (bW ..)) hN
  have h1:cX c p.1≠0:=λe=>LQ (eT.mp e)
  have h2:cX e q.1≠0:=λe=>hq (eT.mp e)
  have D6:=(pb.key _ h2).1
  have sx:=(fW (k:=p.1) (hO (o:=ob) (z:=V.bC l) hd hx)).trans (pa.aY h1)
  have sy:=(fW (k:=q.1) (hO (o:=ob) (z:=V.bC l) hd hy)).trans (pb.aY h2)
  have PU:(c p.1*e q.1).natAbs<=10^120:=by
   rw[bO]
   exact ae (bE (hc _) (he _)) (by decide+kernel)
  have x5:Sm (cX c p.1*cX e q.1):=by
   show Sm (((c p.1:Int):Rat)*((e q.1:Int):Rat))
   rw[w8]
   exact V8 (ae PU (by decide+kernel))
  have V9:∀Q:V->St->Prop,(∀o' l',Pl n l' (gP (cX g) (gn p.1 q.1) (cX c p.1*cX e q.1))->Q .none (gN ((d,ob,V.bC l)::J) d o' (.bC l')))->
    wE (Wk (j+4)) (j+4) (.call "add_term" [.aE 2,.call "powers_product" [.aE 4,.aE 3],.call "rmul" [.sub (.aE 0) (.aE 4),.sub (.aE 1) (.aE 3)]]) [some x,some y,some (.ref d),some (bj q.1),some (bj p.1)] ((d,ob,V.bC l)::J) Q:=λQ hQ=>
   uA (x:=.ref d) rfl (cx (xs:=[bj p.1,bj q.1]) rfl (jj ((pa.key _ h1).1.trans D6.symm) (iu D6 hn) (cx (dM sx (dM sy rfl)) (qS (V8 (XZ (hc _))) (V8 (XZ (he _))) (kl hn ee pl hp3 x5 (V8 (ZI (hg _) (ae (aS _ _) hN))) hQ)))))
  refine zP (vE (DQ (V9 _ λo' l' G3=>?_)))
  rw[j7]
  have V_:∀m,aI (dX q.1 q.2 (p::A)) m=(if gn p.1 q.1=m then c p.1*e q.1 else 0)+aI (dX q.1 q.2 A) m:=λm=>by
   show(if gn q.1 p.1=m then q.2*p.2 else 0)+aI (dX q.1 q.2 A) m=_
   rw[show gn q.1 p.1=gn p.1 q.1 from nH _ _,Kd,DY,Int.mul_comm]
  have V':(λm=>g m+aI (dX q.1 q.2 (p::A)) m)=λm=>(g m+if gn p.1 q.1=m then c p.1*e q.1 else 0)+aI (dX q.1 q.2 A) m:=funext λm=>by rw[V_ m,bQ]
  refine⟨i9 _ _,ih l' (λm=>g m+if gn p.1 q.1=m then c p.1*e q.1 else 0) (N+1) o' _ (λp hp=>hA p (.tail _ hp)) (G3.congr λm=>?_) (λm=>?_) Ec λl2 V0 Nw p2 b2=>h l2 V0 Nw (by rw[V'];exact p2) λm=>?_⟩
  ·unfold gP cX
   dsimp only
   by_cases e1:gn p.1 q.1=m
   ·rw[ai e1,ai e1,w8];push_cast;rfl
   ·rw[ah e1,ah e1,cy]
  ·rw[Nat.add_mul,Nat.one_mul]
   refine ae (Int.natAbs_add_le _ _) (bz (hg m) ?_)
   by_cases e1:gn p.1 q.1=m
   ·rw[ai e1];exact PU
   ·rw[ah e1];exact bK _
  ·rw[congrFun V' m,cu,Nat.add_comm A.length,<-Nat.add_assoc]
   exact b2 m
abbrev R8:List dJ6:=[.fr (.one 4) (.val (.aE 0)) PT]
theorem Nx{Qf:Fl->du->St->Prop}{d:Addr}{σ₀:St}(i9:∀o l,e_ σ₀ y ((d,o,.bC l)::J))(hn:n<=3)(hd:aY J d=none)(hx:b6 J x=some (.bC la))(pa:Pl n la (cX c))(hy:b6 J y=some (.bC lb))(pb:Pl n lb (cX e))(hc:∀m,(c m).natAbs<=10^60)(he:∀m,(e m).natAbs<=10^60)
  {A:Rows} (hA:IsN n c A) (ZJ:la.map (·.1)=A.map (·.1)):
  ∀(Bq:Rows) (l:aN) (g:List Int->Int) (N:Nat) (ob:Obj) (r3 r4:Option V),(∀q∈Bq,e q.1≠0/\q.2=e q.1/\∀p∈A,gc n (gn p.1 q.1))->Pl n l (cX g)->(∀m,(g m).natAbs<=N*10^120)->N+Bq.length*512<=10^7->
   (∀l' ob' Gp Nw,Pl n l' (cX λm=>g m+aI (dS Bq A) m)->Qf .next [some x,some y,some (.ref d),Gp,Nw] ((d,ob',.bC l')::J))->
   eg (eI (j+4) (.one 3) R8 σ₀ y) ((Bq.map (·.1)).map bj) [some x,some y,some (.ref d),r3,r4] ((d,ob,.bC l)::J) Qf:=by
 intro Bq
 induction Bq with
 |nil=>
  intro l g N ob r3 r4 Ny pl hg hN h
  have e:(λm=>g m+aI (dS [] A) m)=g:=funext λm=>cy _
  exact h l ob r3 r4 (by rw[e];exact pl)
 |cons q Bq ih=>
  intro l g N ob r3 r4 Ny pl hg hN h
  obtain⟨PK,DY,To⟩:=Ny q (.head _)
  rw[cu,Nat.succ_mul,Nat.add_comm (Bq.length*512),<-Nat.add_assoc]at hN
  have X0:N+A.length+Bq.length*512<=10^7:=ae (cn (aF hA.k4 _) _) hN
  refine zP (vE (M4 rfl (hO hd hx) ?_))
  rw[e7,ZJ]
  refine R7 (q:=q) (λo l=>nF hd hx) hn hd hx pa hy pb hc he PK DY A l g N ob r4 (λp hp=>⟨hA.ne p hp,hA.val p hp,To p hp⟩) pl hg (ae (aS _ _) X0) λl' ob' Nw G3 XT=>⟨i9 _ _,?_⟩
  refine ih l' _ (N+A.length) ob' _ _ (λq hq=>Ny q (.tail _ hq)) G3 XT X0 λl2 V0 Gp Nw p2=>h l2 V0 Gp Nw ?_
  have e:(λm=>g m+aI (dS (q::Bq) A) m)=λm=>g m+aI (dX q.1 q.2 A) m+aI (dS Bq A) m:=funext λm=>by
   rw[bQ,show dS (q::Bq) A=dX q.1 q.2 A++dS Bq A from rfl,gF]
  rw[e];exact p2
theorem oO{R1 R2:Rows}(hn:n<=3)(hx:b6 J x=some (.bC la))(pa:Pl n la (cX (aI R1)))(hy:b6 J y=some (.bC lb))(pb:Pl n lb (cX (aI R2)))(hc:∀m,(aI R1 m).natAbs<=10^60)(he:∀m,(aI R2 m).natAbs<=10^60)
  (hm:∀p∈R1,∀q∈R2,gc n (gn p.1 q.1)) (h:∀l,Pl n l (cX (aI (dS R2 R1)))->K (.bC l) J):CA (j+5) "mvmul" [x,y] J K:=by
 obtain⟨A,hA,ZJ⟩:=pa.rows hn
 obtain⟨Bq,Ny,hBk⟩:=pb.rows hn
 refine enter MT rfl (eP λd ob hd=>M4 rfl (hO hd hy) ?_)
 rw[e7,hBk]
 refine Nx (λo l=>nF hd hy) hn hd hx pa hy pb hc he hA ZJ Bq [] (λZ=>0) 0 ob none none (λq hq=>⟨Ny.ne q hq,Ny.val q hq,λp hp=>?_⟩) (Pl.zero.congr λm=>rfl) (λm=>bK _) (fz (ae (cC 512 Ny.k4) (le rfl))) λl' ob' Gp Nw G3=>?_
 ·obtain⟨u,hu⟩:=jz (hA.ne p hp)
  obtain⟨w,hw⟩:=jz (Ny.ne q hq)
  exact hm (p.1,u) hu (q.1,w) hw
 refine ff ?_
 refine RC ee ⟨J,λb q hb=>?_,h l' (G3.congr λm=>?_)⟩
 ·rw[e9 (f_ hd hb)];exact eW hd hb
 ·unfold cX
  dsimp only
  rw[bU,uO Ny.sum hA.sum m]
end
noncomputable def sel{α:Type}:List α->List Bool->List α
 |x::xs,true::us=>x::sel xs us
 |_::xs,false::us=>sel xs us
 |_,_=>[]
theorem Ke{body:V->St->List V->(St->List V->Prop)->Prop}{J:St}:∀(aq:List V) (us:List Bool) (a:List V) (K:St->List V->Prop),aq.length=us.length->(∀(i:Nat) x u,aq[i]?=some x->us[i]?=some u->∀a K,a.length<=100000->K J (if u=true then a++[x]else a)->body x J a K)->
  a.length+aq.length<=100000->K J (a++sel aq us)->iter body aq J a K:=by
 intro aq
 induction aq with
 |nil=>
  intro us a K _ _ _ h
  have e:sel ([]:List V) us=[]:=by cases us<;>rfl
  rw[e,bD]at h;exact h
 |cons x r ih=>
  intro us a K hl hb hz h
  cases us with
  |nil=>cases hl
  |cons u us=>
   refine hb 0 x u rfl rfl a _ (ae (aS _ _) hz) ?_
   cases u with
   |true=>exact ih us (a++[x]) K (Nat.succ.inj hl) (λi y w h1 h2=>hb (i+1) y w h1 h2) (by rw[jq a x x r];exact hz) (by rw[bx];exact h)
   |false=>exact ih us a K (Nat.succ.inj hl) (λi y w h1 h2=>hb (i+1) y w h1 h2) (ae (aF (Nat.le_succ _) _) hz) h
theorem gp.sel{n:Nat}{vs:List V}{fs:List bM}(us:List Bool)(h:gp n vs fs):gp n (Internal.sel vs us) (Internal.sel fs us):=
 h.ind (P:=λvs fs=>∀us,gp n (Internal.sel vs us) (Internal.sel fs us)) (λus=>by cases us<;>trivial) (λv vs f fs hv Z ih us=>by
  cases us with
  |nil=>trivial
  |cons u us=>
   cases u with
   |true=>exact⟨hv,ih us⟩
   |false=>exact ih us) us
theorem tm{body:V->St->List V->(St->List V->Prop)->Prop}{J:St}{n n':Nat}:∀(dJ6:List bM) (Sv:List V) (T:List bM) (a:List V) (A0:List bM) (K:St->List V->Prop),gp n Sv dJ6->dJ6.length=T.length->
  (∀(i:Nat) f g l,dJ6[i]?=some f->T[i]?=some g->Pl n l f->∀a Kq,a.length<=100000->(∀l',Pl n' l' g->Kq J (a++[.bC l']))->body (.bC l) J a Kq)->gp n' a A0->a.length+Sv.length<=1000->(∀Gv,gp n' Gv (A0++T)->K J Gv)->iter body Sv J a K:=by
 intro dJ6
 induction dJ6 with
 |nil=>
  intro Sv T a A0 K hp hl _ ha _ h
  cases Sv with
  |cons=>exact hp.elim
  |nil=>
   cases T with
   |nil=>exact h a (by rw[bD];exact ha)
   |cons=>cases hl
 |cons f dJ6 ih=>
  intro Sv T a A0 K hp hl hb ha hz h
  cases Sv with
  |nil=>exact hp.elim
  |cons v Sv=>
   cases T with
   |nil=>cases hl
   |cons g T=>
    obtain⟨⟨l,rfl,p⟩,GX⟩:=hp
    refine hb 0 f g l rfl rfl p a _ (ae (aS _ _) (dy hz rfl)) λl' p'=>?_
    refine ih Sv T _ (A0++[g]) K GX (Nat.succ.inj hl) (λi f g l a b=>hb (i+1) f g l a b) (ha.snoc p') (by rw[jq a (V.bC l') (V.bC l) Sv];exact hz) λGv hG=>h Gv ?_
    rw[bx]at hG
    exact hG
def uU(n:Nat)(f:bM)(u:Bool):Prop:=(u=true->∃k,eX k=0/\f k≠0/\∀m,f m≠0->m=k)/\(u=false->∃k,f k≠0/\eX k≠0)
def Ed(f:bM)(u:Bool):Prop:=(u=true->∀k,f k≠0->∃r,k=0::r)/\(u=false->∃k,f k≠0/\∃a r,k=a::r/\a≠0)
section
variable{n j:Nat}{J:St}{K:V->St->Prop}{x y:V}{l la lb:aN}{c e:List Int->Int}{f:bM}
theorem Nz(us:List Bool):qw (us.map V.bool)=some us:=by
 induction us with
 |nil=>rfl
 |cons u r ih=>
  show oS (qw (r.map V.bool)) (λs=>some (u::s))=_
  rw[ih];rfl
theorem NA(p:Pl n l f){k:List Int}{v:V}(hl:l=[(k,v)]):f k≠0/\∀m,f m≠0->m=k:=by
 subst hl
 refine⟨p.mem (.head _),λm hm=>?_⟩
 have:=ef.mpr (show(dp [(k,v)] m).isSome=true by rw[p.aY hm];rfl)
 exact az.mp this
theorem x9{α:Type}{l:List α}{k:α}(nd:l.Nodup)(h:∀m∈l,m=k)(hk:k∈l):l=[k]:=by
 cases l with
 |nil=>cases hk
 |cons a l=>cases l with
  |nil=>rw[h a (.head _)]
  |cons b r=>
   rw[aZ]at nd
   exact aG (by rw[h a (.head _),h b (.tail _ (.head _))];exact .head _) nd.1
theorem vM(hn:n<=3){B:List bM}{Kv:List V}{us:List Bool}(hx:b6 J x=some (.a9 Kv))(hK:gp n Kv B)(hl:B.length=us.length)(hz:B.length<=100)(hu:∀(i:Nat) f u,B[i]?=some f->us[i]?=some u->uU n f u)(h:K (.bool (us.any id)) J):CA (j+1) "is_whole" [x] J K:=by
 have LP:=hK.len
 refine enter BG rfl (ff (mM (oK rfl (jX rfl hx (gE Kv (us.map V.bool) [] _ (by rw[ag,LP,hl]) (λi v w hv hw a Kq ha B_=>?_) (by rw[LP];exact fz (dy hz rfl)) ⟨.bool (us.any id),?_,trivial,cG (Y:=[]) h⟩)))))
 ·rw[aA]at hw
  obtain⟨u,Wa,rfl⟩:=aO.mp hw
  have hg:=aH (l:=B) (i:=i) (by rw[hl];exact gW Wa)
  obtain⟨l,e,p⟩:=hK.get i _ hg
  rw[hv]at e
  cases e
  have hf:=hu i _ u hg Wa
  have fR:=nJ (J:=J) (z:=.bC l) hn rfl p
  refine iA (ja (v:=.bool u) ?_ ⟨ha,cQ _ _,B_⟩)
  by_cases h1:l.length=1
  ·obtain⟨⟨k,v⟩,rfl⟩:=List.length_eq_one_iff.mp h1
   obtain⟨IA,s9⟩:=NA p rfl
   have:(eX k==0)=u:=by
    cases u with
    |true=>
     obtain⟨k',h1,h2,h3⟩:=hf.1 rfl
     rw[<-s9 k' h2,h1];rfl
    |false=>
     obtain⟨k',h1,h2⟩:=hf.2 rfl
     rw[s9 k' h1]at h2
     exact bX.mpr h2
   rw[<-this]
   exact cV (cV (cV rfl (cV fR rfl)) rfl) (cV (x:=true) rfl (cV (cV (cV rfl (cV (mR k) rfl)) rfl) rfl))
  ·have OL:u=false:=by
    cases u with
    |false=>rfl
    |true=>
     obtain⟨k',g1,g2,g3⟩:=hf.1 rfl
     have:=x9 p.nd (k:=k') (λm hm=>g3 m (p.mem hm)) (ef.mpr (by rw[p.aY g2];rfl))
     exact aG (by rw[<-ag (f:=(·.1)) (as:=l),this];rfl) h1
   have e1:((l.length:Int)==1)=false:=bX.mpr λe=>h1 (di e)
   rw[OL]
   exact cV (cV (cV rfl (cV fR rfl)) (ao (λb=>some (V.bool b)) e1)) rfl
 ·show(qw (us.map V.bool)).map (λbs=>V.bool (bs.any id))=_
  rw[Nz];rfl
theorem sZ{u:Bool}(hv:b6 J x=some (.bC l))(p:Pl 3 l f)(hu:Ed f u)(h:K (.bool u) J):CA (j+1) "is_free_of" [x,.int 1] J K:=by
 have hs:(l.map (·.1)).length<=1000:=by rw[ag];exact dy (p.size (le rfl)) rfl
 have hub:((l.map (·.1)).all λk=>eX (k.take 1)==0)=u:=by
  cases u with
  |true=>
   rw[av]
   intro k hk
   obtain⟨r,rfl⟩:=hu.1 rfl k (p.mem hk)
   rfl
  |false=>
   obtain⟨k,hk,a,r,rfl,ha⟩:=hu.2 rfl
   rw[List.all_eq_false]
   refine⟨a::r,ef.mpr (by rw[p.aY hk];rfl),λh=>ha ?_⟩
   have h:a+0=0:=bt h
   rw[cy]at h;exact h
 have jC:vp J .all [V.a9 ((l.map (·.1)).map λk=>V.bool (eX (k.take 1)==0))]=some (.bool u):=by
  show(qw ((l.map (·.1)).map λk=>V.bool (eX (k.take 1)==0))).map (λbs=>V.bool (bs.all id))=_
  rw[Ae,Option.map_some,List.all_map,<-hub];rfl
 refine enter xU rfl (ff (mM (oK rfl (zR rfl hv ?_))))
 rw[e7]
 refine uL (λk=>eX (k.take 1)==0) (λk hk a Kq ha hK=>?_) hs ⟨_,jC,trivial,cG (Y:=[]) h⟩
 have M9:=(p.key k (p.mem hk)).1
 have e1:(kz J (bj k) none (some (.int 1))).bind uz=some (bj (k.take 1)):=by
  have e:kz J (bj k) none (some (.int 1))=some (bj (k.take 1)):=by
   show(if(k.map V.int).length<=100000 then some (V.bZ ((k.map V.int).take 1))else none)=some (V.bZ ((k.take 1).map V.int))
   rw[List.map_take];exact ai (by rw[ag,M9];decide)
  refine cV e (ai (aU ?_))
  show((k.take 1).map V.int).length<=100000
  rw[ag,List.length_take,M9];decide
 exact iA (ja (cV (cV (dM (cV rfl e1) rfl) (cV (mR _) rfl)) rfl) ⟨ha,cQ _ _,hK⟩)
theorem uV{dJ6 B:List bM}{Sv:List V}{ew:Nat}{us:List Bool}(hx:b6 J x=some (.a9 Sv))(hS:gp 3 Sv dJ6)(H:Rb 3 .lex ew dJ6 B)(hl:B.length=us.length)(hz:B.length<=100)(hu:∀(i:Nat) f u,B[i]?=some f->us[i]?=some u->Ed f u)
  (h:∀Kv,gp 3 Kv (sel B us)->K (.a9 Kv) J):CA (j+12) "eliminate" [x,.int 1,.int ew] J K:=by
 refine enter zE rfl (ff (oK rfl (qQ (xs:=[x,.str e6.lex.name,.int ew]) rfl (eS (o:=.lex) (.inr rfl) hx hS H λKv hK=>F6 rfl (Ke Kv us [] _ (hK.len.trans hl) (λi v u hv Wa a Kq ha B_=>?_) (by rw[hK.len];exact fz (dy hz rfl)) (cG (Y:=[]) (h _ (hK.sel us))))))))
 have hg:=aH (l:=B) (i:=i) (by rw[hl];exact gW Wa)
 obtain⟨l,e,p⟩:=hK.get i _ hg
 rw[hv]at e
 cases e
 refine JK (cx (xs:=[.bC l,.int 1]) rfl (sZ rfl p (hu i _ u hg Wa) ?_))
 cases u with
 |true=>exact⟨ha,trivial,B_⟩
 |false=>exact⟨trivial,B_⟩
end
def fq(R:Rows):Prop:=(∀p∈R,∃a b:Nat,p.1=[(a:Int),(b:Int)]/\a<4/\b<4)/\dz R<=10^50
noncomputable def oP:Rows:=[([1,0,0],1)]
noncomputable def nN:Rows:=[([0,0,0],1),([1,0,0], -1)]
theorem fq.key{R:Rows}(h:fq R){k:List Int}(hk:aI R k≠0):gc 3 (0::k):=by
 obtain⟨x,hx⟩:=jz hk
 obtain⟨a,b,e,ha,hb⟩:=h.1 _ hx
 dsimp only at e
 rw[e]
 exact R4 (a:=0) (by decide) ha hb
theorem fq.prod{R:Rows}(h:fq R):∀p∈d7 R,∀q∈nN,gc 3 (gn p.1 q.1):=λp hp q hq=>by
 obtain⟨u,hu,rfl⟩:=aQ.mp hp
 obtain⟨a,b,e,ha,hb⟩:=h.1 _ hu
 dsimp only
 rw[e]
 rcases au.mp hq with rfl|hq
 ·exact R4 (a:=0) (by decide) ha hb
 ·rw[az.mp hq];exact R4 (a:=1) (by decide) ha hb
theorem sg(r:Rows):dz (d7 r)=dz r:=by
 induction r with
 |nil=>rfl
 |cons p r ih=>exact ao (p.2.natAbs+·) ih
theorem fq.size{R:Rows}(h:fq R)(m:List Int):(aI (d7 R) m).natAbs<=10^60:=by
 have h1:=hY (d7 R) m
 rw[sg]at h1
 exact ae h1 (ae h.2 (by decide+kernel))
theorem m3{R:Rows}(h:dz R<=10^60)(m:List Int):(aI R m).natAbs<=10^60:=ae (hY R m) h
def nO(R:Rows):Rows:=dS oP (d7 R)
def kZ(R:Rows):Rows:=dS nN (d7 R)
section
variable{n j:Nat}{J:St}{K:V->St->Prop}{x y:V}{l la lb:aN}{c e:List Int->Int}{f:bM}
theorem gp.app{n:Nat}{vs ws:List V}{fs gs:List bM}(h:gp n vs fs)(h':gp n ws gs):gp n (vs++ws) (fs++gs):=
 h.ind (P:=λvs fs=>gp n (vs++ws) (fs++gs)) h' λZ Z Z Z hv Z ih=>⟨hv,ih⟩
theorem X1{R:Rows}(h:dz R<=10^60)(k:List Int):Sm (cX (aI R) k):=V8 (XZ (m3 h k))
theorem Wb{l0:aN}(p0:Pl 3 l0 (term (List.replicate 3 0) 1)):Pl 3 l0 (cX (aI [([0,0,0],1)])):=p0.congr λm=>by
 unfold term cX aI aI
 by_cases e:m=[0,0,0]
 ·subst e;rfl
 ·have e':¬m=List.replicate 3 0:=e
  rw[ah e',ah (λh=>e h.symm)];rfl
theorem Ee{α:Type}(B:List α):∀(us:List Bool),(sel B us).length<=B.length:=by
 induction B with
 |nil=>exactλus=>by cases us<;>exact bc _
 |cons b B ih=>
  intro us
  cases us with
  |nil=>exact bK _
  |cons u us=>
   cases u with
   |true=>exact aL (ih us)
   |false=>exact cR (ih us)
theorem PV{d:Addr}{ob:Obj}{z:V}(hd:aY J d=none):∀b q,aY J b=some q->aY (del ((d,ob,z)::J) d) b=some q:=λb q hb=>by
 rw[e9 (f_ hd hb)];exact eW hd hb
theorem x_{SR TR:List Rows}{Sv Tv:List V}{B:List bM}{us:List Bool}{ew:Nat}(hx:b6 J x=some (.a9 Sv))(hS:gp 2 Sv (SR.map λR=>cX (aI R)))(hy:b6 J y=some (.a9 Tv))(hT:gp 2 Tv (TR.map λR=>cX (aI R)))
  (hs:∀R∈SR,fq R) (ht:∀R∈TR,fq R) (hz:SR.length<=20/\TR.length<=20) (H:Rb 3 .lex ew (SR.map (λR=>cX (aI (nO R)))++TR.map λR=>cX (aI (kZ R))) B)
  (hl:B.length=us.length) (X2:B.length<=100) (hu:∀(i:Nat) f u,B[i]?=some f->us[i]?=some u->Ed f u) (NB:∀f∈sel B us,∀k,f k≠0->∃r,k=0::r) (h:∀Nv,gp 2 Nv ((sel B us).map jr)->K (.a9 Nv) J):CA (j+13) "meet_of" [x,y,.int 2,.int ew] J K:=by
 have RZ:=hS.len
 have hTl:=hT.len
 rw[ag]at RZ hTl
 refine enter F1 rfl (eP (cx (xs:=[.int 0,.int 3]) rfl (om λl1 p1=>eP (JH (Rz (cx (xs:=[eu 1,.int 3]) (dM DT rfl) (oi (n:=3) (q:=1) (le rfl) λl0 p0=>?_)) (y:=.bC l1) λZ=>rfl)))))
 refine lI (x:=.bC l0) (y:=.bC l1) (.inr rfl) rfl (Wb p0) rfl p1 (X1 (by decide+kernel)) (X1 (by decide+kernel)) λd ob l2 hd p2=>F3.ref ee ?_
 have ZK:Pl 3 l2 (cX (aI nN)):=p2.congr λm=>by
  show(((aI [([0,0,0],1)] m:Int):Rat))- ((aI [([1,0,0],1)] m:Int):Rat)=((aI nN m:Int):Rat)
  have:aI nN m=aI [([0,0,0],1)] m- aI [([1,0,0],1)] m:=by
   simp only[nN,aI]
   split<;>split<;>rfl
  rw[this];push_cast;rfl
 have Aj:=PV (ob:=ob) (z:=V.bC l2) hd
 have hx1:=kU Aj hx
 have Wc:=kU Aj hy
 generalize del ((d,ob,V.bC l2)::J) d=mh at hx1 Wc Aj⊢
 refine eP (F4 rfl (jX rfl hx1 (tm (n:=2) (n':=3) _ Sv (SR.map λR=>cX (aI (nO R))) [] [] _ hS (by rw[ag,ag]) (λi f g l h1 h2 p a Kq ha B_=>?_) trivial (by rw[RZ];exact fz (dy hz.1 rfl)) λGv hG dm obm hdm=>?_)))
 ·rw[aA]at h1 h2
  obtain⟨R,hR,rfl⟩:=aO.mp h1
  rw[hR]at h2
  cases h2
  have x5:=hs R (dw hR)
  refine iA (gK (cx (xs:=[.bC l,.int 1]) rfl (js rfl p (λk hk=>x5.key hk) λl' p'=>oO (x:=.bC l') (y:=.bC l1) (le rfl) rfl p' rfl p1 x5.size (m3 (by decide+kernel)) (λu hu q hq=>?_) λl3 p3=>⟨ha,cQ _ _,B_ l3 p3⟩)))
  rw[az.mp hq]
  exact x5.prod u hu ([1,0,0], -1) (.tail _ (.head _))
 rw[cq]at hG
 have th:=hG.len
 rw[ag]at th
 refine DQ (JD rfl ee rfl (oK rfl (jX rfl (hO hdm Wc) (tm (n:=2) (n':=3) _ Tv (TR.map λR=>cX (aI (kZ R))) [] [] _ hT (by rw[ag,ag]) (λi f g l h1 h2 p a Kq ha B_=>?_) trivial (by rw[hTl];exact fz (dy hz.2 rfl)) λHv hH=>?_))))
 ·rw[aA]at h1 h2
  obtain⟨R,hR,rfl⟩:=aO.mp h1
  rw[hR]at h2
  cases h2
  have x5:=ht R (dw hR)
  exact iA (gK (cx (xs:=[.bC l,.int 1]) rfl (js rfl p (λk hk=>x5.key hk) λl' p'=>oO (x:=.bC l') (y:=.bC l2) (le rfl) rfl p' rfl ZK x5.size (m3 (by decide+kernel)) (λu hu q hq=>x5.prod u hu q hq) λl3 p3=>⟨ha,cQ _ _,B_ l3 p3⟩)))
 rw[cq]at hH
 have hHl:=hH.len
 rw[ag]at hHl
 have LL:Gv.length<=20:=by rw[th];exact hz.1
 have hHz:Hv.length<=20:=by rw[hHl];exact hz.2
 refine⟨_,_,_,_,ee,rfl,dy LL rfl,?_,λo'=>?_⟩
 ·show List.length _<=100000;rw[aC];exact dy (bz LL hHz) rfl
 rw[j7]
 have yQ:∀b q,aY J b=some q->aY ((dm,o',V.a9 (Gv++Hv))::mh) b=some q:=λb q hb=>eW hdm (Aj b q hb)
 have hvm:b6 ((dm,o',V.a9 (Gv++Hv))::mh) (.ref dm)=some (.a9 (Gv++Hv)):=cT ee
 generalize(dm,o',V.a9 (Gv++Hv))::mh=vI at yQ hvm⊢
 refine ff (oK rfl (qQ (xs:=[.ref dm,.int 1,.int ew]) rfl (uV hvm (hG.app hH) H hl X2 hu λKv hK=>F6 rfl (tm (n:=3) (n':=2) _ Kv ((sel B us).map jr) [] [] _ hK (by rw[ag]) (λi f g l h1 h2 p a Kq ha B_=>?_) trivial (by rw[hK.len];exact fz (ae (Ee B us) (dy X2 rfl))) λNv hN=>⟨J,yQ,h Nv hN⟩))))
 rw[aA,h1]at h2
 cases h2
 exact iA (cx (xs:=[.bC l,.int 1]) rfl (vL rfl p (NB f (dw h1)) λl' p'=>⟨ha,trivial,B_ l' p'⟩))
def oo(R:Rows):Rows:=([0,0,0],1)::Cb (dS (d7 R) oP)
theorem jP{R:Rows}{SR:List Rows}{Sv:List V}{B:List bM}{us:List Bool}{ew:Nat}(hx:b6 J x=some (.bC l))(p:Pl 2 l (cX (aI R)))(hr:fq R)(hy:b6 J y=some (.a9 Sv))(hS:gp 2 Sv (SR.map λR=>cX (aI R)))
  (hs:∀R∈SR,fq R) (hz:SR.length<=20) (H:Rb 3 .grevlex ew (SR.map (λR=>cX (aI (d7 R)))++[cX (aI (oo R))]) B)
  (hl:B.length=us.length) (X2:B.length<=100) (hu:∀(i:Nat) f u,B[i]?=some f->us[i]?=some u->uU 3 f u) (h:K (.bool (us.any id)) J):CA (j+13) "is_in_radical" [x,y,.int 2,.int ew] J K:=by
 have RZ:=hS.len
 rw[ag]at RZ
 have ml:dz (dS (d7 R) oP)<=10^60:=by
  rw[lP,sg,show dz oP=1 from rfl,Nat.mul_one]
  exact ae hr.2 (by decide+kernel)
 refine enter sS rfl (eP (cx (xs:=[eu 1,.int 3]) (dM DT rfl) (oi (n:=3) (q:=1) (le rfl) λl0 p0=>eP (JH (mK (x:=.bC l0) rfl (gK (cx (xs:=[.int 0,.int 3]) rfl (om λl1 p1=>?_))))))))
 refine cx (xs:=[x,.int 1]) rfl (js hx p (λk hk=>hr.key hk) λl' p'=>oO (x:=.bC l1) (y:=.bC l') (le rfl) rfl p1 rfl p' (m3 (by decide+kernel)) hr.size (λq hq u hu=>?_) λl3 p3=>?_)
 ·have:=hr.prod u hu ([1,0,0], -1) (.tail _ (.head _))
  rw[az.mp hq]
  rw[show gn [1,0,0] u.1=gn u.1 [1,0,0]from nH _ _];exact this
 refine lI (x:=.bC l0) (y:=.bC l3) (.inr rfl) rfl (Wb p0) rfl p3 (X1 (by decide+kernel)) (X1 ml) λd ob l2 hd p2=>F3.ref ee ?_
 have ZK:Pl 3 l2 (cX (aI (oo R))):=p2.congr λm=>by
  show(((aI [([0,0,0],1)] m:Int):Rat))- ((aI (dS (d7 R) oP) m:Int):Rat)=((aI (oo R) m:Int):Rat)
  have:aI (oo R) m=aI [([0,0,0],1)] m- aI (dS (d7 R) oP) m:=by
   show(if[0,0,0]=m then(1:Int)else 0)+aI (Cb (dS (d7 R) oP)) m=(if[0,0,0]=m then(1:Int)else 0)+0- _
   rw[w4,cy];rfl
  rw[this];push_cast;rfl
 have Aj:=PV (ob:=ob) (z:=V.bC l2) hd
 have Wc:=kU Aj hy
 generalize del ((d,ob,V.bC l2)::J) d=mh at Wc Aj⊢
 refine ff (gK (gK (PC (oK rfl (jX rfl Wc (tm (n:=2) (n':=3) _ Sv (SR.map λR=>cX (aI (d7 R))) [] [] _ hS (by rw[ag,ag]) (λi f g l h1 h2 p a Kq ha B_=>?_) trivial (by rw[RZ];exact fz (dy hz rfl)) λGv hG=>?_))))))
 ·rw[aA]at h1 h2
  obtain⟨R',hR,rfl⟩:=aO.mp h1
  rw[hR]at h2
  cases h2
  exact iA (cx (xs:=[.bC l,.int 1]) rfl (js rfl p (λk hk=>(hs R' (dw hR)).key hk) λl' p'=>⟨ha,cQ _ _,B_ l' p'⟩))
 rw[cq]at hG
 have th:=hG.len
 rw[ag]at th
 refine ja (v:=.a9 [.bC l2]) rfl (uB.ok rfl rfl ?_ ?_)
 ·rw[th];exact dy (aL hz) rfl
 refine eS (o:=.grevlex) (x:=.a9 (Gv++[.bC l2])) (.inr rfl) rfl (hG.snoc ZK) H λKv hK=>?_
 exact vM (x:=.a9 Kv) (le rfl) rfl hK hl X2 hu ⟨J,Aj,h⟩
end
theorem NC(a:aM):∀(b:aM),a.Nodup->(∀x∈a,x∈b)->a.length<=b.length:=by
 induction a with
 |nil=>exactλb Z Z=>bK _
 |cons x a ih=>
  intro b nd h
  rw[aZ]at nd
  have hx:=h x (.head _)
  have:=ih (b.erase x) nd.2 λy hy=>(List.mem_erase_of_ne λ(e:y=x)=>nd.1 (e▸hy)).mpr (h y (.tail _ hy))
  rw[List.length_erase_of_mem hx]at this
  exact ae (aL this) (aP (Nat.succ_pred_eq_of_pos (List.length_pos_of_mem hx)))
theorem Pl.len_eq{n:Nat}{l m:aN}{f:bM}(p:Pl n l f)(q:Pl n m f):l.length=m.length:=by
 have key:∀{l m:aN},Pl n l f->Pl n m f->l.length<=m.length:=λ{l m} p q=>by
  have:=NC (l.map (·.1)) (m.map (·.1)) p.nd λk hk=>ef.mpr (by rw[q.aY (p.mem hk)];rfl)
  rw[ag,ag]at this;exact this
 exact Nat.le_antisymm (key p q) (key q p)
theorem Kg{n:Nat}{m:aN}{f:bM}(q:Pl n m f)(N:Nat)(l:aN):(∀r∈l,f r.1≠0/\r.2=eu (f r.1))->tC (iS (N+1)) l m=some true:=by
 induction l with
 |nil=>exactλZ=>rfl
 |cons p l ih=>
  intro h
  obtain⟨h1,h2⟩:=h p (.head _)
  show(match dp m p.1 with|none=>some false|some y=>oS (iS (N+1) p.2 y) λb=>if b=true then tC (iS (N+1)) l m else some false)=_
  rw[q.aY h1,h2]
  show oS (iS (N+1) (eu (f p.1)) (eu (f p.1))) _=_
  rw[uE,bF rfl]
  exact ih λr hr=>h r (.tail _ hr)
theorem Cm{l:aN}{r:List Int×V}(nd:(l.map (·.1)).Nodup)(h:r∈l):dp l r.1=some r.2:=vV nd h
theorem We{n:Nat}{l m:aN}{f:bM}(p:Pl n l f)(q:Pl n m f)(N:Nat):iS (N+2) (.bC l) (.bC m)=some true:=by
 show(if l.length=m.length then tC (iS (N+1)) l m else some false)=_
 rw[ai (p.len_eq q)]
 refine Kg q N l λr hr=>?_
 have h1:f r.1≠0:=p.mem (aQ.mpr ⟨r,hr,rfl⟩)
 refine⟨h1,?_⟩
 have:=p.aY h1
 rw[Cm p.nd hr]at this
 exact aW this
theorem Wg{n:Nat}(N:Nat){vs ws:List V}{fs:List bM}(h:gp n vs fs)(h':gp n ws fs):sC (iS (N+2)) vs ws=some true:=
 h.ind (P:=λvs fs=>∀{ws},gp n ws fs->sC (iS (N+2)) vs ws=some true) (λ{ws} h=>by
  cases ws with
  |nil=>rfl
  |cons=>exact h.elim) (λv vs f fs hv Z ih {ws} h=>by
  cases ws with
  |nil=>exact h.elim
  |cons w ws=>
   obtain⟨l,rfl,p⟩:=hv
   obtain⟨m,rfl,q⟩:=h.1
   show oS (iS (N+2) (.bC l) (.bC m)) (λb=>oS (sC (iS (N+2)) vs ws) λc=>some (b&&c))=_
   rw[We p q N,ih h.2];rfl) h'
theorem R9{φ ψ:List Int->Int}{R:Rows}:(∀p∈R,φ p.1=ψ p.1)->gR φ R=gR ψ R:=by
 induction R with
 |nil=>exactλZ=>rfl
 |cons p R ih=>
  intro h
  show p.2*φ p.1+gR φ R=p.2*ψ p.1+gR ψ R
  rw[h p (.head _),ih λq hq=>h q (.tail _ hq)]
theorem ND(φ:List Int->Int)(z:Int)(R:Rows):gR (λk=>φ k*z) R=gR φ R*z:=by
 induction R with
 |nil=>exact(Int.zero_mul _).symm
 |cons p R ih=>
  show p.2*(φ p.1*z)+gR _ R=(p.2*φ p.1+gR φ R)*z
  rw[ih,Int.add_mul,Int.mul_assoc]
noncomputable def uW(u:Int):List Int->Int
 |[]=>1
 |p::r=>(u- p)*uW u r
theorem Gz(u v:Int)(ps:List Int):∀(i:Nat) (cB:Rows),uR i cB->gR (ev u v) (mY cB ps)=gR (ev u v) cB*uW u ps:=by
 induction ps with
 |nil=>exactλi cB Z=>(Int.mul_one _).symm
 |cons p ps ih=>
  intro i cB hk
  show gR (ev u v) (mY (dS cB (uQ p)) ps)=gR (ev u v) cB*((u- p)*uW u ps)
  rw[ih (i+1) _ (hk.prod p),uN,<-Int.mul_assoc]
  refine ao (·*uW u ps) ?_
  rw[<-ND]
  refine R9 λq hq=>?_
  obtain⟨a,ha,_⟩:=hk q hq
  rw[ha]
  show 1*(u^(a+1)*v^(0:Nat))+((0- p)*(u^a*v^(0:Nat))+0)=u^a*v^(0:Nat)*(u- p)
  rw[Int.pow_zero,Int.pow_succ]
  grind
theorem qg(u v:Int)(ps:List Int):gR (ev u v) (bY ps)=uW u ps:=by
 unfold bY
 rw[Gz u v ps 0 _ λq hq=>by rw[az.mp hq];exact⟨0,rfl,bc _⟩]
 show(1*(u^0*v^0)+0)*_=_
 simp
theorem lR{u:Int}{ps:List Int}:uW u ps=0↔u∈ps:=by
 induction ps with
 |nil=>exact⟨λh=>aG h Int.one_ne_zero,λh=>(a7 h).elim⟩
 |cons p r ih=>
  show(u- p)*uW u r=0↔_
  rw[Int.mul_eq_zero,ih,au,Int.sub_eq_zero]
theorem Ef{α:Type}{a:α}{l:List α}:∀{us:List Bool},a∈sel l us->a∈l:=by
 induction l with
 |nil=>exactλ{us} h=>by cases us<;>cases h
 |cons x l ih=>
  intro us h
  cases us with
  |nil=>cases h
  |cons u us=>
   cases u with
   |true=>exact(au.mp h).elim (λe=>e▸.head _) λh=>.tail _ (ih h)
   |false=>exact .tail _ (ih h)
theorem NF{α:Type}{l:List α}{us:List Bool}(nd:l.Nodup)(hl:l.length=us.length):(∀a∈l,a∈sel l us)->sel l us=l:=
 sU (P:=λl us=>l.Nodup->(∀a∈l,a∈sel l us)->sel l us=l) (λZ Z=>rfl) (λx l u us Z ih nd h=>by
  rw[aZ]at nd
  cases u with
  |true=>exact ao (x::·) (ih nd.2 λa ha=>(au.mp (h a (.tail _ ha))).elim (λe=>aG (e▸ha) nd.1) id)
  |false=>exact aG (Ef (l:=l) (us:=us) (h x (.head _))) nd.1) hl nd
def si(R:Rows):Prop:=∀p∈R,∃a b:Nat,p.1=[(a:Int),(b:Int)]/\b<=1/\2*a+b<=6
theorem si.mon{R:Rows}(h:si R):sY R:=λp hp=>by
 obtain⟨a,b,e,h1,h2⟩:=h p hp
 rw[e]
 exact V2 (aB (ae (ae (Nat.le_mul_of_pos_left a (by decide)) (aS _ b)) h2) (by decide)) (aB h1 (by decide))
structure Kh(o:e6)(B:List bM)(bs:aM)(ps hs:List Int):Prop where
 gs:Gs 2 o B (cP bs)
 k4:B.length<=60
 mem:∀R,si R->dz R<=200->∃res t,Dv 2 o B (cP bs) (cX (aI R)) (λZ=>0) res t/\((∀k,res k=0)↔∀p∈ps,gR (ev p (iO hs p)) R=0)
structure Vd(ps hs:List Int):Prop where
 len:ps.length=hs.length
 pos:1<=ps.length
 k4:ps.length<=3
 nd:ps.Nodup
 p:∀p∈ps,p.natAbs<=4
 h:∀h∈hs,h.natAbs<=2
 v:∀p∈ps,(iO hs p).natAbs<=1000
theorem GA(ps:List Int):∀(i:Nat) (cB:Rows),uR i cB->uR (i+ps.length) (mY cB ps):=by
 induction ps with
 |nil=>intro i cB h;exact h
 |cons p ps ih=>
  intro i cB h
  rw[cu,<-bo]
  exact ih (i+1) _ (h.prod p)
theorem sk{ps:List Int}(h:ps.length<=3):si (bY ps):=λp hp=>by
 obtain⟨a,ha,hi⟩:=GA ps 0 [([0,0],1)] (λq hq=>by rw[az.mp hq];exact⟨0,rfl,bc _⟩) p hp
 exact⟨a,0,ha,by decide,cb 2 (ae hi (ae (aP (bS _)) h))⟩
noncomputable def Ak:List Int->Nat
 |[]=>1
 |p::r=>(1+p.natAbs)*Ak r
theorem uX(ps:List Int):∀(cB:Rows),dz (mY cB ps)=dz cB*Ak ps:=by
 induction ps with
 |nil=>exactλcB=>(Nat.mul_one _).symm
 |cons p ps ih=>
  intro cB
  show dz (mY (dS cB (uQ p)) ps)=dz cB*((1+p.natAbs)*Ak ps)
  rw[ih,lP,<-Nat.mul_assoc]
  congr 2
  show(1:Int).natAbs+((0- p).natAbs+0)=1+p.natAbs
  rw[Int.zero_sub,cI];rfl
section
variable{n j:Nat}{J:St}{K:V->St->Prop}{x y:V}{l la lb:aN}{c e:List Int->Int}{f:bM}{ab al:Addr}{N:Nat}{o:e6}{B:List bM}{bs:aM}{ps hs:List Int}{Bv:List V}
theorem GB{body:V->St->List V->(St->List V->Prop)->Prop}(hb:∀(J:St) (p:Int) cB N Kq,Bx J ab al N->N<=950->cB.length<=1000->(∀(u:Bool) σ',Bx σ' ab al (N+1)->mi J σ' ab al->Kq σ' (if u=true then cB++[.int p]else cB))->body (.int p) J cB Kq):
  ∀(ps:List Int) (J:St) (cB:List V) (N:Nat) (K:St->List V->Prop),Bx J ab al N->N+ps.length<=950->cB.length+ps.length<=900->(∀(us:List Bool) σ',us.length=ps.length->Bx σ' ab al (N+ps.length)->mi J σ' ab al->K σ' (cB++(sel ps us).map .int))->iter body (ps.map V.int) J cB K:=by
 intro ps
 induction ps with
 |nil=>
  intro J cB N K b _ _ h
  have:=h [] J rfl b (mi.refl _ _ _)
  rw[show sel ([]:List Int) []=[]from rfl,List.map_nil,bD]at this
  exact this
 |cons p ps ih=>
  intro J cB N K b hN hz h
  have Ec:N+1+ps.length<=950:=ae (aP (bW ..)) hN
  refine hb J p cB N _ b (ae (aS _ _) hN) (ae (aS _ _) (dy hz rfl)) λu mh b1 o1=>?_
  cases u with
  |true=>
   refine ih mh (cB++[.int p]) (N+1) K b1 Ec (by rw[jq cB (V.int p) p ps];exact hz) λus vI hl b2 o2=>?_
   rw[bx]
   exact h (true::us) vI (ao Nat.succ hl) (by rw[bW]at b2;exact b2) (o1.trans o2)
  |false=>exact ih mh cB (N+1) K b1 Ec (ae (aF (Nat.le_succ _) _) hz) λus vI hl b2 o2=>h (false::us) vI (ao Nat.succ hl) (by rw[bW]at b2;exact b2) (o1.trans o2)
theorem uY{Y:du}{Q:V->St->Prop}(h0:Y[0]?=some (some (.ref ab)))(hb:Bx J ab al N)(hN:N<=900)(h:∀(a b c:Int) σ',(0<=a/\a<3)->(0<=b/\b<2)->(0<=c/\c<5)->Bx σ' ab al (N+3)->mi J σ' ab al->Q (kY ([a,b],c- 2)) σ'):
  wE (Wk (j+9)) (j+9) (.bZ [.bZ [.call "_law_take" [.aE 0,.ck (.int 3)],.call "_law_take" [.aE 0,.ck (.int 2)]],.bin .sub (.call "_law_take" [.aE 0,.ck (.int 5)]) (.ck (.int 2))]) Y J Q:=
 l8 (l8 (cx (dM (Vz h0) rfl) (eA hb (dy hN rfl) (by decide) λa mh a0 a1 b1 o1=>
  cx (dM (Vz h0) rfl) (eA b1 (dy (aL hN) rfl) (by decide) λb vI b0 b1' b2 o2=>
  PG (cx (dM (Vz h0) rfl) (eA b2 (dy (aL (aL hN)) rfl) (by decide) λc LO c0 c1 b3 o3=>⟨_,rfl,h a b c LO ⟨a0,a1⟩ ⟨b0,b1'⟩ ⟨c0,c1⟩ b3 ((o1.trans o2).trans o3)⟩))))))
theorem Eg{ps:List Int}:(∀p∈ps,p.natAbs<=4)->Ak ps<=5^ps.length:=by
 induction ps with
 |nil=>exactλZ=>bc _
 |cons p r ih=>
  intro h
  show(1+p.natAbs)*Ak r<=5^(r.length+1)
  rw[Nat.pow_succ,Nat.mul_comm]
  exact bE (ih λq hq=>h q (.tail _ hq)) (aF (h p (.head _)) 1)
theorem so(a b:List Int):iG J .eq (.a9 (a.map .int)) (.a9 (b.map .int))=some (a==b):=by
 show sC (iS 4) (a.map V.int) (b.map V.int)=_
 exact kX a b 4
theorem Al{R:Rows}{s:Int}(h:si R):si (eB s R):=λp hp=>by
 obtain⟨q,hq,rfl⟩:=aQ.mp hp
 exact h q hq
theorem uZ(s:Int)(R:Rows):dz (eB s R)=s.natAbs*dz R:=by
 induction R with
 |nil=>rfl
 |cons p R ih=>
  show(s*p.2).natAbs+dz (eB s R)=s.natAbs*(p.2.natAbs+dz R)
  rw[ih,bO,Nat.mul_add]
theorem w9(φ:List Int->Int)(s:Int)(R:Rows):gR φ (eB s R)=s*gR φ R:=by
 induction R with
 |nil=>exact(Int.mul_zero _).symm
 |cons p R ih=>
  show s*p.2*φ p.1+gR φ (eB s R)=s*(p.2*φ p.1+gR φ R)
  rw[ih,Int.mul_add,Int.mul_assoc]
theorem Ki{R:Rows}{N:Nat}(h:dz R<=N)(hN:N<=10^60)(m:List Int):(aI R m).natAbs<=10^60:=ae (m3 (ae h hN) m) (bc _)
theorem R_{c:Int}(h:0<=c/\c<5):(c- 2).natAbs<=2:=Np (P:=λc=>(c- 2).natAbs<=2) 5 h.1 h.2 (by decide)
set_option maxHeartbeats 1000000 in
theorem lS(hb:Bx J ab al N)(hN:N<=800)(hV:Vd ps hs)(hB:gp 2 Bv B)(M:Kh o B bs ps hs)(h:∀σ',mi J σ' ab al->K (.bool true) σ'):
  CA (j+10) "_law_members_right" [.ref ab,.a9 Bv,.str o.name,.a9 (ps.map .int),.a9 (hs.map .int)] J K:=by
 have G5:=hB.len
 have s7:=hV.k4
 have TK:hs.length<=3:=by rw[<-hV.len];exact s7
 have Kj:B.length<=100:=dy M.k4 rfl
 have push:∀{v:V} {J:St} {cB:List V} {K:St->List V->Prop},cB.length<=10->K J (cB++[v])->cB.length<=100000/\K J (cB++[v]):=λh h2=>⟨dy h rfl,h2⟩
 refine enter n0 rfl (eP (oK rfl (uC (N:=3) rfl (le rfl) (VA (iA (uY rfl hb (ae hN (le rfl)) λa1 b1 c1 mh ha1 JZ AG B1 O1=>⟨le rfl,trivial,?_⟩))))))
 refine VA (iA (uY rfl B1 (ae (cn hN 3) (le rfl)) λa2 b2 c2 vI ha2 yQ TL B2 O2=>⟨le rfl,trivial,?_⟩))
 refine VA (iA (uY rfl B2 (ae (cn hN 6) (le rfl)) λa3 b3 c3 LO ha3 RX hc3 B3 O3=>⟨le rfl,trivial,?_⟩))
 have dJ7:=(O1.trans O2).trans O3
 have N3:N+3+3+3<=900:=ae (cn hN 9) (le rfl)
 refine eP (cx (xs:=[.a9 (([([a1,b1],c1- 2),([a2,b2],c2- 2),([a3,b3],c3- 2)]:Rows).map kY)]) rfl ?_)
 have row:∀{a b c:Int},(0<=a/\a<3)->(0<=b/\b<2)->∃u v:Nat,[a,b]=[(u:Int),(v:Int)]/\v<=1/\2*u+v<=6:=λ{a b c} ha hb=>
  Np (c:=a) 3 ha.1 ha.2 λu hu=>Np (c:=b) 2 hb.1 hb.2 λv hv=>⟨u,v,rfl,Nat.le_of_lt_succ hv,bz (cb 2 (Nat.le_of_lt_succ hu)) (ae (Nat.le_of_lt_succ hv) (by decide:1<=2))⟩
 have hR:si [([a1,b1],c1- 2),([a2,b2],c2- 2),([a3,b3],c3- 2)]:=λp hp=>by
  rcases au.mp hp with rfl|hp
  ·exact row (c:=0) ha1 JZ
  rcases au.mp hp with rfl|hp
  ·exact row (c:=0) ha2 yQ
  rw[az.mp hp];exact row (c:=0) ha3 RX
 have ZL:dz ([([a1,b1],c1- 2),([a2,b2],c2- 2),([a3,b3],c3- 2)]:Rows)<=6:=by
  exact bz (R_ AG) (bz (R_ TL) (R_ hc3))
 have PW:([([a1,b1],c1- 2),([a2,b2],c2- 2),([a3,b3],c3- 2)]:Rows).length<=80000:=le rfl
 generalize([([a1,b1],c1- 2),([a2,b2],c2- 2),([a3,b3],c3- 2)]:Rows)=R at hR ZL PW⊢
 refine f6 (R:=R) rfl hR.mon PW λl pl=>?_
 let keep:V->Bool:=λv=>match v with|.int p=> !(gR (ev p (iO hs p)) R==0)|_=>false
 obtain⟨z,V1,VZ⟩:∃z:Bool,iG LO .eq (.a9 ((ps.map V.int).filter keep)) (.a9 [])=some z/\(z=true↔∀p∈ps,gR (ev p (iO hs p)) R=0):=by
  have Nt:(ps.map V.int).filter keep=[]↔∀p∈ps,gR (ev p (iO hs p)) R=0:=by
   rw[List.filter_eq_nil_iff]
   refine⟨λh p hp=>?_,λh v hv=>?_⟩
   ·have h1:¬(!(gR (ev p (iO hs p)) R==0))=true:=h (.int p) (aQ.mpr ⟨p,hp,rfl⟩)
    rw[Bool.not_eq_true,Bool.not_eq_false']at h1
    exact bt h1
   ·obtain⟨p,hp,rfl⟩:=aQ.mp hv
    show¬(!(gR (ev p (iO hs p)) R==0))=true
    rw[h p hp];decide
  rw[<-Nt]
  cases(ps.map V.int).filter keep with
  |nil=>exact⟨true,rfl,⟨λZ=>rfl,λZ=>rfl⟩⟩
  |cons a b=>exact⟨false,rfl,⟨nofun,nofun⟩⟩
 refine eP (PB (y:=.a9 []) (λJ R=>propext ⟨λh=>h.2,λh=>⟨le rfl,h⟩⟩) (oK rfl (jX rfl rfl (qZ keep _ [] _ (λv hv cB K' fe hK=>?_) (by rw[ag];exact fz (dy s7 rfl)) ⟨z,V1,?_⟩))))
 ·obtain⟨p,hp,rfl⟩:=aQ.mp hv
  have hp4:=hV.p p hp
  refine JK (zN (uA (x:=.bC l) rfl (ja (v:=.int p) rfl (cx (xs:=[.a9 (hs.map .int),.int p]) rfl (ma (x:=.a9 (hs.map .int)) rfl (dy TK rfl) (λh hh=>dy (hV.h h hh) rfl) (dy hp4 rfl)
   (uT (x:=.bC l) rfl pl (Ki ZL (by decide+kernel)) (dy hp4 rfl) (hV.v p hp) ⟨_,rfl,?_⟩))))))
  show(match V.bool (keep (.int p))with|.bool true=>_|.bool false=>_|_=>False)
  cases hb:keep (.int p)with
  |true=>rw[hb]at hK;exact⟨fe,trivial,hK⟩
  |false=>rw[hb]at hK;exact⟨trivial,hK⟩
 refine eP (oK rfl (jX rfl rfl (GB (ab:=ab) (al:=al) (λσ' p cB N' Kq b' Ec fe hK=>?_) ps LO [] _ _ B3 (ae (bz N3 s7) (le rfl)) (fz (dy s7 rfl)) λus X3 hus B4 O4=>?_)))
 ·refine JK (zN (cx (xs:=[.ref ab,.int 3]) rfl (eA b' (dy Ec rfl) (by decide) λv fm v0 v1 b2 o2=>⟨_,rfl,?_⟩)))
  have:=hK (decide ((0:Int)<v)) fm b2 o2
  show(match V.bool (decide ((0:Int)<v))with|.bool true=>_|.bool false=>_|_=>False)
  cases hd:decide ((0:Int)<v)with
  |true=>rw[hd]at this;exact⟨dy fe rfl,trivial,this⟩
  |false=>rw[hd]at this;exact⟨trivial,this⟩
 have nW:(sel ps us).length<=3:=ae (Ee ps us) s7
 have x5:∀p∈sel ps us,p.natAbs<=4:=λp hp=>hV.p p (Ef hp)
 have Kl:(sel ps us==ps)=true↔∀p∈ps,p∈sel ps us:=
  ⟨λh p hp=>by rw[bt h];exact hp,λh=>by rw[NF hV.nd hus.symm h];exact BEq.rfl⟩
 rw[cq]
 generalize sel ps us=s at nW x5 Kl⊢
 have Wh:Ak s<=125:=ae (Eg x5) (ae (bT (by decide) nW) (by decide))
 have Wi:dz (bY s)=Ak s:=by
  unfold bY
  rw[uX];exact Nat.one_mul _
 have hzS:=sk (ps:=s) nW
 refine eP (cx (xs:=[.a9 (s.map .int)]) rfl (gx (x:=.a9 (s.map .int)) rfl (λp hp=>dy (x5 p hp) rfl) (dy nW rfl) λlz pz=>?_))
 obtain⟨ad0,t1,D1,Zf⟩:=M.mem R hR (dy ZL rfl)
 obtain⟨ad1,t2,D2,ZM⟩:=M.mem (bY s) hzS (by rw[Wi];exact dy Wh rfl)
 have hev:(∀p∈ps,gR (ev p (iO hs p)) (bY s)=0)↔(s==ps)=true:=by
  rw[Kl]
  refine⟨λh p hp=>?_,λh p hp=>?_⟩
  ·have:=h p hp
   rw[qg]at this
   exact lR.mp this
  ·rw[qg];exact lR.mpr (h p hp)
 have hbb:∀{u z:Bool},(u=true↔z=true)->(!(u==z))=false:=λ{u z} h=>by
  have:u=z:=Bool.eq_iff_iff.mpr h
  rw[this,cv];rfl
 refine fG ?_ λQ q=>RK (M5 (y:=.bool z) (λZ Z=>rfl) (cx (xs:=[.bC l,.a9 Bv,.str o.name]) rfl (iq (x:=.bC l) (y:=.a9 Bv) (.inl rfl) rfl pl rfl G5 (λi g hg=>hB.get i g hg) M.gs Kj D1 λu hu=>⟨false,ao some (hbb (hu.trans (Zf.trans VZ.symm))),
  M5 (y:=.bool (s==ps)) (λJ R=>?_) (cx (xs:=[.bC lz,.a9 Bv,.str o.name]) rfl (iq (x:=.bC lz) (y:=.a9 Bv) (.inl rfl) rfl pz rfl G5 (λi g hg=>hB.get i g hg) M.gs Kj D2 λw hw=>⟨false,ao some (hbb (hw.trans (ZM.trans hev))),q⟩))⟩)))
 rotate_left
 ·show(match iG J .eq (.a9 (s.map .int)) (.a9 (ps.map .int))with|some z=>R (.bool z) J|none=>False)=_
  rw[so]
 have main:∀(K:V->St->Prop) (c:Int),K (.bool true) X3->c=(if(s==ps)=true then -1 else 0)->CA (j+9) "_law_sum" [.bC [([0,0],V.bZ [.int 1,.int 1])],.bC lz,.int c] X3 (λv J=>CA (j+9) "is_member" [v,.a9 Bv,.str o.name] J λv J=>∃b,v=.bool b/\K (.bool (!b)) J):=by
  intro K c hK hc
  have hcn:c.natAbs<=1:=by rw[hc];split<;>decide
  have hSh:si ([([0,0],1)]++eB c (bY s)):=λp hp=>by
   rcases bN.mp hp with hp|hp
   ·rw[az.mp hp];exact⟨0,0,rfl,bK _,bK _⟩
   ·exact Al hzS p hp
  have TM:dz ([([0,0],1)]++eB c (bY s))<=200:=by
   rw[lO,uZ,Wi]
   exact dy (aF (bE hcn Wh) 1) rfl
  obtain⟨ad2,t3,D3,X4⟩:=M.mem _ hSh TM
  refine lQ (x:=.bC _) (y:=.bC lz) rfl x8 rfl pz (ae hcn (by decide+kernel)) (λm=>XZ (Ki (N:=125) (by rw[Wi];exact Wh) (by decide+kernel) m)) λl3 p3=>?_
  refine iq (x:=.bC l3) (y:=.a9 Bv) (.inl rfl) rfl p3 rfl G5 (λi g hg=>hB.get i g hg) M.gs Kj D3 λw3 TA=>⟨w3,rfl,?_⟩
  have hf:w3=false:=by
   cases w3 with
   |false=>rfl
   |true=>
    have h0:=X4.mp (TA.mp rfl)
    obtain⟨p,hp⟩:∃p,p∈ps:=List.exists_mem_of_length_pos hV.pos
    have h1:=h0 p hp
    rw[lN,w9,qg]at h1
    have h2:gR (ev p (iO hs p)) [([0,0],1)]=1:=by
     show 1*(p^0*_^0)+0=(1:Int)
     rw[Int.pow_zero,Int.pow_zero];rfl
    rw[h2,hc]at h1
    by_cases hs:(s==ps)=true
    ·rw[ai hs,lR.mpr (Kl.mp hs p hp),Int.mul_zero]at h1
     cases h1
    ·rw[ah hs,Int.zero_mul]at h1
     cases h1
  subst hf
  exact hK
 have hc:∀{Y:du},Y[11]?=some (some (.a9 (s.map .int)))->Y[3]?=some (some (.a9 (ps.map .int)))->pv X3 Y (.ite (.cmp .eq (.aE 11) (.aE 3)) (.neg (.ck (.int 1))) (.ck (.int 0)))=some (.int (if(s==ps)=true then -1 else 0)):=λZx h3=>by
  refine cV (cV (Vz Zx) (cV (Vz h3) (cV (so s ps) rfl))) (cV rfl ?_)
  cases(s==ps)<;>rfl
 exact ff (VB (gK (cx (dM (x:=.bC [([0,0],V.bZ [.int 1,.int 1])]) rfl (dM (x:=.bC lz) rfl (dM (hc rfl rfl) rfl))) (main (λv J=>kQ K (.ret v) _ J) _ (cG (h _ (dJ7.trans O4))) rfl))))
end
abbrev dH(R:Rows):bM:=cX (aI R)
structure GC(o:e6)(B:List bM)(bs:aM)(r:Nat):Prop where
 gs:Gs 2 o B (cP bs)
 k4:B.length<=60
 two:∀m∈bs,m.length=2
 sp:∃(f:aM) (t:Nat) (s:List V),Sp bs [[0,0]] [] f t/\iV (f.map bj)=some (.a9 s)/\s.length=r
 r:r<=1000
noncomputable def tn(R:Rows):Rows:=R++eB 1 [([0,0],1)]
structure Wj(o:e6)(p h:Int):Prop where
 ex:∃(B:List bM) (bs:aM),Rb 2 o 200 [dH (dS (bY [p]) (bY [p])),dH (dK [h])] B/\GC o B bs 2/\
  ∃res t,Dv 2 o B (cP bs) (dH (bY [p])) (λZ=>0) res t/\¬∀k,res k=0
 yes:∃(B:List bM) (us:List Bool),Rb 3 .grevlex 200 [dH (d7 (dS (bY [p]) (bY [p]))),dH (d7 (dK [h])),dH (oo (bY [p]))] B/\B.length=us.length/\B.length<=100/\(∀(i:Nat) f u,B[i]?=some f->us[i]?=some u->uU 3 f u)/\us.any id=true
 no:∃(B:List bM) (us:List Bool),Rb 3 .grevlex 200 [dH (d7 (dS (bY [p]) (bY [p]))),dH (d7 (dK [h])),dH (oo (tn (bY [p])))] B/\B.length=us.length/\B.length<=100/\(∀(i:Nat) f u,B[i]?=some f->us[i]?=some u->uU 3 f u)/\us.any id=false
noncomputable def lT(v:Int):Rows:=[([0,1],1),([0,0],0- v)]
structure NG(p q:Int)(hs:List Int):Prop where
 ex:∃(B:List bM) (us:List Bool),Rb 3 .lex 200 [dH (nO (bY [p])),dH (nO (lT (iO hs p))),dH (kZ (bY [q])),dH (kZ (lT (iO hs q)))] B/\B.length=us.length/\B.length<=100/\
  (∀(i:Nat) f u,B[i]?=some f->us[i]?=some u->Ed f u)/\(∀f∈sel B us,∀k,f k≠0->∃r,k=0::r)/\Rb 2 .lex 200 [dH (bY [p,q]),dH (dK hs)] ((sel B us).map jr)
section
variable{n j:Nat}{J:St}{K:V->St->Prop}{x y:V}{l la lb:aN}{c e:List Int->Int}{f:bM}{o:e6}{B:List bM}{bs:aM}{ps hs:List Int}{Bv:List V}
theorem GC.len{r:Nat}(dJ6:GC o B bs r):B.length=bs.length:=
 dJ6.gs.len.trans (ag ..)
theorem Gs.Eh(gs:Gs n o B (cP bs)):∀(i:Nat) f m,B[i]?=some f->bs[i]?=some m->dn o f m:=λi f m h1 h2=>
 (gs.lead i f m 1 h1 (by unfold cP;rw[aA,h2];rfl)).1
theorem m5{R:Rows}(N:Nat)(L:List (Nat×Nat))(h:R.map (·.1)=L.map λq=>[(q.1:Int),(q.2:Int)])(h2:L.all (λq=>decide (q.1<4)&&decide (q.2<4))=true)(hN:dz R<=N)(X0:N<=10^50:=by decide+kernel):fq R:=
 ⟨λp hp=>by
  have hm:p.1∈R.map (·.1):=List.mem_map_of_mem hp
  rw[h]at hm
  obtain⟨q,hq,e⟩:=aQ.mp hm
  have:=av.mp h2 q hq
  rw[bp]at this
  exact⟨q.1,q.2,e.symm,bh this.1,bh this.2⟩,ae hN X0⟩
theorem m6{p:Int}(hp:p.natAbs<=4):dz (bY [p])<=10:=by
 show 1+(1*(0- p)).natAbs<=10
 rw[Int.one_mul,Int.zero_sub,cI]
 exact dy (aF hp 1) rfl
theorem i3(p:Int)(hp:p.natAbs<=4):fq (bY [p]):=m5 10 [(1,0),(0,0)] rfl rfl (m6 hp)
theorem ya(p:Int)(hp:p.natAbs<=4):fq (dS (bY [p]) (bY [p])):=
 m5 100 [(2,0),(1,0),(1,0),(0,0)] rfl rfl (by rw[lP];exact bE (m6 hp) (m6 hp))
theorem sr(v:Int)(hv:v.natAbs<=1000):fq (lT v):=m5 2000 [(0,1),(0,0)] rfl rfl (by
 show 1+(0- v).natAbs<=2000
 rw[Int.zero_sub,cI]
 exact dy (aF hv 1) rfl)
theorem yb(h:Int)(hh:h.natAbs<=2):fq (dK [h]):=m5 10 [(0,1),(0,0)] rfl rfl (by
 show 1+(0- h).natAbs<=10
 rw[Int.zero_sub,cI]
 exact dy (aF hh 1) rfl)
theorem Cn(p:Int)(hp:p.natAbs<=4):fq (tn (bY [p])):=m5 20 [(1,0),(0,0),(0,0)] rfl rfl (by
 show 1+((1*(0- p)).natAbs+1)<=20
 rw[Int.one_mul,Int.zero_sub,cI]
 exact dy (aF (cn hp 1) 1) rfl)
theorem fq.sz{R:Rows}(h:fq R)(m:List Int):(aI R m).natAbs<=10^300:=ae (hY R m) (ae h.2 (by decide+kernel))
theorem u0(p:Int):∀u∈bY [p],∀w∈bY [p],gc 2 (gn u.1 w.1):=λu hu w hw=>
 (show∀a∈[[(1:Int),0],[0,0]],∀b∈[[(1:Int),0],[0,0]],(gn a b).length=2/\∀i∈gn a b,0<=i/\i<((bd 2:Nat):Int) by decide) _ (List.mem_map_of_mem (f:=(·.1)) hu) _ (List.mem_map_of_mem (f:=(·.1)) hw)
theorem rg{R T:Rows}(h:fq R)(h2:fq T):∀U∈[R,T],fq U:=λU hU=>by
 rcases au.mp hU with rfl|hU
 ·exact h
 ·rw[az.mp hU];exact h2
theorem Ei{p:Int}{P:Int->Prop}(h:P p):∀q∈[p],P q:=λq hq=>(az.mp hq).symm▸h
section
variable{k:Nat}{Y:du}{a b:E}{Q:V->St->Prop}
theorem yc(P:Bool->St->Prop):(λ(x:V) (J:St)=>∃c,x=.bool c/\P c J)=λx J=>match x with
  |.bool c=>P c J
  |_=>False:=by
 funext x J
 refine propext ⟨λh=>?_,λh=>?_⟩
 ·obtain⟨c,h1,h2⟩:=h
  rw[h1];exact h2
 ·cases x with
  |bool c=>exact⟨c,rfl,h⟩
  |_=>exact h.elim
theorem Wm(h:wE (Wk k) k a Y J λx J=>∃c,x=.bool c/\(if c then wE (Wk k) k b Y J λy J=>∃d,y=.bool d/\Q (.bool d) J else Q (.bool false) J)):wE (Wk k) k (.and a b) Y J Q:=by
 have e:(λ(x:V) (J:St)=>match x with|.bool c=>(if c then wE (Wk k) k b Y J λy J=>(match y with|.bool c=>Q (.bool c) J|_=>False)else Q (.bool false) J)|_=>False)=λx J=>match x with
   |.bool true=>wE (Wk k) k b Y J λy J=>(match y with|.bool c=>Q (.bool c) J|_=>False)
   |.bool false=>Q (.bool false) J
   |_=>False:=by
  funext x J
  cases x with
  |bool c=>cases c<;>rfl
  |_=>rfl
 rw[yc]at h
 rw[yc λc J=>Q (.bool c) J]at h
 rw[e]at h;exact h
theorem Wn{o:GP}(h:wE (Wk k) k a Y J λx J=>wE (Wk k) k b Y J λy J=>∃c,iG J o x y=some c/\Q (.bool c) J):wE (Wk k) k (.cmp o a b) Y J Q:=by
 have e:(λ(x:V) (J:St)=>wE (Wk k) k b Y J λy J=>∃c,iG J o x y=some c/\Q (.bool c) J)=λx J=>wE (Wk k) k b Y J λy J=>match iG J o x y with|some z=>Q (.bool z) J|none=>False:=by
  funext x J
  refine ao (wE (Wk k) k b Y J) (funext λy=>funext λJ=>?_)
  exact(congrFun (congrFun (BK o y Q) x) J).symm
 rw[e]at h;exact h
theorem NH(x:V):(λ(y:V) (J:St)=>[x,y].length<=100000/\Q (.a9 [x,y]) J)=λy J=>Q (.a9 [x,y]) J:=by
 funext y J
 exact propext ⟨λh=>h.2,λh=>⟨le rfl,h⟩⟩
theorem Am(h:wE (Wk k) k a Y J λx J=>wE (Wk k) k b Y J λy J=>Q (.a9 [x,y]) J):wE (Wk k) k (.a9 false [a,b]) Y J Q:=by
 have e:(λx J=>wE (Wk k) k b Y J λy J=>Q (.a9 [x,y]) J)=λx J=>wE (Wk k) k b Y J λy J=>[x,y].length<=100000/\Q (.a9 [x,y]) J:=by
  funext x J;rw[NH]
 rw[e]at h;exact h
end
theorem lU{p h:Int}(hp:p.natAbs<=4)(hh:h.natAbs<=2)(H:Wj o p h)(hK:K (.bool true) J):CA (j+14) "_law_squared_right" [.str o.name,.a9 [.int p],.a9 [.int h]] J K:=by
 obtain⟨B,bs,Ej,St,res,t,hD,Sa⟩:=H.ex
 have G5:=St.len
 have Wo:B.length<=100:=dy St.k4 rfl
 obtain⟨f,t',s,ZN,Ad,nW⟩:=St.sp
 obtain⟨B1,us1,r1,l1,z1,f1,a1⟩:=H.yes
 obtain⟨B2,us2,r2,l2,z2,f2,a2⟩:=H.no
 have hSR:=rg (ya p hp) (yb h hh)
 refine enter n4 rfl (pX (l8 (cx (xs:=[.a9 [.int p]]) rfl (gx (ps:=[p]) (x:=.a9 [.int p]) rfl (Ei (dy hp rfl)) (le rfl) λlz pz=>
  cx (xs:=[.a9 [.int h]]) rfl (jO (H:=[h]) (x:=.a9 [.int h]) rfl (le rfl) λla pa=>⟨_,_,rfl,rfl,?_⟩)))))
 refine eP (Am (cx (xs:=[.bC lz,.bC lz]) rfl (mX (x:=.bC lz) (y:=.bC lz) rfl pz rfl pz (u0 p) (i3 p hp).sz (i3 p hp).sz λlq pq=>ja (v:=.bC la) rfl ?_)))
 have hS:gp 2 [.bC lq,.bC la] ([dS (bY [p]) (bY [p]),dK [h]].map dH):=⟨⟨lq,rfl,pq⟩,⟨la,rfl,pa⟩,trivial⟩
 refine Vy (xs:=[.a9 [.bC lq,.bC la],.str o.name,.int 200]) rfl (eS (ew:=200) (x:=.a9 [.bC lq,.bC la]) (.inl rfl) rfl hS Ej λKv Wr=>?_)
 have LP:=Wr.len
 refine fG (σ':=J) ?_ λQ q=>RK (M5 (y:=.int 2) (λZ Z=>propext ⟨λh=>h.2,λh=>⟨trivial,h⟩⟩) (mM (cx (xs:=[.a9 Kv,.str o.name,.int 2]) rfl (iZ (x:=.a9 Kv) rfl Wr G5 St.gs.Eh Wo St.two ZN Ad (ae (aP nW) (le rfl))
  ⟨_,q6 (l:=s) rfl (ae (aP nW) (le rfl)),trivial,false,by rw[nW];rfl,cx (xs:=[.bC lz,.a9 Kv,.str o.name]) rfl (iq (x:=.bC lz) (y:=.a9 Kv) (.inl rfl) rfl pz rfl LP (λi g hg=>Wr.get i g hg) St.gs Wo hD λb hb=>?_)⟩))))
 rotate_left
 ·cases b with
  |false=>exact q
  |true=>exact aG (hb.mp rfl) Sa
 refine ff (Wm (cx (xs:=[.bC lz,.a9 [.bC lq,.bC la],.int 2,.int 200]) rfl (jP (ew:=200) (SR:=[dS (bY [p]) (bY [p]),dK [h]]) (x:=.bC lz) (y:=.a9 [.bC lq,.bC la]) rfl pz (i3 p hp) rfl hS hSR (le rfl) r1 l1 z1 f1 ⟨true,ao V.bool a1,?_⟩)))
 rw[ai rfl]
 refine VB (gK (cx (xs:=[.bC lz,.bC [([0,0],.bZ [.int 1,.int 1])],.int 1]) rfl (lQ (x:=.bC lz) (y:=.bC _) rfl pz rfl x8 (by decide+kernel) (λm=>ae (hY [([0,0],1)] m) (by decide+kernel)) λl3 p3=>?_)))
 exact jP (ew:=200) (SR:=[dS (bY [p]) (bY [p]),dK [h]]) (x:=.bC l3) (y:=.a9 [.bC lq,.bC la]) rfl p3 (Cn p hp) rfl hS hSR (le rfl) r2 l2 z2 f2 ⟨false,ao V.bool a2,⟨true,rfl,cG hK⟩⟩
theorem mj{p q:Int}(hp:p.natAbs<=4)(hq:q.natAbs<=4)(hl:hs.length<=3)(hh:∀h∈hs,h.natAbs<=2)(h1:(iO hs p).natAbs<=1000)(h2:(iO hs q).natAbs<=1000)(H:NG p q hs)(hK:K (.bool true) J):
  CA (j+14) "_law_common_right" [.a9 [.int p,.int q],.a9 (hs.map .int)] J K:=by
 obtain⟨B,us,r1,l1,z1,f1,s1,r2⟩:=H.ex
 have GV:hs.length<=10:=dy hl rfl
 have lot:∀(r:Int) {P:V->St->Prop},r.natAbs<=4->(iO hs r).natAbs<=1000->(∀Lv,gp 2 Lv ([bY [r],lT (iO hs r)].map dH)->P (.a9 Lv) J)->
   wE (Wk (j+13)) (j+13) (.a9 false [.call "_law_zeros" [.a9 false [.aE 2]],.call "_law_made" [.a9 false [.bZ [.bZ [.ck (.int 0),.ck (.int 1)],.ck (.int 1)],.bZ [.bZ [.ck (.int 0),.ck (.int 0)],.bin .sub (.ck (.int 0)) (.call "_law_height" [.aE 1,.aE 2])]]]]) [some (.a9 [.int p,.int q]),some (.a9 (hs.map .int)),some (.int r),none] J P:=
  λr P hp h1 hQ=>Am (cx (xs:=[.a9 [.int r]]) rfl (gx (ps:=[r]) (x:=.a9 [.int r]) rfl (Ei (dy hp rfl)) (le rfl) λlz pz=>
   gK (Am (ja (v:=kY ([0,1],1)) rfl (l8 (ja (v:=bj [0,0]) rfl (DN (v:=.int 0) rfl (cx (xs:=[.a9 (hs.map .int),.int r]) rfl (ma (x:=.a9 (hs.map .int)) rfl GV (λh hm=>dy (hh h hm) rfl) (dy hp rfl)
    ⟨_,rfl,f6 (R:=lT (iO hs r)) rfl (λr' hr=>by
     rcases au.mp hr with rfl|hr
     ·exact⟨rfl,show∀i∈([0,1]:List Int),0<=i/\i<((bd 2:Nat):Int) by decide⟩
     ·rw[az.mp hr];exact⟨rfl,show∀i∈([0,0]:List Int),0<=i/\i<((bd 2:Nat):Int) by decide⟩) (le rfl) λl2 p2=>hQ [.bC lz,.bC l2] ⟨⟨lz,rfl,pz⟩,⟨l2,rfl,p2⟩,trivial⟩⟩)))))))))
 refine enter oI rfl (eP (oK rfl (jX (x:=.a9 [.int p,.int q]) rfl rfl (VA (iA (lot p hp h1 λLp hLp=>⟨le rfl,trivial,VA (iA (lot q hq h2 λLq hLq=>⟨le rfl,trivial,?_⟩))⟩))))))
 refine ff (Wn (cx (xs:=[.a9 Lp,.a9 Lq,.int 2,.int 200]) rfl (x_ (ew:=200) (SR:=[bY [p],lT (iO hs p)]) (TR:=[bY [q],lT (iO hs q)]) (x:=.a9 Lp) (y:=.a9 Lq) rfl hLp rfl hLq (rg (i3 p hp) (sr _ h1)) (rg (i3 q hq) (sr _ h2)) ⟨le rfl,le rfl⟩ r1 l1 z1 f1 s1 λNv hN=>?_)))
 refine gK (Am (cx (xs:=[.a9 [.int p,.int q]]) rfl (gx (ps:=[p,q]) (x:=.a9 [.int p,.int q]) rfl (λr hr=>?_) (le rfl) λlz pz=>cx (xs:=[.a9 (hs.map .int)]) rfl (jO (x:=.a9 (hs.map .int)) rfl (dy hl rfl) λla pa=>?_))))
 ·rcases au.mp hr with rfl|hr
  ·exact dy hp rfl
  ·rw[az.mp hr];exact dy hq rfl
 exact eS (o:=.lex) (ew:=200) (dJ6:=[dH (bY [p,q]),dH (dK hs)]) (x:=.a9 [.bC lz,.bC la]) (.inl rfl) rfl ⟨⟨lz,rfl,pz⟩,⟨la,rfl,pa⟩,trivial⟩ r2 λKv Wr=>⟨true,Wg 2 hN Wr,cG hK⟩
end
noncomputable def jQ:Nat->Int->aM
 |0,_=>[[]]
 |n+1,x=>(jQ n (x+1+0)).map (λr=>(x+1+0)::r)++(jQ n (x+1+1)).map λr=>(x+1+1)::r
noncomputable def lV:Nat->aM
 |0=>[[]]
 |n+1=>[-2, -1,0,1,2].flatMap λh=>(lV n).map λr=>h::r
structure Cp(o:e6)(ps hs:List Int)(c:Int):Prop where
 ex:∃(B:List bM) (bs:aM),Rb 2 o 200 [dH (bY ps++eB c (dK hs)),dH (dK hs)] B/\GC o B bs ps.length/\J_ bs=true/\Kh o B bs ps hs
structure Ek:Prop where
 vd:∀n ps hs,1<=n->n<=3->ps∈jQ n (-2)->hs∈lV n->Vd ps hs
 ca:∀n ps hs o c,1<=n->n<=3->ps∈jQ n (-2)->hs∈lV n->(c=0\/c=1\/c=2)->Cp o ps hs c
 sq:∀p h o,[p]∈jQ 1 (-2)->[h]∈lV 1->Wj o p h
 cm:∀p q hs,[p,q]∈jQ 2 (-2)->hs∈lV 2->NG p q hs
structure LI(J σ':St)(ab al ap:Addr)(N:Nat)(cB:List Int):Prop where
 base:∀b q,aY J b=some q->aY σ' b=some q
 box:Bx σ' ab al N
 at_:∃ob,aY σ' ap=some (ob,V.a9 (cB.map .int))
 nb:aY J ab=none
 nl:aY J al=none
 np:aY J ap=none
 pb:ap≠ab
 pl:ap≠al
noncomputable abbrev plB:List dJ6:=[.asg 3 (.bin .add (.bin .add (.aE 3) (.ck (.int 1))) (.call "_law_take" [.aE 1,.ck (.int 2)])),.ex (.met .append (.aE 4) [.aE 3])]
section
variable{n j:Nat}{J σ' σ₀ mh:St}{K:V->St->Prop}{x y z:V}{ab al ap:Addr}{N:Nat}{o:Obj}
theorem Bx.of(b:Bx J ab al N)(h1:aY σ' ab=aY J ab)(h2:aY σ' al=aY J al):Bx σ' ab al N:=
 ⟨b.ex.imp λob h=>h.imp λol h=>h.imp λL h=>h.imp λc h=>h.imp λs g=>⟨h1.trans g.1,h2.trans g.2.1,g.2.2⟩,b.ne⟩
theorem rj(nb:aY J ab=none)(nl:aY J al=none)(h:Sub J σ')(dJ7:mi σ' mh ab al):Sub J mh:=λb q hb=>(dJ7 b (f_ nb hb) (f_ nl hb)).trans (h b q hb)
theorem LI.push{cB:List Int}{w:Int}(I:LI J σ' ab al ap N cB)(B1:Bx mh ab al (N+1))(O1:mi σ' mh ab al){ob:Obj}(h:aY mh ap=some (ob,V.a9 (cB.map .int))):LI J (gN mh ap o (.a9 ((cB++[w]).map .int))) ab al ap (N+1) (cB++[w]):=
 ⟨λb q hb=>(fJ (f_ I.np hb)).trans (rj I.nb I.nl I.base O1 b q hb),B1.of (fJ I.pb.symm) (fJ I.pl.symm),⟨o,kR h⟩,I.nb,I.nl,I.np,I.pb,I.pl⟩
theorem ZO{l:List Int}(h:l.length<=900):ey (.a9 (l.map .int)):=ae (aP (ag ..)) (dy h rfl)
theorem Cq{Qf:Fl->du->St->Prop}{M:Int}:∀(aq:List V) (z:Int) (cB:List Int) (σ':St) (N:Nat) (r5:Option V),LI J σ' ab al ap N cB->N+aq.length<=900->cB.length+aq.length<=900->
   (∀(ps:List Int) (z':Int) vI ZP,ps∈jQ aq.length z->LI J vI ab al ap (N+aq.length) (cB++ps)->Qf .next [some x,some (.ref ab),some (.int M),some (.int z'),some (.ref ap),ZP,none,none,none,none,none,none] vI)->
   eg (eI (j+14) (.one 5) plB σ₀ (.int M)) aq [some x,some (.ref ab),some (.int M),some (.int z),some (.ref ap),r5,none,none,none,none,none,none] σ' Qf:=by
 intro aq
 induction aq with
 |nil=>exactλz cB σ' N r5 I Z Z h=>h [] z σ' r5 (.head _) (by rw[bD];exact I)
 |cons v aq ih=>
  intro z cB σ' N r5 I hN hz h
  obtain⟨ob,Km⟩:=I.at_
  refine zP (vE (eP (DN (v:=.int (z+1)) rfl (cx (xs:=[.ref ab,.int 2]) rfl (eA I.box (dy (ae (aS _ _) hN) rfl) (by decide) λd mh d0 d1 B1 O1=>⟨.int (z+1+d),rfl,?_⟩)))))
  have Ws:aY mh ap=some (ob,V.a9 (cB.map .int)):=(O1 ap I.pb I.pl).trans Km
  have hl:(cB++[z+1+d]).length+aq.length<=900:=by rw[jq cB (z+1+d) v aq];exact hz
  have Ec:N+1+aq.length<=900:=by rw[bW];exact hN
  refine DQ (mN (m:=.append) (xs:=[.int (z+1+d)]) (c':=.a9 ((cB++[z+1+d]).map .int)) (r:=.none) rfl Ws rfl rfl (by rw[b8];rfl) (ZO (ae (aS _ _) hz)) (ZO (ae (aS _ _) hl)) λo1=>
   ⟨trivial,ih (z+1+d) _ _ (N+1) _ (I.push B1 O1 Ws) Ec hl λps z' vI ZP AH I3=>h ((z+1+d)::ps) z' vI ZP ?_ ?_⟩)
  ·rcases(show d=0\/d=1 from Np (c:=d) 2 d0 d1 (by decide))with rfl|rfl
   ·exact List.mem_append_left _ (List.mem_map_of_mem AH)
   ·exact List.mem_append_right _ (List.mem_map_of_mem AH)
  ·rw[bx,bW]at I3
   exact I3
theorem GD{body:V->St->List V->(St->List V->Prop)->Prop}(hb:∀(J:St) (v:V) (cB:List V) N Kq,Bx J ab al N->N<=950->cB.length<=1000->(∀(h:Int) σ',h∈[(-2:Int), -1,0,1,2]->Bx σ' ab al (N+1)->mi J σ' ab al->Kq σ' (cB++[.int h]))->body v J cB Kq):
  ∀(aq:List V) (J:St) (cB:List V) (N:Nat) (K:St->List V->Prop),Bx J ab al N->N+aq.length<=950->cB.length+aq.length<=900->(∀hs σ',hs∈lV aq.length->Bx σ' ab al (N+aq.length)->mi J σ' ab al->K σ' (cB++hs.map .int))->iter body aq J cB K:=by
 intro aq
 induction aq with
 |nil=>
  intro J cB N K b _ _ h
  have:=h [] J (.head _) b (mi.refl _ _ _)
  rw[List.map_nil,bD]at this
  exact this
 |cons v aq ih=>
  intro J cB N K b hN hz h
  refine hb J v cB N _ b (ae (aS _ _) hN) (dy (ae (aS _ _) hz) rfl) λu mh hu b1 o1=>?_
  refine ih mh _ (N+1) K b1 (by rw[bW];exact hN) (by rw[jq cB (V.int u) v aq];exact hz) λhs vI hh b2 o2=>?_
  rw[bx]
  rw[bW]at b2
  exact h (u::hs) vI (List.mem_flatMap.mpr ⟨u,hu,List.mem_map_of_mem hh⟩) b2 (o1.trans o2)
theorem qh:∀(n:Nat) (x:Int) (ps:List Int),ps∈jQ n x->ps.length=n
 |0,x,ps,h=>by rw[az.mp h];rfl
 |n+1,x,ps,h=>by
  have c:∀{y:Int},ps∈(jQ n y).map (λr=>y::r)->ps.length=n+1:=λh=>by
   obtain⟨r,hr,e⟩:=aQ.mp h
   rw[<-e];exact ao Nat.succ (qh n _ r hr)
  exact(bN.mp h).elim c c
theorem u3:∀(n:Nat) (hs:List Int),hs∈lV n->hs.length=n
 |0,hs,h=>by rw[az.mp h];rfl
 |n+1,hs,h=>by
  obtain⟨u,_,h⟩:=List.mem_flatMap.mp h
  obtain⟨r,hr,e⟩:=aQ.mp h
  rw[<-e];exact ao Nat.succ (u3 n r hr)
theorem Wt(v:Int)(h0:0<=v)(h1:v<3):∃o:e6,∀J:St,iT J (.bZ [.str "lex",.str "grlex",.str "grevlex"]) (.int v)=some (.str o.name):=by
 rcases(show v=0\/v=1\/v=2 from Np (c:=v) 3 h0 h1 (by decide))with rfl|rfl|rfl
 ·exact⟨.lex,λZ=>rfl⟩
 ·exact⟨.mQ,λZ=>rfl⟩
 ·exact⟨.grevlex,λZ=>rfl⟩
theorem An(H:List Int):∀(i:Nat),(∀h∈H,h.natAbs<=2)->dz (jN i H)<=2*H.length:=by
 induction H with
 |nil=>exactλZ Z=>bc _
 |cons h H ih=>
  intro i hh
  show(0- h).natAbs+dz (jN (i+1) H)<=2*(H.length+1)
  rw[Int.zero_sub,cI,Nat.mul_succ,Nat.add_comm]
  exact bz (ih (i+1) λg hg=>hh g (.tail _ hg)) (hh h (.head _))
theorem u4{H:List Int}(hl:H.length<=3)(hh:∀h∈H,h.natAbs<=2):dz (dK H)<=10:=by
 have:=An H 0 hh
 exact dy (aF (ae this (cb 2 hl)) 1) rfl
end
section
variable{n j k:Nat}{J:St}{K:V->St->Prop}{x y:V}{e:E}{r:List E}{Y:du}{Q:V->St->Prop}{Qs:List V->St->Prop}
theorem Wu(h:wE (Wk k) k e Y J λx J=>vq (Wk k) k r Y J λxs J=>(x::xs).length<=100000/\∀(a:Addr) (o:Obj),aY J a=none->Q (.ref a) ((a,o,.a9 (x::xs))::J)):wE (Wk k) k (.a9 true (e::r)) Y J Q:=h
theorem Wv(h:wE (Wk k) k e Y J λx J=>vq (Wk k) k r Y J λxs J=>(x::xs).length<=100000/\Q (.bZ (x::xs)) J):wE (Wk k) k (.bZ (e::r)) Y J Q:=h
theorem wsC(h:wE (Wk k) k e Y J λx J=>vq (Wk k) k r Y J λxs J=>Qs (x::xs) J):vq (Wk k) k (e::r) Y J Qs:=h
theorem Ww{i:Nat}{d:Addr}{o:Obj}{z:V}{r:List dJ6}{Q:Fl->du->St->Prop}(hρ:Y[i]?=some (some (.ref d)))(hl:aY J d=some (o,z))(h:fN (Wk k) k r (Y.set i (some z)) (del J d) Q):fN (Wk k) k (.yJ i::r) Y J Q:=by
 show(match Y[i]? with
  |some (some (.ref d))=>match aY J d with
   |some (_,z)=>fN (Wk k) k r (Y.set i (some z)) (del J d) Q
   |none=>False
  |_=>False)
 rw[hρ];dsimp only;rw[hl];exact h
theorem GF(l:List Int):vp J .sum [.a9 (l.map V.int)]=some (.int (eX l)):=by
 show(xe (l.map V.int)).map V.int=_
 rw[p6];rfl
theorem Wx{f:Str}{l:List E}{xs:List V}{t r:List dJ6}{Q:Fl->du->St->Prop}(hl:xW J Y l=some xs)(h:CA k f xs J λv J=>∃b,v=.bool b/\(if(!b)=true then fN (Wk k) k t Y J (qt k r Q)else fN (Wk k) k r Y J Q)):fN (Wk k) k (.ifs (.not (.call f l)) t []::r) Y J Q:=
 lD rfl l hl (by rw[yc λb J=>if(!b)=true then fN (Wk k) k t Y J (qt k r Q)else fN (Wk k) k r Y J Q]at h;exact h)
theorem ZQ{a b:E}(h:pv J Y a=some (.bool false))(q:wE (Wk k) k b Y J λy J=>∃d,y=.bool d/\Q (.bool d) J):wE (Wk k) k (.or a b) Y J Q:=by
 rw[yc λc J=>Q (.bool c) J]at q
 exact ja (Q:=λx J=>match x with
   |.bool false=>wE (Wk k) k b Y J λy J=>(match y with|.bool c=>Q (.bool c) J|_=>False)
   |.bool true=>Q (.bool true) J
   |_=>False) h q
theorem ZR{w:Int}(h0:0<=w)(h1:w<5):w- 2∈[(-2:Int), -1,0,1,2]:=by
 exact Np (P:=λw=>w- 2∈[(-2:Int), -1,0,1,2]) 5 h0 h1 (by decide)
theorem Wy{xs:V}{a:E}(hl:pv J Y a=some xs)(h:wE (Wk k) k e Y J λj J=>∃z,iT J xs j=some z/\Q z J):wE (Wk k) k (.sub a e) Y J Q:=by
 have e2:(λ(j:V) (J:St)=>∃z,iT J xs j=some z/\Q z J)=λj J=>match iT J xs j with|some z=>Q z J|none=>False:=funext λj=>funext λJ=>(congrFun (congrFun (JF j Q) xs) J).symm
 rw[e2]at h
 exact ja (Q:=λx J=>wE (Wk k) k e Y J λy J=>match iT J x y with|some z=>Q z J|none=>False) hl h
theorem NI(F:Ek){v z9 z10 z11 z1:V}{ps hs:List Int}{o:e6}{r5:Option V}{σ':St}(Bm:1<=n)(hX:n<=3)(AH:ps∈jQ n (-2))(G6:hs∈lV n)(b:Sub J σ')(h:K (.bool true) J):
  fN (Wk (j+14)) (j+14) (zA.body.drop 9) [some v,some z1,some (.int (n:Int)),some x,some (.a9 (ps.map .int)),r5,none,some (.a9 (hs.map .int)),some (.str o.name),some z9,some z10,some z11] σ' (kQ K):=by
 have s7:=qh n _ ps AH
 have TK:=u3 n hs G6
 have hV:=F.vd n ps hs Bm hX AH G6
 rcases(show n=1\/n=2\/n=3 from M8 (P:=λn=>n=1\/n=2\/n=3) Bm hX (.inl rfl) (.inr (.inl rfl)) (.inr (.inr rfl)))with rfl|rfl|rfl
 ·obtain⟨p,rfl⟩:=List.length_eq_one_iff.mp s7
  obtain⟨g,rfl⟩:=List.length_eq_one_iff.mp TK
  exact fV (σ':=σ') (zO (r:=[]) (xs:=[.str o.name,.a9 [.int p],.a9 [.int g]]) rfl (lU (hV.p p (.head _)) (hV.h g (.head _)) (F.sq p g o AH G6) ⟨J,b,h⟩)) λQ q=>oJ rfl q
 ·obtain⟨p,q,rfl⟩:=jH s7
  exact fG (σ':=σ') (ff (r:=[]) (ZQ rfl (cx (xs:=[.a9 [.int p,.int q],.a9 (hs.map .int)]) rfl (mj (hV.p p (.head _)) (hV.p q (.tail _ (.head _))) (ae (aP TK) (le rfl)) hV.h (hV.v p (.head _)) (hV.v q (.tail _ (.head _))) (F.cm p q hs AH G6) ⟨true,rfl,J,b,h⟩)))) λQ q=>oJ rfl q
 ·exact fG (σ':=σ') (pY (r:=[]) rfl ⟨J,b,h⟩) λQ q=>oJ rfl q
abbrev NJ:List dJ6:=zA.body.drop 5
theorem Kn(F:Ek){v:V}{ab al:Addr}{N:Nat}{ps hs:List Int}{o:e6}{r5:Option V}{σ':St}(Bm:1<=n)(hX:n<=3)(AH:ps∈jQ n (-2))(G6:hs∈lV n)(B5:Bx σ' ab al N)(hN:N<=700)(nb:aY J ab=none)(nl:aY J al=none)(Wz:Sub J σ')(h:K (.bool true) J):
  fN (Wk (j+14)) (j+14) NJ [some v,some (.ref ab),some (.int (n:Int)),some x,some (.a9 (ps.map .int)),r5,none,some (.a9 (hs.map .int)),some (.str o.name),none,none,none] σ' (kQ K):=by
 have s7:=qh n _ ps AH
 have TK:=u3 n hs G6
 have hV:=F.vd n ps hs Bm hX AH G6
 have hh3:hs.length<=3:=ae (aP TK) hX
 have ml:dz (dK hs)<=10:=u4 hh3 hV.h
 refine pX (l8 (cx (xs:=[.a9 (ps.map .int)]) rfl (gx (ps:=ps) (x:=.a9 (ps.map .int)) rfl (λp hp=>dy (hV.p p hp) rfl) (dy hV.k4 rfl) λlz pz=>
  cx (xs:=[.a9 (hs.map .int)]) rfl (jO (H:=hs) (x:=.a9 (hs.map .int)) rfl (dy hh3 rfl) λla pa=>⟨_,_,rfl,rfl,?_⟩))))
 refine eP (gK (Am (uA (x:=.bC lz) rfl (ja (v:=.bC la) rfl (cx (xs:=[.ref ab,.int 3]) rfl (eA B5 (dy hN rfl) (by decide) λc σ6 c0 c1 B6 O6=>?_))))))
 have hc:c=0\/c=1\/c=2:=Np (c:=c) 3 c0 c1 (by decide)
 have WA:=rj nb nl Wz O6
 obtain⟨B,bs,Ej,Sk,u5,M⟩:=(F.ca n ps hs o c Bm hX AH G6 hc).ex
 have G5:=Sk.len
 have Wo:B.length<=100:=dy Sk.k4 rfl
 obtain⟨f,t',s,ZN,Ad,nW⟩:=Sk.sp
 have ZS:s.length=n:=nW.trans s7
 refine lQ (x:=.bC lz) (y:=.bC la) rfl pz rfl pa (ae (Np (P:=λc=>c.natAbs<=10) 3 c0 c1 (by decide)) (by decide+kernel)) (λm=>ae (hY _ m) (ae ml (by decide+kernel))) λlm pm=>ja (v:=.bC la) rfl ?_
 refine lD rfl _ (xs:=[.str o.name,.int 200]) rfl (eS (o:=o) (ew:=200) (dJ6:=[dH (bY ps++eB c (dK hs)),dH (dK hs)]) (x:=.a9 [.bC lm,.bC la]) (.inl rfl) rfl ⟨⟨lm,rfl,pm⟩,⟨la,rfl,pa⟩,trivial⟩ Ej λBv hB=>?_)
 refine fG (σ':=σ6) ?_ λQ q=>RK (M1 (cx (xs:=[.a9 Bv,.str o.name,.int 2]) rfl (uM (x:=.a9 Bv) rfl hB G5 Sk.gs.Eh Wo Sk.two ?_)))
 rotate_left
 ·rw[u5]
  refine M5 (y:=.int (n:Int)) (λZ Z=>rfl) (mM (cx (xs:=[.a9 Bv,.str o.name,.int 2]) rfl (iZ (x:=.a9 Bv) rfl hB G5 Sk.gs.Eh Wo Sk.two ZN Ad (ae (aP ZS) (dy hX rfl)) ⟨_,q6 (l:=s) rfl (ae (aP ZS) (dy hX rfl)),trivial,false,?_,q⟩)))
  rw[ZS]
  exact ao (λb=>some (!b)) (cv (n:Int))
 exact Wx (xs:=[.ref ab,.a9 Bv,.str o.name,.a9 (ps.map .int),.a9 (hs.map .int)]) rfl (lS (j:=j+4) B6 (dy (aL hN) rfl) hV hB M λσ7 O7=>⟨true,rfl,show fN (Wk (j+14)) (j+14) (zA.body.drop 9) _ σ7 _ from NI F Bm hX AH G6 (rj nb nl WA O7) h⟩)
theorem Ko(F:Ek){L:List Int}(hL:L.length<=1000)(h:K (.bool true) J):CA (j+15) "law" [.a9 (L.map .int)] J K:=by
 have ZT:(L.take 30).length<=30:=ae (aP List.length_take) (Nat.min_le_left _ _)
 have WB:∀J:St,(kz J (.a9 (L.map V.int)) none (some (.int 30))).bind uz=some (.a9 ((L.take 30).map V.int)):=λJ=>by
  rw[List.map_take]
  exact uJ (ae (aP (ag ..)) (dy hL rfl)) 30
 have DX:ey (V.a9 ((L.take 30).map V.int)):=ZO (dy ZT rfl)
 have hm:=Cj (w:=997) (by decide) (eX (L.take 30))
 have LM:=rf (a:=eX (L.take 30)) (w:=997) (by decide)
 refine enter Vg rfl (eP (Wu (mM (ja (v:=.a9 ((L.take 30).map V.int)) (cV rfl (cV rfl (cV rfl (WB J)))) ⟨_,rfl,DX,λal sV G4=>?_⟩))))
 refine lD rfl _ (dM (x:=.int 0) rfl (dM (cV (cV (dM (cV rfl (cV rfl (cV rfl (WB _)))) rfl) (cV (GF (L.take 30)) rfl)) (cV rfl hm)) rfl)) ⟨le rfl,λab Tx xn=>?_⟩
 generalize(eX (L.take 30)).fmod 997=s0 at LM xn⊢
 generalize L.take 30=T at ZT xn⊢
 have lal:aY ((al,sV,V.a9 (T.map V.int))::J) al=some (sV,.a9 (T.map V.int)):=lE
 have gO:ab≠al:=λe=>by rw[e,lal]at xn;cases xn
 have PX:Sub J ((ab,Tx,V.a9 [.ref al,.int 0,.int s0])::(al,sV,V.a9 (T.map V.int))::J):=λb q hb=>eW xn (eW G4 hb)
 have nb:aY J ab=none:=mP (λb q hb=>eW G4 hb) xn
 have B0:Bx ((ab,Tx,V.a9 [.ref al,.int 0,.int s0])::(al,sV,V.a9 (T.map V.int))::J) ab al 0:=
  ⟨⟨Tx,sV,T,0,s0,lE,eW xn lal,ZT,bc _,LM⟩,gO⟩
 generalize(ab,Tx,V.a9 [.ref al,.int 0,.int s0])::(al,sV,V.a9 (T.map V.int))::J=σ0 at PX B0⊢
 refine pX (Wv (DN (v:=.int 1) rfl (cx (xs:=[.ref ab,.int 3]) rfl (eA B0 (le rfl) (by decide) λd mh d0 d1 B1 O1=>?_))))
 obtain⟨n,hn,Bm,hX⟩:∃n:Nat,(1:Int)+d=(n:Int)/\1<=n/\n<=3:=Np (c:=d) 3 d0 d1 λk hk=>⟨1+k,rfl,aS 1 k,aF (Nat.le_of_lt_succ hk) 1⟩
 have PY:=rj nb G4 PX O1
 refine⟨.int (n:Int),ao (λz=>some (V.int z)) hn,wsC (ja (v:=.int (0- 2)) rfl (wsC ⟨le rfl,λap obp Km=>⟨le rfl,_,_,rfl,rfl,?_⟩⟩))⟩
 have I1:LI J ((ap,obp,V.a9 [])::mh) ab al ap 1 []:=by
  obtain⟨ob,ol,L',c,s,g1,g2,_⟩:=B1.ex
  have p1:=(f_ Km g1).symm
  have p2:=(f_ Km g2).symm
  exact⟨λb q hb=>eW Km (PY b q hb),B1.of (ah p1.symm) (ah p2.symm),⟨obp,lE⟩,nb,G4,mP PY Km,p1,p2⟩
 have hrl:(fj n).length=n:=by unfold fj;rw[ag,cS]
 have X4:(fj n).length<=3:=ae (aP hrl) hX
 refine M3 (N:=n) rfl (dy hX rfl) (Cq (fj n) (0- 2) [] _ 1 none I1 (ae (aF X4 1) (le rfl)) (ae (aF X4 0) (le rfl)) λps z' vI r5 AH I2=>?_)
 rw[hrl]at AH I2
 have s7:=qh n _ ps AH
 obtain⟨ad3,ZU⟩:=I2.at_
 refine Ww rfl ZU ?_
 have B3:Bx (del vI ap) ab al (1+n):=I2.box.of (e9 I2.pb.symm) (e9 I2.pl.symm)
 have PZ:Sub J (del vI ap):=λb q hb=>(e9 (f_ I2.np hb)).trans (I2.base b q hb)
 generalize del vI ap=LO at B3 PZ⊢
 have LJ:(ps.map V.int).length=n:=(ag ..).trans s7
 have hm3:(ps.map V.int).length<=3:=ae (aP LJ) hX
 refine pX (l8 (oK rfl (jX (x:=.a9 (ps.map .int)) rfl rfl (GD (ab:=ab) (al:=al) (λσ' v cB N' Kq b' Ec fe hK=>?_) (ps.map V.int) LO [] _ _ B3 (ae (bz (aF hX 1) hm3) (le rfl)) (ae (aF hm3 0) (le rfl)) λhs X3 G6 B4 O4=>?_))))
 ·exact iA (PG (cx (xs:=[.ref ab,.int 5]) rfl (eA b' (dy Ec rfl) (by decide) λw fm w0 w1 b2 o2=>⟨_,rfl,dy fe rfl,trivial,hK (w- 2) fm (ZR w0 w1) b2 o2⟩)))
 rw[LJ]at G6 B4
 refine Wy rfl (cx (xs:=[.ref ab,.int 3]) rfl (eA B4 (ae (bz (aF hX 1) hX) (le rfl)) (by decide) λv σ5 v0 v1 B5 O5=>?_))
 obtain⟨o,ho⟩:=Wt v v0 v1
 exact⟨_,ho σ5,_,_,rfl,rfl,Kn F Bm hX AH G6 B5 (ae (aL (bz (aF hX 1) hX)) (le rfl)) nb G4 (rj nb G4 (rj nb G4 PZ O4) O5) h⟩
end
noncomputable section
inductive Pq|z|t(i c:Nat)(r:Pq)
inductive Bq|z|t(l e:Nat)(p:Pq)(r:Bq)
inductive Wq|z|t(a b j:Nat)(r:Wq)
inductive Nq|z|t(i:Nat)(r:Nq)
noncomputable def G7{α:Type}(n:Nat)(k:Nat->α):α:=Nat.rec (motive:=λZ=>α) (k 0) (λm Z=>k (Nat.succ m)) n
noncomputable def vN(M:Nat)(L:Pq):Nat->Bool:=Pq.rec (motive:=λZ=>Nat->Bool) (λZ=>true)
 (λi c r ih p=>Bool.rec (motive:=λZ=>Bool) false (Nat.rec (motive:=λZ=>Bool) false (λZ Z=>Nat.rec (motive:=λZ=>Bool) false (λZ Z=>
  Bool.rec (motive:=λZ=>Bool) (Bool.rec (motive:=λZ=>Bool) false (Bool.rec (motive:=λZ=>Bool) false (ih i) (Nat.ble (Nat.succ c) 340282366920938463463374607431768211456)) (Nat.ble 340282366920938463463374606332256583680 c)) (ih i) (Nat.ble c 1099511627776)) c) (Nat.land (Nat.shiftRight M i) 1)) (Nat.ble (Nat.succ i) p)) L
noncomputable def u6(i:Nat)(c:Nat)(r:Pq):Pq:=Nat.rec (motive:=λZ=>Pq) r (λm Z=>Pq.t i (Nat.succ m) r) c
noncomputable def P0(c s:Nat)(G:Pq):Pq:=Pq.rec (motive:=λZ=>Pq) Pq.z (λk y Z ih=>Pq.t (Nat.add k s) (Nat.mod (Nat.mul c y) 340282366920938463463374607431768211456) ih) G
def yC(e c s:Nat)(L:Pq):Pq->Pq:=Pq.rec (motive:=λZ=>Pq->Pq) (λG=>P0 c s G)
 (λi x L Sb G=>Pq.rec (motive:=λZ=>Pq) (Pq.t i (Nat.mod (Nat.mul e x) 340282366920938463463374607431768211456) (Sb Pq.z))
  (λk y G ZV=>Bool.rec (motive:=λZ=>Pq)
   (Bool.rec (motive:=λZ=>Pq) (Pq.t (Nat.add k s) (Nat.mod (Nat.mul c y) 340282366920938463463374607431768211456) ZV)
    (u6 i (Nat.mod (Nat.add (Nat.mul e x) (Nat.mul c y)) 340282366920938463463374607431768211456) (Sb G)) (Nat.beq (Nat.add k s) i))
   (Pq.t i (Nat.mod (Nat.mul e x) 340282366920938463463374607431768211456) (Sb (Pq.t k y G))) (Nat.ble (Nat.succ (Nat.add k s)) i)) G) L
noncomputable def Kp(M s:Nat)(L:Pq):Bool:=Pq.rec (motive:=λZ=>Bool) true (λi Z Z ih=>Nat.rec (motive:=λZ=>Bool) false (λZ Z=>ih) (Nat.land (Nat.shiftRight M (Nat.add i s)) 1)) L
noncomputable def NK{α:Type}(M m:Nat)(d9:Bq)(no:α)(yes:Nat->Nat->Pq->α):α:=Bq.rec (motive:=λZ=>α) no
 (λl e p Z ih=>Bool.rec (motive:=λZ=>α) ih (Nat.rec (motive:=λZ=>α) ih (λZ Z=>yes l e p) (Nat.land (Nat.shiftRight M (Nat.sub m l)) 1)) (Nat.ble l m)) d9
noncomputable def Cr(e:Nat)(L:Pq):Pq:=Pq.rec (motive:=λZ=>Pq) Pq.z (λi c Z ih=>Pq.t i (Nat.mod (Nat.mul e c) 340282366920938463463374607431768211456) ih) L
noncomputable def vO(L:Pq):Pq->Pq:=Pq.rec (motive:=λZ=>Pq->Pq) (λa=>a) (λi c Z ih a=>ih (Pq.t i c a)) L
noncomputable def sgN(a e:Nat)(k:Nat->Nat->Bool)(w:Nat):Bool:=k (Nat.div e w) (Nat.div a w)
noncomputable def sgP(c e:Nat)(k:Nat->Nat->Bool)(w:Nat):Bool:=k (Nat.div e w) (Nat.sub 340282366920938463463374607431768211456 (Nat.div c w))
def ZW(c e:Nat)(k:Nat->Nat->Bool):Bool:=Bool.rec (motive:=λZ=>Bool)
 (sgN (Nat.sub 340282366920938463463374607431768211456 c) e k (Nat.gcd e (Nat.sub 340282366920938463463374607431768211456 c)))
 (sgP c e k (Nat.gcd e c)) (Nat.ble c 170141183460469231731687303715884105728)
def ZX(M:Nat)(ih:Pq->Pq->Nat->(Pq->Nat->Bool)->Bool)(R:Pq)(k:Pq->Nat->Bool)(i D:Nat)(L:Pq):Bool:=Bool.rec (motive:=λZ=>Bool) false (ih L R D k) (vN M L i)
def dv5(M:Nat)(ih:Pq->Pq->Nat->(Pq->Nat->Bool)->Bool)(R:Pq)(k:Pq->Nat->Bool)(i:Nat)(L:Pq)(D:Nat):Bool:=
 Bool.rec (motive:=λZ=>Bool) false (ZX M ih R k i D L) (Nat.ble D 1099511627776)
def ZY(M:Nat)(ih:Pq->Pq->Nat->(Pq->Nat->Bool)->Bool)(R:Pq)(D:Nat)(k:Pq->Nat->Bool)(i:Nat)(L' T:Pq)(s e c:Nat):Bool:=
 Bool.rec (motive:=λZ=>Bool) (G7 (Nat.mul D e) (dv5 M ih (Cr e R) k i (yC e c s L' T))) (ZX M ih R k i D (yC 1 c s L' T)) (Nat.beq e 1)
def dv3(M:Nat)(ih:Pq->Pq->Nat->(Pq->Nat->Bool)->Bool)(R:Pq)(D:Nat)(k:Pq->Nat->Bool)(i c e:Nat)(L' T:Pq)(s:Nat):Bool:=
 Bool.rec (motive:=λZ=>Bool) false (ZW c e (ZY M ih R D k i L' T s)) (Kp M s T)
def ZZ(M:Nat)(ih:Pq->Pq->Nat->(Pq->Nat->Bool)->Bool)(R:Pq)(D:Nat)(k:Pq->Nat->Bool)(i c:Nat)(L':Pq)(l e:Nat)(T:Pq):Bool:=G7 (Nat.sub i l) (dv3 M ih R D k i c e L' T)
def dv1(M:Nat)(d9:Bq)(ih:Pq->Pq->Nat->(Pq->Nat->Bool)->Bool)(L R:Pq)(D:Nat)(k:Pq->Nat->Bool):Bool:=Pq.rec (motive:=λZ=>Bool) (k R D)
 (λi c L' Z=>NK M i d9 (ih L' (Pq.t i c R) D k) (ZZ M ih R D k i c L')) L
def Sd(M:Nat)(d9:Bq)(km:Nat):Pq->Pq->Nat->(Pq->Nat->Bool)->Bool:=
 Nat.rec (motive:=λZ=>Pq->Pq->Nat->(Pq->Nat->Bool)->Bool) (λZ Z Z Z=>false) (λZ ih=>dv1 M d9 ih) km
noncomputable def Cs(L:Pq):Pq:=Pq.rec (motive:=λZ=>Pq) Pq.z (λi c Z ih=>Pq.t i (Nat.sub 340282366920938463463374607431768211456 c) ih) L
def NL(L:Pq)(zero:Bool)(k:Nat->Nat->Pq->Bool):Bool:=Pq.rec (motive:=λZ=>Bool) zero
 (λi c L' Z=>Bool.rec (motive:=λZ=>Bool) (k i (Nat.sub 340282366920938463463374607431768211456 c) (Cs L')) (k i c L') (Nat.ble c 170141183460469231731687303715884105728)) L
noncomputable def TN(i j:Nat):Nat:=Nat.add (Nat.mul 16 (Bool.rec (motive:=λZ=>Nat) (Nat.div j 16) (Nat.div i 16) (Nat.ble (Nat.div j 16) (Nat.div i 16)))) (Bool.rec (motive:=λZ=>Nat) (Nat.mod j 16) (Nat.mod i 16) (Nat.ble (Nat.mod j 16) (Nat.mod i 16)))
def TO(i j:Nat):Nat:=G7 (Bool.rec (motive:=λZ=>Nat) (Nat.mod j 16) (Nat.mod i 16) (Nat.ble (Nat.mod j 16) (Nat.mod i 16))) λa=>G7 (Nat.sub (Nat.div i 16) (Nat.mod i 16)) λb1=>G7 (Nat.sub (Nat.div j 16) (Nat.mod j 16)) λb2=>
 Nat.add (Nat.mul 16 (Nat.add a (Bool.rec (motive:=λZ=>Nat) b2 b1 (Nat.ble b2 b1)))) a
noncomputable def Kr(j a b j' a' b':Nat):Bool:=Bool.rec (motive:=λZ=>Bool) (Bool.rec (motive:=λZ=>Bool) false (Bool.rec (motive:=λZ=>Bool) (Bool.rec (motive:=λZ=>Bool) false (Nat.ble (Nat.succ b) b') (Nat.beq a a')) true (Nat.ble (Nat.succ a) a')) (Nat.beq j j')) true (Nat.ble (Nat.succ j) j')
def WC(W:Wq)(k:Nat->Nat->Nat->Bool):Nat->Nat->Nat->Bool:=Wq.rec (motive:=λZ=>Nat->Nat->Nat->Bool) k
 (λa b j Z ih a' b' j'=>Bool.rec (motive:=λZ=>Bool) (ih a' b' j') (ih a b j) (Kr j a b j' a' b')) W
noncomputable def qi(a b:Nat)(W:Wq):Wq:=Wq.rec (motive:=λZ=>Wq) Wq.z (λa' b' j Z ih=>Bool.rec (motive:=λZ=>Wq) (Wq.t a' b' j ih) (Bool.rec (motive:=λZ=>Wq) (Wq.t a' b' j ih) ih (Nat.beq b' b)) (Nat.beq a' a)) W
noncomputable def Kt(W:Wq)(a b:Nat):Bool:=Wq.rec (motive:=λZ=>Bool) false (λa' b' Z Z ih=>Bool.rec (motive:=λZ=>Bool) ih (Bool.rec (motive:=λZ=>Bool) ih true (Nat.beq b' b)) (Nat.beq a' a)) W
def Ao(W:Wq)(a b:Nat):Bool:=Bool.rec (motive:=λZ=>Bool) (Kt W b a) (Kt W a b) (Nat.ble a b)
def G8(M a b j:Nat)(W:Wq)(d9:Bq):Nat->Bool:=Bq.rec (motive:=λZ=>Nat->Bool) (λZ=>false)
 (λl Z Z Z ih i=>Bool.rec (motive:=λZ=>Bool) (Bool.rec (motive:=λZ=>Bool) (Bool.rec (motive:=λZ=>Bool) (ih (Nat.succ i))
  (Nat.rec (motive:=λZ=>Bool) (ih (Nat.succ i)) (λZ Z=>Bool.rec (motive:=λZ=>Bool) (Bool.rec (motive:=λZ=>Bool) true (ih (Nat.succ i)) (Ao W b i)) (ih (Nat.succ i)) (Ao W a i)) (Nat.land (Nat.shiftRight M (Nat.sub j l)) 1))
  (Nat.ble l j)) (ih (Nat.succ i)) (Nat.beq i b)) (ih (Nat.succ i)) (Nat.beq i a)) d9
noncomputable def Z0(L:Bq)(k:Nat->Nat->Pq->Bool):Nat->Bool:=Bq.rec (motive:=λZ=>Nat->Bool) (λZ=>false) (λl e p Z ih n=>Nat.rec (motive:=λZ=>Bool) (k l e p) (λm Z=>ih m) n) L
noncomputable def GG(L:Bq):Nat:=Bq.rec (motive:=λZ=>Nat) 0 (λZ Z Z Z ih=>Nat.succ ih) L
noncomputable def Ku(jn:Nat->Nat->Nat)(l N:Nat)(d9:Bq):Nat->Wq:=Bq.rec (motive:=λZ=>Nat->Wq) (λZ=>Wq.z) (λl' Z Z Z ih i=>Wq.t i N (jn l' l) (ih (Nat.succ i))) d9
def sp2(M:Nat)(p1 p2:Pq)(j s1 s2 D:Nat)(k:Pq->Nat->Bool)(L:Pq):Bool:=
 Bool.rec (motive:=λZ=>Bool) false (Bool.rec (motive:=λZ=>Bool) false (Bool.rec (motive:=λZ=>Bool) false (Bool.rec (motive:=λZ=>Bool) false (k L D) (vN M L j)) (Kp M s2 p2)) (Kp M s1 p1)) (Nat.ble D 1099511627776)
def sp1(M e1:Nat)(p1:Pq)(e2:Nat)(p2:Pq)(j:Nat)(k:Pq->Nat->Bool)(s1 s2 w:Nat):Bool:=
 sp2 M p1 p2 j s1 s2 (Nat.mul e1 (Nat.div e2 w)) k (yC 1 (Nat.sub 340282366920938463463374607431768211456 (Nat.div e1 w)) s2 (P0 (Nat.div e2 w) s1 p1) p2)
def spQ(M l1 e1:Nat)(p1:Pq)(l2 e2:Nat)(p2:Pq)(j:Nat)(k:Pq->Nat->Bool):Bool:=sp1 M e1 p1 e2 p2 j k (Nat.sub j l1) (Nat.sub j l2) (Nat.gcd e1 e2)
noncomputable def iB(L K:Bq):Bq:=Bq.rec (motive:=λZ=>Bq) K (λl e p Z ih=>Bq.t l e p ih) L
noncomputable def Kw(L K:Wq):Wq:=Wq.rec (motive:=λZ=>Wq) K (λa b j Z ih=>Wq.t a b j ih) L
noncomputable abbrev GrT:=Bq->Wq->(Bq->Bool)->Bool
def gr9(jn:Nat->Nat->Nat)(ih:Bq->Wq->(Bq->Bool)->Bool)(d9:Bq)(k:Bq->Bool)(W:Wq)(p:Pq)(e l:Nat):Bool:=ih (iB d9 (Bq.t l e p Bq.z)) (Kw W (Ku jn l (GG d9) d9 0)) k
def gr8(jn:Nat->Nat->Nat)(ih:Bq->Wq->(Bq->Bool)->Bool)(d9:Bq)(k:Bq->Bool)(W:Wq)(l e:Nat)(p:Pq):Bool:=G7 l (gr9 jn ih d9 k W p e)
def gr7(M:Nat)(jn:Nat->Nat->Nat)(ih:Bq->Wq->(Bq->Bool)->Bool)(d9:Bq)(k:Bq->Bool)(W:Wq)(R:Pq):Bool:=Bool.rec (motive:=λZ=>Bool) false (NL R (ih d9 W k) (gr8 jn ih d9 k W)) (vN M R 10000)
def gr6(M:Nat)(jn:Nat->Nat->Nat)(ih:Bq->Wq->(Bq->Bool)->Bool)(d9:Bq)(k:Bq->Bool)(W:Wq)(R:Pq)(_D:Nat):Bool:=gr7 M jn ih d9 k W (vO R Pq.z)
def gr5(M:Nat)(jn:Nat->Nat->Nat)(ih:Bq->Wq->(Bq->Bool)->Bool)(d9:Bq)(k:Bq->Bool)(W:Wq)(L:Pq)(D:Nat):Bool:=Sd M d9 40 L Pq.z D (gr6 M jn ih d9 k W)
def gr4(M:Nat)(jn:Nat->Nat->Nat)(ih:Bq->Wq->(Bq->Bool)->Bool)(d9:Bq)(k:Bq->Bool)(W:Wq)(a b j l1 e1:Nat)(p1:Pq)(l2 e2:Nat)(p2:Pq):Bool:=
 Bool.rec (motive:=λZ=>Bool) (Bool.rec (motive:=λZ=>Bool) (spQ M l1 e1 p1 l2 e2 p2 j (gr5 M jn ih d9 k W)) (ih d9 W k) (G8 M a b j W d9 0)) (ih d9 W k) (Nat.beq (Nat.add l1 l2) j)
def gr3(M:Nat)(jn:Nat->Nat->Nat)(ih:Bq->Wq->(Bq->Bool)->Bool)(d9:Bq)(k:Bq->Bool)(W:Wq)(a b j l1 e1:Nat)(p1:Pq):Bool:=Z0 d9 (gr4 M jn ih d9 k W a b j l1 e1 p1) b
def gr2(M:Nat)(jn:Nat->Nat->Nat)(ih:Bq->Wq->(Bq->Bool)->Bool)(d9:Bq)(k:Bq->Bool)(W:Wq)(a b j:Nat):Bool:=Z0 d9 (gr3 M jn ih d9 k (qi a b W) a b j) a
def gr1(M:Nat)(jn:Nat->Nat->Nat)(ih:Bq->Wq->(Bq->Bool)->Bool)(d9:Bq)(W:Wq)(k:Bq->Bool):Bool:=Wq.rec (motive:=λZ=>Bool) (k d9) (λa b j W' Z=>WC W' (gr2 M jn ih d9 k (Wq.t a b j W')) a b j) W
def X5(M:Nat)(jn:Nat->Nat->Nat)(km:Nat):Bq->Wq->(Bq->Bool)->Bool:=
 Nat.rec (motive:=λZ=>Bq->Wq->(Bq->Bool)->Bool) (λZ Z Z=>false) (λZ ih=>gr1 M jn ih) km
noncomputable def vP(M m:Nat)(pre:Bq):Bool:=Bq.rec (motive:=λZ=>Bool) false (λl Z Z Z ih=>Bool.rec (motive:=λZ=>Bool) ih (Nat.rec (motive:=λZ=>Bool) ih (λZ Z=>true) (Nat.land (Nat.shiftRight M (Nat.sub m l)) 1)) (Nat.ble l m)) pre
noncomputable def u7(M m:Nat)(pre:Bq):Bool:=Bq.rec (motive:=λZ=>Bool) false (λl Z Z Z ih=>Bool.rec (motive:=λZ=>Bool) (Bool.rec (motive:=λZ=>Bool) ih (Nat.rec (motive:=λZ=>Bool) ih (λZ Z=>true) (Nat.land (Nat.shiftRight M (Nat.sub m l)) 1)) (Nat.ble l m)) ih (Nat.beq l m)) pre
def jY(M:Nat)(rest:Bq):Bq->Bq:=Bq.rec (motive:=λZ=>Bq->Bq) (λZ=>Bq.z)
 (λl e p r ih pre=>Bool.rec (motive:=λZ=>Bq) (Bool.rec (motive:=λZ=>Bq) (Bq.t l e p (ih (iB pre (Bq.t l e p Bq.z)))) (ih (iB pre (Bq.t l e p Bq.z))) (u7 M l r)) (ih (iB pre (Bq.t l e p Bq.z))) (vP M l pre)) rest
def rf4(ih:Bq->(Bq->Bool)->Bool)(pre:Bq)(k:Bq->Bool)(p:Pq)(e l:Nat):Bool:=ih (iB pre (Bq.t l e p Bq.z)) k
def rf3(ih:Bq->(Bq->Bool)->Bool)(pre:Bq)(k:Bq->Bool)(l e:Nat)(p:Pq):Bool:=G7 l (rf4 ih pre k p e)
def rf2(M:Nat)(ih:Bq->(Bq->Bool)->Bool)(pre:Bq)(k:Bq->Bool)(R:Pq):Bool:=Bool.rec (motive:=λZ=>Bool) false (NL R false (rf3 ih pre k)) (vN M R 10000)
def rf1(M:Nat)(ih:Bq->(Bq->Bool)->Bool)(pre:Bq)(k:Bq->Bool)(R:Pq)(_D:Nat):Bool:=rf2 M ih pre k (vO R Pq.z)
def Z1(M:Nat)(vQ:Bq):Bq->(Bq->Bool)->Bool:=Bq.rec (motive:=λZ=>Bq->(Bq->Bool)->Bool) (λpre k=>k pre)
 (λl e p r ih pre k=>Sd M (iB pre r) 40 (Pq.t l e p) Pq.z e (rf1 M ih pre k)) vQ
def Ap(d9:Bq)(k:List Nat->Bool):Bool:=Bq.rec (motive:=λZ=>(List Nat->Bool)->Bool) (λk=>k []) (λl Z Z Z ih k=>G7 l λl=>ih λr=>k (l::r)) d9 k
end
noncomputable def vl(c:Nat):Int:=if c<=170141183460469231731687303715884105728 then(c:Int)else(c:Int)- 340282366920938463463374607431768211456
theorem yd{c:Nat}(h:c<=170141183460469231731687303715884105728):vl c=(c:Int):=ai h
theorem Ct{c:Nat}(h:c<170141183460469231731687303715884105728):vl (340282366920938463463374607431768211456- c)= -(c:Int):=by
 have h1:¬340282366920938463463374607431768211456- c<=170141183460469231731687303715884105728:=λe=>aG (Nat.sub_le_iff_le_add.mp e) (Nat.not_le_of_lt (Nat.add_lt_add_left h _))
 have h2:c<=340282366920938463463374607431768211456:=ae (aT h) (by decide)
 rw[show vl (340282366920938463463374607431768211456- c)=((340282366920938463463374607431768211456- c:Nat):Int)- (340282366920938463463374607431768211456:Nat)from ah h1,Int.ofNat_sub h2,Int.sub_sub,Int.add_comm,<-Int.sub_sub,Int.sub_self,Int.zero_sub]
def Cg(c:Nat)(z:Int):Prop:=∃k:Int,(c:Int)=z+k*340282366920938463463374607431768211456
theorem Cg.nat(c:Nat):Cg c c:=⟨0,by rw[Int.zero_mul,cy]⟩
theorem Cg.add{a b:Nat}{x y:Int}(h:Cg a x)(h2:Cg b y):Cg (a+b) (x+y):=by
 obtain⟨k,hk⟩:=h
 obtain⟨l,hl⟩:=h2
 exact⟨k+l,by rw[Int.natCast_add,hk,hl,Int.add_mul,bQ,bQ,Int.add_left_comm y]⟩
theorem Cg.mul{a b:Nat}{x y:Int}(h:Cg a x)(h2:Cg b y):Cg (a*b) (x*y):=by
 obtain⟨k,hk⟩:=h
 obtain⟨l,hl⟩:=h2
 exact⟨x*l+k*b,by rw[Int.natCast_mul,hk,Int.add_mul,Int.add_mul,<-bQ,Int.mul_assoc x,<-Int.mul_add,<-hl,Int.mul_right_comm]⟩
theorem su(c:Nat):Cg c (vl c):=by
 by_cases h:c<=170141183460469231731687303715884105728
 ·rw[yd h];exact Cg.nat c
 ·rw[show vl c=(c:Int)- 340282366920938463463374607431768211456 from ah h];exact⟨1,by rw[Int.one_mul,Int.sub_add_cancel]⟩
theorem WD(a k w:Int): -a+k*w=w- a+(k- 1)*w:=by rw[Int.sub_mul,Int.one_mul,Int.sub_eq_add_neg,Int.sub_eq_add_neg,Int.add_comm w,bQ,Int.add_left_comm w,Int.add_right_neg,cy]
theorem ye{n:Nat}{z:Int}(h:Cg n z)(hz:z.natAbs<170141183460469231731687303715884105728):vl (Nat.mod n 340282366920938463463374607431768211456)=z:=by
 obtain⟨k,h⟩:=h
 have e:∀(m:Nat) (l:Int),m<340282366920938463463374607431768211456->(n:Int)=m+l*340282366920938463463374607431768211456->Nat.mod n 340282366920938463463374607431768211456=m:=λm l hm e=>
  di ((ao (·%(340282366920938463463374607431768211456:Int)) e).trans ((Int.add_mul_emod_self_right ..).trans (Int.emod_eq_of_lt (bg m) (cp.mpr hm))))
 cases z with
 |ofNat m=>
  have hm:m<170141183460469231731687303715884105728:=hz
  rw[e m k (Nat.lt_trans hm (by decide)) h,yd (aT hm)];rfl
 |negSucc m=>
  have hm:m+1<170141183460469231731687303715884105728:=hz
  have h2:m+1<=340282366920938463463374607431768211456:=ae (aT hm) (by decide)
  rw[e (340282366920938463463374607431768211456- (m+1)) (k- 1) (Nat.sub_lt (by decide) (Nat.succ_pos m)) (by rw[Int.ofNat_sub h2];exact h.trans (WD (m+1:Nat) k _)),Ct hm];rfl
theorem NM:vl 0=0:=rfl
def AI(c:Nat):Prop:=c<=1099511627776\/(340282366920938463463374606332256583680<=c/\c<340282366920938463463374607431768211456)
theorem eU{e:Nat}(h3:e<=1099511627776):vl e=(e:Int):=yd (ae h3 (by decide))
theorem rk{c:Nat}(h:c<=1099511627776):vl (340282366920938463463374607431768211456- c)= -(c:Int):=Ct (aB h (by decide))
theorem AI.el{P:Nat->Prop}{c:Nat}(h:AI c)(lo:∀c,c<=1099511627776->P c)(hi:∀d,0<d->d<=1099511627776->P (340282366920938463463374607431768211456- d)):P c:=
 h.elim (lo c) λh=>by
  have:=hi (340282366920938463463374607431768211456- c) (Nat.sub_pos_of_lt h.2) (Nat.sub_le_iff_le_add.mpr (aF h.1 1099511627776))
  rw[Nat.sub_sub_self (aT h.2)]at this
  exact this
theorem AI.abs{c:Nat}(h:AI c):(vl c).natAbs<=1099511627776:=
 h.el (P:=λc=>(vl c).natAbs<=1099511627776) (λc h=>by rw[eU h];exact h) λd Z h=>by rw[rk h,cI];exact h
theorem AI.ne{c:Nat}(h:AI c):c≠0->vl c≠0:=
 h.el (P:=λc=>c≠0->vl c≠0) (λc h h0=>by rw[eU h];exactλe=>h0 (di e)) λd h0 h Z=>by rw[rk h];exactλe=>bJ h0 (di (Int.neg_eq_zero.mp e))
def eQ(M i:Nat):Prop:=Nat.land (Nat.shiftRight M i) 1≠0
theorem yf{α:Type}{M i:Nat}{a b:α}(h:eQ M i):Nat.rec (motive:=λZ=>α) a (λZ Z=>b) (Nat.land (Nat.shiftRight M i) 1)=b:=by
 unfold eQ at h
 cases e:Nat.land (Nat.shiftRight M i) 1 with
 |zero=>exact aG e h
 |succ m=>rfl
theorem yg{α:Type}{M i:Nat}{a b:α}(h:¬eQ M i):Nat.rec (motive:=λZ=>α) a (λZ Z=>b) (Nat.land (Nat.shiftRight M i) 1)=a:=by
 unfold eQ at h
 cases e:Nat.land (Nat.shiftRight M i) 1 with
 |zero=>rfl
 |succ m=>exact aG (by rw[e];exact Nat.succ_ne_zero m) h
theorem El{M i:Nat}{b:Bool}(h:Nat.rec (motive:=λZ=>Bool) false (λZ Z=>b) (Nat.land (Nat.shiftRight M i) 1)=true):eQ M i/\b=true:=by
 by_cases e:eQ M i
 ·rw[yf e]at h;exact⟨e,h⟩
 ·rw[yg e]at h;cases h
theorem Em{a b:Bool}(h:Bool.rec (motive:=λZ=>Bool) false b a=true):a=true/\b=true:=by
 cases a with
 |true=>exact⟨rfl,h⟩
 |false=>cases h
theorem gy{a b:Nat}(h:Nat.ble a b=true):a<=b:=aX h
theorem rn{α:Type}(n:Nat)(k:Nat->α):G7 n k=k n:=by cases n<;>rfl
noncomputable def gj:Pq->List Nat
 |.z=>[]
 |.t i _ r=>i::gj r
noncomputable def fh(M:Nat):Nat->Pq->Prop
 |_,.z=>True
 |p,.t i c r=>i<p/\eQ M i/\c≠0/\AI c/\fh M i r
theorem i4{a b:Bool}{Q:Prop}(h:Bool.rec (motive:=λZ=>Bool) false b a=true)(K:a=true->b=true->Q):Q:=K (Em h).1 (Em h).2
theorem kn{M:Nat}(L:Pq):∀(p:Nat),vN M L p=true->fh M p L:=by
 induction L with
 |z=>exactλZ Z=>trivial
 |t i c r ih=>
  intro p h
  refine i4 h λh1 h=>?_
  have h2:=El h
  refine⟨gy h1,h2.1,?_⟩
  cases c with
  |zero=>exact no h2.2
  |succ c=>
   refine⟨Nat.succ_ne_zero c,?_⟩
   have h:Bool.rec (motive:=λZ=>Bool) (Bool.rec (motive:=λZ=>Bool) false (Bool.rec (motive:=λZ=>Bool) false (vN M r i) (Nat.ble (Nat.succ (Nat.succ c)) 340282366920938463463374607431768211456)) (Nat.ble 340282366920938463463374606332256583680 (Nat.succ c))) (vN M r i) (Nat.ble (Nat.succ c) 1099511627776)=true:=h2.2
   cases e:Nat.ble (Nat.succ c) 1099511627776 with
   |true=>
    rw[e]at h
    exact⟨.inl (gy e),ih i h⟩
   |false=>
    rw[e]at h
    exact i4 h λh3 h=>i4 h λh4 h=>⟨.inr ⟨gy h3,gy h4⟩,ih i h⟩
theorem fh.mem{M:Nat}{L:Pq}:∀{p:Nat},fh M p L->∀j∈gj L,j<p/\eQ M j:=by
 induction L with
 |z=>exactλZ Z h=>(a7 h).elim
 |t i c r ih=>
  intro p h j hj
  rcases au.mp hj with rfl|hj
  ·exact⟨h.1,h.2.1⟩
  ·have:=ih h.2.2.2.2 j hj
   exact⟨Nat.lt_trans this.1 h.1,this.2⟩
theorem fh.up{M:Nat}{L:Pq}{p q:Nat}(h:fh M p L)(hq:p<=q):fh M q L:=by
 cases L with
 |z=>trivial
 |t i c r=>exact⟨bI h.1 hq,h.2⟩
noncomputable def fO(de:Nat->List Int):Pq->Rows
 |.z=>[]
 |.t i c r=>(de i,vl c)::fO de r
noncomputable def u9(N:Nat):Pq->Prop
 |.z=>True
 |.t _ c r=>(vl c).natAbs<=N/\u9 N r
theorem fh.cV{M:Nat}{L:Pq}:∀{p:Nat},fh M p L->u9 1099511627776 L:=by
 induction L with
 |z=>exactλZ=>trivial
 |t i c r ih=>exactλh=>⟨h.2.2.2.1.abs,ih h.2.2.2.2⟩
theorem u9.mono{N N':Nat}(h:N<=N'){L:Pq}:u9 N L->u9 N' L:=by
 induction L with
 |z=>exactλZ=>trivial
 |t _ _ r ih=>exactλb=>⟨ae b.1 h,ih b.2⟩
theorem Cu{de:Nat->List Int}{L:Pq}{k:List Int}:aI (fO de L) k≠0->∃j∈gj L,k=de j:=by
 induction L with
 |z=>exactλh=>aG rfl h
 |t i c r ih=>
  intro h
  by_cases e:de i=k
  ·exact⟨i,.head _,e.symm⟩
  ·have h:(if de i=k then vl c else 0)+aI (fO de r) k≠0:=h
   rw[ah e,bU]at h
   exact(ih h).imp λj h=>⟨.tail _ h.1,h.2⟩
theorem Se{de:Nat->List Int}{L:Pq}{k:List Int}(h:∀j∈gj L,k≠de j):aI (fO de L) k=0:=
 Classical.byContradiction λe=>(Cu e).elim λj q=>h j q.1 q.2
theorem Cv{p:Prop}[Decidable p](x y:Int):x*(if p then y else 0)=if p then x*y else 0:=by
 by_cases h:p
 ·rw[ai h,ai h]
 ·rw[ah h,ah h,Int.mul_zero]
theorem Z2{p:Prop}[Decidable p](y:Int): -(if p then y else 0)=if p then -y else 0:=by
 by_cases h:p
 ·rw[ai h,ai h]
 ·rw[ah h,ah h,Int.neg_zero]
theorem WE(a b c d:Int):a+b+(c+d)=a+c+(b+d):=by rw[bQ,Int.add_left_comm b,bQ]
theorem tp(de:Nat->List Int)(i c:Nat)(r:Pq)(m:List Int):aI (fO de (u6 i c r)) m=(if de i=m then vl c else 0)+aI (fO de r) m:=by
 cases c with
 |zero=>rw[NM,ite_self,bU];rfl
 |succ c=>rfl
noncomputable def yh(de:Nat->List Int)(s:Nat):Pq->Rows
 |.z=>[]
 |.t i c r=>(de (i+s),vl c)::yh de s r
theorem Cw{e x:Nat}(he:e<=1099511627776){N:Nat}(hx:(vl x).natAbs<=N)(hN:1099511627776*N<170141183460469231731687303715884105728):vl (Nat.mod (Nat.mul e x) 340282366920938463463374607431768211456)=e*vl x:=by
 refine ye ((Cg.nat e).mul (su x)) ?_
 rw[bO]
 exact aB (bE (show(e:Int).natAbs<=1099511627776 from he) hx) hN
theorem yi{c y:Nat}(hc:(vl c).natAbs<=1099511627776)(hy:(vl y).natAbs<=1099511627776):vl (Nat.mod (Nat.mul c y) 340282366920938463463374607431768211456)=vl c*vl y:=by
 refine ye ((su c).mul (su y)) ?_
 rw[bO]
 exact aB (bE hc hy) (by decide)
theorem Sf{e x c y:Nat}(he:e<=1099511627776)(hx:(vl x).natAbs<=4835703278458516698824704)(hc:(vl c).natAbs<=1099511627776)(hy:(vl y).natAbs<=1099511627776):
  vl (Nat.mod (Nat.add (Nat.mul e x) (Nat.mul c y)) 340282366920938463463374607431768211456)=e*vl x+vl c*vl y:=by
 have h1:((e:Int)*vl x).natAbs<=1099511627776*4835703278458516698824704:=by
  rw[bO]
  exact bE he hx
 have h2:(vl c*vl y).natAbs<=1099511627776*1099511627776:=by
  rw[bO]
  exact bE hc hy
 exact ye (((Cg.nat e).mul (su x)).add ((su c).mul (su y))) (aB (Int.natAbs_add_le ..) (aB (bz h1 h2) (by decide)))
theorem Kx(de:Nat->List Int){c:Nat}(s:Nat)(hc:(vl c).natAbs<=1099511627776)(m:List Int){G:Pq}:u9 1099511627776 G->aI (fO de (P0 c s G)) m=vl c*aI (yh de s G) m:=by
 induction G with
 |z=>exactλZ=>(Int.mul_zero _).symm
 |t k y G ih=>
  intro b
  show(if de (k+s)=m then vl (Nat.mod (Nat.mul c y) 340282366920938463463374607431768211456)else 0)+aI (fO de (P0 c s G)) m=vl c*((if de (k+s)=m then vl y else 0)+aI (yh de s G) m)
  rw[ih b.2,yi hc b.1,Int.mul_add,Cv]
theorem En(de:Nat->List Int){e c:Nat}(s:Nat)(he:e<=1099511627776)(hc:(vl c).natAbs<=1099511627776)(m:List Int){L:Pq}:u9 4835703278458516698824704 L->∀{G:Pq},u9 1099511627776 G->aI (fO de (yC e c s L G)) m=e*aI (fO de L) m+vl c*aI (yh de s G) m:=by
 induction L with
 |z=>
  intro _ G bG
  show aI (fO de (P0 c s G)) m=e*(0:Int)+_
  rw[Kx de s hc m bG,Int.mul_zero,bU]
 |t i x L Sb=>
  intro bL G
  induction G with
  |z=>
   intro _
   show(if de i=m then vl (Nat.mod (Nat.mul e x) 340282366920938463463374607431768211456)else 0)+aI (fO de (yC e c s L Pq.z)) m=e*((if de i=m then vl x else 0)+aI (fO de L) m)+vl c*aI (yh de s .z) m
   rw[Sb bL.2 (G:=.z) trivial,Cw he bL.1 (by decide),Int.mul_add e,Cv,bQ]
  |t k y G ZV=>
   intro bG
   show aI (fO de (Bool.rec (motive:=λZ=>Pq) (Bool.rec (motive:=λZ=>Pq) (Pq.t (k+s) (Nat.mod (Nat.mul c y) 340282366920938463463374607431768211456) (yC e c s (Pq.t i x L) G)) (u6 i (Nat.mod (Nat.add (Nat.mul e x) (Nat.mul c y)) 340282366920938463463374607431768211456) (yC e c s L G)) (Nat.beq (k+s) i)) (Pq.t i (Nat.mod (Nat.mul e x) 340282366920938463463374607431768211456) (yC e c s L (Pq.t k y G))) (Nat.ble (Nat.succ (k+s)) i))) m=e*((if de i=m then vl x else 0)+aI (fO de L) m)+vl c*((if de (k+s)=m then vl y else 0)+aI (yh de s G) m)
   cases Nat.ble (Nat.succ (k+s)) i with
   |true=>
    show(if de i=m then vl (Nat.mod (Nat.mul e x) 340282366920938463463374607431768211456)else 0)+aI (fO de (yC e c s L (Pq.t k y G))) m=_
    rw[Sb bL.2 bG,Cw he bL.1 (by decide),Int.mul_add e,Cv,bQ];rfl
   |false=>
    cases e2:Nat.beq (k+s) i with
    |true=>
     show aI (fO de (u6 i _ (yC e c s L G))) m=_
     rw[tp,Sb bL.2 bG.2,Sf he bL.1 hc bG.1,bf e2,Int.mul_add,Int.mul_add,WE,Cv,Cv]
     by_cases h:de i=m
     ·rw[ai h,ai h,ai h]
     ·rw[ah h,ah h,ah h];rfl
    |false=>
     show(if de (k+s)=m then vl (Nat.mod (Nat.mul c y) 340282366920938463463374607431768211456)else 0)+aI (fO de (yC e c s (Pq.t i x L) G)) m=_
     rw[ZV bG.2,yi hc bG.1,Int.mul_add (vl c),Cv,Int.add_left_comm];rfl
theorem Sg{c:Nat}(s:Nat)(hc:(vl c).natAbs<=1099511627776){G:Pq}:u9 1099511627776 G->u9 4835703278458516698824704 (P0 c s G):=by
 induction G with
 |z=>exactλZ=>trivial
 |t k y G ih=>
  intro b
  refine⟨?_,ih b.2⟩
  rw[yi hc b.1,bO]
  exact ae (bE hc b.1) (by decide)
theorem NN(de:Nat->List Int){e N:Nat}(he:e<=1099511627776)(hN:1099511627776*N<170141183460469231731687303715884105728)(m:List Int){L:Pq}:u9 N L->aI (fO de (Cr e L)) m=e*aI (fO de L) m/\u9 (e*N) (Cr e L)/\gj (Cr e L)=gj L:=by
 induction L with
 |z=>exactλZ=>⟨(Int.mul_zero _).symm,trivial,rfl⟩
 |t i x L ih=>
  intro b
  have h:=ih b.2
  have hm:=Cw he b.1 hN
  refine⟨?_,⟨?_,h.2.1⟩,ao (i::·) h.2.2⟩
  ·show(if de i=m then vl (Nat.mod (Nat.mul e x) 340282366920938463463374607431768211456)else 0)+aI (fO de (Cr e L)) m=e*((if de i=m then vl x else 0)+aI (fO de L) m)
   rw[h.1,hm,Int.mul_add,Cv]
  ·rw[hm,bO]
   exact cb _ b.1
theorem NO(de:Nat->List Int)(m:List Int)(L:Pq):∀(a:Pq),aI (fO de (vO L a)) m=aI (fO de L) m+aI (fO de a) m:=by
 induction L with
 |z=>exactλa=>(bU _).symm
 |t i c L ih=>
  intro a
  show aI (fO de (vO L (Pq.t i c a))) m=(if de i=m then vl c else 0)+aI (fO de L) m+_
  rw[ih,Int.add_comm (if de i=m then vl c else 0),bQ];rfl
theorem Sh{c:Nat}(h0:c≠0)(h:AI c):vl (Nat.sub 340282366920938463463374607431768211456 c)= - vl c/\Nat.sub 340282366920938463463374607431768211456 c≠0/\AI (Nat.sub 340282366920938463463374607431768211456 c):=
 h.el (P:=λc=>c≠0->vl (340282366920938463463374607431768211456- c)= - vl c/\340282366920938463463374607431768211456- c≠0/\AI (340282366920938463463374607431768211456- c))
  (λc h h0=>⟨by rw[rk h,eU h],Nat.sub_ne_zero_of_lt (aB h (by decide)),.inr ⟨Nat.sub_le_sub_left h 340282366920938463463374607431768211456,Nat.sub_lt (by decide) (Nat.pos_of_ne_zero h0)⟩⟩)
  (λd h0 h Z=>by
   rw[Nat.sub_sub_self (ae h (by decide)),rk h,eU h]
   exact⟨(Int.neg_neg _).symm,bJ h0,.inl h⟩) h0
theorem NP(de:Nat->List Int)(m:List Int){M:Nat}{L:Pq}:∀{p:Nat},fh M p L->aI (fO de (Cs L)) m= - aI (fO de L) m/\fh M p (Cs L):=by
 induction L with
 |z=>exactλZ=>⟨rfl,trivial⟩
 |t i c L ih=>
  intro p h
  have i1:=ih h.2.2.2.2
  have hv:=Sh h.2.2.1 h.2.2.2.1
  refine⟨?_,h.1,h.2.1,hv.2.1,hv.2.2,i1.2⟩
  show(if de i=m then vl (Nat.sub 340282366920938463463374607431768211456 c)else 0)+aI (fO de (Cs L)) m= -((if de i=m then vl c else 0)+aI (fO de L) m)
  rw[i1.1,hv.1,Int.neg_add,Z2]
structure Cd(n:Nat)(o:e6)(M:Nat)(jn:Nat->Nat->Nat)(de:Nat->List Int):Prop where
 mon:∀i,eQ M i->gc n (de i)
 lt:∀i j,eQ M i->eQ M j->i<j->rZ o (de i) (de j)=true
 add:∀i s,eQ M i->eQ M s->eQ M (i+s)->de (i+s)=gn (de i) (de s)
 dv:∀l m,eQ M l->eQ M m->(mq (de l) (de m)=true↔l<=m/\eQ M (m- l))
 jo:∀i j,eQ M i->eQ M j->eQ M (jn i j)/\de (jn i j)=ir (de i) (de j)
 ap:∀i j,eQ M i->eQ M j->((eX (List.zipWith (λu v=>if v<u then v else u) (de i) (de j))==0)=true↔i+j=jn i j)
def fP(de:Nat->List Int)(D:Nat)(L:Pq):bM:=λm=>((aI (fO de L) m:Int):Rat)/((D:Nat):Rat)
theorem tq(o:e6)(a:List Int):rZ o a a=false:=jw _
theorem NQ{a:Int}{g:Nat}(hg:0<g)(h:(g:Int)∣a):(a/g).natAbs<=a.natAbs:=by
 obtain⟨k,rfl⟩:=h
 rw[Int.mul_ediv_cancel_left _ (Int.ofNat_ne_zero.mpr (bJ hg)),bO]
 exact Nat.le_mul_of_pos_left _ hg
theorem nP{a:Int}{D:Nat}(hD:D≠0)(ha:a.natAbs<2^3000)(hd:D<2^3000):Sm ((a:Rat)/(D:Rat)):=by
 rw[<-Rat.mkRat_eq_div]
 refine⟨?_,?_⟩
 ·rw[Rat.num_mkRat,ah hD]
  refine aB ?_ ha
  have hg:0<D.gcd a.natAbs:=Nat.gcd_pos_of_pos_left _ (Nat.pos_of_ne_zero hD)
  exact NQ hg (Int.ofNat_dvd_left.mpr (Nat.gcd_dvd_right _ _))
 ·rw[Rat.den_mkRat,ah hD]
  exact aB (Nat.div_le_self _ _) hd
theorem yj(D:Nat):((0:Int):Rat)/((D:Nat):Rat)=0:=by rw[Rat.div_def,Rat.intCast_zero,da]
theorem P1(e:Nat):((e:Int):Rat)=((e:Nat):Rat):=rfl
theorem gX{D:Nat}(h:0<D):((D:Nat):Rat)≠0:=by
 intro e
 exact bJ h (by exact_mod_cast e)
section
variable{n M:Nat}{o:e6}{jn:Nat->Nat->Nat}{de:Nat->List Int}(C:Cd n o M jn de)
include C
theorem Cd.inj{i j:Nat}(hi:eQ M i)(hj:eQ M j)(h:de i=de j):i=j:=by
 rcases Nat.lt_trichotomy i j with h1|h1|h1
 ·have:=C.lt i j hi hj h1
  rw[h,tq]at this;cases this
 ·exact h1
 ·have:=C.lt j i hj hi h1
  rw[h,tq]at this;cases this
theorem Cd.X6{i j:Nat}(hi:eQ M i)(hj:eQ M j)(h:j<=i):rZ o (de i) (de j)=false:=by
 rcases Nat.lt_or_eq_of_le h with h1|rfl
 ·cases e:rZ o (de i) (de j)with
  |false=>rfl
  |true=>
   have:=nI (C.lt j i hj hi h1) e
   rw[tq]at this;cases this
 ·exact tq _ _
theorem Cd.off{L:Pq}{i:Nat}(hL:∀j∈gj L,eQ M j/\j≠i)(hi:eQ M i):aI (fO de L) (de i)=0:=
 Se λj hj e=>(hL j hj).2 (C.inj (hL j hj).1 hi e.symm)
theorem Cd.head{L:Pq}{i c:Nat}(hi:eQ M i)(hL:fh M i L):aI (fO de (.t i c L)) (de i)=vl c:=by
 show(if de i=de i then vl c else 0)+aI (fO de L) (de i)=_
 rw[ai rfl,C.off (λj hj=>⟨(hL.mem j hj).2,bB (hL.mem j hj).1⟩) hi,cy]
theorem Cd.abs{L:Pq}:∀{p:Nat} (h:fh M p L) (k:List Int),(aI (fO de L) k).natAbs<=1099511627776:=by
 induction L with
 |z=>exactλZ k=>bK _
 |t i c L ih=>
  intro p h k
  by_cases e:de i=k
  ·subst e
   rw[C.head h.2.1 h.2.2.2.2]
   exact h.2.2.2.1.abs
  ·show((if de i=k then vl c else 0)+aI (fO de L) k).natAbs<=_
   rw[ah e,bU]
   exact ih h.2.2.2.2 k
theorem Cd.lead{L:Pq}{i c p D:Nat}(h:fh M p (.t i c L))(hD:0<D):dn o (fP de D (.t i c L)) (de i)/\fP de D (.t i c L) (de i)=((vl c:Int):Rat)/(D:Rat):=by
 have hv:fP de D (.t i c L) (de i)=((vl c:Int):Rat)/(D:Rat):=by
  unfold fP
  rw[C.head h.2.1 h.2.2.2.2]
 refine⟨⟨?_,λk hk=>?_⟩,hv⟩
 ·rw[hv]
  have:=h.2.2.2.1.ne h.2.2.1
  have h2:=gX hD
  intro e
  have e2:((vl c:Int):Rat)=0:=by grind
  exact this (by exact_mod_cast e2)
 ·have hs:aI (fO de (.t i c L)) k≠0:=λe=>hk (by unfold fP;rw[e,yj])
  obtain⟨j,hj,rfl⟩:=Cu hs
  have Qy:j<=i/\eQ M j:=by
   rcases au.mp hj with rfl|hj
   ·exact⟨bc _,h.2.1⟩
   ·have:=h.2.2.2.2.mem j hj
    exact⟨aT this.1,this.2⟩
  exact C.X6 h.2.1 Qy.2 Qy.1
theorem Cd.key{L:Pq}{p D:Nat}(h:fh M p L){k:List Int}(hk:fP de D L k≠0):∃j∈gj L,k=de j/\eQ M j:=by
 have hs:aI (fO de L) k≠0:=λe=>hk (by unfold fP;rw[e,yj])
 obtain⟨j,hj,rfl⟩:=Cu hs
 exact⟨j,hj,rfl,(h.mem j hj).2⟩
theorem Cd.sm{L:Pq}{p D:Nat}(h:fh M p L)(hD:0<D)(Cy:D<=1099511627776)(k:List Int):Sm (fP de D L k):=by
 have:=C.abs h k
 exact nP (bJ hD) (aB this (by decide+kernel)) (aB Cy (by decide+kernel))
end
noncomputable def dP(de:Nat->List Int):Bq->List bM
 |.z=>[]
 |.t l e p r=>fP de e (.t l e p)::dP de r
noncomputable def dC(de:Nat->List Int):Bq->aM
 |.z=>[]
 |.t l _ _ r=>de l::dC de r
noncomputable def i8(M:Nat):Bq->Prop
 |.z=>True
 |.t l e p r=>eQ M l/\0<e/\e<=1099511627776/\fh M l p/\i8 M r
theorem i8.fall{M l e:Nat}{p:Pq}(h1:eQ M l)(h2:0<e)(h3:e<=1099511627776)(h4:fh M l p):fh M (l+1) (.t l e p):=⟨ct _,h1,bJ h2,.inl h3,h4⟩
theorem j8(ls:aM):(cP ls).map (·.1)=ls:=by
 unfold cP
 rw[b_]
 exact List.map_id ls
theorem yk{M s:Nat}{L:Pq}:Kp M s L=true->∀j∈gj L,eQ M (j+s):=by
 induction L with
 |z=>exactλZ Z h=>(a7 h).elim
 |t i c r ih=>
  intro h j hj
  have h:Nat.rec (motive:=λZ=>Bool) false (λZ Z=>Kp M s r) (Nat.land (Nat.shiftRight M (i+s)) 1)=true:=h
  have h:=El h
  exact(au.mp hj).elim (λq=>q▸h.1) (ih h.2 j)
section
variable{n M:Nat}{o:e6}{jn:Nat->Nat->Nat}{de:Nat->List Int}(C:Cd n o M jn de)
include C
theorem Cd.gs{B:Bq}:i8 M B->Gs n o (dP de B) (cP (dC de B)):=by
 induction B with
 |z=>exactλZ=>⟨rfl,λi g lm lc h=>nn h,λg h=>(a7 h).elim,λg h=>(a7 h).elim⟩
 |t l e p r ih=>
  intro h
  have G:=ih h.2.2.2.2
  have hf:=i8.fall h.1 h.2.1 h.2.2.1 h.2.2.2.1
  have hl:=C.lead hf h.2.1
  refine⟨ao Nat.succ G.len,λi g lm lc hg hL=>?_,λg hg k hk=>?_,λg hg k=>?_⟩
  ·cases i with
   |zero=>
    cases hg
    cases hL
    refine⟨hl.1,?_⟩
    rw[hl.2,eU h.2.2.1,P1]
    have:=gX h.2.1;grind
   |succ i=>exact G.lead i g lm lc hg hL
  ·rcases au.mp hg with rfl|hg
   ·obtain⟨j,hj,rfl,ok⟩:=C.key hf hk
    exact C.mon j ok
   ·exact G.mon g hg k hk
  ·exact(au.mp hg).elim (λq=>q▸C.sm hf h.2.1 h.2.2.1 k) λhg=>G.sm g hg k
theorem Cd.fd{m:Nat}(hm:eQ M m){B:Bq}:∀(i0:Nat) {Q:Prop},i8 M B->(dG (de m) i0 (dC de B)= -1->(∀(no:Bool) yes,NK M m B no yes=no)->Q)->
  (∀(i l e:Nat) (p:Pq),dG (de m) i0 (dC de B)=((i0+i:Nat):Int)->(dP de B)[i]?=some (fP de e (.t l e p))->(dC de B)[i]?=some (de l)->eQ M l->0<e->e<=1099511627776->fh M l p->l<=m->eQ M (m- l)->(∀(no:Bool) yes,NK M m B no yes=yes l e p)->Q)->Q:=by
 induction B with
 |z=>exactλi0 Q Z K1 Z=>K1 rfl λZ Z=>rfl
 |t l e p r ih=>
  intro i0 Q h K1 K2
  have Tr:∀(no:Bool) yes,NK M m (.t l e p r) no yes=Bool.rec (motive:=λZ=>Bool) (NK M m r no yes) (Nat.rec (motive:=λZ=>Bool) (NK M m r no yes) (λZ Z=>yes l e p) (Nat.land (Nat.shiftRight M (m- l)) 1)) (Nat.ble l m):=λZ Z=>rfl
  have hF:dG (de m) i0 (dC de (.t l e p r))=if mq (de l) (de m)then(i0:Int)else dG (de m) (i0+1) (dC de r):=rfl
  by_cases hd:mq (de l) (de m)=true
  ·have d:=(C.dv l m h.1 hm).mp hd
   exact K2 0 l e p (by rw[hF,ai hd];rfl) rfl rfl h.1 h.2.1 h.2.2.1 h.2.2.2.1 d.1 d.2 λno yes=>by rw[Tr,aU d.1,yf d.2]
  ·have Hm:∀(no:Bool) yes,NK M m (.t l e p r) no yes=NK M m r no yes:=λno yes=>by
    rw[Tr]
    cases hb:Nat.ble l m with
    |false=>rfl
    |true=>exact yg λok=>hd ((C.dv l m h.1 hm).mpr ⟨gy hb,ok⟩)
   refine ih (i0+1) h.2.2.2.2 (λg1 g2=>K1 (by rw[hF,ah hd];exact g1) λno yes=>by rw[Hm];exact g2 no yes) λi l' e' p' g1 g2 g3 g4 g5 g6 g7 g8 g9 Z3=>
    K2 (i+1) l' e' p' (by rw[hF,ah hd,g1,bo]) g2 g3 g4 g5 g6 g7 g8 g9 λno yes=>by rw[Hm];exact Z3 no yes
theorem Cd.WG{s:Nat}(hs:eQ M s){L:Pq}:(∀j∈gj L,eQ M j/\eQ M (j+s))->∀k:List Int,aI (yh de s L) k=if k.length=n then aI (fO de L) (List.zipWith (· - ·) k (de s))else 0:=by
 induction L with
 |z=>exactλZ k=>(ite_self _).symm
 |t i c r ih=>
  intro h k
  have h1:=(h i (.head _)).1
  have e:=C.add i s h1 hs (h i (.head _)).2
  have l1:=(C.mon i h1).1
  have l2:=(C.mon s hs).1
  show(if de (i+s)=k then vl c else 0)+aI (yh de s r) k=_
  rw[ih (λj hj=>h j (.tail _ hj)) k]
  show _=if k.length=n then(if de i=List.zipWith (· - ·) k (de s)then vl c else 0)+aI (fO de r) (List.zipWith (· - ·) k (de s))else 0
  by_cases hk:k.length=n
  ·rw[ai hk,ai hk]
   congr 1
   by_cases h3:de i=List.zipWith (· - ·) k (de s)
   ·rw[ai h3,ai]
    rw[e,h3]
    exact hM (hk.trans l2.symm)
   ·rw[ah h3,ah]
    exactλh4=>h3 (by rw[<-h4,e];exact(iX (l1.trans l2.symm)).symm)
  ·rw[ah hk,ah hk,ah,cy]
   intro h4
   rw[<-h4,e]at hk
   refine hk ?_
   show(List.zipWith (·+·) (de i) (de s)).length=n
   rw[dg,l1,l2,Nat.min_self]
end
theorem nQ{a w:Nat}(h:w∣a)(hw:0<w)(ha:0<a):Nat.div a w*w=a/\0<Nat.div a w/\Nat.div a w<=a:=
 ⟨Nat.div_mul_cancel h,Nat.div_pos (Nat.le_of_dvd ha h) hw,Nat.div_le_self a w⟩
theorem AI.low{c:Nat}(hc:AI c)(hb:Nat.ble c 170141183460469231731687303715884105728=true):c<=1099511627776:=
 hc.elim id λh=>aG (ae h.1 (gy hb)) (by decide)
theorem AI.high{c:Nat}(hc:AI c)(hb:Nat.ble c 170141183460469231731687303715884105728=false):0<Nat.sub 340282366920938463463374607431768211456 c/\Nat.sub 340282366920938463463374607431768211456 c<=1099511627776/\((Nat.sub 340282366920938463463374607431768211456 c:Nat):Int)= - vl c:=
 hc.el (P:=λc=>Nat.ble c 170141183460469231731687303715884105728=false->0<340282366920938463463374607431768211456- c/\340282366920938463463374607431768211456- c<=1099511627776/\((340282366920938463463374607431768211456- c:Nat):Int)= - vl c)
  (λc h hb=>aG (hb.symm.trans (aU (ae h (by decide)))) nofun)
  (λd h0 h Z=>by
   rw[Nat.sub_sub_self (ae h (by decide)),rk h]
   exact⟨h0,h,(Int.neg_neg _).symm⟩) hb
theorem tu{c:Nat}(h:c<=1099511627776):vl (Nat.sub 340282366920938463463374607431768211456 c)= -(c:Int):=rk h
theorem P2{c:Prop}[Decidable c]{x a b:Int}(h1:c->x<=a)(h2:¬c->x<=b):x<=if c then a else b:=by
 by_cases h:c
 ·rw[ai h];exact h1 h
 ·rw[ah h];exact h2 h
theorem WH{c e:Nat}{k:Nat->Nat->Bool}(hc:AI c)(h0:c≠0)(he:0<e)(jg:e<=1099511627776)(h:ZW c e k=true)
  {Q:Prop} (K:∀e' c' w:Nat,0<w->e'*w=e->vl c'*w= - vl c->0<e'->e'<=1099511627776->(vl c').natAbs<=1099511627776->k e' c'=true->Q):Q:=by
 unfold ZW at h
 cases hb:Nat.ble c 170141183460469231731687303715884105728 with
 |true=>
  rw[hb]at h
  have AG:=hc.low hb
  have hw:0<Nat.gcd e c:=Nat.gcd_pos_of_pos_left _ he
  have a:=nQ (Nat.gcd_dvd_left e c) hw he
  have b:=nQ (Nat.gcd_dvd_right e c) hw (Nat.pos_of_ne_zero h0)
  have rI:=ae b.2.2 AG
  exact K _ _ _ hw a.1 (by rw[tu rI,eU AG,Int.neg_mul,<-Int.natCast_mul,b.1]) a.2.1 (ae a.2.2 jg) (by rw[tu rI,cI,Int.natAbs_natCast];exact rI) h
 |false=>
  rw[hb]at h
  obtain⟨g1,g2,g3⟩:=hc.high hb
  have hw:0<Nat.gcd e (Nat.sub 340282366920938463463374607431768211456 c):=Nat.gcd_pos_of_pos_left _ he
  have a:=nQ (Nat.gcd_dvd_left e (Nat.sub 340282366920938463463374607431768211456 c)) hw he
  have b:=nQ (Nat.gcd_dvd_right e (Nat.sub 340282366920938463463374607431768211456 c)) hw g1
  have rI:=ae b.2.2 g2
  exact K _ _ _ hw a.1 (by rw[eU rI,<-g3,<-Int.natCast_mul,b.1]) a.2.1 (ae a.2.2 jg) (by rw[eU rI,Int.natAbs_natCast];exact rI) h
theorem Z4{C1 C2 E1 E2 W D A B:Rat}(hD:D≠0)(h1:E1≠0)(h2:E2≠0)(hW:W≠0)(q1:E2*W=E1)(q2:C2*W= - C1):(C1+A)/D- (E1+B)/E1*(C1/D)=(E2*A+C2*B)/(D*E2):=by
 subst q1
 have:C1= - (C2*W):=by grind
 subst this
 grind
theorem Z5{C1 C2 E1 E2 W D A B:Rat}(hD:D≠0)(h1:E1≠0)(h2:E2≠0)(hW:W≠0)(q1:E2*W=E1)(q2:C2*W= - C1):A/D- B/E1*(C1/D)=(E2*A+C2*B)/(D*E2):=by
 subst q1
 have:C1= - (C2*W):=by grind
 subst this
 grind
theorem Ky(x:Rat):x/1=x:=by grind
section
variable{n M:Nat}{o:e6}{jn:Nat->Nat->Nat}{de:Nat->List Int}(C:Cd n o M jn de)
include C
theorem NR{i c l e s e' c' w D:Nat}{L' T:Pq}(hi:eQ M i)(hL:fh M i L')(hl:eQ M l)(he:0<e)(hT:fh M l T)(hs:eQ M s)(vn:l+s=i)(S9:∀j∈gj T,eQ M (j+s))(hw:0<w)(h1:e'*w=e)(h2:vl c'*w= - vl c)
  (jg:e<=1099511627776) (GW:0<e') (NS:e'<=1099511627776) (C7:(vl c').natAbs<=1099511627776) (hD:0<D):
  (λk=>fP de D (.t i c L') k- dj n (fP de e (.t l e T)) (de s) (((vl c:Int):Rat)/(D:Rat)/1) k)=fP de (D*e') (yC e' c' s L' T):=by
 funext k
 have V_:=C.WG hs (L:=.t l e T) (λj hj=>(au.mp hj).elim (λq=>q▸⟨hl,vn▸hi⟩) λhj=>⟨(hT.mem j hj).2,S9 j hj⟩) k
 have e3:dj n (fP de e (.t l e T)) (de s) (((vl c:Int):Rat)/(D:Rat)/1) k=((aI (yh de s (.t l e T)) k:Int):Rat)/(e:Rat)*(((vl c:Int):Rat)/(D:Rat)):=by
  unfold dj
  rw[V_,Ky]
  by_cases hk:k.length=n
  ·rw[ai hk,ai hk];rfl
  ·rw[ah hk,ah hk,yj,da]
 rw[e3,show aI (yh de s (.t l e T)) k=(if de i=k then vl e else 0)+aI (yh de s T) k from vn▸rfl]
 have q1:((e':Nat):Rat)*((w:Nat):Rat)=((e:Nat):Rat):=by rw[<-h1];push_cast;rfl
 have q2:((vl c':Int):Rat)*((w:Nat):Rat)= - ((vl c:Int):Rat):=by
  rw[<-Rat.intCast_neg,<-h2];push_cast;rfl
 show(((if de i=k then vl c else 0)+aI (fO de L') k:Int):Rat)/(D:Rat)- _=((aI (fO de (yC e' c' s L' T)) k:Int):Rat)/((D*e':Nat):Rat)
 rw[En de s NS C7 k (hL.cV.mono (by decide)) hT.cV,eU jg]
 generalize aI (fO de L') k=a
 generalize aI (yh de s T) k=b
 by_cases hk:de i=k
 ·rw[ai hk,ai hk]
  push_cast
  exact Z4 (gX hD) (gX he) (gX GW) (gX hw) q1 q2
 ·rw[ah hk,ah hk,bU,bU]
  push_cast
  exact Z5 (gX hD) (gX he) (gX GW) (gX hw) q1 q2
end
theorem Z6{D E A:Rat}(hD:D≠0)(hE:E≠0):E*A/(D*E)=A/D:=by grind
theorem Z7{D E A B:Rat}(hD:D≠0)(hE:E≠0):A/E*(B/D/1)=A*B/(E*D):=by grind
theorem Cz{de:Nat->List Int}{D e:Nat}{R R2:Pq}(hD:0<D)(he:0<e)(h:∀m,aI (fO de R2) m=e*aI (fO de R) m):fP de (D*e) R2=fP de D R:=funext λm=>by
 show((aI (fO de R2) m:Int):Rat)/((D*e:Nat):Rat)=_
 rw[h m]
 push_cast
 exact Z6 (gX hD) (gX he)
theorem Kz{de:Nat->List Int}{D i c:Nat}{L:Pq}{k:List Int}(h:¬k=de i):fP de D (.t i c L) k=fP de D L k:=by
 show(((if de i=k then vl c else 0)+aI (fO de L) k:Int):Rat)/_=_
 rw[ah (λe=>h e.symm),bU];rfl
theorem Sj{de:Nat->List Int}{M:Nat}{ih:Pq->Pq->Nat->(Pq->Nat->Bool)->Bool}{R L' T:Pq}{D i s e c:Nat}{k:Pq->Nat->Bool}(h:ZY M ih R D k i L' T s e c=true)(Cy:D<=1099511627776)(jg:e<=1099511627776)(hB:u9 (1099511627776*D) R){Q:Prop}
  (K:∀R2,ZX M ih R2 k i (D*e) (yC e c s L' T)=true->D*e<=1099511627776->(∀m,aI (fO de R2) m=e*aI (fO de R) m)->gj R2=gj R->u9 (1099511627776*(D*e)) R2->Q):Q:=by
 unfold ZY at h
 cases JZ:Nat.beq e 1 with
 |true=>
  rw[JZ]at h
  obtain rfl:e=1:=bf JZ
  rw[Nat.mul_one]at K
  exact K R h Cy (λm=>(Int.one_mul _).symm) rfl hB
 |false=>
  rw[JZ]at h
  have h:G7 (Nat.mul D e) (dv5 M ih (Cr e R) k i (yC e c s L' T))=true:=h
  rw[rn]at h
  refine i4 h λb1 h=>?_
  have Pj:=λm=>NN de jg (N:=1099511627776*D) (aB (cb _ (cb _ Cy)) (by decide)) m hB
  have hb:=(Pj []).2.1
  rw[show e*(1099511627776*D)=1099511627776*(D*e) by rw[Nat.mul_comm,Nat.mul_assoc]]at hb
  exact K (Cr e R) h (gy b1) (λm=>(Pj m).1) (Pj []).2.2 hb
section
variable{n M:Nat}{o:e6}{jn:Nat->Nat->Nat}{de:Nat->List Int}(C:Cd n o M jn de)
include C
theorem KA{p l e c D:Nat}{T:Pq}{m:List Int}(hf:fh M p (.t l e T))(he:0<e)(jg:e<=1099511627776)(mn:AI c)(hD:0<D)(Cy:D<=1099511627776)(k:List Int):Sm (dj n (fP de e (.t l e T)) m (((vl c:Int):Rat)/(D:Rat)/1) k):=by
 unfold dj
 by_cases hk:k.length=n
 ·rw[ai hk]
  have ha:=C.abs hf (List.zipWith (· - ·) k m)
  have h2:=mn.abs
  show Sm (((aI (fO de (.t l e T)) (List.zipWith (· - ·) k m):Int):Rat)/((e:Nat):Rat)*(((vl c:Int):Rat)/(D:Rat)/1))
  revert ha
  generalize aI (fO de (.t l e T)) (List.zipWith (· - ·) k m)=a
  intro ha
  rw[Z7 (gX hD) (gX he),<-Rat.intCast_mul,<-Rat.natCast_mul]
  exact nP (bJ (Nat.mul_pos he hD)) (by rw[bO];exact aB (bE ha h2) (by decide+kernel)) (aB (bE jg Cy) (by decide+kernel))
 ·rw[ah hk];exact xZ
theorem Cd.sub{i l:Nat}(hi:eQ M i)(hl:eQ M l)(hs:eQ M (i- l))(vn:l+(i- l)=i):List.zipWith (· - ·) (de i) (de l)=de (i- l):=by
 have h1:=C.add l (i- l) hl hs (vn.symm▸hi)
 rw[vn]at h1
 rw[h1,show gn (de l) (de (i- l))=gn (de (i- l)) (de l)from nH _ _]
 exact iX ((C.mon _ hs).1.trans (C.mon _ hl).1.symm)
theorem NT{i c D:Nat}{L R:Pq}(hi:eQ M i)(hL:fh M i L)(hv:fP de D (.t i c L) (de i)=((vl c:Int):Rat)/(D:Rat))(ho:aI (fO de R) (de i)=0):
  (λk=>if k=de i then 0 else fP de D (.t i c L) k)=fP de D L/\(λk=>if k=de i then fP de D (.t i c L) (de i)else fP de D R k)=fP de D (.t i c R):=by
 refine⟨funext λk=>?_,funext λk=>?_⟩
 ·by_cases hk:k=de i
  ·subst hk
   rw[ai rfl]
   show _=((aI (fO de L) (de i):Int):Rat)/_
   rw[C.off (λj hj=>⟨(hL.mem j hj).2,bB (hL.mem j hj).1⟩) hi,yj]
  ·rw[ah hk,Kz hk]
 ·by_cases hk:k=de i
  ·subst hk
   rw[ai rfl,hv]
   show _=(((if de i=de i then vl c else 0)+aI (fO de R) (de i):Int):Rat)/_
   rw[ai rfl,ho,cy]
  ·rw[ah hk,Kz hk]
theorem u_{d9:Bq}(hb:i8 M d9)(km:Nat):∀(p:Nat) (L R:Pq) (D:Nat) (k:Pq->Nat->Bool) {Q:Prop},fh M p L->(∀j∈gj R,eQ M j/\p<=j)->u9 (1099511627776*D) R->0<D->D<=1099511627776->Sd M d9 km L R D k=true->
  (∀(R':Pq) (D' t:Nat),Dv n o (dP de d9) (cP (dC de d9)) (fP de D L) (fP de D R) (fP de D' R') t->0<D'->D'<=1099511627776->k R' D'=true->Q)->Q:=by
 induction km with
 |zero=>exactλZ Z Z Z Z Z Z Z Z Z Z h=>no h
 |succ km ih=>
  intro p L R D k Q hL hR hB hD Cy h K
  cases L with
  |z=>exact K R D 0 (.done λm=>yj D) hD Cy h
  |t i c L'=>
   have h:NK M i d9 (Sd M d9 km L' (Pq.t i c R) D k) (ZZ M (Sd M d9 km) R D k i c L')=true:=h
   have O_:=C.lead hL hD
   have hi:=hL.2.1
   have mn:=hL.2.2.2.1
   have PL:=hL.2.2.2.2
   have hRi:∀j∈gj R,eQ M j/\i<=j:=λj hj=>⟨(hR j hj).1,ae (aT hL.1) (hR j hj).2⟩
   refine C.fd hi 0 hb (λf1 f2=>?_) λix l e T f1 f2 f3 hl he jg hT rI hs f4=>?_
   ·rw[f2]at h
    refine ih i L' (.t i c R) D k PL (λj hj=>(au.mp hj).elim (λq=>by rw[q];exact⟨hi,bc _⟩) (hRi j)) ⟨ae mn.abs (Nat.le_mul_of_pos_right _ hD),hB⟩ hD Cy h λR' D' t d1 d2 d3 d4=>K R' D' (t+1) (.keep O_.1 (by rw[j8];exact f1) ?_) d2 d3 d4
    have e:=NT C hi PL O_.2 (C.off (λj hj=>⟨(hR j hj).1,bJ (bI hL.1 (hR j hj).2)⟩) hi)
    rw[e.1,e.2]
    exact d1
   ·rw[f4]at h
    unfold ZZ at h
    rw[rn]at h
    refine i4 h λa1 h=>WH mn hL.2.2.1 he jg h λe' c' w hw g1 g2 GW NS C7 h=>Sj (de:=de) h Cy NS hB λR2 h XJ hR2 Z8 Z9=>i4 h λc1 h=>?_
    have S9:=yk a1
    have vn:l+(i- l)=i:=Nat.add_sub_cancel' rI
    have LR:=C.sub hi hl hs vn
    have TP:fh M (l+1) (.t l e T):=i8.fall hl he jg hT
    refine ih i (yC e' c' (i- l) L' T) R2 (D*e') k (kn _ _ c1) (Z8.symm▸hRi) Z9 (Nat.mul_pos hD GW) XJ h λR' D' t d1 d2 d3 d4=>K R' D' (t+1)
     (.step (g:=fP de e (.t l e T)) (lm:=de l) (lc:=1) (i:=ix) O_.1 (by rw[j8,f1,bS]) f2 (by unfold cP;rw[aA,f3];rfl) (C.sm hL hD Cy) ?_ ?_ (λk hk=>?_) (by rw[LR];exact C.mon _ hs) ?_) d2 d3 d4
    ·rw[O_.2,Ky]
     exact nP (bJ hD) (aB mn.abs (by decide+kernel)) (aB Cy (by decide+kernel))
    ·rw[LR,O_.2];exact KA C TP he jg mn hD Cy
    ·rw[LR]
     obtain⟨j,hj,rfl,TQ⟩:=C.key TP hk
     have:eQ M (j+(i- l)):=(au.mp hj).elim (λq=>by rw[q,vn];exact hi) (S9 j)
     rw[show List.zipWith (·+·) (de j) (de (i- l))=de (j+(i- l))from(C.add j (i- l) TQ hs this).symm]
     exact C.mon _ this
    ·rw[LR,O_.2,NR C (D:=D) (c:=c) hi PL hl he hT hs vn S9 hw g1 g2 jg GW NS C7 hD,<-Cz hD GW hR2]
     exact d1
end
theorem Z_{C D E A B:Rat}(hC:C≠0)(hD:D≠0)(hE:E≠0)(q:E*A=C*B):A/D*(C/D)⁻¹=B/E:=by
 have:A=C*B*E⁻¹:=by grind
 subst this
 grind
theorem Z'{E1 E2 G1 G2 W A B:Rat}(h1:E1≠0)(h2:E2≠0)(h3:G1≠0)(h4:G2≠0)(hW:W≠0)(q1:G1*W=E1)(q2:G2*W=E2):(E1+A)/E1- (E2+B)/E2=(G2*A- G1*B)/(E1*G2):=by
 subst q1 q2
 grind
theorem aa0{E1 E2 G1 G2 W A B:Rat}(h1:E1≠0)(h2:E2≠0)(h3:G1≠0)(h4:G2≠0)(hW:W≠0)(q1:G1*W=E1)(q2:G2*W=E2):A/E1- B/E2=(G2*A- G1*B)/(E1*G2):=by
 subst q1 q2
 grind
theorem tv{g w e:Nat}(h:g*w=e):((g:Nat):Rat)*((w:Nat):Rat)=((e:Nat):Rat):=by rw[<-h];push_cast;rfl
section
variable{n M:Nat}{o:e6}{jn:Nat->Nat->Nat}{de:Nat->List Int}(C:Cd n o M jn de)
include C
theorem KC{i c e p D:Nat}{L p':Pq}(hf:fh M p (.t i c L))(he:∀m,(e:Int)*aI (fO de (.t i c L)) m=vl c*aI (fO de (.t i e p')) m)(h0e:0<e)(hD:0<D):dn o (fP de D (.t i c L)) (de i)/\dF (fP de D (.t i c L)) (de i)=fP de e (.t i e p'):=
 ⟨(C.lead hf hD).1,funext λm=>by
  unfold dF
  rw[(C.lead hf hD).2]
  have q:((((e:Nat):Int)*aI (fO de (.t i c L)) m:Int):Rat)=((vl c*aI (fO de (.t i e p')) m:Int):Rat):=ao _ (he m)
  push_cast at q
  exact Z_ (λe=>hf.2.2.2.1.ne hf.2.2.1 (Rat.intCast_eq_zero_iff.mp e)) (gX hD) (gX h0e) q⟩
theorem rp{L:Pq}{p:Nat}{zero:Bool}{k:Nat->Nat->Pq->Bool}(hL:fh M p L)(h:NL L zero k=true){Q:Prop}(K0:L=.z->zero=true->Q)
  (K:∀(l e:Nat) (p':Pq),eQ M l->0<e->e<=1099511627776->fh M l p'->k l e p'=true->(∀D,0<D->dn o (fP de D L) (de l)/\dF (fP de D L) (de l)=fP de e (.t l e p'))->Q):Q:=by
 cases L with
 |z=>exact K0 rfl h
 |t i c L'=>
  have h:Bool.rec (motive:=λZ=>Bool) (k i (Nat.sub 340282366920938463463374607431768211456 c) (Cs L')) (k i c L') (Nat.ble c 170141183460469231731687303715884105728)=true:=h
  have hs:=hL.2.2.2.1
  cases hb:Nat.ble c 170141183460469231731687303715884105728 with
  |true=>
   rw[hb]at h
   have AG:=hs.low hb
   have hc0:=Nat.pos_of_ne_zero hL.2.2.1
   exact K i c L' hL.2.1 hc0 AG hL.2.2.2.2 h λD hD=>KC C hL (λm=>by rw[eU AG]) hc0 hD
  |false=>
   rw[hb]at h
   have g:=hs.high hb
   have hn:=λm=>NP de m hL.2.2.2.2
   refine K i _ (Cs L') hL.2.1 g.1 g.2.1 (hn []).2 h λD hD=>KC C hL (λm=>?_) g.1 hD
   show((Nat.sub 340282366920938463463374607431768211456 c:Nat):Int)*((if de i=m then vl c else 0)+aI (fO de L') m)=vl c*((if de i=m then vl (Nat.sub 340282366920938463463374607431768211456 c)else 0)+aI (fO de (Cs L')) m)
   rw[(hn m).1,eU g.2.1,g.2.2]
   split<;>grind
theorem NU{a:List Int}:∀{b:List Int},a.length=b.length->mq a (ir a b)=true/\mq b (ir a b)=true:=by
 induction a with
 |nil=>
  intro b h
  rw[List.eq_nil_of_length_eq_zero h.symm]
  exact⟨rfl,rfl⟩
 |cons x a ih=>
  intro b h
  cases b with
  |nil=>exact Nat.noConfusion h
  |cons y b=>
   have i:=ih (Nat.succ.inj h)
   refine⟨?_,?_⟩
   ·show(decide (x<=if y>x then y else x)&&mq a (ir a b))=true
    rw[i.1,Bool.and_true,decide_eq_true_eq]
    exact P2 (λh=>Int.le_of_lt h) λZ=>Int.le_refl x
   ·show(decide (y<=if y>x then y else x)&&mq b (ir a b))=true
    rw[i.2,Bool.and_true,decide_eq_true_eq]
    exact P2 (λZ=>Int.le_refl y) λh=>cc.mp h
theorem ve{l e:Nat}{p:Pq}(hl:eQ M l)(he:0<e)(jg:e<=1099511627776)(hp:fh M l p):fP de e (.t l e p) (de l)=1:=by
 rw[(C.lead (i8.fall hl he jg hp) he).2,eU jg,P1]
 have:=gX he
 grind
theorem Aq{l e s j:Nat}{p:Pq}(hl:eQ M l)(he:0<e)(jg:e<=1099511627776)(hp:fh M l p)(os:eQ M s)(hj:eQ M j)(hs:l+s=j)(hT:∀i∈gj p,eQ M (i+s)):
  (∀k,dj n (fP de e (.t l e p)) (de s) 1⁻¹ k=(((if de j=k then((e:Nat):Int)else 0)+aI (yh de s p) k:Int):Rat)/(e:Rat))/\(∀k,Sm (dj n (fP de e (.t l e p)) (de s) 1⁻¹ k))/\∀k,fP de e (.t l e p) k≠0->gc n (List.zipWith (·+·) k (de s)):=by
 have hf:=i8.fall hl he jg hp
 have jC:∀i∈gj (.t l e p),eQ M i/\eQ M (i+s):=λi hi=>(au.mp hi).elim (λq=>by rw[q,hs];exact⟨hl,hj⟩) λhi=>⟨(hp.mem i hi).2,hT i hi⟩
 have e1:(1:Rat)⁻¹=1:=by decide+kernel
 rw[e1]
 refine⟨λk=>?_,λk=>?_,λk hk=>?_⟩
 ·have h:=C.WG os jC k
  rw[show aI (yh de s (.t l e p)) k=(if de j=k then((e:Nat):Int)else 0)+aI (yh de s p) k from by
   show(if de (l+s)=k then vl e else 0)+_=_
   rw[hs,eU jg]]at h
  rw[h]
  unfold dj
  by_cases hk:k.length=n
  ·rw[ai hk,ai hk,Rat.mul_one];rfl
  ·rw[ah hk,ah hk,yj]
 ·unfold dj
  by_cases hk:k.length=n
  ·rw[ai hk,Rat.mul_one];exact C.sm hf he jg _
  ·rw[ah hk];exact xZ
 ·obtain⟨i,hi,rfl,WI⟩:=C.key hf hk
  rw[show List.zipWith (·+·) (de i) (de s)=de (i+s)from(C.add i s WI os (jC i hi).2).symm]
  exact C.mon _ (jC i hi).2
theorem Sl{e1 e2 g1 g2 w j s1 s2:Nat}{p1 p2:Pq}(Fq:0<e1)(jg:0<e2)(hw:0<w)(a1:g1*w=e1)(a2:0<g1)(a3:g1<=1099511627776)(b1:g2*w=e2)(b2:0<g2)(b3:g2<=1099511627776)(LQ:u9 1099511627776 p1)(Kd:u9 1099511627776 p2)(k:List Int):
  (((if de j=k then((e1:Nat):Int)else 0)+aI (yh de s1 p1) k:Int):Rat)/(e1:Rat)- (((if de j=k then((e2:Nat):Int)else 0)+aI (yh de s2 p2) k:Int):Rat)/(e2:Rat)=
   fP de (e1*g2) (yC 1 (Nat.sub 340282366920938463463374607431768211456 g1) s2 (P0 g2 s1 p1) p2) k:=by
 have AG:(vl g2).natAbs<=1099511627776:=by rw[eU b3,Int.natAbs_natCast];exact b3
 show _=((aI (fO de (yC 1 (Nat.sub 340282366920938463463374607431768211456 g1) s2 (P0 g2 s1 p1) p2)) k:Int):Rat)/((e1*g2:Nat):Rat)
 rw[En de (e:=1) s2 (by decide) (by rw[tu a3,cI,Int.natAbs_natCast];exact a3) k (Sg s1 AG LQ) Kd,Kx de s1 AG k LQ,eU b3,tu a3,show((1:Nat):Int)=1 from rfl,Int.one_mul,Int.neg_mul,<-Int.sub_eq_add_neg]
 generalize aI (yh de s1 p1) k=a
 generalize aI (yh de s2 p2) k=b
 by_cases hk:de j=k
 ·rw[ai hk,ai hk]
  push_cast
  exact Z' (gX Fq) (gX jg) (gX a2) (gX b2) (gX hw) (tv a1) (tv b1)
 ·rw[ah hk,ah hk,bU,bU]
  push_cast
  exact aa0 (gX Fq) (gX jg) (gX a2) (gX b2) (gX hw) (tv a1) (tv b1)
theorem KD{l1 e1 l2 e2 j:Nat}{p1 p2:Pq}{k:Pq->Nat->Bool}(h1:eQ M l1)(Fq:0<e1)(KG:e1<=1099511627776)(LQ:fh M l1 p1)(h2:eQ M l2)(jg:0<e2)(KH:e2<=1099511627776)(Kd:fh M l2 p2)(hj:j=jn l1 l2)
  (h:spQ M l1 e1 p1 l2 e2 p2 j k=true) {Q:Prop} (K:∀L D,fh M j L->0<D->D<=1099511627776->k L D=true->J1 n (fP de e1 (.t l1 e1 p1)) (fP de e2 (.t l2 e2 p2)) (de l1) (de l2)->qa n (fP de e1 (.t l1 e1 p1)) (fP de e2 (.t l2 e2 p2)) (de l1) (de l2)=fP de D L->gc n (List.zipWith (· - ·) (ir (de l1) (de l2)) (de l1))->gc n (List.zipWith (· - ·) (ir (de l1) (de l2)) (de l2))->Q):Q:=by
 have oj:=C.jo l1 l2 h1 h2
 rw[<-hj]at oj
 have dv:=NU C ((C.mon l1 h1).1.trans (C.mon l2 h2).1.symm)
 rw[<-oj.2]at dv K
 have q1:=(C.dv l1 j h1 oj.1).mp dv.1
 have q2:=(C.dv l2 j h2 oj.1).mp dv.2
 have j1:l1+(j- l1)=j:=Nat.add_sub_cancel' q1.1
 have j2:l2+(j- l2)=j:=Nat.add_sub_cancel' q2.1
 have d1:=C.sub oj.1 h1 q1.2 j1
 have d2:=C.sub oj.1 h2 q2.2 j2
 have v1:=ve C h1 Fq KG LQ
 have v2:=ve C h2 jg KH Kd
 refine i4 h λc1 h=>i4 h λc2 h=>i4 h λc3 h=>i4 h λc4 h=>?_
 have r1:=Aq C h1 Fq KG LQ q1.2 oj.1 j1 (yk c2)
 have r2:=Aq C h2 jg KH Kd q2.2 oj.1 j2 (yk c3)
 have hw:0<Nat.gcd e1 e2:=Nat.gcd_pos_of_pos_left _ Fq
 have a:=nQ (Nat.gcd_dvd_left e1 e2) hw Fq
 have b:=nQ (Nat.gcd_dvd_right e1 e2) hw jg
 rw[d1,d2]at K
 refine K _ _ (kn _ _ c4) (Nat.mul_pos Fq b.2.1) (gy c1) h ⟨?_,?_,?_,?_⟩ (funext λk=>?_) (C.mon _ q1.2) (C.mon _ q2.2)
 ·rw[<-oj.2,d1];exact r1.2.2
 ·rw[<-oj.2,d2];exact r2.2.2
 ·rw[<-oj.2,d1,v1];exact r1.2.1
 ·rw[<-oj.2,d2,v2];exact r2.2.1
 ·have e:∀k,qa n (fP de e1 (.t l1 e1 p1)) (fP de e2 (.t l2 e2 p2)) (de l1) (de l2) k=dj n (fP de e1 (.t l1 e1 p1)) (List.zipWith (· - ·) (ir (de l1) (de l2)) (de l1)) (fP de e1 (.t l1 e1 p1) (de l1))⁻¹ k- dj n (fP de e2 (.t l2 e2 p2)) (List.zipWith (· - ·) (ir (de l1) (de l2)) (de l2)) (fP de e2 (.t l2 e2 p2) (de l2))⁻¹ k:=λZ=>rfl
  rw[e,v1,v2,<-oj.2,d1,d2,r1.1,r2.1]
  exact Sl C Fq jg hw a.1 a.2.1 (ae a.2.2 KG) b.1 b.2.1 (ae b.2.2 KH) LQ.cV Kd.cV k
end
noncomputable def fy:Bq->List Nat
 |.z=>[]
 |.t l _ _ r=>l::fy r
noncomputable def sv:Wq->List (Nat×Nat)
 |.z=>[]
 |.t a b _ r=>(a,b)::sv r
def TS(jn:Nat->Nat->Nat)(cs:List Nat)(a b j:Nat):Prop:=∃x y,cs[a]?=some x/\cs[b]?=some y/\j=jn x y
noncomputable def CB(jn:Nat->Nat->Nat)(cs:List Nat):Wq->Prop
 |.z=>True
 |.t a b j r=>TS jn cs a b j/\CB jn cs r
theorem CC{a b:Nat}(h:b<a):Nat.ble a b=false:=Bool.eq_false_iff.mpr λe=>Nat.not_le_of_lt h (gy e)
theorem WJ{a b:Nat}(h:a≠b):Nat.beq a b=false:=Bool.eq_false_iff.mpr λe=>h (bf e)
theorem dQ(de:Nat->List Int)(B:Bq):dC de B=(fy B).map de:=by
 induction B with
 |z=>rfl
 |t l _ _ r ih=>exact ao (de l::·) ih
theorem So{M:Nat}{B:Bq}:i8 M B->∀l∈fy B,eQ M l:=by
 induction B with
 |z=>exactλZ Z h=>(a7 h).elim
 |t l e p r ih=>exactλh x hx=>(au.mp hx).elim (λq=>q▸h.1) (ih h.2.2.2.2 x)
theorem fX(de:Nat->List Int)(B:Bq):(dP de B).length=(fy B).length:=by
 induction B with
 |z=>rfl
 |t _ _ _ r ih=>exact ao Nat.succ ih
theorem Eo(B:Bq):GG B=(fy B).length:=by
 induction B with
 |z=>rfl
 |t _ _ _ r ih=>exact ao Nat.succ ih
theorem i5(de:Nat->List Int)(A B:Bq):dP de (iB A B)=dP de A++dP de B:=by
 induction A with
 |z=>rfl
 |t l e p r ih=>exact ao (_::·) ih
theorem iw(A B:Bq):fy (iB A B)=fy A++fy B:=by
 induction A with
 |z=>rfl
 |t l e p r ih=>exact ao (l::·) ih
theorem qj{M:Nat}{A B:Bq}(h':i8 M B):i8 M A->i8 M (iB A B):=by
 induction A with
 |z=>exactλZ=>h'
 |t l e p r ih=>exactλh=>⟨h.1,h.2.1,h.2.2.1,h.2.2.2.1,ih h.2.2.2.2⟩
theorem Ep(A B:Wq):sv (Kw A B)=sv A++sv B:=by
 induction A with
 |z=>rfl
 |t a b j r ih=>exact ao ((a,b)::·) ih
theorem Er{jn:Nat->Nat->Nat}{cs:List Nat}{A B:Wq}(h':CB jn cs B):CB jn cs A->CB jn cs (Kw A B):=by
 induction A with
 |z=>exactλZ=>h'
 |t a b j r ih=>exactλh=>⟨h.1,ih h.2⟩
theorem CB.ext{jn:Nat->Nat->Nat}{cs:List Nat}(l:Nat){W:Wq}:CB jn cs W->CB jn (cs++[l]) W:=by
 induction W with
 |z=>exactλZ=>trivial
 |t a b j r ih=>
  have lift:∀{i:Nat} {z:Nat},cs[i]?=some z->(cs++[l])[i]?=some z:=λ{i z} hz=>by
   rw[cj (cg.mp hz).1];exact hz
  exactλh=>⟨h.1.imp λx h=>h.imp λy h=>⟨lift h.1,lift h.2.1,h.2.2⟩,ih h.2⟩
theorem Es(a b a' b':Nat):((a',b')==(a,b))=(Nat.beq a' a&&Nat.beq b' b):=by
 rw[Bool.eq_iff_iff,beq_iff_eq,bp,Nat.beq_eq,Nat.beq_eq,Prod.mk.injEq]
theorem Sq(a b:Nat)(W:Wq):sv (qi a b W)=d6 (a,b) (sv W):=by
 induction W with
 |z=>rfl
 |t a' b' j r ih=>
  show sv (Bool.rec (motive:=λZ=>Wq) (Wq.t a' b' j (qi a b r)) (Bool.rec (motive:=λZ=>Wq) (Wq.t a' b' j (qi a b r)) (qi a b r) (Nat.beq b' b)) (Nat.beq a' a))=((a',b')::sv r).filter λq=> !(q==(a,b))
  rw[List.filter_cons,Es]
  cases Nat.beq a' a with
  |false=>exact ao ((a',b')::·) ih
  |true=>
   cases Nat.beq b' b with
   |false=>exact ao ((a',b')::·) ih
   |true=>exact ih
theorem Sr{jn:Nat->Nat->Nat}{cs:List Nat}(a b:Nat){W:Wq}:CB jn cs W->CB jn cs (qi a b W):=by
 induction W with
 |z=>exactλZ=>trivial
 |t a' b' j r ih=>
  intro h
  show CB jn cs (Bool.rec (motive:=λZ=>Wq) (Wq.t a' b' j (qi a b r)) (Bool.rec (motive:=λZ=>Wq) (Wq.t a' b' j (qi a b r)) (qi a b r) (Nat.beq b' b)) (Nat.beq a' a))
  cases Nat.beq a' a with
  |false=>exact⟨h.1,ih h.2⟩
  |true=>
   cases Nat.beq b' b with
   |false=>exact⟨h.1,ih h.2⟩
   |true=>exact ih h.2
theorem CD(a b:Nat)(W:Wq):Kt W a b=qd (sv W) a b:=by
 induction W with
 |z=>rfl
 |t a' b' j r ih=>
  show Bool.rec (motive:=λZ=>Bool) (Kt r a b) (Bool.rec (motive:=λZ=>Bool) (Kt r a b) true (Nat.beq b' b)) (Nat.beq a' a)=(pL (a',b')::(sv r).map pL).contains [(a:Int),(b:Int)]
  have hp:([(a:Int),(b:Int)]==pL (a',b'))=(Nat.beq a' a&&Nat.beq b' b):=by
   rw[<-Es,Bool.eq_iff_iff,beq_iff_eq,beq_iff_eq]
   exact⟨λe=>Prod.ext (di (cH e).1).symm (di (cH (cH e).2).1).symm,λe=>by cases e;rfl⟩
  rw[List.contains_cons,hp]
  cases Nat.beq a' a with
  |false=>exact ih
  |true=>
   cases Nat.beq b' b with
   |false=>exact ih
   |true=>rfl
theorem Et(a i:Nat)(W:Wq):Ao W a i=qd (sv W) (BV a i) (BW a i):=by
 unfold Ao BV BW
 rcases Nat.lt_trichotomy a i with h|h|h
 ·rw[aU (aT h),ah (cc.mpr (cJ.mpr (aT h))),ai (cp.mpr h)]
  exact CD a i W
 ·subst h
  rw[aU (bc _),ah (Int.lt_irrefl _)]
  exact CD a a W
 ·rw[CC h,ai (cp.mpr h),ah (cc.mpr (cJ.mpr (aT h)))]
  exact CD i a W
theorem KI(jn:Nat->Nat->Nat)(l N:Nat)(B:Bq):∀(i:Nat),sv (Ku jn l N B i)=(List.range' i (fy B).length).map λi=>(i,N):=by
 induction B with
 |z=>exactλZ=>rfl
 |t l' e p r ih=>exactλi=>ao ((i,N)::·) (ih (i+1))
theorem KJ(jn:Nat->Nat->Nat)(l:Nat)(B:Bq):∀(pre:List Nat) (N:Nat),N=(pre++fy B).length->CB jn ((pre++fy B)++[l]) (Ku jn l N B pre.length):=by
 induction B with
 |z=>exactλZ Z Z=>trivial
 |t l' e p r ih=>
  intro pre N hN
  have h2:pre++fy (.t l' e p r)=(pre++[l'])++fy r:=(List.append_cons pre l' (fy r))
  refine⟨⟨l',l,?_,?_,rfl⟩,?_⟩
  ·show((pre++l'::fy r)++[l])[pre.length]?=some l'
   rw[bx,ba (bc _),Nat.sub_self];rfl
  ·rw[hN,ba (bc _),Nat.sub_self];rfl
  ·have:=ih (pre++[l']) N (by rw[hN,h2])
   rw[aC,List.length_singleton]at this
   rw[h2]
   exact this
theorem aa1(a b a' b':Nat):dZ [(a:Int),(b:Int)] [(a':Int),(b':Int)]=Bool.rec (motive:=λZ=>Bool) (Bool.rec (motive:=λZ=>Bool) false (Nat.ble (Nat.succ b) b') (Nat.beq a a')) true (Nat.ble (Nat.succ a) a'):=by
 show(if(a:Int)==(a':Int)then(if(b:Int)==(b':Int)then false else decide ((b:Int)<(b':Int)))else decide ((a:Int)<(a':Int)))=_
 have ne:∀{x y:Nat},x≠y->¬((x:Int)==(y:Int))=true:=λh e=>h (di (bt e))
 rcases Nat.lt_trichotomy a a' with h|h|h
 ·rw[ah (ne (bB h)),aU h,bF (cp.mpr h)]
 ·subst h
  rw[ai (cv _),CC (ct a),show Nat.beq a a=true from Nat.beq_refl a]
  rcases Nat.lt_trichotomy b b' with h|h|h
  ·rw[ah (ne (bB h)),aU h,bF (cp.mpr h)]
  ·subst h
   rw[ai (cv _),CC (ct b)]
  ·rw[ah (ne (bJ h)),CC (dx h),b9 (cc.mpr (cJ.mpr (aT h)))]
 ·rw[ah (ne (bJ h)),CC (dx h),WJ (bJ h),b9 (cc.mpr (cJ.mpr (aT h)))]
theorem P4{M:Nat}(de:Nat->List Int){k:Nat->Nat->Pq->Bool}{B:Bq}:∀{n:Nat} {Q:Prop},i8 M B->Z0 B k n=true->(∀l e p,(dP de B)[n]?=some (fP de e (.t l e p))->(fy B)[n]?=some l->eQ M l->0<e->e<=1099511627776->fh M l p->k l e p=true->Q)->Q:=by
 induction B with
 |z=>exactλZ h=>no h
 |t l e p r ih=>
  exactλ{n Q} hb h K=>by
   cases n with
   |zero=>exact K l e p rfl rfl hb.1 hb.2.1 hb.2.2.1 hb.2.2.2.1 h
   |succ n=>exact ih hb.2.2.2.2 h K
section
variable{n M:Nat}{o:e6}{jn:Nat->Nat->Nat}{de:Nat->List Int}(C:Cd n o M jn de)
include C
theorem KL{cs:List Nat}(hc:∀l∈cs,eQ M l){a b j:Nat}(h:TS jn cs a b j):qX o (cs.map de) (a,b)=eR o (de j)/\eQ M j:=by
 obtain⟨x,y,h1,h2,rfl⟩:=h
 obtain⟨g1,g2⟩:=C.jo x y (hc x (dw h1)) (hc y (dw h2))
 refine⟨?_,g1⟩
 unfold qX
 rw[aK,aK,aA,aA,h1,h2,g2];rfl
theorem WK{cs:List Nat}(hc:∀l∈cs,eQ M l){a b j a' b' j':Nat}(h:TS jn cs a b j)(h':TS jn cs a' b' j'):Kr j a b j' a' b'=jL o (cs.map de) (a,b) (a',b'):=by
 have k1:=KL C hc h
 have k2:=KL C hc h'
 unfold jL Kr
 rw[k1.1,k2.1]
 have ne:j≠j'->¬(eR o (de j)==eR o (de j'))=true:=λn e=>n (C.inj k1.2 k2.2 (z4 o (bt e)))
 rcases Nat.lt_trichotomy j j' with hl|hl|hl
 ·rw[ah (ne (bB hl)),aU hl]
  exact(C.lt j j' k1.2 k2.2 hl).symm
 ·subst hl
  rw[ai (cv _),CC (ct j),show Nat.beq j j=true from Nat.beq_refl j]
  exact(aa1 a b a' b').symm
 ·rw[ah (ne (bJ hl)),CC (dx hl),WJ (bJ hl)]
  exact(C.X6 k1.2 k2.2 (aT hl)).symm
theorem WL{cs:List Nat}(hc:∀l∈cs,eQ M l){k:Nat->Nat->Nat->Bool}{W:Wq}:∀{a b j:Nat} {Q:Prop},CB jn cs W->TS jn cs a b j->WC W k a b j=true->
  (∀a' b' j',gL o (cs.map de) (some (a,b)) (sv W)=some (a',b')->TS jn cs a' b' j'->k a' b' j'=true->Q)->Q:=by
 induction W with
 |z=>exactλ{a b j Q} Z h hk K=>K a b j rfl h hk
 |t a1 b1 j1 r ih=>
  exactλ{a b j Q} hW h hk K=>by
   have hk:Bool.rec (motive:=λZ=>Bool) (WC r k a b j) (WC r k a1 b1 j1) (Kr j1 a1 b1 j a b)=true:=hk
   have e:gL o (cs.map de) (some (a,b)) (sv (.t a1 b1 j1 r))=gL o (cs.map de) (if jL o (cs.map de) (a1,b1) (a,b)then some (a1,b1)else some (a,b)) (sv r):=rfl
   rw[e,<-WK C hc hW.1 h]at K
   cases hl:Kr j1 a1 b1 j a b with
   |true=>
    rw[hl]at hk K
    exact ih hW.2 hW.1 hk K
   |false=>
    rw[hl]at hk K
    exact ih hW.2 h hk K
theorem WM{a b j:Nat}{W:Wq}(hj:eQ M j){B:Bq}:∀(i:Nat),i8 M B->G8 M a b j W B i=l_ (a,b) (sv W) (de j) i (dC de B):=by
 induction B with
 |z=>exactλZ Z=>rfl
 |t l e p r ih=>
  intro i h
  have e1:G8 M a b j W (.t l e p r) i=Bool.rec (motive:=λZ=>Bool) (Bool.rec (motive:=λZ=>Bool) (Bool.rec (motive:=λZ=>Bool) (G8 M a b j W r (Nat.succ i))
   (Nat.rec (motive:=λZ=>Bool) (G8 M a b j W r (Nat.succ i)) (λZ Z=>Bool.rec (motive:=λZ=>Bool) (Bool.rec (motive:=λZ=>Bool) true (G8 M a b j W r (Nat.succ i)) (Ao W b i)) (G8 M a b j W r (Nat.succ i)) (Ao W a i)) (Nat.land (Nat.shiftRight M (j- l)) 1))
   (Nat.ble l j)) (G8 M a b j W r (Nat.succ i)) (Nat.beq i b)) (G8 M a b j W r (Nat.succ i)) (Nat.beq i a):=rfl
  have e2:l_ (a,b) (sv W) (de j) i (dC de (.t l e p r))=if(pL (a,b)).contains (i:Int)|| !mq (de l) (de j)then l_ (a,b) (sv W) (de j) (i+1) (dC de r)
   else if !qd (sv W) (BV a i) (BW a i)&& !qd (sv W) (BV b i) (BW b i)then true else l_ (a,b) (sv W) (de j) (i+1) (dC de r):=rfl
  have aa2:(pL (a,b)).contains (i:Int)=(Nat.beq i a||Nat.beq i b):=by
   have be:∀x:Nat,((i:Int)==(x:Int))=Nat.beq i x:=λx=>by rw[Bool.eq_iff_iff,beq_iff_eq,Nat.beq_eq];exact⟨di,ao _⟩
   show((i:Int)==(a:Int)||((i:Int)==(b:Int)||false))=_
   rw[Bool.or_false,be,be]
  rw[e1,e2,<-ih (i+1) h.2.2.2.2,<-Et,<-Et,aa2]
  generalize G8 M a b j W r (Nat.succ i)=z
  cases Nat.beq i a with
  |true=>rfl
  |false=>
   cases Nat.beq i b with
   |true=>rfl
   |false=>
    cases hd:mq (de l) (de j)with
    |true=>
     have d:=(C.dv l j h.1 hj).mp hd
     rw[aU d.1]
     refine(yf d.2).trans ?_
     cases Ao W a i with
     |true=>rfl
     |false=>cases Ao W b i<;>rfl
    |false=>
     cases hb:Nat.ble l j with
     |false=>rfl
     |true=>exact yg λok=>aJ (hd.symm.trans ((C.dv l j h.1 hj).mpr ⟨gy hb,ok⟩))
end
theorem NV(de:Nat->List Int)(D:Nat):fP de D .z=λZ=>0:=funext λm=>yj D
theorem CE(de:Nat->List Int)(D:Nat)(R:Pq):fP de D (vO R .z)=fP de D R:=funext λm=>by
 unfold fP
 rw[NO]
 show(((aI (fO de R) m+0:Int)):Rat)/_=_
 rw[cy]
theorem nR{α:Type}{x y:α}{o:Option α}(h:o=some x)(h':o=some y):x=y:=by rw[h]at h';exact aW h'
theorem aa3{a b:Nat}(h:a=b):Nat.beq a b=true:=h▸Nat.beq_refl a
structure WN(n:Nat)(o:e6)(P:bM->Prop):Prop where
 dv:∀(G:List bM) (L:List (List Int×Rat)) (f res:bM) (t:Nat),Gs n o G L->(∀g∈G,P g)->P f->(∀k,f k≠0->gc n k)->Dv n o G L f (λZ=>0) res t->P res
 sp:∀(f g:bM) (mf mg:List Int),P f->P g->(∀k,f k≠0->gc n k)->(∀k,g k≠0->gc n k)->gc n (List.zipWith (· - ·) (ir mf mg) mf)->gc n (List.zipWith (· - ·) (ir mf mg) mg)->J1 n f g mf mg->P (qa n f g mf mg)
 mo:∀(f:bM) (m:List Int),P f->P (dF f m)
theorem NW(m:List Int)(L:aM):∀(i:Nat),decide (0<=dG m i L)=L.any λl=>mq l m:=by
 induction L with
 |nil=>exactλZ=>rfl
 |cons l r ih=>
  intro i
  rw[List.any_cons,<-ih (i+1)]
  show decide (0<=if mq l m then(i:Int)else dG m (i+1) r)=_
  cases mq l m with
  |true=>exact bF (bg i)
  |false=>rfl
section
variable{n M:Nat}{o:e6}{jn:Nat->Nat->Nat}{de:Nat->List Int}(C:Cd n o M jn de)
include C
theorem KN{ew:Nat}(km:Nat):∀(d9:Bq) (W:Wq) (d:Nat) (k:Bq->Bool) {Q:Prop},i8 M d9->CB jn (fy d9) W->d+km<=ew->(fy d9).length+km<=59->X5 M jn km d9 W k=true->
  (∀qk t,i8 M qk->(fy qk).length<=59->k qk=true->Gr n o ew (dP de d9) (dC de d9) (sv W) d (dP de qk) t->(∀P,WN n o P->(∀g∈dP de d9,P g)->∀g∈dP de qk,P g)->Q)->Q:=by
 induction km with
 |zero=>exactλZ Z Z Z Z Z Z Z Z h=>no h
 |succ km ih=>
  intro d9 W d k Q hb hW hd hn h K
  cases W with
  |z=>exact K d9 0 hb (ae (aS _ _) hn) h .done λP Z h=>h
  |t a0 b0 j0 W'=>
   have hd1:d+km<=ew:=ae (Nat.le_succ _) hd
   have hd2:d+1+km<=ew:=(bo d km).symm▸hd
   have Bm:(fy d9).length+km<=59:=ae (Nat.le_succ _) hn
   have hco:=So hb
   have h:WC W' (gr2 M jn (X5 M jn km) d9 k (Wq.t a0 b0 j0 W')) a0 b0 j0=true:=h
   refine WL C hco hW.2 hW.1 h λa b j hl aa4 h=>P4 de hb h λl1 e1 p1 g1 c1 o1 Fq KG LQ h=>P4 de hb h λl2 e2 p2 g2 c2 o2 jg KH Kd h=>?_
   have CF:gL o (dC de d9) none (sv (.t a0 b0 j0 W'))=some (a,b):=by rw[dQ];exact hl
   have hj:j=jn l1 l2:=by
    obtain⟨x,y,hx,hy,hj⟩:=aa4
    rw[hj,nR c1 hx,nR c2 hy]
   have oj:=C.jo l1 l2 o1 o2
   rw[<-hj]at oj
   have hW2:=Sr (jn:=jn) (cs:=fy d9) a b hW
   have Gi:=Sq a b (.t a0 b0 j0 W')
   have VR:(dC de d9)[a]?=some (de l1):=by rw[dQ,aA,c1];rfl
   have D6:(dC de d9)[b]?=some (de l2):=by rw[dQ,aA,c2];rfl
   have sA:gQ (a,b) (sv (qi a b (.t a0 b0 j0 W'))) (dC de d9)=if(eX (List.zipWith (λu v=>if v<u then v else u) (de l1) (de l2))==0)=true then true else G8 M a b j (qi a b (.t a0 b0 j0 W')) d9 0:=by
    unfold gQ
    rw[aK,aK,VR,D6,WM C oj.1 0 hb,oj.2];rfl
   rw[Gi]at sA
   have P5:gQ (a,b) (d6 (a,b) (sv (.t a0 b0 j0 W'))) (dC de d9)=true->X5 M jn km d9 (qi a b (.t a0 b0 j0 W')) k=true->Q:=λqG hz=>
    ih d9 _ d k hb hW2 hd1 Bm hz λqk t r1 r2 r3 r4 r5=>K qk (t+1) r1 r2 r3 (.skip CF qG (Gi▸r4)) r5
   unfold gr4 at h
   cases Km:Nat.beq (Nat.add l1 l2) j with
   |true=>
    rw[Km]at h
    exact P5 (by rw[sA,ai ((C.ap l1 l2 o1 o2).mpr ((bf Km).trans hj))]) h
   |false=>
    rw[ah λe=>aJ (Km.symm.trans (aa3 (((C.ap l1 l2 o1 o2).mp e).trans hj.symm)))]at sA
    rw[Km]at h
    cases hnl:G8 M a b j (qi a b (.t a0 b0 j0 W')) d9 0 with
    |true=>
     rw[hnl]at h sA
     exact P5 sA h
    |false=>
     rw[hnl]at h sA
     refine KD C o1 Fq KG LQ o2 jg KH Kd hj h λL D hL hD Cy h hsp KO aa5 aa6=>u_ C hb 40 j L .z D _ hL (λi hi=>(a7 hi).elim) trivial hD Cy h λR D' s LS WO Ss h=>i4 h λAr h=>?_
     rw[NV,<-KO,<-CE de D' R]at LS
     refine rp C (kn _ _ Ar) h (λe h=>?_) λl e p ol he CG hp h ip=>?_
     ·rw[e,NV]at LS
      exact ih d9 _ (d+1) k hb hW2 hd2 Bm h λqk t r1 r2 r3 r4 r5=>K qk (t+1) r1 r2 r3 (.zero CF sA (bI (cW (Nat.succ_pos _)) hd) g1 g2 VR D6 hsp LS (λm=>rfl) (Gi▸r4)) r5
     ·unfold gr8 at h
      rw[rn]at h
      have hm:=ip D' WO
      have fR:=Eo d9
      have hWn:CB jn (fy (iB d9 (Bq.t l e p Bq.z))) (Kw (qi a b (.t a0 b0 j0 W')) (Ku jn l (GG d9) d9 0)):=by
       rw[iw]
       exact Er (KJ jn l d9 [] (GG d9) fR) (hW2.ext l)
      have xr:i8 M (Bq.t l e p Bq.z):=⟨ol,he,CG,hp,trivial⟩
      have hc:(fy (iB d9 (Bq.t l e p Bq.z))).length=(fy d9).length+1:=by rw[iw,aC];rfl
      refine ih _ _ (d+1) k (qj xr hb) hWn hd2 (by rw[hc,bo];exact hn) h λqk t r1 r2 r3 r4 r5=>K qk (t+1) r1 r2 r3 ?_ λP hP jC=>r5 P hP λg hg=>?_
      ·rw[i5,dQ,iw,b8,<-dQ,Ep,Gi,KI,fR,<-fX de d9,show(List.range' 0 (dP de d9).length).map (λi=>(i,(dP de d9).length))=d5 (dP de d9).length by unfold d5;rw[List.range_eq_range'],show dP de (Bq.t l e p Bq.z)=[dF (fP de D' (vO R .z)) (de l)] by rw[hm.2];rfl]at r4
       refine .more CF sA (bI (cW (Nat.succ_pos _)) hd) g1 g2 VR D6 hsp LS hm.1 (C.sm (kn _ _ Ar) WO Ss) (λm=>?_) (by rw[fX];exact aL (ae (aS _ _) hn)) r4
       rw[hm.2]
       exact C.sm (i8.fall ol he CG hp) he CG m
      ·rw[i5]at hg
       refine(bN.mp hg).elim (jC g) λhg=>?_
       rw[az.mp hg,<-hm.2]
       refine hP.mo _ _ (hP.dv _ _ _ _ _ (C.gs hb) jC (hP.sp _ _ _ _ (jC _ (dw g1)) (jC _ (dw g2)) ((C.gs hb).mon _ (dw g1)) ((C.gs hb).mon _ (dw g2)) (oj.2▸aa5) (oj.2▸aa6) hsp) (λk hk=>?_) LS)
       rw[KO]at hk
       obtain⟨i,_,rfl,WI⟩:=C.key hL hk
       exact C.mon i WI
theorem KP{l m:Nat}(hl:eQ M l)(hm:eQ M m)(x:Bool):Bool.rec (motive:=λZ=>Bool) x (Nat.rec (motive:=λZ=>Bool) x (λZ Z=>true) (Nat.land (Nat.shiftRight M (m- l)) 1)) (Nat.ble l m)=(mq (de l) (de m)||x):=by
 cases hd:mq (de l) (de m)with
 |true=>
  have d:=(C.dv l m hl hm).mp hd
  rw[aU d.1]
  exact yf d.2
 |false=>
  cases hb:Nat.ble l m with
  |false=>rfl
  |true=>exact yg λok=>aJ (hd.symm.trans ((C.dv l m hl hm).mpr ⟨gy hb,ok⟩))
theorem Su{m:Nat}(hm:eQ M m){B:Bq}:i8 M B->vP M m B=(dC de B).any λl=>mq l (de m):=by
 induction B with
 |z=>exactλZ=>rfl
 |t l e p r ih=>
  intro h
  show Bool.rec (motive:=λZ=>Bool) (vP M m r) (Nat.rec (motive:=λZ=>Bool) (vP M m r) (λZ Z=>true) (Nat.land (Nat.shiftRight M (m- l)) 1)) (Nat.ble l m)=(de l::dC de r).any λl=>mq l (de m)
  rw[List.any_cons,<-ih h.2.2.2.2]
  exact KP C h.1 hm _
theorem NX{m:Nat}(hm:eQ M m){B:Bq}:i8 M B->u7 M m B=((dC de B).filter λq=> !(q==de m)).any λl=>mq l (de m):=by
 induction B with
 |z=>exactλZ=>rfl
 |t l e p r ih=>
  intro h
  show Bool.rec (motive:=λZ=>Bool) (Bool.rec (motive:=λZ=>Bool) (u7 M m r) (Nat.rec (motive:=λZ=>Bool) (u7 M m r) (λZ Z=>true) (Nat.land (Nat.shiftRight M (m- l)) 1)) (Nat.ble l m)) (u7 M m r) (Nat.beq l m)=((de l::dC de r).filter λq=> !(q==de m)).any λl=>mq l (de m)
  rw[List.filter_cons,show(de l==de m)=Nat.beq l m by
   rw[Bool.eq_iff_iff,beq_iff_eq,Nat.beq_eq]
   exact⟨λe=>C.inj h.1 hm e,λe=>by rw[e]⟩]
  cases Nat.beq l m with
  |true=>exact ih h.2.2.2.2
  |false=>
   rw[show(if(!false)=true then de l::(dC de r).filter (λq=> !(q==de m))else(dC de r).filter λq=> !(q==de m))=de l::(dC de r).filter (λq=> !(q==de m))from rfl,List.any_cons,<-ih h.2.2.2.2]
   exact KP C h.1 hm _
omit C in
theorem KQ{l e:Nat}{p:Pq}{r pre:Bq}:jY M (.t l e p r) pre=if(vP M l pre||u7 M l r)=true then jY M r (iB pre (Bq.t l e p Bq.z))else Bq.t l e p (jY M r (iB pre (Bq.t l e p Bq.z))):=by
 have e1:jY M (.t l e p r) pre=Bool.rec (motive:=λZ=>Bq) (Bool.rec (motive:=λZ=>Bq) (Bq.t l e p (jY M r (iB pre (Bq.t l e p Bq.z)))) (jY M r (iB pre (Bq.t l e p Bq.z))) (u7 M l r)) (jY M r (iB pre (Bq.t l e p Bq.z))) (vP M l pre):=rfl
 rw[e1]
 cases vP M l pre<;>cases u7 M l r<;>rfl
theorem GH(z:bM)(all:aM)(G:List bM)(rest:Bq):∀(pre:Bq),i8 M pre->i8 M rest->all=dC de pre++dC de rest->G=dP de pre++dP de rest->
  dP de (jY M rest pre)=iY z all G (fy pre).length (dC de rest)/\dC de (jY M rest pre)=iY [] all all (fy pre).length (dC de rest)/\i8 M (jY M rest pre)/\(fy (jY M rest pre)).length<=(fy rest).length:=by
 induction rest with
 |z=>exactλZ Z Z Z Z=>⟨rfl,rfl,trivial,bc _⟩
 |t l e p r ih=>
  intro pre hp hr jC hG
  have WQ:(dC de pre).length=(fy pre).length:=by rw[dQ,ag]
  have WR:=fX de pre
  have xr:i8 M (Bq.t l e p Bq.z):=⟨hr.1,hr.2.1,hr.2.2.1,hr.2.2.2.1,trivial⟩
  have i:=ih (iB pre (Bq.t l e p Bq.z)) (qj xr hp) hr.2.2.2.2 (by
   rw[dQ de (iB _ _),iw,b8,<-dQ,jC]
   exact List.append_cons ..) (by
   rw[i5,hG]
   exact List.append_cons ..)
  rw[iw,aC]at i
  have aa7:eV all (fy pre).length (de l)=dC de pre++(dC de r).filter λq=> !(q==de l):=by
   unfold eV
   rw[jC,<-WQ,List.take_left' rfl]
   congr 2
   show(dC de pre++de l::dC de r).drop ((dC de pre).length+1)=_
   rw[<-List.drop_drop,List.drop_left' rfl];rfl
  have ql:decide (0<=dG (de l) 0 (eV all (fy pre).length (de l)))=(vP M l pre||u7 M l r):=by
   rw[NW,aa7,List.any_append,Su C hr.1 hp,NX C hr.1 hr.2.2.2.2]
  have e2:∀{α:Type} (z:α) (all:aM) (G:List α),iY z all G (fy pre).length (dC de (.t l e p r))=if decide (0<=dG (de l) 0 (eV all (fy pre).length (de l)))then iY z all G ((fy pre).length+1) (dC de r)else G.getD (fy pre).length z::iY z all G ((fy pre).length+1) (dC de r):=λZ Z Z=>rfl
  rw[KQ,e2,e2,ql]
  cases(vP M l pre||u7 M l r)with
  |true=>exact⟨i.1,i.2.1,i.2.2.1,cR i.2.2.2⟩
  |false=>
   refine⟨?_,?_,⟨hr.1,hr.2.1,hr.2.2.1,hr.2.2.2.1,i.2.2.1⟩,aL i.2.2.2⟩
   ·show fP de e (.t l e p)::dP de (jY M r (iB pre (Bq.t l e p Bq.z)))=G.getD (fy pre).length z::_
    rw[i.1,aK,hG,<-WR,ba (bc _),Nat.sub_self];rfl
   ·show de l::dC de (jY M r (iB pre (Bq.t l e p Bq.z)))=all.getD (fy pre).length []::_
    rw[i.2.1,aK,jC,<-WQ,ba (bc _),Nat.sub_self];rfl
theorem NY(rest:Bq):∀(pre:Bq),∀g∈dP de (jY M rest pre),g∈dP de rest:=by
 induction rest with
 |z=>exactλZ Z h=>h
 |t l e p r ih=>
  intro pre g h
  rw[KQ]at h
  revert h
  cases(vP M l pre||u7 M l r)with
  |true=>exactλh=>.tail _ (ih _ g h)
  |false=>exactλh=>(au.mp h).elim (λq=>q▸.head _) λh=>.tail _ (ih _ g h)
omit C in
theorem As{α:Type}{A B:List α}{x:α}{i:Nat}(h:A.length=i):(A++x::B).eraseIdx i=A++B:=by
 rw[List.eraseIdx_append_of_length_le (aP h),h,Nat.sub_self];rfl
omit C in
theorem KR{α:Type}{A B:List α}{x y:α}{i:Nat}(h:A.length=i):(A++x::B).set i y=(A++[y])++B:=by
 rw[List.set_append_right _ _ (aP h),h,Nat.sub_self,bx];rfl
theorem KU(vQ:Bq):∀(pre:Bq) (k:Bq->Bool) {Q:Prop},i8 M pre->i8 M vQ->(fy pre).length+(fy vQ).length<=60->Z1 M vQ pre k=true->
  (∀B,i8 M B->(fy B).length=(fy pre).length+(fy vQ).length->k B=true->Rf n o (fy pre).length (dP de pre++dP de vQ) (dC de pre++dC de vQ) (dP de B) (dC de B)->(∀P,WN n o P->(∀g∈dP de pre++dP de vQ,P g)->∀g∈dP de B,P g)->Q)->Q:=by
 induction vQ with
 |z=>
  exactλpre k Q hp ht hz h K=>K pre hp rfl h (by
   show Rf n o _ (dP de pre++[]) (dC de pre++[]) _ _
   rw[bD,bD]
   exact .done (fX de pre).symm) λP Z h g hg=>h g (List.mem_append_left _ hg)
 |t l e p r ih=>
  intro pre k Q hp ht hz h K
  have h:Sd M (iB pre r) 40 (Pq.t l e p) Pq.z e (rf1 M (Z1 M r) pre k)=true:=h
  have WR:=fX de pre
  have WQ:(dC de pre).length=(fy pre).length:=by rw[dQ,ag]
  have hf:=i8.fall ht.1 ht.2.1 ht.2.2.1 ht.2.2.2.1
  have WS:=qj ht.2.2.2.2 hp
  refine u_ C WS 40 (l+1) (.t l e p) .z e _ hf (λi hi=>(a7 hi).elim) trivial ht.2.1 ht.2.2.1 h λR D' s LS WO Ss h=>i4 h λAr h=>rp C (kn _ _ Ar) h (λZ h=>no h) λl' e' p' ol he CG GX h ip=>?_
  rw[NV,<-CE de D' R]at LS
  unfold rf3 at h
  rw[rn]at h
  have hm:=ip D' WO
  have AG:(fy (iB pre (Bq.t l' e' p' Bq.z))).length=(fy pre).length+1:=by rw[iw,aC];rfl
  have xr:i8 M (Bq.t l' e' p' Bq.z):=⟨ol,he,CG,GX,trivial⟩
  have TL:(fy (iB pre (Bq.t l' e' p' Bq.z))).length+(fy r).length=(fy pre).length+(fy (.t l e p r)).length:=by rw[AG,bo];rfl
  refine ih _ k (qj xr hp) ht.2.2.2.2 (TL▸hz) h λB r1 r2 r3 r4 r5=>K B r1 (r2.trans TL) r3 ?_ λP hP jC=>r5 P hP λg hg=>?_
  ·have hG:(dP de pre++dP de (.t l e p r))[(fy pre).length]?=some (fP de e (.t l e p)):=by
    rw[<-WR,ba (bc _),Nat.sub_self];rfl
   have e1:dP de (.t l e p r)=fP de e (.t l e p)::dP de r:=rfl
   have e2:dC de (.t l e p r)=de l::dC de r:=rfl
   refine .step (m:=de l') hG (res:=fP de D' (vO R .z)) (s:=s) ?_ hm.1 (C.sm (kn _ _ Ar) WO Ss) (λm=>?_) ?_
   ·rw[e1,e2,As WR,As WQ]
    rw[i5,dQ de (iB pre r),iw,b8,<-dQ,<-dQ]at LS
    exact LS
   ·rw[hm.2]
    exact C.sm (i8.fall ol he CG GX) he CG m
   ·rw[e1,e2,KR WR,KR WQ,hm.2]
    rw[AG,i5,dQ de (iB pre _),iw,b8,<-dQ]at r4
    exact r4
  ·have oy:∀g∈dP de pre,P g:=λg hg=>jC g (List.mem_append_left _ hg)
   have hrr:∀g∈dP de r,P g:=λg hg=>jC g (List.mem_append_right _ (.tail _ hg))
   rw[i5]at hg
   refine(bN.mp hg).elim (λhg=>(bN.mp hg).elim (oy g) λhg=>?_) (hrr g)
   rw[az.mp hg,<-hm.2]
   refine hP.mo _ _ (hP.dv _ _ _ _ _ (C.gs WS) (λg hg=>?_) (jC _ (List.mem_append_right _ (.head _))) (λk hk=>?_) LS)
   ·rw[i5]at hg
    exact(bN.mp hg).elim (oy g) (hrr g)
   ·obtain⟨i,_,rfl,WI⟩:=C.key hf hk
    exact C.mon i WI
end
noncomputable section
def CH(i c:Nat)(L:Pq):Pq:=Pq.rec (motive:=λZ=>Pq) (u6 i c Pq.z)
 (λj y r ih=>Bool.rec (motive:=λZ=>Pq) (Bool.rec (motive:=λZ=>Pq) (Pq.t j y ih) (u6 i (Nat.mod (Nat.add c y) 340282366920938463463374607431768211456) r) (Nat.beq i j)) (u6 i c (Pq.t j y r)) (Nat.ble (Nat.succ j) i)) L
noncomputable def zM(z:Int):Nat:=Int.rec (motive:=λZ=>Nat) (λn=>n) (λn=>Nat.sub 340282366920938463463374607431768211456 (Nat.succ n)) z
def NZ(co:List Int->Nat)(R:Rows):Pq:=List.rec (motive:=λZ=>Pq) Pq.z (λp Z ih=>CH (co p.1) (zM p.2) ih) R
noncomputable abbrev ad4:=Bq->Wq->(Bq->Wq->Bool)->Bool
def in3(jn:Nat->Nat->Nat)(ih:Bq->Wq->(Bq->Wq->Bool)->Bool)(d9:Bq)(W:Wq)(k:Bq->Wq->Bool)(e:Nat)(p:Pq)(l:Nat):Bool:=ih (iB d9 (Bq.t l e p Bq.z)) (Kw W (Ku jn l (GG d9) d9 0)) k
def in2(jn:Nat->Nat->Nat)(ih:Bq->Wq->(Bq->Wq->Bool)->Bool)(d9:Bq)(W:Wq)(k:Bq->Wq->Bool)(l e:Nat)(p:Pq):Bool:=G7 l (in3 jn ih d9 W k e p)
def in1(M:Nat)(jn:Nat->Nat->Nat)(ih:Bq->Wq->(Bq->Wq->Bool)->Bool)(d9:Bq)(W:Wq)(k:Bq->Wq->Bool)(L:Pq):Bool:=Bool.rec (motive:=λZ=>Bool) false (NL L false (in2 jn ih d9 W k)) (vN M L 100000)
def Sw(M:Nat)(jn:Nat->Nat->Nat)(co:List Int->Nat)(Rs:List Rows):Bq->Wq->(Bq->Wq->Bool)->Bool:=
 List.rec (motive:=λZ=>Bq->Wq->(Bq->Wq->Bool)->Bool) (λd9 W k=>k d9 W) (λR Z ih d9 W k=>in1 M jn ih d9 W k (NZ co R)) Rs
def rbK(M:Nat)(k:Bq->Bool)(G:Bq):Bool:=Z1 M (jY M G Bq.z) Bq.z k
def LU(M:Nat)(jn:Nat->Nat->Nat)(co:List Int->Nat)(Rs:List Rows)(k:Bq->Bool):Bool:=Sw M jn co Rs Bq.z Wq.z λd9 W=>X5 M jn 40 d9 W (rbK M k)
end
theorem WT{z:Int}(h:z.natAbs<=170141183460469231731687303715884105727):vl (zM z)=z:=by
 cases z with
 |ofNat n=>
  have h:n<=170141183460469231731687303715884105727:=h
  exact yd (ae h (by decide))
 |negSucc n=>
  have h:n+1<=170141183460469231731687303715884105727:=h
  exact(Ct (Nat.lt_succ_of_le h)).trans (Int.negSucc_eq n).symm
theorem ym{N i c:Nat}{L:Pq}(hc:(vl c).natAbs<=N)(hL:u9 N L):u9 N (u6 i c L):=by
 cases c with
 |zero=>exact hL
 |succ c=>exact⟨hc,hL⟩
theorem Sx{c y:Nat}(h:(vl c).natAbs+(vl y).natAbs<170141183460469231731687303715884105728):vl (Nat.mod (Nat.add c y) 340282366920938463463374607431768211456)=vl c+vl y:=by
 exact ye ((su c).add (su y)) (aB (Int.natAbs_add_le ..) h)
theorem N0(de:Nat->List Int){i c:Nat}{N:Nat}(hN:(vl c).natAbs+N<170141183460469231731687303715884105728)(m:List Int){L:Pq}:u9 N L->aI (fO de (CH i c L)) m=(if de i=m then vl c else 0)+aI (fO de L) m/\u9 ((vl c).natAbs+N) (CH i c L):=by
 induction L with
 |z=>exactλZ=>⟨tp de i c .z m,ym (aS _ _) trivial⟩
 |t j y r ih=>
  intro b
  have e1:CH i c (.t j y r)=Bool.rec (motive:=λZ=>Pq) (Bool.rec (motive:=λZ=>Pq) (Pq.t j y (CH i c r)) (u6 i (Nat.mod (Nat.add c y) 340282366920938463463374607431768211456) r) (Nat.beq i j)) (u6 i c (Pq.t j y r)) (Nat.ble (Nat.succ j) i):=rfl
  rw[e1]
  have br:u9 ((vl c).natAbs+N) r:=b.2.mono (Nat.le_add_left _ _)
  have by_:(vl y).natAbs<=(vl c).natAbs+N:=ae b.1 (Nat.le_add_left _ _)
  cases Nat.ble (Nat.succ j) i with
  |true=>exact⟨tp de i c _ m,ym (aS _ _) ⟨by_,br⟩⟩
  |false=>
   cases Mi:Nat.beq i j with
   |true=>
    obtain rfl:i=j:=bf Mi
    have hs:(vl c).natAbs+(vl y).natAbs<=(vl c).natAbs+N:=aF b.1 _
    have hv:=Sx (c:=c) (y:=y) (aB hs hN)
    refine⟨?_,ym (by rw[hv];exact ae (Int.natAbs_add_le ..) hs) br⟩
    show aI (fO de (u6 i _ r)) m=_
    rw[tp,hv]
    show _=(if de i=m then vl c else 0)+((if de i=m then vl y else 0)+aI (fO de r) m)
    by_cases h:de i=m
    ·rw[ai h,ai h,ai h,bQ]
    ·rw[ah h,ah h,ah h,bU,bU]
   |false=>
    refine⟨?_,by_,(ih b.2).2⟩
    show(if de j=m then vl y else 0)+aI (fO de (CH i c r)) m=(if de i=m then vl c else 0)+((if de j=m then vl y else 0)+aI (fO de r) m)
    rw[(ih b.2).1,Int.add_left_comm]
def Co(n M:Nat)(de:Nat->List Int)(co:List Int->Nat):Prop:=∀k,gc n k->eQ M (co k)/\de (co k)=k
def KV(n:Nat)(R:Rows):Prop:=∀p∈R,gc n p.1
theorem Sy{n M:Nat}{de:Nat->List Int}{co:List Int->Nat}(dJ7:Co n M de co)(m:List Int){R:Rows}:KV n R->dz R<=1099511627776->aI (fO de (NZ co R)) m=aI R m/\u9 (dz R) (NZ co R):=by
 induction R with
 |nil=>exactλZ Z=>⟨rfl,trivial⟩
 |cons p R ih=>
  intro hR hN
  have Ec:p.2.natAbs+dz R<=1099511627776:=hN
  have h:=ih (λq hq=>hR q (.tail _ hq)) (ae (Nat.le_add_left _ _) Ec)
  have hv:vl (zM p.2)=p.2:=WT (ae (aS _ _) (ae Ec (by decide)))
  have g:=N0 de (i:=co p.1) (c:=zM p.2) (by rw[hv];exact aB Ec (by decide)) m h.2
  rw[hv]at g
  refine⟨?_,g.2⟩
  show aI (fO de (CH (co p.1) (zM p.2) (NZ co R))) m=(if p.1=m then p.2 else 0)+aI R m
  rw[g.1,h.1,(dJ7 p.1 (hR p (.head _))).2]
theorem Eu{n M:Nat}{de:Nat->List Int}{co:List Int->Nat}(dJ7:Co n M de co){R:Rows}(hR:KV n R)(hN:dz R<=1099511627776):fP de 1 (NZ co R)=dH R:=funext λm=>by
 unfold fP
 rw[(Sy dJ7 m hR hN).1]
 show((aI R m:Int):Rat)/((1:Nat):Rat)=((aI R m:Int):Rat)
 have:((1:Nat):Rat)=1:=rfl
 rw[this];grind
theorem Au(N:Nat):jM (N+1)=jM N++d5 N:=by
 unfold jM d5
 rw[List.range_succ,List.flatMap_append];simp
section
variable{n M:Nat}{o:e6}{jn:Nat->Nat->Nat}{de:Nat->List Int}(C:Cd n o M jn de){co:List Int->Nat}(dJ7:Co n M de co)
include C dJ7
structure P6(dJ6:List bM)(d9:Bq)(W:Wq):Prop where
 gd:i8 M d9
 ws:CB jn (fy d9) W
 len:dJ6.length=(fy d9).length
 pr:sv W=jM dJ6.length
 pol:dP de d9=List.zipWith dF dJ6 (dC de d9)
 lead:∀(i:Nat) f m,dJ6[i]?=some f->(dC de d9)[i]?=some m->dn o f m/\(∀k,Sm (f k))/\∀k,Sm (dF f m k)
theorem GJ(Rs:List Rows):∀(d9:Bq) (W:Wq) (k:Bq->Wq->Bool) (dJ6:List bM) {Q:Prop},P6 (M:=M) (o:=o) (jn:=jn) (de:=de) dJ6 d9 W->(∀R∈Rs,KV n R/\dz R<=1099511627776)->Sw M jn co Rs d9 W k=true->
  (∀(qk:Bq) (W':Wq),P6 (M:=M) (o:=o) (jn:=jn) (de:=de) (dJ6++Rs.map dH) qk W'->k qk W'=true->Q)->Q:=by
 induction Rs with
 |nil=>exactλd9 W k dJ6 Q I Z h K=>K d9 W ((bD dJ6).symm▸I) h
 |cons R Rs ih=>
  intro d9 W k dJ6 Q I hR h K
  have h:in1 M jn (Sw M jn co Rs) d9 W k (NZ co R)=true:=h
  refine i4 h λAr h=>rp C (kn _ _ Ar) h (λZ h=>no h) λl e p ol he jg N1 h ip=>?_
  unfold in2 at h
  rw[rn]at h
  have hm:=ip 1 (by decide)
  have x5:=C.sm (kn _ _ Ar) (D:=1) (by decide) (by decide)
  rw[Eu dJ7 (hR R (.head _)).1 (hR R (.head _)).2]at hm x5
  have xr:i8 M (Bq.t l e p Bq.z):=⟨ol,he,jg,N1,trivial⟩
  have fR:=Eo d9
  have vR:dC de (iB d9 (Bq.t l e p Bq.z))=dC de d9++[de l]:=by
   rw[dQ de (iB _ _),iw,b8,<-dQ];rfl
  have oc:(dC de d9).length=dJ6.length:=by rw[dQ,ag,I.len]
  rw[bP,List.append_cons]at K
  refine ih _ _ k (dJ6++[dH R]) ⟨qj xr I.gd,?_,?_,?_,?_,λi f m h1 h2=>?_⟩ (λR hR'=>hR R (.tail _ hR')) h K
  ·rw[iw]
   exact Er (KJ jn l d9 [] (GG d9) fR) (I.ws.ext l)
  ·rw[iw,aC,aC,I.len];rfl
  ·rw[Ep,I.pr,KI,fR,aC,List.length_singleton,Au,<-I.len]
   congr 1
   unfold d5
   rw[List.range_eq_range']
  ·rw[i5,I.pol,vR,List.zipWith_append oc.symm]
   congr 1
   show[fP de e (.t l e p)]=[dF (dH R) (de l)]
   rw[hm.2]
  ·rw[vR]at h2
   rcases cM i dJ6.length with hi|hi
   ·rw[cj hi]at h1
    rw[cj (oc.symm▸hi)]at h2
    exact I.lead i f m h1 h2
   ·rw[ba hi]at h1
    rw[ba (oc.symm▸hi),oc]at h2
    cases PN:i- dJ6.length with
    |zero=>
     rw[PN]at h1 h2
     cases h1
     cases h2
     exact⟨hm.1,x5,λm=>by rw[hm.2];exact C.sm (i8.fall ol he jg N1) he jg m⟩
    |succ q=>rw[PN]at h1;exact nn h1
theorem m7{Rs:List Rows}{k:Bq->Bool}(hR:∀R∈Rs,KV n R/\dz R<=1099511627776)(hz:Rs.length<=10)(h:LU M jn co Rs k=true){Q:Prop}
  (K:∀B,i8 M B->k B=true->(fy B).length<=59->(∀p,sX o (dC de B)=some p->(∀i∈p,i<(fy B).length)->p.length<=100->(Rb n o 200 (Rs.map dH) (p.map λi=>(dP de B).getD i λZ=>0))/\∀P,WN n o P->(∀R∈Rs,P (dH R))->∀g∈dP de B,P g)->Q):Q:=by
 refine GJ C dJ7 Rs .z .z _ [] ⟨trivial,trivial,rfl,rfl,rfl,λi f m h=>nn h⟩ hR h λd9 W I h=>?_
 rw[cq]at I
 have hl:(fy d9).length<=10:=by rw[<-I.len,ag];exact hz
 refine KN C (ew:=200) 40 d9 W 0 _ I.gd I.ws (by decide) (ae (cn hl 40) (by decide)) h λG t g1 g2 h g4 g5=>?_
 have m:=GH C (λZ=>0) (dC de G) (dP de G) G .z trivial g1 rfl rfl
 have m4:(fy (jY M G Bq.z)).length<=59:=ae m.2.2.2 g2
 refine KU C (jY M G Bq.z) .z k trivial m.2.2.1 (by show 0+_<=60;rw[bS];exact cR m4) h λB b1 b2 h b4 b5=>?_
 have b4:Rf n o 0 (dP de (jY M G Bq.z)) (dC de (jY M G Bq.z)) (dP de B) (dC de B):=b4
 have b2:(fy B).length=0+(fy (jY M G Bq.z)).length:=b2
 rw[bS]at b2
 have gs:=C.gs m.2.2.1
 rw[m.1,m.2.1]at b4 gs
 refine K B b1 h (b2▸m4) λp hp hi s7=>⟨⟨dC de d9,dP de G,dC de G,t,dP de B,dC de B,p,?_,I.lead,?_,?_,?_,?_,?_,gs,?_,b4,hp,λi DV=>by rw[fX];exact hi i DV,s7,rfl⟩,λP hP jC=>b5 P hP λg hg=>?_⟩
 ·rw[I.len,dQ,ag]
 ·rw[ag];exact ae hz (by decide)
 ·rw[<-I.pol,<-I.pr];exact g4
 ·rw[fX,dQ,ag]
 ·exact(C.gs g1).Eh
 ·rw[fX];exact ae g2 (by decide)
 ·rw[show iY (λZ=>0:bM) (dC de G) (dP de G) 0 (dC de G)=dP de (jY M G Bq.z)from m.1.symm,fX];exact ae m4 (by decide)
 ·have hg:g∈[]++dP de (jY M G Bq.z):=hg
  refine g5 P hP (λg hg=>?_) g (NY C G .z g hg)
  rw[I.pol]at hg
  obtain⟨i,DV⟩:=cL hg
  rw[List.getElem?_zipWith]at DV
  cases hs:(Rs.map dH)[i]? with
  |none=>rw[hs]at DV;exact nn DV
  |some f=>
   cases hm:(dC de d9)[i]? with
   |none=>rw[hs,hm]at DV;exact nn DV
   |some m=>
    rw[hs,hm]at DV
    cases DV
    obtain⟨R,hR',rfl⟩:=aQ.mp (dw hs)
    exact hP.mo _ _ (jC R hR')
end
noncomputable abbrev n5:Nat:=1324055902416102970674609367438786815
noncomputable abbrev m8:Nat:=3450952159020127088129588875023654683728943043669020971771940984520705
noncomputable abbrev jk:Nat:=6555024929840915816632242124370366114802645842002323180174997410206996428064568425662784714504989376015465965892261112256354345629143714164464580185209104067471324694639341437469617536008674132693974228368306056667751087952500069275314459258060815
noncomputable abbrev mc:Nat:=2371808278319825072966509552847113573097144795821066598528658516295128490644652169544559336610003558677188147983471002025759715496643621616411713689643104544554195525764050097378692661211233373966162492796512918424931504428629150362849825766449040089174018533549310687986375718735245672711053724685061398209561180623834472062940956801161548761358486674148202124010528949001451309797134844525106219775384076109164659854767028590448677272896479620703172699917543581779756556929582369004664352978733257909822875699232171654450586887386686930147009125722507621836858179957017496537639057645871785073502895863645483308579944076558401264439885927851697368376052428716619104632482351130984107113879712431246379327486179067815788545
noncomputable def gk(i:Nat):List Int:=[((i/16:Nat):Int),((i%16:Nat):Int)]
noncomputable def oq(i:Nat):List Int:=[((i%16:Nat):Int),((i/16- i%16:Nat):Int)]
noncomputable def d8(i:Nat):List Int:=[((i/256:Nat):Int),((i/16%16:Nat):Int),((i%16:Nat):Int)]
noncomputable def iy(i:Nat):List Int:=[((i%16:Nat):Int),((i/16%16- i%16:Nat):Int),((i/256- i/16%16:Nat):Int)]
noncomputable section
noncomputable def LV(u v:Nat)(k:List Int):Nat:=List.rec (motive:=λZ=>Nat) 0 (λa r Z=>Nat.add (Nat.mul u (Int.toNat a)) (List.rec (motive:=λZ=>Nat) 0 (λb Z Z=>Nat.mul v (Int.toNat b)) r)) k
def X7(u v w:Nat)(k:List Int):Nat:=List.rec (motive:=λZ=>Nat) 0 (λa r Z=>Nat.add (Nat.mul u (Int.toNat a)) (LV v w r)) k
noncomputable def TU(a b:Nat):Nat:=Bool.rec (motive:=λZ=>Nat) b a (Nat.ble b a)
def N2(i j:Nat):Nat:=Nat.add (Nat.mul 256 (TU (Nat.div i 256) (Nat.div j 256))) (Nat.add (Nat.mul 16 (TU (Nat.mod (Nat.div i 16) 16) (Nat.mod (Nat.div j 16) 16))) (TU (Nat.mod i 16) (Nat.mod j 16)))
def N4(i j:Nat):Nat:=Nat.add (Nat.mul 273 (TU (Nat.mod i 16) (Nat.mod j 16))) (Nat.add (Nat.mul 272 (TU (Nat.sub (Nat.mod (Nat.div i 16) 16) (Nat.mod i 16)) (Nat.sub (Nat.mod (Nat.div j 16) 16) (Nat.mod j 16))))
 (Nat.mul 256 (TU (Nat.sub (Nat.div i 256) (Nat.mod (Nat.div i 16) 16)) (Nat.sub (Nat.div j 256) (Nat.mod (Nat.div j 16) 16)))))
end
noncomputable def Sz(M i:Nat):Bool:= !(Nat.beq (Nat.land (Nat.shiftRight M i) 1) 0)
theorem nS{M i:Nat}:Sz M i=true↔eQ M i:=by
 unfold Sz eQ
 cases h:Nat.beq (Nat.land (Nat.shiftRight M i) 1) 0 with
 |true=>exact⟨λh'=>(by cases h'),λh'=>aG (bf h) h'⟩
 |false=>
  simp only[Bool.not_false,true_iff]
  intro e
  rw[e]at h;cases h
def N5(n:Nat)(k:List Int):Bool:=Nat.beq k.length n&&k.all λi=>decide (0<=i)&&decide (i<(bd n:Int))
theorem Ew{n:Nat}{k:List Int}(h:N5 n k=true):gc n k:=by
 unfold N5 at h
 rw[bp,av]at h
 refine⟨bf h.1,λi hi=>?_⟩
 have:=h.2 i hi
 simpa using this
def mr(M N:Nat):List Nat:=(List.range N).filter (Sz M)
theorem gm{M N i:Nat}(hN:M<2^N)(h:eQ M i):i∈mr M N:=by
 have hi:i<N:=by
  rcases cM i N with h'|h'
  ·exact h'
  ·exfalso
   apply h
   have:Nat.shiftRight M i=0:=by
    show M>>>i=0
    rw[Nat.shiftRight_eq_div_pow]
    exact Nat.div_eq_of_lt (bI hN (bT (by decide) h'))
   rw[this];rfl
 exact List.mem_filter.mpr ⟨List.mem_range.mpr hi,nS.mpr h⟩
noncomputable def imp(a b:Bool):Bool:= !a||b
def KW(n M:Nat)(de:Nat->List Int)(l:List Nat):Bool:=l.all λi=>N5 n (de i)
def aa8(o:e6)(de:Nat->List Int)(l:List Nat):Bool:=l.all λi=>l.all λj=>imp (Nat.ble (i+1) j) (rZ o (de i) (de j))
def KX(M:Nat)(de:Nat->List Int)(l:List Nat):Bool:=l.all λi=>l.all λs=>imp (Sz M (i+s)) (de (i+s)==gn (de i) (de s))
def KY(M:Nat)(de:Nat->List Int)(l:List Nat):Bool:=l.all λi=>l.all λm=>mq (de i) (de m)==(Nat.ble i m&&Sz M (m- i))
def KZ(M:Nat)(jn:Nat->Nat->Nat)(de:Nat->List Int)(l:List Nat):Bool:=l.all λi=>l.all λj=>Sz M (jn i j)&&(de (jn i j)==ir (de i) (de j))
def K3(jn:Nat->Nat->Nat)(de:Nat->List Int)(l:List Nat):Bool:=l.all λi=>l.all λj=>(eX (List.zipWith (λu v=>if v<u then v else u) (de i) (de j))==0)==Nat.beq (i+j) (jn i j)
theorem vf{n:Nat}{o:e6}{M:Nat}{jn:Nat->Nat->Nat}{de:Nat->List Int}(N:Nat)(hN:M<2^N)(h1:KW n M de (mr M N)=true)(h2:aa8 o de (mr M N)=true)(h3:KX M de (mr M N)=true)(h4:KY M de (mr M N)=true)(h5:KZ M jn de (mr M N)=true)(h6:K3 jn de (mr M N)=true):Cd n o M jn de where
 mon i hi:=Ew (av.mp h1 i (gm hN hi))
 lt i j hi hj hl:=by
  have:=av.mp (av.mp h2 i (gm hN hi)) j (gm hN hj)
  rw[show Nat.ble (i+1) j=true from aU hl]at this
  exact this
 add i s hi hs ho:=by
  have:=av.mp (av.mp h3 i (gm hN hi)) s (gm hN hs)
  rw[nS.mpr ho]at this
  exact bt this
 dv l m hl hm:=by
  have:=bt (av.mp (av.mp h4 l (gm hN hl)) m (gm hN hm))
  rw[this,bp,nS,Nat.ble_eq]
 jo i j hi hj:=by
  have:=av.mp (av.mp h5 i (gm hN hi)) j (gm hN hj)
  rw[bp]at this
  exact⟨nS.mp this.1,bt this.2⟩
 ap i j hi hj:=by
  have:=bt (av.mp (av.mp h6 i (gm hN hi)) j (gm hN hj))
  rw[this,Nat.beq_eq]
def aa9(n M:Nat)(de:Nat->List Int)(co:List Int->Nat):Bool:=(wW (bd n) n).all λk=>Sz M (co k)&&(de (co k)==k)
theorem Ex{n M:Nat}{de:Nat->List Int}{co:List Int->Nat}(h:aa9 n M de co=true):Co n M de co:=λk hk=>by
 have hm:=ju (b:=bd n) k hk.2
 rw[hk.1]at hm
 have:=av.mp h k hm
 rw[bp]at this
 exact⟨nS.mp this.1,bt this.2⟩
theorem N6:KW 2 n5 gk (mr n5 128)=true:=by decide+kernel
theorem N7:KX n5 gk (mr n5 128)=true:=by decide+kernel
theorem N8:KY n5 gk (mr n5 128)=true:=by decide+kernel
theorem N9:KZ n5 TN gk (mr n5 128)=true:=by decide+kernel
theorem N_:K3 TN gk (mr n5 128)=true:=by decide+kernel
theorem CI:Co 2 n5 gk (LV 16 1):=Ex (by decide+kernel)
theorem Ey:KW 2 m8 oq (mr m8 256)=true:=by decide+kernel
theorem Ez:KX m8 oq (mr m8 256)=true:=by decide+kernel
theorem EA:KY m8 oq (mr m8 256)=true:=by decide+kernel
theorem EB:KZ m8 TO oq (mr m8 256)=true:=by decide+kernel
theorem ED:K3 TO oq (mr m8 256)=true:=by decide+kernel
theorem yn:Co 2 m8 oq (LV 17 16):=Ex (by decide+kernel)
theorem Oa:KW 3 jk d8 (mr jk 1024)=true:=by decide+kernel
theorem Ob:KX jk d8 (mr jk 1024)=true:=by decide+kernel
theorem Oc:KY jk d8 (mr jk 1024)=true:=by decide+kernel
theorem Od:KZ jk N2 d8 (mr jk 1024)=true:=by decide+kernel
theorem Oe:K3 N2 d8 (mr jk 1024)=true:=by decide+kernel
theorem SA:Co 3 jk d8 (X7 256 16 1):=Ex (by decide+kernel)
theorem Of:KW 3 mc iy (mr mc 2500)=true:=by decide+kernel
theorem Og:KX mc iy (mr mc 2500)=true:=by decide+kernel
theorem Oh:KY mc iy (mr mc 2500)=true:=by decide+kernel
theorem Oi:KZ mc N4 iy (mr mc 2500)=true:=by decide+kernel
theorem Oj:K3 N4 iy (mr mc 2500)=true:=by decide+kernel
theorem SD:Co 3 mc iy (X7 273 272 256):=Ex (by decide+kernel)
theorem CJ:Cd 2 .lex n5 TN gk:=vf 128 (by decide+kernel) N6 (by decide+kernel) N7 N8 N9 N_
theorem K4:Cd 2 .mQ m8 TO oq:=vf 256 (by decide+kernel) Ey (by decide+kernel) Ez EA EB ED
theorem K5:Cd 2 .grevlex m8 TO oq:=vf 256 (by decide+kernel) Ey (by decide+kernel) Ez EA EB ED
theorem CK:Cd 3 .lex jk N2 d8:=vf 1024 (by decide+kernel) Oa (by decide+kernel) Ob Oc Od Oe
theorem CL:Cd 3 .grevlex mc N4 iy:=vf 2500 (by decide+kernel) Of (by decide+kernel) Og Oh Oi Oj
def yo:aM:=wW 8 2
noncomputable def GK(u v:Rat)(m:List Int):Rat:=u^(m.getD 0 0).toNat*v^(m.getD 1 0).toNat
noncomputable def i6(φ:List Int->Rat):aM->Rat
 |[]=>0
 |k::r=>φ k+i6 φ r
def gM(u v:Rat)(f:bM):Rat:=i6 (λk=>f k*GK u v k) yo
theorem Av(φ ψ:List Int->Rat):∀l,i6 (λk=>φ k+ψ k) l=i6 φ l+i6 ψ l
 |[]=>by show(0:Rat)=0+0;grind
 |k::r=>by rw[i6,i6,i6,Av φ ψ r];grind
theorem Aw(c:Rat)(φ:List Int->Rat):∀l,i6 (λk=>φ k*c) l=i6 φ l*c
 |[]=>by simp[i6]
 |k::r=>by rw[i6,i6,Aw c φ r];grind
theorem oQ{φ ψ:List Int->Rat}:∀{l:aM},(∀k∈l,φ k=ψ k)->i6 φ l=i6 ψ l
 |[],_=>rfl
 |k::r,h=>by rw[i6,i6,h k (.head _),oQ λm hm=>h m (.tail _ hm)]
theorem rt{φ:List Int->Rat}:∀{l:aM},(∀k∈l,φ k=0)->i6 φ l=0
 |[],_=>rfl
 |k::r,h=>by rw[i6,h k (.head _),rt λm hm=>h m (.tail _ hm)];grind
theorem Ax{φ:List Int->Rat}{a:List Int}:∀{l:aM},l.Nodup->(∀k∈l,k≠a->φ k=0)->i6 φ l=if a∈l then φ a else 0
 |[],_,_=>rfl
 |k::r,nd,h=>by
  rw[aZ]at nd
  rw[i6]
  by_cases e:k=a
  ·subst e
   rw[rt λm hm=>h m (.tail _ hm) λe=>nd.1 (e▸hm),ai (.head _)]
   grind
  ·rw[h k (.head _) e,Ax nd.2 λm hm=>h m (.tail _ hm)]
   have:(a∈k::r)↔a∈r:=⟨λx=>(au.mp x).resolve_left λy=>e y.symm,λx=>cD _ x⟩
   simp only[this]
   grind
theorem EE:yo.Nodup:=by decide+kernel
theorem vg{k:List Int}(h:gc 2 k):k∈yo:=by
 have:=ju (b:=8) k h.2
 rw[h.1]at this;exact this
theorem jR{k:List Int}(h:k∈yo):gc 2 k:=by
 have:yo.all (λk=>Nat.beq k.length 2&&k.all λi=>decide (0<=i)&&decide (i<8))=true:=by decide+kernel
 have:=av.mp this k h
 rw[bp,av]at this
 exact⟨bf this.1,λi hi=>by have:=this.2 i hi;simpa[bd]using this⟩
theorem qm(u v:Rat)(f g:bM):gM u v (λk=>f k+g k)=gM u v f+gM u v g:=by
 unfold gM
 rw[<-Av]
 exact oQ λk Z=>by grind
theorem EF(u v c:Rat)(f:bM):gM u v (λk=>f k*c)=gM u v f*c:=by
 unfold gM
 rw[<-Aw]
 exact oQ λk Z=>by grind
theorem yp(u v:Rat)(f g:bM):gM u v (λk=>f k- g k)=gM u v f- gM u v g:=by
 have h1:=EF u v (-1) g
 have h2:=qm u v f (λk=>g k* -1)
 rw[h1]at h2
 have e:(λk=>f k- g k)=λk=>f k+g k* -1:=funext λk=>by grind
 rw[e,h2];grind
theorem i7(u v:Rat):gM u v (λZ=>0)=0:=by
 unfold gM
 exact rt λk Z=>by grind
theorem vh(u v:Rat)(a:List Int)(c:Rat)(ha:gc 2 a):gM u v (λk=>if k=a then c else 0)=c*GK u v a:=by
 unfold gM
 rw[Ax (a:=a) EE λk Z hk=>by show(if k=a then c else 0)*_=0;rw[ah hk];grind,ai (vg ha)]
 show(if a=a then c else 0)*_=_
 rw[ai rfl]
theorem qn(x y:Int):∀(R:Rows),sY R->gM (x:Rat) (y:Rat) (dH R)=((gR (ev x y) R:Int):Rat)
 |[],_=>i7 _ _
 |(a,c)::R,h=>by
  have ih:=qn x y R λp hp=>h p (.tail _ hp)
  have e:dH ((a,c)::R)=λk=>(if k=a then((c:Int):Rat)else 0)+dH R k:=funext λk=>by
   show(((if a=k then c else 0)+aI R k:Int):Rat)=_+((aI R k:Int):Rat)
   by_cases hk:a=k
   ·subst hk;rw[ai rfl,ai rfl];push_cast;rfl
   ·rw[ah hk,ah (λe=>hk e.symm),bU];grind
  rw[e,qm,vh _ _ _ _ (h _ (.head _)),ih]
  show _=(((c*(x^(a.getD 0 0).toNat*y^(a.getD 1 0).toNat))+gR (ev x y) R:Int):Rat)
  unfold GK
  push_cast
  rfl
theorem Ol(u v:Rat){k s:List Int}(hk:gc 2 k)(hs:gc 2 s):GK u v (List.zipWith (·+·) k s)=GK u v k*GK u v s:=by
 obtain⟨a,b,rfl⟩:=jH hk.1
 obtain⟨a',b',rfl⟩:=jH hs.1
 have h1:=hk.2 a (.head _)
 have h2:=hk.2 b (.tail _ (.head _))
 have h3:=hs.2 a' (.head _)
 have h4:=hs.2 b' (.tail _ (.head _))
 show u^(a+a').toNat*v^(b+b').toNat=u^a.toNat*v^b.toNat*(u^a'.toNat*v^b'.toNat)
 rw[Int.toNat_add h1.1 h3.1,Int.toNat_add h2.1 h4.1]
 grind
theorem CM{k s:List Int}{c q:Rat}(hk:k.length=2)(hs:s.length=2):dj 2 (λm=>if m=k then c else 0) s q=λm=>if m=List.zipWith (·+·) k s then c*q else 0:=funext λm=>by
 unfold dj
 by_cases hm:m.length=2
 ·rw[ai hm]
  show(if List.zipWith (· - ·) m s=k then c else 0)*q=_
  by_cases h:m=List.zipWith (·+·) k s
  ·subst h
   rw[ai (iX (hk.trans hs.symm)),ai rfl]
  ·rw[ah h,ah]
   ·grind
   ·intro e
    apply h
    rw[<-e]
    exact(hM (hm.trans hs.symm)).symm
 ·rw[ah hm,ah]
  intro e
  apply hm
  rw[e,dg,hk,hs];rfl
theorem GL{f g:bM}{s:List Int}{q:Rat}:dj 2 (λk=>f k+g k) s q=λk=>dj 2 f s q k+dj 2 g s q k:=funext λk=>by
 unfold dj
 split<;>grind
theorem m9(u v:Rat){g:bM}{s:List Int}{q:Rat}(hs:gc 2 s):∀(l:aM),l.Nodup->(∀k∈l,gc 2 k/\(g k≠0->gc 2 (List.zipWith (·+·) k s)))->
  gM u v (dj 2 (λm=>if m∈l then g m else 0) s q)=i6 (λk=>g k*GK u v k) l*GK u v s*q
 |[],_,_=>by
  have e:dj 2 (λm=>if m∈([]:aM)then g m else 0) s q=λZ=>0:=funext λk=>by
   unfold dj
   simp
  rw[e,i7]
  show 0=(0:Rat)*_*_
  grind
 |k::l,nd,h=>by
  rw[aZ]at nd
  obtain⟨h1,h2⟩:=h k (.head _)
  have ih:=m9 u v (g:=g) (q:=q) hs l nd.2 λm hm=>h m (.tail _ hm)
  have e:(λm=>if m∈k::l then g m else 0)=λm=>(if m=k then g k else 0)+(if m∈l then g m else 0):=funext λm=>by
   by_cases e:m=k
   ·subst e
    rw[ai (.head _),ai rfl,ah nd.1];grind
   ·have:(m∈k::l)↔m∈l:=⟨λx=>(au.mp x).resolve_left e,λx=>cD _ x⟩
    rw[ah e]
    simp only[this]
    grind
  rw[e,GL,qm,ih,CM h1.1 hs.1]
  have ht:gM u v (λm=>if m=List.zipWith (·+·) k s then g k*q else 0)=g k*GK u v k*GK u v s*q:=by
   by_cases hg:g k=0
   ·rw[hg]
    have e2:(λm=>if m=List.zipWith (·+·) k s then(0:Rat)*q else 0)=λZ=>0:=funext λm=>by split<;>grind
    rw[e2,i7];grind
   ·rw[vh _ _ _ _ (h2 hg),Ol _ _ h1 hs];grind
  rw[ht,i6];grind
theorem ry(u v:Rat){g:bM}{s:List Int}{q:Rat}(hs:gc 2 s)(hg:∀k,g k≠0->gc 2 k/\gc 2 (List.zipWith (·+·) k s)):gM u v (dj 2 g s q)=gM u v g*GK u v s*q:=by
 have e:g=λm=>if m∈yo then g m else 0:=funext λm=>by
  by_cases hm:m∈yo
  ·rw[ai hm]
  ·rw[ah hm]
   by_cases h0:g m=0
   ·exact h0
   ·exact aG (vg (hg m h0).1) hm
 have:=m9 u v (g:=g) (q:=q) hs yo EE λk hk=>⟨jR hk,λh=>(hg k h).2⟩
 rw[<-e]at this
 exact this
theorem vi{n:Nat}{g:bM}{s k:List Int}{q:Rat}(hs:s.length=n)(h:dj n g s q k≠0):∃j,g j≠0/\k=List.zipWith (·+·) j s:=by
 unfold dj at h
 by_cases hk:k.length=n
 ·rw[ai hk]at h
  refine⟨List.zipWith (· - ·) k s,λe=>h (by rw[e,da]),?_⟩
  exact(hM (hk.trans hs.symm)).symm
 ·rw[ah hk]at h;exact aG rfl h
theorem K6{o:e6}{G:List bM}{L:List (List Int×Rat)}{u v:Rat}(gs:Gs 2 o G L)(hG:∀g∈G,gM u v g=0){f rest res:bM}{t:Nat}(D:Dv 2 o G L f rest res t):
  (∀k,f k≠0->gc 2 k)->(∀k l,f k≠0->rest l≠0->rZ o k l=true)->gM u v res=gM u v f+gM u v rest:=by
 induction D with
 |@done left rest h=>
  intro _ _
  have:gM u v left=0:=by
   rw[show left=λZ=>0 from funext h]
   exact i7 u v
  rw[this];grind
 |@keep left rest r t m hm hf D ih=>
  intro h1 h2
  have D5:=h1 m hm.1
  have hrm:rest m=0:=by
   by_cases e:rest m=0
   ·exact e
   ·have:=h2 m m hm.1 e
    rw[show rZ o m m=false from jw _]at this;cases this
  have e:=ih (λk hk=>?_) λk l hk hl=>?_
  ·rw[e]
   have e1:(λk=>if k=m then(0:Rat)else left k)=λk=>left k- (if k=m then left m else 0):=funext λk=>by
    by_cases hk:k=m
    ·subst hk;rw[ai rfl,ai rfl];grind
    ·rw[ah hk,ah hk];grind
   have e2:(λk=>if k=m then left m else rest k)=λk=>rest k+(if k=m then left m else 0):=funext λk=>by
    by_cases hk:k=m
    ·subst hk;rw[ai rfl,ai rfl,hrm];grind
    ·rw[ah hk,ah hk];grind
   rw[e1,e2,yp,qm];grind
  ·have hk:(if k=m then(0:Rat)else left k)≠0:=hk
   by_cases z5:k=m
   ·rw[ai z5]at hk;exact aG rfl hk
   ·rw[ah z5]at hk
    exact h1 k hk
  ·have hk:(if k=m then(0:Rat)else left k)≠0:=hk
   have hl:(if l=m then left m else rest l)≠0:=hl
   by_cases z5:k=m
   ·rw[ai z5]at hk;exact aG rfl hk
   ·rw[ah z5]at hk
    by_cases Ts:l=m
    ·rw[Ts]
     exact nG (D5.1.trans (h1 k hk).1.symm) (λe=>z5 e.symm) (hm.2 k hk)
    ·rw[ah Ts]at hl
     exact h2 k l hk hl
 |@step left rest r t m i g lm lc hm hf hg hL DX JY hs3 ip Ai D ih=>
  intro h1 h2
  obtain⟨LH,GZ⟩:=gs.lead i g lm lc hg hL
  have RT:=gs.mon g (dw hg)
  have nW:=Ai.1
  have WU:∀k,left k- dj 2 g (List.zipWith (· - ·) m lm) (left m/lc) k≠0->gc 2 k:=λk hk=>by
   by_cases AF:left k=0
   ·have hsk:dj 2 g (List.zipWith (· - ·) m lm) (left m/lc) k≠0:=λe=>hk (by rw[AF,e];grind)
    obtain⟨j,hj,rfl⟩:=vi nW hsk
    exact ip j hj
   ·exact h1 k AF
  have e:=ih (λk hk=>WU k hk) λk l hk hl=>?_
  ·rw[e,yp,ry u v Ai λk hk=>⟨RT k hk,ip k hk⟩,hG g (dw hg)];grind
  ·have z5:rZ o k m=true:=(BR (λk hk=>(h1 k hk).1) (λk hk=>(RT k hk).1) hm LH GZ hk).2
   exact nI z5 (h2 m l hm.1 hl)
theorem Om(o:e6)(u v:Rat):WN 2 o (λf=>gM u v f=0)where
 dv G L f res t gs hG hf hm D:=by
  have:=K6 gs hG D hm (λk l Z hl=>aG rfl hl)
  rw[this,hf,i7];grind
 sp f g mf mg hf hg hfm RT h1 h2 dJ6:=by
  unfold qa
  rw[yp,ry u v h1 λk hk=>⟨hfm k hk,dJ6.m1 k hk⟩,ry u v h2 λk hk=>⟨RT k hk,dJ6.m2 k hk⟩,hf,hg];grind
 mo f m hf:=by
  unfold dF
  rw[EF,hf];grind
noncomputable def wt(k:List Int):Int:=2*k.getD 0 0+k.getD 1 0
theorem K7{a b:List Int}(ha:a.length=2)(hb:b.length=2):wt (gn a b)=wt a+wt b:=by
 obtain⟨x,y,rfl⟩:=jH ha
 obtain⟨x',y',rfl⟩:=jH hb
 show 2*(x+x')+(y+y')=2*x+y+(2*x'+y')
 rw[Int.mul_add,WE]
theorem X8{x y:Int}(hx:0<=x)(hy:0<=y):x<=2*x+y/\y<=2*x+y:=
 ⟨Int.le_trans (by rw[Int.two_mul];exact Int.le_add_of_nonneg_left hx) (Int.le_add_of_nonneg_right hy),Int.le_add_of_nonneg_left (Int.mul_nonneg (by decide) hx)⟩
theorem SE{a b:List Int}(ha:gc 2 a)(hb:gc 2 b)(h:wt a+wt b<=6):gc 2 (gn a b):=by
 obtain⟨x,y,rfl⟩:=jH ha.1
 obtain⟨x',y',rfl⟩:=jH hb.1
 have h1:=ha.2 x (.head _)
 have h2:=ha.2 y (.tail _ (.head _))
 have h3:=hb.2 x' (.head _)
 have h4:=hb.2 y' (.tail _ (.head _))
 have h:2*x+y+(2*x'+y')<=6:=h
 have e:∀z:Int,0<=z->z<=6->0<=z/\z<((bd 2:Nat):Int):=λz h1 h2=>⟨h1,Int.lt_of_le_of_lt h2 (by decide)⟩
 refine⟨rfl,λi hi=>?_⟩
 rcases au.mp hi with rfl|hi
 ·exact e _ (Int.add_nonneg h1.1 h3.1) (Int.le_trans (Int.add_le_add (X8 h1.1 h2.1).1 (X8 h3.1 h4.1).1) h)
 ·rw[az.mp hi]
  exact e _ (Int.add_nonneg h2.1 h4.1) (Int.le_trans (Int.add_le_add (X8 h1.1 h2.1).2 (X8 h3.1 h4.1).2) h)
noncomputable def LW(de:Nat->List Int):Bq->Prop
 |.z=>True
 |.t l _ p r=>(∀j∈gj p,wt (de j)<=wt (de l))/\LW de r
def Bd(f:bM)(D N:Nat):Prop:=∃c:List Int->Int,∀k,f k=((c k:Int):Rat)/((D:Nat):Rat)/\(c k).natAbs<=N
theorem ab0{D E A B:Rat}(hD:D≠0)(hE:E≠0):A/E*(B/D)=A*B/(E*D):=by grind
theorem ab1{D E A B:Rat}(hD:D≠0)(hE:E≠0):A/D- B/(E*D)=(A*E- B)/(E*D):=by grind
theorem vj(a b:Int):(a- b).natAbs<=a.natAbs+b.natAbs:=by
 rw[Int.sub_eq_add_neg,<-cI b]
 exact Int.natAbs_add_le ..
def Oo(de:Nat->List Int)(L:Pq)(m k:List Int):Int:=if k.length=2 then aI (fO de L) (List.zipWith (· - ·) k m)else 0
theorem K8{de:Nat->List Int}{L:Pq}{e D:Nat}{ci:Int}{m:List Int}(he:0<e)(hD:0<D)(k:List Int):dj 2 (fP de e L) m (((ci:Int):Rat)/((D:Nat):Rat)) k=((Oo de L m k*ci:Int):Rat)/((e*D:Nat):Rat):=by
 unfold dj Oo
 by_cases hk:k.length=2
 ·rw[ai hk,ai hk]
  show((aI (fO de L) (List.zipWith (· - ·) k m):Int):Rat)/((e:Nat):Rat)*_=_
  push_cast
  exact ab0 (gX hD) (gX he)
 ·rw[ah hk,ah hk,Int.zero_mul,yj]
section
variable{M:Nat}{o:e6}{jn:Nat->Nat->Nat}{de:Nat->List Int}(C:Cd 2 o M jn de){co:List Int->Nat}(dJ7:Co 2 M de co)
include C
theorem Cd.fd2{m:Nat}(hm:eQ M m){B:Bq}:∀(i0:Nat) {Q:Prop},i8 M B->LW de B->(dG (de m) i0 (dC de B)= -1->Q)->
  (∀(i l e:Nat) (p:Pq),dG (de m) i0 (dC de B)=((i0+i:Nat):Int)->(dP de B)[i]?=some (fP de e (.t l e p))->(dC de B)[i]?=some (de l)->eQ M l->0<e->e<=1099511627776->fh M l p->l<=m->eQ M (m- l)->(∀j∈gj p,wt (de j)<=wt (de l))->Q)->Q:=by
 induction B with
 |z=>exactλi0 Q Z Z K1 Z=>K1 rfl
 |t l e p r ih=>
  intro i0 Q h hw K1 K2
  have hF:dG (de m) i0 (dC de (.t l e p r))=if mq (de l) (de m)then(i0:Int)else dG (de m) (i0+1) (dC de r):=rfl
  by_cases hd:mq (de l) (de m)=true
  ·have d:=(C.dv l m h.1 hm).mp hd
   exact K2 0 l e p (by rw[hF,ai hd];rfl) rfl rfl h.1 h.2.1 h.2.2.1 h.2.2.2.1 d.1 d.2 hw.1
  ·exact ih (i0+1) h.2.2.2.2 hw.2 (λg1=>K1 (by rw[hF,ah hd];exact g1)) λi l' e' p' g1 g2 g3 g4 g5 g6 g7 g8 g9 Z3=>
    K2 (i+1) l' e' p' (by rw[hF,ah hd,g1,bo]) g2 g3 g4 g5 g6 g7 g8 g9 Z3
theorem Cd.Oq{i j:Nat}(hi:eQ M i)(hj:eQ M j)(h:rZ o (de i) (de j)=true):i<j:=by
 rcases cM i j with h'|h'
 ·exact h'
 ·rw[C.X6 hi hj h']at h;cases h
theorem K9{q:Nat}{L:Pq}{m:List Int}(h:fh M q L)(k:List Int):(Oo de L m k).natAbs<=1099511627776:=by
 unfold Oo
 by_cases hk:k.length=2
 ·rw[ai hk];exact C.abs h _
 ·rw[ah hk];exact bK _
theorem P7{i lm e k:Nat}{p:Pq}{q:List Int}(hi:eQ M i)(hwi:wt (de i)<=6)(hl:eQ M lm)(he:0<e)(jg:e<=1099511627776)(N1:fh M lm p)(hs:eQ M (i- lm))(vn:lm+(i- lm)=i)(X9:∀j∈gj p,wt (de j)<=wt (de lm))(hq:fP de e (.t lm e p) q≠0):
  gc 2 (gn q (de (i- lm)))/\wt (gn q (de (i- lm)))<=6:=by
 obtain⟨j,hj,rfl,TQ⟩:=C.key (i8.fall hl he jg N1) hq
 have hwj:wt (de j)<=wt (de lm):=(au.mp hj).elim (λe=>by rw[e];exact Int.le_refl _) (X9 j)
 have Be:=C.add lm (i- lm) hl hs (vn.symm▸hi)
 rw[vn]at Be
 have h2:wt (de j)+wt (de (i- lm))<=6:=Int.le_trans (Int.add_le_add_right hwj _) (by rw[<-K7 (C.mon _ hl).1 (C.mon _ hs).1,<-Be];exact hwi)
 exact⟨SE (C.mon j TQ) (C.mon _ hs) h2,by rw[K7 (C.mon j TQ).1 (C.mon _ hs).1];exact h2⟩
omit C in
theorem Bd.sub{left:bM}{c af:List Int->Int}{ci:Int}{sh:bM}{e D N:Nat}(he:0<e)(jg:e<=1099511627776)(hD:0<D)(hc:∀k,left k=((c k:Int):Rat)/((D:Nat):Rat)/\(c k).natAbs<=N)(WV:ci.natAbs<=N)(ha:∀k,(af k).natAbs<=1099511627776)(hs:∀k,sh k=((af k*ci:Int):Rat)/((e*D:Nat):Rat)):Bd (λk=>left k- sh k) (e*D) (N*2^41):=by
 refine⟨λk=>c k*e- af k*ci,λk=>⟨?_,?_⟩⟩
 ·show left k- sh k=(((c k*e- af k*ci:Int)):Rat)/((e*D:Nat):Rat)
  rw[hs,(hc k).1]
  push_cast
  exact ab1 (gX hD) (gX he)
 ·have b1:(c k*(e:Int)).natAbs<=N*1099511627776:=by
   rw[bO]
   exact bE (hc k).2 jg
  have b2:(af k*ci).natAbs<=N*1099511627776:=by
   rw[bO,Nat.mul_comm]
   exact bE WV (ha k)
  exact ae (vj ..) (ae (bz b1 b2) (aP ((Nat.mul_add ..).symm)))
omit C in
theorem Ot{x:Nat}(h:x<=2^2900):x<2^3000:=aB h (Nat.pow_lt_pow_right (by decide) (by decide))
omit C in
theorem WW{x y:Nat}(hx:x<=1099511627776)(hy:y<=2^2900):x*y<2^3000:=by
 refine aB (bE hx hy) ?_
 rw[show(1099511627776:Nat)=2^40 from rfl,<-Nat.pow_add]
 exact Nat.pow_lt_pow_right (by decide) (by decide)
include dJ7
set_option maxHeartbeats 1000000 in
theorem WX{B:Bq}(hB:i8 M B)(hW:LW de B)(l:List Nat):∀(left rest:bM) (D N:Nat) {Q:Prop},l.Pairwise (·>·)->(∀i∈l,eQ M i/\wt (de i)<=6)->(∀i∈l,∀j,eQ M j->wt (de j)<=6->j<i->j∈l)->
  (∀k,left k≠0->∃i∈l,k=de i)->Bd left D N->0<D->D*2^(41*l.length)<=2^2900->N*2^(41*l.length)<=2^2900->
  (∀res t,Dv 2 o (dP de B) (cP (dC de B)) left rest res t->(∀k,res k≠0->rest k≠0\/∃i∈l,k=de i/\dG (de i) 0 (dC de B)= -1)->Q)->Q:=by
 induction l with
 |nil=>
  exactλleft rest D N Q Z Z Z hs Z Z Z Z K=>K rest 0 (.done λk=>Classical.byContradiction λh=>(hs k h).elim λi hi=>(a7 hi.1).elim) λk hk=>.inl hk
 |cons i l ih=>
  intro left rest D N Q hp AB Iy hs hb hD GY TM K
  rw[List.pairwise_cons]at hp
  have GN:=(AB i (.head _)).1
  have SF:∀j∈l,eQ M j/\wt (de j)<=6:=λj hj=>AB j (.tail _ hj)
  have SH:∀j∈l,∀q,eQ M q->wt (de q)<=6->q<j->q∈l:=λj hj q h1 h2 h3=>
   (au.mp (Iy j (.tail _ hj) q h1 h2 h3)).elim (λh=>aG (Nat.lt_trans h3 (hp.1 j hj)) (h▸Nat.lt_irrefl q)) id
  have e41:2^(41*(i::l).length)=2^(41*l.length)*2^41:=by rw[cu,<-Nat.pow_add];congr 1
  have CN:D<=2^2900:=ae (Nat.le_mul_of_pos_right _ (Nat.pow_pos (by decide))) GY
  have CO:N<=2^2900:=ae (Nat.le_mul_of_pos_right _ (Nat.pow_pos (by decide))) TM
  rw[e41]at GY TM
  have hDs:D*2^(41*l.length)<=2^2900:=ae (cb _ (Nat.le_mul_of_pos_right _ (by decide))) GY
  have hNs:N*2^(41*l.length)<=2^2900:=ae (cb _ (Nat.le_mul_of_pos_right _ (by decide))) TM
  have iD:∀k,left k≠0->k≠de i->∃j∈l,k=de j:=λk hk hn=>(hs k hk).elim λj hj=>(au.mp hj.1).elim (λe=>aG (e▸hj.2) hn) λh=>⟨j,h,hj.2⟩
  by_cases h0:left (de i)=0
  ·exact ih left rest D N hp.2 SF SH (λk hk=>iD k hk λe=>hk (e▸h0)) hb hD hDs hNs λres t d1 d2=>K res t d1 λk hk=>(d2 k hk).imp id λ⟨j,hj,h⟩=>⟨j,.tail _ hj,h⟩
  ·have kW:dn o left (de i):=⟨h0,λk hk=>by
    obtain⟨j,hj,rfl⟩:=hs k hk
    exact C.X6 GN (AB j hj).1 ((au.mp hj).elim aP λhj=>aT (hp.1 j hj))⟩
   obtain⟨c,hc⟩:=hb
   refine C.fd2 GN 0 hB hW (λhf=>?_) λix lm e p f1 f2 f3 hl he jg N1 rI K_ X9=>?_
   ·refine ih (λk=>if k=de i then 0 else left k) (λk=>if k=de i then left (de i)else rest k) D N hp.2 SF SH (λk hk=>?_) ⟨λk=>if k=de i then 0 else c k,λk=>?_⟩ hD hDs hNs λres t d1 d2=>K res (t+1) (.keep kW (by rw[j8];exact hf) d1) λk hk=>(d2 k hk).elim (λh=>?_) λ⟨j,hj,h⟩=>.inr ⟨j,.tail _ hj,h⟩
    ·have hk:(if k=de i then(0:Rat)else left k)≠0:=hk
     by_cases e:k=de i
     ·rw[ai e]at hk;exact aG rfl hk
     ·rw[ah e]at hk;exact iD k hk e
    ·show(if k=de i then(0:Rat)else left k)=(((if k=de i then 0 else c k):Int):Rat)/_/\(if k=de i then(0:Int)else c k).natAbs<=N
     by_cases e:k=de i
     ·rw[ai e,ai e];exact⟨(yj D).symm,bK _⟩
     ·rw[ah e,ah e];exact hc k
    ·have h:(if k=de i then left (de i)else rest k)≠0:=h
     by_cases e:k=de i
     ·exact .inr ⟨i,.head _,e,hf⟩
     ·rw[ah e]at h;exact .inl h
   ·have vn:lm+(i- lm)=i:=Nat.add_sub_cancel' rI
    have LR:=C.sub GN hl K_ vn
    have TP:fh M (lm+1) (.t lm e p):=i8.fall hl he jg N1
    have WV:=(hc (de i)).2
    have hq:left (de i)/1=((c (de i):Int):Rat)/((D:Nat):Rat):=by rw[(hc (de i)).1,Ky]
    have hsv:=K8 (L:=.t lm e p) (m:=de (i- lm)) (ci:=c (de i)) he hD (de:=de)
    have ha:=K9 C (m:=de (i- lm)) TP
    refine ih (λk=>left k- dj 2 (fP de e (.t lm e p)) (de (i- lm)) (((c (de i):Int):Rat)/((D:Nat):Rat)) k) rest (e*D) (N*2^41) hp.2 SF SH (λk hk=>?_) (Bd.sub he jg hD hc WV ha hsv) (Nat.mul_pos he hD) ?_ ?_
     λres t d1 d2=>K res (t+1) (.step (g:=fP de e (.t lm e p)) (lm:=de lm) (lc:=1) (i:=ix) kW (by rw[j8,f1,bS]) f2 (by unfold cP;rw[aA,f3];rfl) (λk=>?_) ?_ (λk=>?_) (λk hk=>?_) (by rw[LR];exact C.mon _ K_) (by rw[LR,hq];exact d1)) λk hk=>(d2 k hk).imp id λ⟨j,hj,h⟩=>⟨j,.tail _ hj,h⟩
    ·have WY:rZ o k (de i)=true:=(BR (n:=2) (o:=o) (left:=left) (g:=fP de e (.t lm e p)) (m:=de i) (lm:=de lm) (lc:=1) (k:=k) (λk hk=>by
      obtain⟨j,hj,rfl⟩:=hs k hk
      exact(C.mon j (AB j hj).1).1) (λk hk=>by
      obtain⟨j,_,rfl,TQ⟩:=C.key TP hk
      exact(C.mon j TQ).1) kW (C.lead TP he).1 (ve C hl he jg N1).symm (by rw[LR,hq];exact hk)).2
     have iD:∃j,eQ M j/\wt (de j)<=6/\k=de j:=by
      by_cases s9:left k=0
      ·obtain⟨j,hj,rfl⟩:=vi (C.mon _ K_).1 (show dj 2 (fP de e (.t lm e p)) (de (i- lm)) (((c (de i):Int):Rat)/((D:Nat):Rat)) k≠0 fromλe=>hk (by
        show left k- _=0
        rw[s9,e];exact Rat.sub_self))
       have g:=P7 C (k:=0) GN (AB i (.head _)).2 hl he jg N1 K_ vn X9 hj
       have o2:=dJ7 _ g.1
       exact⟨co (gn j (de (i- lm))),o2.1,by rw[o2.2];exact g.2,o2.2.symm⟩
      ·obtain⟨j,hj,e⟩:=hs k s9
       exact⟨j,(AB j hj).1,(AB j hj).2,e⟩
     obtain⟨j,oj,wj,rfl⟩:=iD
     have hji:=C.Oq oj GN WY
     exact(au.mp (Iy i (.head _) j oj wj hji)).elim (λh=>aG hji (h▸Nat.lt_irrefl _)) λh=>⟨j,h,rfl⟩
    ·refine ae ?_ GY
     rw[Nat.mul_comm e D,Nat.mul_assoc]
     refine cb _ ?_
     rw[Nat.mul_comm]
     exact cb _ (ae jg (by decide))
    ·rw[Nat.mul_assoc,Nat.mul_comm (2^41)];exact TM
    ·rw[(hc k).1]
     exact nP (bJ hD) (Ot (ae (hc k).2 CO)) (Ot CN)
    ·rw[hq]
     exact nP (bJ hD) (Ot (ae WV CO)) (Ot CN)
    ·rw[LR,hq,hsv]
     exact nP (bJ (Nat.mul_pos he hD)) (by rw[bO];exact WW (ha k) (ae WV CO)) (WW jg CN)
    ·rw[LR];exact(P7 C (k:=0) GN (AB i (.head _)).2 hl he jg N1 K_ vn X9 hk).1
end
theorem Ay(u v:Rat){g:bM}:∀(l:aM),l.Nodup->(∀k∈l,gc 2 k)->gM u v (λm=>if m∈l then g m else 0)=i6 (λk=>g k*GK u v k) l
 |[],_,_=>by
  have e:(λm=>if m∈([]:aM)then g m else 0)=λZ=>0:=funext λk=>by simp
  rw[e,i7];rfl
 |k::l,nd,h=>by
  rw[aZ]at nd
  have ih:=Ay u v (g:=g) l nd.2 λm hm=>h m (.tail _ hm)
  have e:(λm=>if m∈k::l then g m else 0)=λm=>(if m=k then g k else 0)+(if m∈l then g m else 0):=funext λm=>by
   by_cases e:m=k
   ·subst e
    rw[ai (.head _),ai rfl,ah nd.1];grind
   ·have:(m∈k::l)↔m∈l:=⟨λx=>(au.mp x).resolve_left e,λx=>cD _ x⟩
    rw[ah e]
    simp only[this]
    grind
  rw[e,qm,ih,vh _ _ _ _ (h k (.head _)),i6]
def rA(L dJ6:aM):Bool:=yo.all λk=>imp (dG k 0 L== -1) (dJ6.contains k)
theorem nT{L dJ6:aM}(hS:rA L dJ6=true)(nd:dJ6.Nodup)(hm:∀k∈dJ6,gc 2 k){f:bM}(hf:∀k,f k≠0->gc 2 k/\dG k 0 L= -1):
  (∀k,k∉dJ6->f k=0)/\∀u v,gM u v f=i6 (λk=>f k*GK u v k) dJ6:=by
 have h1:∀k,k∉dJ6->f k=0:=λk hk=>by
  by_cases h0:f k=0
  ·exact h0
  ·obtain⟨h2,h3⟩:=hf k h0
   have:=av.mp hS k (vg h2)
   rw[h3]at this
   have:dJ6.contains k=true:=this
   exact aG (List.contains_iff_mem.mp this) hk
 refine⟨h1,λu v=>?_⟩
 have e:f=λm=>if m∈dJ6 then f m else 0:=funext λm=>by
  by_cases hm:m∈dJ6
  ·rw[ai hm]
  ·rw[ah hm];exact h1 m hm
 rw[<-Ay u v dJ6 nd hm,<-e]
theorem yq{a b:Int}(h:a≠b):((a:Int):Rat)≠((b:Int):Rat):=λe=>h (by exact_mod_cast e)
def j9(L:aM)(pts:List (Int×Int)):Prop:=∀f:bM,(∀k,f k≠0->gc 2 k/\dG k 0 L= -1)->(∀p∈pts,gM ((p.1:Int):Rat) ((p.2:Int):Rat) f=0)->∀k,f k=0
theorem ab2{L:aM}(hS:rA L [[0,0]]=true)(p:Int×Int):j9 L [p]:=λf hf h k=>by
 obtain⟨h1,h2⟩:=nT hS (by decide) (λk hk=>jR (by revert k;decide+kernel)) hf
 have e:=h p (.head _)
 rw[h2]at e
 have e:f [0,0]*(((p.1:Int):Rat)^0*((p.2:Int):Rat)^0)+0=0:=e
 have z:f [0,0]=0:=by grind
 by_cases hk:k∈([[0,0]]:aM)
 ·rw[az.mp hk];exact z
 ·exact h1 k hk
theorem WZ{a b y1 y2:Rat}(h:y1≠y2)(e1:a+b*y1=0)(e2:a+b*y2=0):a=0/\b=0:=by
 have h':y1- y2≠0:=λe=>h (by grind)
 have hb:b=0:=by grind
 exact⟨by grind,hb⟩
theorem W0{a b c y1 y2 y3:Rat}(Zy:y1≠y2)(Zz:y1≠y3)(h23:y2≠y3)(e1:a+b*y1+c*y1^2=0)(e2:a+b*y2+c*y2^2=0)(e3:a+b*y3+c*y3^2=0):a=0/\b=0/\c=0:=by
 have ab3:y1- y2≠0:=λe=>Zy (by grind)
 have ab4:y1- y3≠0:=λe=>Zz (by grind)
 have ab5:y2- y3≠0:=λe=>h23 (by grind)
 have g1:(y1- y2)*(b+c*(y1+y2))=0:=by grind
 have g2:(y1- y3)*(b+c*(y1+y3))=0:=by grind
 have g3:b+c*(y1+y2)=0:=(Rat.mul_eq_zero.mp g1).resolve_left ab3
 have g4:b+c*(y1+y3)=0:=(Rat.mul_eq_zero.mp g2).resolve_left ab4
 have g5:c*(y2- y3)=0:=by grind
 have hc:c=0:=(Rat.mul_eq_zero.mp g5).resolve_right ab5
 subst hc
 have hb:b=0:=by grind
 subst hb
 exact⟨by grind,rfl,rfl⟩
theorem ab6{a b c x1 x2 x3 y1 y2 y3:Rat}(hd:(x2- x1)*(y3- y1)- (x3- x1)*(y2- y1)≠0)(e1:a+b*y1+c*x1=0)(e2:a+b*y2+c*x2=0)(e3:a+b*y3+c*x3=0):a=0/\b=0/\c=0:=by
 have g1:c*((x2- x1)*(y3- y1)- (x3- x1)*(y2- y1))=0:=by grind
 have hc:c=0:=(Rat.mul_eq_zero.mp g1).resolve_right hd
 have g2:b*((x2- x1)*(y3- y1)- (x3- x1)*(y2- y1))=0:=by grind
 have hb:b=0:=(Rat.mul_eq_zero.mp g2).resolve_right hd
 subst hc hb
 exact⟨by grind,rfl,rfl⟩
theorem W2{L:aM}(hS:rA L [[0,0],[0,1]]=true)(p q:Int×Int)(SJ:p.2≠q.2):j9 L [p,q]:=λf hf h k=>by
 obtain⟨h1,h2⟩:=nT hS (by decide) (λk hk=>jR (by revert k;decide+kernel)) hf
 have e1:=h p (.head _)
 have e2:=h q (.tail _ (.head _))
 rw[h2]at e1 e2
 have e1:f [0,0]*(((p.1:Int):Rat)^0*((p.2:Int):Rat)^0)+(f [0,1]*(((p.1:Int):Rat)^0*((p.2:Int):Rat)^1)+0)=0:=e1
 have e2:f [0,0]*(((q.1:Int):Rat)^0*((q.2:Int):Rat)^0)+(f [0,1]*(((q.1:Int):Rat)^0*((q.2:Int):Rat)^1)+0)=0:=e2
 obtain⟨ha,hb⟩:=WZ (a:=f [0,0]) (b:=f [0,1]) (yq SJ) (by grind) (by grind)
 by_cases hk:k∈([[0,0],[0,1]]:aM)
 ·simp only[List.mem_cons,List.not_mem_nil,or_false]at hk
  rcases hk with rfl|rfl
  ·exact ha
  ·exact hb
 ·exact h1 k hk
theorem W3{L:aM}(hS:rA L [[0,0],[1,0]]=true)(p q:Int×Int)(SJ:p.1≠q.1):j9 L [p,q]:=λf hf h k=>by
 obtain⟨h1,h2⟩:=nT hS (by decide) (λk hk=>jR (by revert k;decide+kernel)) hf
 have e1:=h p (.head _)
 have e2:=h q (.tail _ (.head _))
 rw[h2]at e1 e2
 have e1:f [0,0]*(((p.1:Int):Rat)^0*((p.2:Int):Rat)^0)+(f [1,0]*(((p.1:Int):Rat)^1*((p.2:Int):Rat)^0)+0)=0:=e1
 have e2:f [0,0]*(((q.1:Int):Rat)^0*((q.2:Int):Rat)^0)+(f [1,0]*(((q.1:Int):Rat)^1*((q.2:Int):Rat)^0)+0)=0:=e2
 obtain⟨ha,hb⟩:=WZ (a:=f [0,0]) (b:=f [1,0]) (yq SJ) (by grind) (by grind)
 by_cases hk:k∈([[0,0],[1,0]]:aM)
 ·simp only[List.mem_cons,List.not_mem_nil,or_false]at hk
  rcases hk with rfl|rfl
  ·exact ha
  ·exact hb
 ·exact h1 k hk
theorem W4{L:aM}(hS:rA L [[0,0],[0,1],[0,2]]=true)(p q r:Int×Int)(SJ:p.2≠q.2)(hpr:p.2≠r.2)(Tp:q.2≠r.2):j9 L [p,q,r]:=λf hf h k=>by
 obtain⟨h1,h2⟩:=nT hS (by decide) (λk hk=>jR (by revert k;decide+kernel)) hf
 have e1:=h p (.head _)
 have e2:=h q (.tail _ (.head _))
 have e3:=h r (.tail _ (.tail _ (.head _)))
 rw[h2]at e1 e2 e3
 have e1:f [0,0]*(((p.1:Int):Rat)^0*((p.2:Int):Rat)^0)+(f [0,1]*(((p.1:Int):Rat)^0*((p.2:Int):Rat)^1)+(f [0,2]*(((p.1:Int):Rat)^0*((p.2:Int):Rat)^2)+0))=0:=e1
 have e2:f [0,0]*(((q.1:Int):Rat)^0*((q.2:Int):Rat)^0)+(f [0,1]*(((q.1:Int):Rat)^0*((q.2:Int):Rat)^1)+(f [0,2]*(((q.1:Int):Rat)^0*((q.2:Int):Rat)^2)+0))=0:=e2
 have e3:f [0,0]*(((r.1:Int):Rat)^0*((r.2:Int):Rat)^0)+(f [0,1]*(((r.1:Int):Rat)^0*((r.2:Int):Rat)^1)+(f [0,2]*(((r.1:Int):Rat)^0*((r.2:Int):Rat)^2)+0))=0:=e3
 obtain⟨ha,hb,hc⟩:=W0 (a:=f [0,0]) (b:=f [0,1]) (c:=f [0,2]) (yq SJ) (yq hpr) (yq Tp) (by grind) (by grind) (by grind)
 by_cases hk:k∈([[0,0],[0,1],[0,2]]:aM)
 ·simp only[List.mem_cons,List.not_mem_nil,or_false]at hk
  rcases hk with rfl|rfl|rfl
  ·exact ha
  ·exact hb
  ·exact hc
 ·exact h1 k hk
theorem W5{L:aM}(hS:rA L [[0,0],[1,0],[2,0]]=true)(p q r:Int×Int)(SJ:p.1≠q.1)(hpr:p.1≠r.1)(Tp:q.1≠r.1):j9 L [p,q,r]:=λf hf h k=>by
 obtain⟨h1,h2⟩:=nT hS (by decide) (λk hk=>jR (by revert k;decide+kernel)) hf
 have e1:=h p (.head _)
 have e2:=h q (.tail _ (.head _))
 have e3:=h r (.tail _ (.tail _ (.head _)))
 rw[h2]at e1 e2 e3
 have e1:f [0,0]*(((p.1:Int):Rat)^0*((p.2:Int):Rat)^0)+(f [1,0]*(((p.1:Int):Rat)^1*((p.2:Int):Rat)^0)+(f [2,0]*(((p.1:Int):Rat)^2*((p.2:Int):Rat)^0)+0))=0:=e1
 have e2:f [0,0]*(((q.1:Int):Rat)^0*((q.2:Int):Rat)^0)+(f [1,0]*(((q.1:Int):Rat)^1*((q.2:Int):Rat)^0)+(f [2,0]*(((q.1:Int):Rat)^2*((q.2:Int):Rat)^0)+0))=0:=e2
 have e3:f [0,0]*(((r.1:Int):Rat)^0*((r.2:Int):Rat)^0)+(f [1,0]*(((r.1:Int):Rat)^1*((r.2:Int):Rat)^0)+(f [2,0]*(((r.1:Int):Rat)^2*((r.2:Int):Rat)^0)+0))=0:=e3
 obtain⟨ha,hb,hc⟩:=W0 (a:=f [0,0]) (b:=f [1,0]) (c:=f [2,0]) (yq SJ) (yq hpr) (yq Tp) (by grind) (by grind) (by grind)
 by_cases hk:k∈([[0,0],[1,0],[2,0]]:aM)
 ·simp only[List.mem_cons,List.not_mem_nil,or_false]at hk
  rcases hk with rfl|rfl|rfl
  ·exact ha
  ·exact hb
  ·exact hc
 ·exact h1 k hk
theorem W6{L:aM}(hS:rA L [[0,0],[0,1],[1,0]]=true)(p q r:Int×Int)(hd:(q.1- p.1)*(r.2- p.2)- (r.1- p.1)*(q.2- p.2)≠0):j9 L [p,q,r]:=λf hf h k=>by
 obtain⟨h1,h2⟩:=nT hS (by decide) (λk hk=>jR (by revert k;decide+kernel)) hf
 have e1:=h p (.head _)
 have e2:=h q (.tail _ (.head _))
 have e3:=h r (.tail _ (.tail _ (.head _)))
 rw[h2]at e1 e2 e3
 have e1:f [0,0]*(((p.1:Int):Rat)^0*((p.2:Int):Rat)^0)+(f [0,1]*(((p.1:Int):Rat)^0*((p.2:Int):Rat)^1)+(f [1,0]*(((p.1:Int):Rat)^1*((p.2:Int):Rat)^0)+0))=0:=e1
 have e2:f [0,0]*(((q.1:Int):Rat)^0*((q.2:Int):Rat)^0)+(f [0,1]*(((q.1:Int):Rat)^0*((q.2:Int):Rat)^1)+(f [1,0]*(((q.1:Int):Rat)^1*((q.2:Int):Rat)^0)+0))=0:=e2
 have e3:f [0,0]*(((r.1:Int):Rat)^0*((r.2:Int):Rat)^0)+(f [0,1]*(((r.1:Int):Rat)^0*((r.2:Int):Rat)^1)+(f [1,0]*(((r.1:Int):Rat)^1*((r.2:Int):Rat)^0)+0))=0:=e3
 have AE:(((q.1:Int):Rat)- ((p.1:Int):Rat))*(((r.2:Int):Rat)- ((p.2:Int):Rat))- (((r.1:Int):Rat)- ((p.1:Int):Rat))*(((q.2:Int):Rat)- ((p.2:Int):Rat))≠0:=λe=>by
  have h0:(((q.1- p.1)*(r.2- p.2)- (r.1- p.1)*(q.2- p.2):Int):Rat)=((0:Int):Rat):=by push_cast;exact e
  exact yq hd h0
 obtain⟨ha,hb,hc⟩:=ab6 (a:=f [0,0]) (b:=f [0,1]) (c:=f [1,0]) AE (by grind) (by grind) (by grind)
 by_cases hk:k∈([[0,0],[0,1],[1,0]]:aM)
 ·simp only[List.mem_cons,List.not_mem_nil,or_false]at hk
  rcases hk with rfl|rfl|rfl
  ·exact ha
  ·exact hb
  ·exact hc
 ·exact h1 k hk
section
variable{M N:Nat}{o:e6}{jn:Nat->Nat->Nat}{de:Nat->List Int}(C:Cd 2 o M jn de){co:List Int->Nat}(dJ7:Co 2 M de co)
include C dJ7
theorem SK(X_:M<2^N)(h64:(mr M N).length<=64){B:Bq}(hB:i8 M B)(hW:LW de B)(hl:(fy B).length<=60){ps hs:List Int}(SM:∀p∈ps,∀g∈dP de B,gM ((p:Int):Rat) ((iO hs p:Int):Rat) g=0)
  (ab7:j9 (dC de B) (ps.map λp=>(p,iO hs p))):Kh o (dP de B) (dC de B) ps hs:=by
 refine⟨C.gs hB,by rw[fX];exact hl,λR hR hn=>?_⟩
 have ip:=hR.mon
 have tQ:∀k,dH R k≠0->gc 2 k/\wt k<=6:=λk hk=>by
  have h0:aI R k≠0:=λe=>hk (eT.mpr e)
  obtain⟨x,hx⟩:=jz h0
  obtain⟨a,b,e,h1,h2⟩:=hR _ hx
  refine⟨ip _ hx,?_⟩
  dsimp only at e
  rw[e]
  exact cJ.mpr h2
 let l:=((mr M N).filter λi=>decide (wt (de i)<=6)).reverse
 have iD:∀i,i∈l↔(i∈mr M N/\wt (de i)<=6):=λi=>by
  show i∈((mr M N).filter λi=>decide (wt (de i)<=6)).reverse↔_
  rw[List.mem_reverse,List.mem_filter,decide_eq_true_eq]
 have AB:∀i∈mr M N,eQ M i:=λi hi=>nS.mp (List.mem_filter.mp hi).2
 have fR:l.length<=64:=by
  show((mr M N).filter λi=>decide (wt (de i)<=6)).reverse.length<=64
  rw[List.length_reverse]
  exact ae (dk _ _) h64
 have hp:l.Pairwise (·>·):=by
  show(((mr M N).filter λi=>decide (wt (de i)<=6)).reverse).Pairwise (·>·)
  rw[List.pairwise_reverse]
  exact(List.pairwise_lt_range.filter _).filter _
 have W7:2^(41*l.length)<=2^2624:=bT (by decide) (cb 41 fR)
 refine WX C dJ7 hB hW l (dH R) (λZ=>0) 1 200 hp (λi hi=>⟨AB i ((iD i).mp hi).1,((iD i).mp hi).2⟩) (λi hi j hj hw Z=>(iD j).mpr ⟨gm X_ hj,hw⟩) (λk hk=>by
  obtain⟨h1,h2⟩:=tQ k hk
  obtain⟨o1,o2⟩:=dJ7 k h1
  exact⟨co k,(iD _).mpr ⟨gm X_ o1,by rw[o2];exact h2⟩,o2.symm⟩) ⟨aI R,λk=>⟨by
   show((aI R k:Int):Rat)=_
   have:((1:Nat):Rat)=1:=rfl
   rw[this];grind,ae (hY R k) hn⟩⟩ (by decide) (by
   rw[Nat.one_mul];exact ae W7 (bT (by decide) (by decide))) (by
   refine ae (cb 200 W7) ?_
   exact ae (cC _ (show 200<=2^8 by decide)) (by rw[<-Nat.pow_add];exact bT (by decide) (by decide))) λres t D Sa=>?_
 have hD:Dv 2 o (dP de B) (cP (dC de B)) (cX (aI R)) (λZ=>0) res t:=D
 refine⟨res,t,hD,?_⟩
 have hv:∀p∈ps,gM ((p:Int):Rat) ((iO hs p:Int):Rat) res=((gR (ev p (iO hs p)) R:Int):Rat):=λp hp=>by
  have:=K6 (C.gs hB) (SM p hp) D (λk hk=>(tQ k hk).1) (λk l Z hl=>aG rfl hl)
  rw[this,qn p (iO hs p) R ip,i7];grind
 constructor
 ·intro h0 p hp
  have h1:=hv p hp
  rw[show res=λZ=>0 from funext h0,i7]at h1
  exact_mod_cast h1.symm
 ·intro h0
  refine ab7 res (λk hk=>?_) λq hq=>?_
  ·rcases Sa k hk with h|⟨i,hi,rfl,hf⟩
   ·exact aG rfl h
   ·exact⟨C.mon i (AB i ((iD i).mp hi).1),hf⟩
  ·obtain⟨p,hp,rfl⟩:=aQ.mp hq
   rw[hv p hp,h0 p hp];rfl
end
noncomputable def La:Bq->Nat->Option (Nat×Nat×Pq)
 |.z,_=>none
 |.t l e p _,0=>some (l,e,p)
 |.t _ _ _ r,n+1=>La r n
noncomputable def iz(B:Bq):List Nat->Bq
 |[]=>.z
 |i::p=>match La B i with
  |some (l,e,q)=>.t l e q (iz B p)
  |none=>iz B p
theorem CP{M:Nat}(de:Nat->List Int){B:Bq}:∀{i:Nat} {Q:Prop},i<(fy B).length->(∀l e q,La B i=some (l,e,q)->(dP de B)[i]?=some (fP de e (.t l e q))->(dC de B)[i]?=some (de l)->(fy B)[i]?=some l->(i8 M B->eQ M l/\0<e/\e<=1099511627776/\fh M l q)->(LW de B->∀j∈gj q,wt (de j)<=wt (de l))->Q)->Q:=by
 induction B with
 |z=>exactλh=>aG h (Nat.not_lt_zero _)
 |t l e p r ih=>
  exactλ{i Q} h K=>by
   cases i with
   |zero=>exact K l e p rfl rfl rfl rfl (λg=>⟨g.1,g.2.1,g.2.2.1,g.2.2.2.1⟩) λg=>g.1
   |succ i=>exact ih (Nat.lt_of_succ_lt_succ h) λl' e' q h1 h2 h3 h4 h5 h6=>K l' e' q h1 h2 h3 h4 (λg=>h5 g.2.2.2.2) λg=>h6 g.2
theorem P8{B:Bq}{i l e:Nat}{q:Pq}{p:List Nat}(h:La B i=some (l,e,q)):iz B (i::p)=.t l e q (iz B p):=by
 show(match La B i with|some (l,e,q)=>Bq.t l e q (iz B p)|none=>iz B p)=_
 rw[h]
theorem tw{M:Nat}(de:Nat->List Int){B:Bq}(hB:i8 M B)(p:List Nat):(∀i∈p,i<(fy B).length)->dP de (iz B p)=p.map (λi=>(dP de B).getD i λZ=>0)/\dC de (iz B p)=p.map (λi=>(dC de B).getD i [])/\i8 M (iz B p)/\(fy (iz B p)).length=p.length/\(LW de B->LW de (iz B p)):=by
 induction p with
 |nil=>exactλZ=>⟨rfl,rfl,trivial,rfl,λZ=>trivial⟩
 |cons i p ih=>
  intro h
  have i1:=ih λj hj=>h j (.tail _ hj)
  refine CP (M:=M) de (h i (.head _)) λl e q h1 h2 h3 Z h5 h6=>?_
  rw[P8 h1]
  refine⟨?_,?_,⟨(h5 hB).1,(h5 hB).2.1,(h5 hB).2.2.1,(h5 hB).2.2.2,i1.2.2.1⟩,ao Nat.succ i1.2.2.2.1,λw=>⟨h6 w,i1.2.2.2.2 w⟩⟩
  ·rw[bP,<-i1.1,aK,h2];rfl
  ·rw[bP,<-i1.2.1,aK,h3];rfl
theorem SN{M:Nat}(de:Nat->List Int){B:Bq}(hB:i8 M B)(hW:LW de B)(p:List Nat)(h:∀i∈p,i<(fy B).length):dP de (iz B p)=p.map (λi=>(dP de B).getD i λZ=>0)/\dC de (iz B p)=p.map (λi=>(dC de B).getD i [])/\i8 M (iz B p)/\LW de (iz B p)/\(fy (iz B p)).length=p.length:=
 have q:=tw (M:=M) de hB p h
 ⟨q.1,q.2.1,q.2.2.1,q.2.2.2.2 hW,q.2.2.2.1⟩
noncomputable section
noncomputable def Ou(a:List Nat):List Nat->Bool:=List.rec (motive:=λZ=>List Nat->Bool) (λb=>List.rec (motive:=λZ=>Bool) true (λZ Z Z=>false) b)
 (λx Z ih b=>List.rec (motive:=λZ=>Bool) false (λy s Z=>Bool.rec (motive:=λZ=>Bool) false (ih s) (Nat.beq x y)) b) a
noncomputable def wtP(wq:Nat->Nat)(w:Nat)(p:Pq):Bool:=Pq.rec (motive:=λZ=>Bool) true (λi Z Z ih=>Bool.rec (motive:=λZ=>Bool) false ih (Nat.ble (wq i) w)) p
def wtQ(wq:Nat->Nat)(B:Bq):Bool:=Bq.rec (motive:=λZ=>Bool) true (λl Z p Z ih=>Bool.rec (motive:=λZ=>Bool) false ih (wtP wq (wq l) p)) B
end
noncomputable def gO(a b:Int):Bool:= !(decide (a=b))
def P9(ps hs:List Int):Nat->Bool
 |0=>LD ps λZ=>true
 |1=>OQ ps λp q=>gO (iO hs p) (iO hs q)
 |2=>OQ ps gO
 |3=>E4 ps λp r=>OQ r λq r=>gO (iO hs p) (iO hs q)&&(gO (iO hs p) (iO hs r)&&gO (iO hs q) (iO hs r))
 |4=>E4 ps λp r=>OQ r λq r=>gO ((q- p)*(iO hs r- iO hs p)- (r- p)*(iO hs q- iO hs p)) 0
 |5=>E4 ps λp r=>OQ r λq r=>gO p q&&(gO p r&&gO q r)
 |_=>false
noncomputable abbrev SO:=List (List Nat×List Nat×Nat)
noncomputable section
def Lb(cond:Nat->Bool)(cs:List Nat)(T:SO):Bool:=List.rec (motive:=λZ=>Bool) false (λe Z ih=>Bool.rec (motive:=λZ=>Bool) ih (cond e.2.2) (Ou cs e.1)) T
def ab8(cond:Nat->Bool)(T:SO)(cs:List Nat):Bool:=Lb cond cs T
def SP(wq:Nat->Nat)(T:SO)(ps hs:List Int)(B:Bq):Bool:=Bool.rec (motive:=λZ=>Bool) false (wtQ wq B) (Ap B (ab8 (P9 ps hs) T))
end
theorem Ld{a:List Nat}:∀{b:List Nat},Ou a b=true->a=b:=by
 induction a with
 |nil=>
  intro b h
  cases b with
  |nil=>rfl
  |cons=>exact no h
 |cons x a ih=>
  intro b h
  cases b with
  |nil=>exact no h
  |cons y b=>exact i4 h λh1 h2=>by rw[bf h1,ih h2]
theorem Le(B:Bq):∀(k:List Nat->Bool),Ap B k=k (fy B):=by
 induction B with
 |z=>exactλZ=>rfl
 |t l e p r ih=>
  intro k
  show G7 l (λl=>Ap r λr=>k (l::r))=k (l::fy r)
  rw[rn,ih]
theorem Ov{cond:Nat->Bool}{cs:List Nat}{T:SO}:Lb cond cs T=true->∃e∈T,e.1=cs/\cond e.2.2=true:=by
 induction T with
 |nil=>exactλh=>no h
 |cons e T ih=>
  intro h
  have h:Bool.rec (motive:=λZ=>Bool) (Lb cond cs T) (cond e.2.2) (Ou cs e.1)=true:=h
  cases he:Ou cs e.1 with
  |true=>
   rw[he]at h
   exact⟨e,.head _,(Ld he).symm,h⟩
  |false=>
   rw[he]at h
   exact(ih h).imp λe h=>⟨.tail _ h.1,h.2⟩
theorem SQ{wq:Nat->Nat}{w:Nat}{p:Pq}:wtP wq w p=true->∀j∈gj p,wq j<=w:=by
 induction p with
 |z=>exactλZ Z h=>(a7 h).elim
 |t i c r ih=>exactλh j hj=>i4 h λh1 h2=>(au.mp hj).elim (λe=>e▸gy h1) (ih h2 j)
theorem SS{M:Nat}{de:Nat->List Int}{wq:Nat->Nat}(hw:∀i,eQ M i->wt (de i)=(wq i:Int)){B:Bq}:i8 M B->wtQ wq B=true->LW de B:=by
 induction B with
 |z=>exactλZ Z=>trivial
 |t l e p r ih=>
  exactλhB h=>i4 h λh1 h2=>⟨λj hj=>by
   rw[hw j (hB.2.2.2.1.mem j hj).2,hw l hB.1]
   exact cJ.mpr (SQ h1 j hj),ih hB.2.2.2.2 h2⟩
theorem lW{a b:Int}(h:gO a b=true):a≠b:=λe=>by
 rw[gO,bF e]at h;exact no h
theorem w_(x y:Int):∀(hs:List Int) (i:Nat),gR (ev x y) (jN i hs)= - eX (mZ x i hs)
 |[],i=>rfl
 |h::hs,i=>by
  have ih:=w_ x y hs (i+1)
  show(0- h)*(x^(i:Int).toNat*y^(0:Nat))+gR (ev x y) (jN (i+1) hs)= -(h*x^i+eX (mZ x (i+1) hs))
  rw[ih,Int.toNat_natCast,Int.pow_zero]
  grind
theorem w'(hs:List Int)(x:Int):gR (ev x (iO hs x)) (dK hs)=0:=by
 show 1*(x^(0:Int).toNat*(iO hs x)^(1:Int).toNat)+gR (ev x (iO hs x)) (jN 0 hs)=0
 rw[w_]
 show 1*(x^0*(iO hs x)^1)+ -iO hs x=0
 grind
theorem Ow(ps hs:List Int)(c x:Int)(hx:x∈ps):gR (ev x (iO hs x)) (bY ps++eB c (dK hs))=0:=by
 rw[lN,w9,w',qg,lR.mpr hx];simp
structure lX(L:aM)(n:Nat):Prop where
 two:∀m∈L,m.length=2
 fin:J_ L=true
 sp:∃(f:aM) (t:Nat) (s:List V),Sp L [[0,0]] [] f t/\iV (f.map bj)=some (.a9 s)/\s.length=n
def KS(L:aM)(k:Nat):Prop:=∀ps hs,P9 ps hs k=true->lX L ps.length/\j9 L (ps.map λp=>(p,iO hs p))
structure EG(o:e6)(de:Nat->List Int)(e:List Nat×List Nat×Nat):Prop where
 srt:sX o (e.1.map de)=some e.2.1
 CT:∀i∈e.2.1,i<e.1.length
 k4:e.2.1.length<=50
 kind:KS (e.2.1.map λi=>(e.1.map de).getD i []) e.2.2
section
variable{M N:Nat}{o:e6}{jn:Nat->Nat->Nat}{de:Nat->List Int}(C:Cd 2 o M jn de){co:List Int->Nat}(dJ7:Co 2 M de co){wq:Nat->Nat}{T:SO}
include C dJ7
theorem yr(X_:M<2^N)(h64:(mr M N).length<=64)(hw:∀i,eQ M i->wt (de i)=(wq i:Int))(hT:∀e∈T,EG o de e){ps hs:List Int}{c:Int}(hV:Vd ps hs)(hc:c=0\/c=1\/c=2)
  (h:LU M jn co [bY ps++eB c (dK hs),dK hs] (SP wq T ps hs)=true):Cp o ps hs c:=by
 have fR:=hV.len
 have qA:=hV.k4
 have hz:=sk (ps:=ps) qA
 have Wh:=Eg hV.p
 have hb5:5^ps.length<=125:=ae (bT (by decide) qA) (by decide)
 have Wi:dz (bY ps)=Ak ps:=by
  unfold bY
  rw[uX]
  exact Nat.one_mul _
 have han:=u4 (H:=hs) (fR▸qA) hV.h
 have ham:=w6 (H:=hs) (ae (fR▸qA) (by decide))
 have W8:sY (bY ps++eB c (dK hs)):=λq hq=>by
  rcases bN.mp hq with hq|hq
  ·exact hz.mon q hq
  ·obtain⟨r,hr,rfl⟩:=aQ.mp hq
   exact ham r hr
 have XU:dz (bY ps++eB c (dK hs))<=1000:=by
  rw[lO,uZ,Wi]
  have:c.natAbs*dz (dK hs)<=2*10:=bE (by rcases hc with rfl|rfl|rfl<;>decide) han
  exact ae (bz (ae Wh hb5) this) (by decide)
 refine m7 C dJ7 (Rs:=[bY ps++eB c (dK hs),dK hs]) (al ⟨W8,ae XU (by decide)⟩ (al ⟨ham,ae han (by decide)⟩ PR)) (show 2<=10 by decide) h λB hB u5 G5 Ej=>i4 u5 λf1 f2=>?_
 rw[Le]at f1
 obtain⟨e,he,mn,ql⟩:=Ov f1
 have hW:=SS hw hB f2
 have E:=hT e he
 have vR:dC de B=e.1.map de:=by rw[dQ,mn]
 have iD:∀i∈e.2.1,i<(fy B).length:=λi hi=>by rw[<-mn];exact E.CT i hi
 obtain⟨TV,ab9⟩:=Ej e.2.1 (by rw[vR];exact E.srt) iD (ae E.k4 (by decide))
 obtain⟨q1,q2,q3,q4,q5⟩:=SN de hB hW e.2.1 iD
 obtain⟨IA,s9⟩:=E.kind ps hs ql
 rw[vR]at q2
 rw[<-q2]at IA s9
 have nY:∀g∈dP de (iz B e.2.1),g∈dP de B:=λg hg=>by
  rw[q1]at hg
  obtain⟨i,hi,rfl⟩:=aQ.mp hg
  have:=iD i hi
  rw[<-fX de B]at this
  show(dP de B).getD i _∈_
  rw[aK,aH this]
  exact List.getElem_mem this
 have SM:∀p∈ps,∀g∈dP de (iz B e.2.1),gM ((p:Int):Rat) ((iO hs p:Int):Rat) g=0:=λp hp g hg=>by
  refine ab9 _ (Om o _ _) (al ?_ (al ?_ PR)) g (nY g hg)
  ·show gM _ _ (dH _)=0
   rw[qn p (iO hs p) _ W8,Ow ps hs c p hp];rfl
  ·show gM _ _ (dH _)=0
   rw[qn p (iO hs p) _ ham,w'];rfl
 have ac0:(fy (iz B e.2.1)).length<=60:=by rw[q5];exact ae E.k4 (by decide)
 have M':=SK C dJ7 X_ h64 q3 q4 ac0 SM s9
 rw[<-q1]at TV
 exact⟨dP de (iz B e.2.1),dC de (iz B e.2.1),TV,⟨M'.gs,M'.k4,IA.two,IA.sp,ae qA (by decide)⟩,IA.fin,M'⟩
end
noncomputable def W9(ls:aM):Nat->aM->aM->Option (aM)
 |0,_,_=>none
 |n+1,w,f=>if w.length<=100/\f.length<=100 then(match w.getLast? with
  |none=>some f
  |some m=>l2 m λa b=>if(f.contains [a,b]||decide (0<=dG [a,b] 0 ls))=true then W9 ls n w.dropLast f else W9 ls n (w.dropLast++[[a+1,b],[a,b+1]]) (f++[[a,b]]))else none
theorem SU{ls:aM}(n:Nat):∀(w f r:aM),W9 ls n w f=some r->∃t,Sp ls w f r t:=by
 induction n with
 |zero=>exactλZ Z Z h=>nn h
 |succ n ih=>
  intro w f r h
  refine qr h λhz h=>?_
  cases hw:w.getLast? with
  |none=>
   rw[hw]at h
   cases List.getLast?_eq_none_iff.mp hw
   cases h
   exact⟨0,.done hz.2⟩
  |some m=>
   rw[hw]at h
   obtain⟨ys,rfl⟩:=List.getLast?_eq_some_iff.mp hw
   rw[List.dropLast_concat]at h
   have OY:ys.length<=100:=ae (aS _ 1) (ae (aP (aC (as:=ys) (bs:=[m])).symm) hz.1)
   refine vS (L:=λm=>∃t,Sp ls (ys++[m]) f r t) h λa b h=>?_
   by_cases hc:(f.contains [a,b]||decide (0<=dG [a,b] 0 ls))=true
   ·rw[ai hc]at h
    obtain⟨t,ht⟩:=ih _ _ r h
    exact⟨t+1,.skip hc OY ht⟩
   ·rw[ah hc]at h
    obtain⟨t,ht⟩:=ih _ _ r h
    exact⟨t+1,.take (Bool.eq_false_iff.mpr hc) OY hz.2 ht⟩
noncomputable def W_(v:V)(n:Nat):Bool:=match v with
 |.a9 s=>Nat.beq s.length n
 |_=>false
def vk(L:aM)(n:Nat):Bool:=(L.all λm=>Nat.beq m.length 2)&&(J_ L&&OR (W9 L 60 [[0,0]] []) λf=>OR (iV (f.map bj)) λv=>W_ v n)
theorem jS{L:aM}{n:Nat}(h:vk L n=true):lX L n:=vo h λh1 h2 h3=>by
 refine⟨λm hm=>bf (av.mp h1 m hm),h2,?_⟩
 cases hf:W9 L 60 [[0,0]] []with
 |none=>rw[hf]at h3;exact no h3
 |some f=>
  rw[hf]at h3
  obtain⟨t,ht⟩:=SU 60 _ _ f hf
  refine⟨f,t,tR (R:=λo=>∃s,Sp L [[0,0]] [] f t/\o=some (V.a9 s)/\s.length=n) h3 λv h=>?_⟩
  cases v with
  |a9 s=>exact⟨s,ht,rfl,bf h⟩
  |_=>exact no h
theorem Lf{L:aM}(h1:vk L 1=true)(h2:rA L [[0,0]]=true):KS L 0:=λps hs h=>
 k9 (P:=λps=>lX L ps.length/\j9 L (ps.map λp=>(p,iO hs p))) h λp Z=>⟨jS h1,ab2 h2 _⟩
theorem Lg{L:aM}(h1:vk L 2=true)(h2:rA L [[0,0],[0,1]]=true):KS L 1:=λps hs h=>
 xx (P:=λps=>lX L ps.length/\j9 L (ps.map λp=>(p,iO hs p))) h λp q h=>⟨jS h1,W2 h2 _ _ (lW h)⟩
theorem Lh{L:aM}(h1:vk L 2=true)(h2:rA L [[0,0],[1,0]]=true):KS L 2:=λps hs h=>
 xx (P:=λps=>lX L ps.length/\j9 L (ps.map λp=>(p,iO hs p))) h λp q h=>⟨jS h1,W3 h2 _ _ (lW h)⟩
theorem CQ{P:List Int->Prop}{ps:List Int}{f:Int->Int->Int->Bool}(h:(E4 ps λp r=>OQ r (f p))=true)(H:∀p q r,f p q r=true->P [p,q,r]):P ps:=
 k_ h λp r h=>xx (P:=λr=>P (p::r)) h (H p)
theorem Li{L:aM}(h1:vk L 3=true)(h2:rA L [[0,0],[0,1],[0,2]]=true):KS L 3:=λps hs h=>
 CQ (P:=λps=>lX L ps.length/\j9 L (ps.map λp=>(p,iO hs p))) h λp q r h=>vo h λg1 g2 g3=>⟨jS h1,W4 h2 _ _ _ (lW g1) (lW g2) (lW g3)⟩
theorem Lj{L:aM}(h1:vk L 3=true)(h2:rA L [[0,0],[0,1],[1,0]]=true):KS L 4:=λps hs h=>
 CQ (P:=λps=>lX L ps.length/\j9 L (ps.map λp=>(p,iO hs p))) h λp q r h=>⟨jS h1,W6 h2 _ _ _ (lW h)⟩
theorem Lk{L:aM}(h1:vk L 3=true)(h2:rA L [[0,0],[1,0],[2,0]]=true):KS L 5:=λps hs h=>
 CQ (P:=λps=>lX L ps.length/\j9 L (ps.map λp=>(p,iO hs p))) h λp q r h=>vo h λg1 g2 g3=>⟨jS h1,W5 h2 _ _ _ (lW g1) (lW g2) (lW g3)⟩
noncomputable abbrev Xa:SO:=[([16,1],[1,0],0),([16,2],[1,0],1),([32,1],[1,0],2),([16,3],[1,0],3),([32,17,2],[2,1,0],4),([48,1],[1,0],5)]
noncomputable abbrev Xb:SO:=[([17,16],[1,0],0),([17,32],[0,1],1),([34,16],[1,0],2),([17,48],[0,1],3),([34,33,32],[2,1,0],4),([51,16],[1,0],5)]
theorem yD{o:e6}{de:Nat->List Int}{e:List Nat×List Nat×Nat}(h1:sX o (e.1.map de)=some e.2.1)(h2:e.2.1.all (λi=>Nat.blt i e.1.length)=true)(h3:e.2.1.length<=50)
  (h4:KS (e.2.1.map λi=>(e.1.map de).getD i []) e.2.2):EG o de e:=
 ⟨h1,λi hi=>aX (av.mp h2 i hi),h3,h4⟩
theorem Ox:∀e∈Xa,EG .lex gk e:=
 al (yD (by decide+kernel) (by decide+kernel) (by decide) (Lf (by decide+kernel) (by decide+kernel)))<|
  al (yD (by decide+kernel) (by decide+kernel) (by decide) (Lg (by decide+kernel) (by decide+kernel)))<|
  al (yD (by decide+kernel) (by decide+kernel) (by decide) (Lh (by decide+kernel) (by decide+kernel)))<|
  al (yD (by decide+kernel) (by decide+kernel) (by decide) (Li (by decide+kernel) (by decide+kernel)))<|
  al (yD (by decide+kernel) (by decide+kernel) (by decide) (Lj (by decide+kernel) (by decide+kernel)))<|
  al (yD (by decide+kernel) (by decide+kernel) (by decide) (Lk (by decide+kernel) (by decide+kernel)))<|
  PR
theorem EH(o:e6)(h:o=.mQ\/o=.grevlex):∀e∈Xb,EG o oq e:=by
 rcases h with rfl|rfl
 ·exact al (yD (by decide+kernel) (by decide+kernel) (by decide) (Lf (by decide+kernel) (by decide+kernel)))<|
   al (yD (by decide+kernel) (by decide+kernel) (by decide) (Lg (by decide+kernel) (by decide+kernel)))<|
   al (yD (by decide+kernel) (by decide+kernel) (by decide) (Lh (by decide+kernel) (by decide+kernel)))<|
   al (yD (by decide+kernel) (by decide+kernel) (by decide) (Li (by decide+kernel) (by decide+kernel)))<|
   al (yD (by decide+kernel) (by decide+kernel) (by decide) (Lj (by decide+kernel) (by decide+kernel)))<|
   al (yD (by decide+kernel) (by decide+kernel) (by decide) (Lk (by decide+kernel) (by decide+kernel)))<|
   PR
 ·exact al (yD (by decide+kernel) (by decide+kernel) (by decide) (Lf (by decide+kernel) (by decide+kernel)))<|
   al (yD (by decide+kernel) (by decide+kernel) (by decide) (Lg (by decide+kernel) (by decide+kernel)))<|
   al (yD (by decide+kernel) (by decide+kernel) (by decide) (Lh (by decide+kernel) (by decide+kernel)))<|
   al (yD (by decide+kernel) (by decide+kernel) (by decide) (Li (by decide+kernel) (by decide+kernel)))<|
   al (yD (by decide+kernel) (by decide+kernel) (by decide) (Lj (by decide+kernel) (by decide+kernel)))<|
   al (yD (by decide+kernel) (by decide+kernel) (by decide) (Lk (by decide+kernel) (by decide+kernel)))<|
   PR
noncomputable def wqL(i:Nat):Nat:=Nat.add (Nat.mul 2 (Nat.div i 16)) (Nat.mod i 16)
noncomputable def wqG(i:Nat):Nat:=Nat.add (Nat.div i 16) (Nat.mod i 16)
theorem SV:∀i,eQ n5 i->wt (gk i)=(wqL i:Int):=λi Z=>by
 rfl
theorem Ll:∀i,eQ m8 i->wt (oq i)=(wqG i:Int):=λi hi=>by
 have h:(mr m8 256).all (λi=>Nat.ble (i%16) (i/16))=true:=by decide+kernel
 have:=gy (av.mp h i (gm (by decide+kernel) hi))
 exact ao Int.ofNat (show 2*(i%16)+(i/16- i%16)=i/16+i%16 by rw[Nat.two_mul,Nat.add_assoc,Nat.add_sub_cancel' this,Nat.add_comm])
noncomputable def AJ(ps:List Int)(n:Nat):Bool:=(lV n).all λhs=>([0,1,2]:List Int).all λc=>LU n5 TN (LV 16 1) [bY ps++eB c (dK hs),dK hs] (SP wqL Xa ps hs)
noncomputable def AK(ps:List Int)(n:Nat):Bool:=(lV n).all λhs=>([0,1,2]:List Int).all λc=>LU m8 TO (LV 17 16) [bY ps++eB c (dK hs),dK hs] (SP wqG Xb ps hs)
theorem L1a:AJ [-1] 1=true:=by decide+kernel
theorem L1b:AJ [0] 1=true:=by decide+kernel
theorem L2a:AJ [-1,0] 2=true:=by decide+kernel
theorem L2b:AJ [-1,1] 2=true:=by decide+kernel
theorem L2c:AJ [0,1] 2=true:=by decide+kernel
theorem L2d:AJ [0,2] 2=true:=by decide+kernel
theorem L3a:AJ [-1,0,1] 3=true:=by decide+kernel
theorem L3b:AJ [-1,0,2] 3=true:=by decide+kernel
theorem L3c:AJ [-1,1,2] 3=true:=by decide+kernel
theorem L3d:AJ [-1,1,3] 3=true:=by decide+kernel
theorem L3e:AJ [0,1,2] 3=true:=by decide+kernel
theorem L3f:AJ [0,1,3] 3=true:=by decide+kernel
theorem L3g:AJ [0,2,3] 3=true:=by decide+kernel
theorem L3h:AJ [0,2,4] 3=true:=by decide+kernel
theorem G1a:AK [-1] 1=true:=by decide+kernel
theorem G1b:AK [0] 1=true:=by decide+kernel
theorem G2a:AK [-1,0] 2=true:=by decide+kernel
theorem G2b:AK [-1,1] 2=true:=by decide+kernel
theorem G2c:AK [0,1] 2=true:=by decide+kernel
theorem G2d:AK [0,2] 2=true:=by decide+kernel
theorem G3a:AK [-1,0,1] 3=true:=by decide+kernel
theorem G3b:AK [-1,0,2] 3=true:=by decide+kernel
theorem G3c:AK [-1,1,2] 3=true:=by decide+kernel
theorem G3d:AK [-1,1,3] 3=true:=by decide+kernel
theorem G3e:AK [0,1,2] 3=true:=by decide+kernel
theorem G3f:AK [0,1,3] 3=true:=by decide+kernel
theorem G3g:AK [0,2,3] 3=true:=by decide+kernel
theorem G3h:AK [0,2,4] 3=true:=by decide+kernel
theorem P_:jQ 1 (-2)=[[-1],[0]]:=by decide+kernel
theorem Xc:jQ 2 (-2)=[[-1,0],[-1,1],[0,1],[0,2]]:=by decide+kernel
theorem Xd:jQ 3 (-2)=[[-1,0,1],[-1,0,2],[-1,1,2],[-1,1,3],[0,1,2],[0,1,3],[0,2,3],[0,2,4]]:=by decide+kernel
theorem evs{n:Nat}(h1:1<=n)(h3:n<=3):∀ps∈jQ n (-2),AJ ps n=true/\AK ps n=true:=
 M8 (P:=λn=>∀ps∈jQ n (-2),AJ ps n=true/\AK ps n=true) h1 h3 (by rw[P_];exact al ⟨L1a,G1a⟩ (al ⟨L1b,G1b⟩ PR))
  (by rw[Xc];exact al ⟨L2a,G2a⟩ (al ⟨L2b,G2b⟩ (al ⟨L2c,G2c⟩ (al ⟨L2d,G2d⟩ PR))))
  (by rw[Xd];exact al ⟨L3a,G3a⟩ (al ⟨L3b,G3b⟩ (al ⟨L3c,G3c⟩ (al ⟨L3d,G3d⟩ (al ⟨L3e,G3e⟩ (al ⟨L3f,G3f⟩ (al ⟨L3g,G3g⟩ (al ⟨L3h,G3h⟩ PR))))))))
noncomputable def SW:List Int->Bool
 |[]=>true
 |x::r=> !(r.contains x)&&SW r
theorem Oy{l:List Int}:SW l=true->l.Nodup:=by
 induction l with
 |nil=>exactλZ=>.nil
 |cons x r ih=>exactλh=>an h λh1 h2=>aZ.mpr ⟨λhm=>by rw[List.contains_iff_mem.mpr hm]at h1;exact no h1,ih h2⟩
def X'(ps hs:List Int):Bool:=Nat.beq ps.length hs.length&&(Nat.ble 1 ps.length&&(Nat.ble ps.length 3&&(SW ps&&((ps.all λp=>Nat.ble p.natAbs 4)&&((hs.all λh=>Nat.ble h.natAbs 2)&&ps.all λp=>Nat.ble (iO hs p).natAbs 1000)))))
theorem CR{ps hs:List Int}(h:X' ps hs=true):Vd ps hs:=
 have al {l:List Int} {f:Int->Nat} {n:Nat} (h:(l.all λp=>Nat.ble (f p) n)=true):∀p∈l,f p<=n:=λp hp=>gy (av.mp h p hp)
 AL h λh1 h2 h3 h=>AL h λh4 h5 h6 h7=>⟨bf h1,gy h2,gy h3,Oy h4,al h5,al h6,al h7⟩
theorem vd1:((jQ 1 (-2)).all λps=>(lV 1).all λhs=>X' ps hs)=true:=by decide+kernel
theorem vd2:((jQ 2 (-2)).all λps=>(lV 2).all λhs=>X' ps hs)=true:=by decide+kernel
theorem vd3:((jQ 3 (-2)).all λps=>(lV 3).all λhs=>X' ps hs)=true:=by decide+kernel
theorem vds{n:Nat}(h1:1<=n)(h3:n<=3){ps hs:List Int}(hp:ps∈jQ n (-2))(hh:hs∈lV n):Vd ps hs:=by
 exact M8 (P:=λn=>ps∈jQ n (-2)->hs∈lV n->Vd ps hs) h1 h3 (λhp hh=>CR (av.mp (av.mp vd1 ps hp) hs hh)) (λhp hh=>CR (av.mp (av.mp vd2 ps hp) hs hh)) (λhp hh=>CR (av.mp (av.mp vd3 ps hp) hs hh)) hp hh
theorem Lm{n:Nat}{ps hs:List Int}{o:e6}{c:Int}(h1:1<=n)(h3:n<=3)(hp:ps∈jQ n (-2))(hh:hs∈lV n)(hc:c=0\/c=1\/c=2):Cp o ps hs c:=by
 obtain⟨eL,eG⟩:=evs h1 h3 ps hp
 have hV:=vds h1 h3 hp hh
 have hcm:c∈([0,1,2]:List Int):=by rcases hc with rfl|rfl|rfl<;>decide
 have eL:=av.mp (av.mp eL hs hh) c hcm
 have eG:=av.mp (av.mp eG hs hh) c hcm
 cases o with
 |lex=>exact yr (N:=128) CJ CI (by decide+kernel) (by decide+kernel) SV Ox hV hc eL
 |mQ=>exact yr (N:=256) K4 yn (by decide+kernel) (by decide+kernel) Ll (EH .mQ (.inl rfl)) hV hc eG
 |grevlex=>exact yr (N:=256) K5 yn (by decide+kernel) (by decide+kernel) Ll (EH .grevlex (.inr rfl)) hV hc eG
def qo(n:Nat)(Rs:List Rows):Bool:=Rs.all λR=>(R.all λq=>N5 n q.1)&&Nat.ble (dz R) 1099511627776
theorem m_{n:Nat}{Rs:List Rows}(h:qo n Rs=true):∀R∈Rs,KV n R/\dz R<=1099511627776:=λR hR=>by
 have:=av.mp h R hR
 rw[bp,av]at this
 exact⟨λq hq=>Ew (this.1 q hq),gy this.2⟩
noncomputable def nzQ(M:Nat)(R:Pq)(_D:Nat):Bool:=vN M (vO R .z) 100000&&(match vO R .z with
 |.z=>false
 |.t _ _ _=>true)
noncomputable section
def sqF(M:Nat)(co:List Int->Nat)(cs:List Nat)(p:Int)(B:Bq):Bool:=Ap B (λc=>Ou c cs)&&(vN M (NZ co (bY [p])) 100000&&(qo 2 [bY [p]]&&Sd M (iz B [1,0]) 40 (NZ co (bY [p])) Pq.z 1 (nzQ M)))
def GO(p h:Int):List Rows:=[dS (bY [p]) (bY [p]),dK [h]]
def sqL(p h:Int):Bool:=qo 2 (GO p h)&&LU n5 TN (LV 16 1) (GO p h) (sqF n5 (LV 16 1) [32,1] p)
def sqG(p h:Int):Bool:=qo 2 (GO p h)&&LU m8 TO (LV 17 16) (GO p h) (sqF m8 (LV 17 16) [34,16] p)
def Xe(p h:Int)(R:Rows):List Rows:=[d7 (dS (bY [p]) (bY [p])),d7 (dK [h]),oo R]
def rdQ(p h:Int)(R:Rows)(cs:List Nat):Bool:=qo 3 (Xe p h R)&&LU mc N4 (X7 273 272 256) (Xe p h R) (λB=>Ap B λc=>Ou c cs)
noncomputable def eqP(p:Pq):Pq->Bool:=Pq.rec (motive:=λZ=>Pq->Bool) (λq=>Pq.rec (motive:=λZ=>Bool) true (λZ Z Z Z=>false) q)
 (λi c Z ih q=>Pq.rec (motive:=λZ=>Bool) false (λj y s Z=>Nat.beq i j&&(Nat.beq c y&&ih s)) q) p
def Xf(a:Bq):Bq->Bool:=Bq.rec (motive:=λZ=>Bq->Bool) (λb=>Bq.rec (motive:=λZ=>Bool) true (λZ Z Z Z Z=>false) b)
 (λl e p Z ih b=>Bq.rec (motive:=λZ=>Bool) false (λl' e' p' s Z=>Nat.beq l l'&&(Nat.beq e e'&&(eqP p p'&&ih s))) b) a
def Oz(p q:Int)(hs:List Int):List Rows:=[nO (bY [p]),nO (lT (iO hs p)),kZ (bY [q]),kZ (lT (iO hs q))]
def Ln(p q:Int)(hs:List Int):List Rows:=[bY [p,q],dK hs]
def cmF(p q:Int)(hs:List Int)(P:List Nat)(cs:List Nat)(Xg:List Nat)(B:Bq):Bool:=Ap B (λc=>Ou c cs)&&LU n5 TN (LV 16 1) (Ln p q hs) (λB2=>Ap B2 (λc=>Ou c Xg)&&Xf (iz B P) (iz B2 [1,0]))
def cmG(p q:Int)(hs:List Int)(B:Bq):Bool:=cmF p q hs [1,2] [256,2,16] [16,2] B||cmF p q hs [0,2] [1,256,32] [32,1] B
def cmQ(p q:Int)(hs:List Int):Bool:=qo 3 (Oz p q hs)&&(qo 2 (Ln p q hs)&&LU jk N2 (X7 256 16 1) (Oz p q hs) (cmG p q hs))
def Xh:Bool:=([-1,0]:List Int).all λp=>([-2, -1,0,1,2]:List Int).all λh=>sqL p h&&sqG p h
def Xi:Bool:=([-1,0]:List Int).all λp=>([-2, -1,0,1,2]:List Int).all λh=>rdQ p h (bY [p]) [0]&&rdQ p h (tn (bY [p])) [544,256,273]
def Xj:Bool:=(jQ 2 (-2)).all λps=>match ps with
 |[p,q]=>(lV 2).all λhs=>cmQ p q hs
 |_=>false
end
theorem Lo:Xh=true:=by decide+kernel
theorem Az:Xi=true:=by decide+kernel
theorem Lr:Xj=true:=by decide+kernel
theorem yt{M:Nat}(de:Nat->List Int){B:Bq}(hB:i8 M B){p:List Nat}(iD:∀i∈p,i<(fy B).length){ix:Nat}{f:bM}(h:(p.map λi=>(dP de B).getD i λZ=>0)[ix]?=some f)
  {Q:Prop} (K:∀i l e q,p[ix]?=some i->(fy B)[i]?=some l->f=fP de e (.t l e q)->eQ M l->0<e->e<=1099511627776->fh M l q->Q):Q:=by
 rw[aA]at h
 obtain⟨i,hp,rfl⟩:=aO.mp h
 exact CP (M:=M) de (iD i (dw hp)) λl e q h1 h2 h3 h4 h5 Z=>K i l e q hp h4 (by rw[aK,h2];rfl) (h5 hB).1 (h5 hB).2.1 (h5 hB).2.2.1 (h5 hB).2.2.2
theorem Lu{i:Nat}(h:i∈[1,0]):i<2:=by
 rcases au.mp h with rfl|h
 ·decide
 ·rw[az.mp h];decide
theorem yv{B:Bq}{cs:List Nat}(h:Ap B (λc=>Ou c cs)=true):fy B=cs:=by
 rw[Le]at h
 exact Ld h
section
variable{M:Nat}{o:e6}{jn:Nat->Nat->Nat}{de:Nat->List Int}(C:Cd 2 o M jn de){co:List Int->Nat}(dJ7:Co 2 M de co)
include C dJ7
theorem Lw{cs:List Nat}{p h:Int}(h1:sX o (cs.map de)=some [1,0])(h2:cs.length=2)(h3:[(cs.map de).getD 1 [],(cs.map de).getD 0 []]=[[0,1],[2,0]])(hr:qo 2 (GO p h)=true)(hq:LU M jn co (GO p h) (sqF M co cs p)=true):
  ∃(B:List bM) (bs:aM),Rb 2 o 200 [dH (dS (bY [p]) (bY [p])),dH (dK [h])] B/\GC o B bs 2/\∃res t,Dv 2 o B (cP bs) (dH (bY [p])) (λZ=>0) res t/\¬∀k,res k=0:=by
 refine m7 C dJ7 (m_ hr) (by show 2<=10;decide) hq λB hB u5 G5 Ej=>AL u5 λf1 f2 f3 f4=>?_
 have mn:=yv f1
 have vR:dC de B=cs.map de:=by rw[dQ,mn]
 have iD:∀i∈[1,0],i<(fy B).length:=λi hi=>by rw[mn,h2];exact Lu hi
 have TV:=(Ej [1,0] (by rw[vR];exact h1) iD (by decide)).1
 have q:=tw de hB [1,0] iD
 have hL:dC de (iz B [1,0])=[[0,1],[2,0]]:=by rw[q.2.1,vR,<-h3];rfl
 have hk:lX [[0,1],[2,0]] 2:=jS (by decide+kernel)
 have g:=m_ f3 _ (.head _)
 refine u_ C q.2.2.1 40 100000 (NZ co (bY [p])) .z 1 (nzQ M) (kn _ _ f2) (λi hi=>(a7 hi).elim) trivial (by decide) (by decide) f4 λR' D' t d1 d2 d3 d4=>an d4 λe1 e2=>?_
 rw[Eu dJ7 g.1 g.2,NV]at d1
 refine⟨dP de (iz B [1,0]),dC de (iz B [1,0]),by rw[q.1];exact TV,⟨C.gs q.2.2.1,by rw[fX,q.2.2.2.1];decide,by rw[hL];exact hk.two,by rw[hL];exact hk.sp,by decide⟩,fP de D' R',t,d1,λh0=>?_⟩
 rw[<-CE de D' R']at h0
 revert e1 e2 h0
 cases vO R' .z with
 |z=>exactλZ h=>no h
 |t i c r=>exactλe1 Z h0=>(C.lead (kn _ _ e1) d2).1.1 (h0 _)
end
theorem Xk(o:e6){p h:Int}(hp:p∈([-1,0]:List Int))(hh:h∈([-2, -1,0,1,2]:List Int)):∃(B:List bM) (bs:aM),Rb 2 o 200 [dH (dS (bY [p]) (bY [p])),dH (dK [h])] B/\GC o B bs 2/\∃res t,Dv 2 o B (cP bs) (dH (bY [p])) (λZ=>0) res t/\¬∀k,res k=0:=by
 have:=av.mp (av.mp Lo p hp) h hh
 rw[bp]at this
 obtain⟨hL,hG⟩:=this
 unfold sqL at hL
 unfold sqG at hG
 rw[bp]at hL hG
 cases o with
 |lex=>exact Lw CJ CI (cs:=[32,1]) (by decide+kernel) rfl (by decide+kernel) hL.1 hL.2
 |mQ=>exact Lw K4 yn (cs:=[34,16]) (by decide+kernel) rfl (by decide+kernel) hG.1 hG.2
 |grevlex=>exact Lw K5 yn (cs:=[34,16]) (by decide+kernel) rfl (by decide+kernel) hG.1 hG.2
theorem Xl{M:Nat}{q:Pq}(h:fh M 0 q):q=.z:=by
 cases q with
 |z=>rfl
 |t i c r=>exact aG h.1 (Nat.not_lt_zero _)
theorem Qa{p h:Int}{R:Rows}{cs P:List Nat}{us:List Bool}(hs:sX .grevlex (cs.map iy)=some P)(hP:∀i∈P,i<cs.length)(hPl:P.length=us.length)(hPs:P.length<=10)(hu:∀(ix i l:Nat) (u:Bool),P[ix]?=some i->cs[i]?=some l->us[ix]?=some u->(u=true->l=0)/\(u=false->eX (iy l)≠0))(hq:rdQ p h R cs=true):
  ∃(B:List bM),Rb 3 .grevlex 200 [dH (d7 (dS (bY [p]) (bY [p]))),dH (d7 (dK [h])),dH (oo R)] B/\B.length=us.length/\B.length<=100/\(∀(i:Nat) f u,B[i]?=some f->us[i]?=some u->uU 3 f u):=by
 refine an hq λPK DY=>m7 CL SD (m_ PK) (by show 3<=10;decide) DY λB hB u5 G5 Ej=>?_
 have mn:=yv u5
 have vR:dC iy B=cs.map iy:=by rw[dQ,mn]
 have iD:∀i∈P,i<(fy B).length:=λi hi=>by rw[mn];exact hP i hi
 have Qb:P.length<=100:=ae hPs (by decide)
 refine⟨_,(Ej P (by rw[vR];exact hs) iD Qb).1,by rw[ag];exact hPl,by rw[ag];exact Qb,λix f u h1 h2=>yt iy hB iD h1 λi l e q g1 g2 hf g4 g5 g6 g7=>?_⟩
 subst hf
 rw[mn]at g2
 obtain⟨u1,u2⟩:=hu ix i l u g1 g2 h2
 have hf:=i8.fall g4 g5 g6 g7
 have kW:=CL.lead hf g5
 refine⟨λhut=>?_,λhuf=>⟨iy l,kW.1.1,u2 huf⟩⟩
 have hl:=u1 hut
 subst hl
 have hz:=Xl g7
 subst hz
 refine⟨iy 0,by decide+kernel,kW.1.1,λm hm=>?_⟩
 obtain⟨j,hj,rfl,_⟩:=CL.key hf hm
 rw[az.mp hj]
theorem SX{p h:Int}(hp:p∈([-1,0]:List Int))(hh:h∈([-2, -1,0,1,2]:List Int)):∃(B:List bM) (us:List Bool),Rb 3 .grevlex 200 [dH (d7 (dS (bY [p]) (bY [p]))),dH (d7 (dK [h])),dH (oo (bY [p]))] B/\B.length=us.length/\B.length<=100/\(∀(i:Nat) f u,B[i]?=some f->us[i]?=some u->uU 3 f u)/\us.any id=true:=by
 have:=av.mp (av.mp Az p hp) h hh
 rw[bp]at this
 obtain⟨B,h1,h2,h3,h4⟩:=Qa (cs:=[0]) (P:=[0]) (us:=[true]) (by decide+kernel) (by decide) rfl (by decide) (λix i l u h1 h2 h3=>by
  match ix,h1,h3 with
  |0,h1,h3=>
   cases h1;cases h3;cases h2
   exact⟨λZ=>rfl,λe=>by cases e⟩) this.1
 exact⟨B,[true],h1,h2,h3,h4,rfl⟩
theorem Xm{p h:Int}(hp:p∈([-1,0]:List Int))(hh:h∈([-2, -1,0,1,2]:List Int)):∃(B:List bM) (us:List Bool),Rb 3 .grevlex 200 [dH (d7 (dS (bY [p]) (bY [p]))),dH (d7 (dK [h])),dH (oo (tn (bY [p])))] B/\B.length=us.length/\B.length<=100/\(∀(i:Nat) f u,B[i]?=some f->us[i]?=some u->uU 3 f u)/\us.any id=false:=by
 have:=av.mp (av.mp Az p hp) h hh
 rw[bp]at this
 obtain⟨B,h1,h2,h3,h4⟩:=Qa (cs:=[544,256,273]) (P:=[1,2,0]) (us:=[false,false,false]) (by decide+kernel) (by decide) rfl (by decide) (λix i l u h1 h2 h3=>by
  match ix,h1,h3 with
  |0,h1,h3=>cases h1;cases h3;cases h2;exact⟨λe=>(by cases e),λZ=>by decide+kernel⟩
  |1,h1,h3=>cases h1;cases h3;cases h2;exact⟨λe=>(by cases e),λZ=>by decide+kernel⟩
  |2,h1,h3=>cases h1;cases h3;cases h2;exact⟨λe=>(by cases e),λZ=>by decide+kernel⟩) this.2
 exact⟨B,[false,false,false],h1,h2,h3,h4,rfl⟩
theorem SY{p:Pq}:∀{q:Pq},eqP p q=true->p=q:=by
 induction p with
 |z=>
  intro q h
  cases q with
  |z=>rfl
  |t=>exact no h
 |t i c r ih=>
  intro q h
  cases q with
  |z=>exact no h
  |t j y s=>exact vo h λh1 h2 h3=>by rw[bf h1,bf h2,ih h3]
theorem OA{a:Bq}:∀{b:Bq},Xf a b=true->a=b:=by
 induction a with
 |z=>
  intro b h
  cases b with
  |z=>rfl
  |t=>exact no h
 |t l e p r ih=>
  intro b h
  cases b with
  |z=>exact no h
  |t l' e' p' s=>exact AL h λh1 h2 h3 h4=>by rw[bf h1,bf h2,SY h3,ih h4]
theorem EI{i:Nat}(h:i<256):d8 i=0::gk i:=by
 have h1:i/256=0:=Nat.div_eq_of_lt h
 have h2:i/16%16=i/16:=Nat.mod_eq_of_lt (Nat.div_lt_of_lt_mul h)
 unfold d8 gk
 rw[h1,h2];rfl
theorem S0{L:Pq}(k:List Int):(∀j∈gj L,j<256)->aI (fO d8 L) (0::k)=aI (fO gk L) k:=by
 induction L with
 |z=>exactλZ=>rfl
 |t i c r ih=>
  intro h
  show(if d8 i=0::k then vl c else 0)+aI (fO d8 r) (0::k)=(if gk i=k then vl c else 0)+aI (fO gk r) k
  rw[ih λj hj=>h j (.tail _ hj),EI (h i (.head _))]
  by_cases e:gk i=k
  ·rw[ai e,ai (ao (0::·) e)]
  ·rw[ah e,ah (λe'=>e (cH e').2)]
theorem xa{M l e:Nat}{p:Pq}(h:fh M l p)(hl:l<256):∀j∈gj (.t l e p),j<256:=λj hj=>(au.mp hj).elim (λq=>q▸hl) λhj=>Nat.lt_trans (h.mem j hj).1 hl
theorem OB{M:Nat}{B:Bq}:i8 M B->(∀l∈fy B,l<256)->(dP d8 B).map jr=dP gk B:=by
 induction B with
 |z=>exactλZ Z=>rfl
 |t l e p r ih=>
  intro hB h
  have e1:jr (fP d8 e (.t l e p))=fP gk e (.t l e p):=funext λk=>by
   show((aI (fO d8 (.t l e p)) (0::k):Int):Rat)/_=((aI (fO gk (.t l e p)) k:Int):Rat)/_
   rw[S0 k (xa hB.2.2.2.1 (h l (.head _)))]
  show jr (fP d8 e (.t l e p))::(dP d8 r).map jr=fP gk e (.t l e p)::dP gk r
  rw[ih hB.2.2.2.2 λl hl=>h l (.tail _ hl),e1]
theorem OC{M:Nat}{B:Bq}{P:List Nat}:(∀i∈P,∃l,(fy B)[i]?=some l/\l<256)->∀l∈fy (iz B P),l<256:=by
 induction P with
 |nil=>exactλZ Z hl=>(a7 hl).elim
 |cons i P ih=>
  intro hP l hl
  obtain⟨x,hx,hxl⟩:=hP i (.head _)
  refine CP (M:=M) d8 (cg.mp hx).1 λl' e' q' g1 Z Z g4 Z Z=>?_
  rw[P8 g1]at hl
  exact(au.mp hl).elim (λq=>by rw[q,nR g4 hx];exact hxl) (ih (λj hj=>hP j (.tail _ hj)) l)
theorem Xn{ix:Nat}{u:Bool}(h:([true,true,false]:List Bool)[ix]?=some u):(u=true/\ix<2)\/(u=false/\ix=2):=by
 cases ix with
 |zero=>exact .inl ⟨(aW h).symm,by decide⟩
 |succ ix=>cases ix with
  |zero=>exact .inl ⟨(aW h).symm,by decide⟩
  |succ ix=>cases ix with
   |zero=>exact .inr ⟨(aW h).symm,rfl⟩
   |succ ix=>exact nn h
theorem AA{l e:Nat}{r:Pq}(o1:eQ jk l)(he:0<e)(jg:e<=1099511627776)(hr:fh jk l r)(hl:l<256)(k:List Int)(hk:fP d8 e (.t l e r) k≠0):∃t,k=0::t:=by
 obtain⟨j,hj,rfl,_⟩:=CK.key (i8.fall o1 he jg hr) hk
 exact⟨gk j,EI (xa (e:=e) hr hl j hj)⟩
theorem Qc{p q:Int}{hs:List Int}{B:Bq}{cs P Xg:List Nat}{z:Nat}(hB:i8 jk B)(Ej:∀p',sX .lex (dC d8 B)=some p'->(∀i∈p',i<(fy B).length)->p'.length<=100->(Rb 3 .lex 200 ((Oz p q hs).map dH) (p'.map λi=>(dP d8 B).getD i λZ=>0))/\∀P,WN 3 .lex P->(∀R∈Oz p q hs,P (dH R))->∀g∈dP d8 B,P g)
  (ZM:qo 2 (Ln p q hs)=true) (h:cmF p q hs P cs Xg B=true) (hP:P.length=2) (h3:cs.length=3) (iD:∀i∈P,i<3) (hz:z<3) (DX:sX .lex (cs.map d8)=some (P++[z])) (ac1:∀i∈P,∃l,cs[i]?=some l/\l<256) (Y1:cs[z]?=some 256)
  (TL:Xg.length=2) (JY:sX .lex (Xg.map gk)=some [1,0]):NG p q hs:=by
 refine an h λh1 h2=>m7 CJ CI (m_ ZM) (by show 2<=10;decide) h2 λB2 hB2 u5 ad5 ac2=>an u5 λf1 f2=>?_
 have mn:=yv h1
 have Xo:=yv f1
 have Lx:∀i∈P,∃l,(fy B)[i]?=some l/\l<256:=mn.symm▸ac1
 have S1:∀i∈P++[z],i<(fy B).length:=λi hi=>by
  rw[mn,h3]
  exact(bN.mp hi).elim (iD i) λhi=>az.mp hi▸hz
 have Xp:∀i∈P,i<(fy B).length:=λi hi=>S1 i (List.mem_append_left _ hi)
 have TV:=(Ej (P++[z]) (by rw[dQ,mn];exact DX) S1 (by rw[aC,hP,List.length_singleton];decide)).1
 have Xq:∀i∈[1,0],i<(fy B2).length:=λi hi=>by rw[Xo,TL];exact Lu hi
 have ac3:=(ac2 [1,0] (by rw[dQ,Xo];exact JY) Xq (by decide)).1
 have q:=tw d8 hB P Xp
 have r:=tw gk hB2 [1,0] Xq
 have NB:sel ((P++[z]).map λi=>(dP d8 B).getD i λZ=>0) [true,true,false]=dP d8 (iz B P):=by
  rw[q.1]
  obtain⟨a,b,rfl⟩:=jH hP
  rfl
 have ac4:(sel ((P++[z]).map λi=>(dP d8 B).getD i λZ=>0) [true,true,false]).map jr=[1,0].map λi=>(dP gk B2).getD i λZ=>0:=by
  rw[NB,OB q.2.2.1 (OC (M:=jk) Lx),OA f2,r.1]
 have RW:(P++[z]).length=3:=by rw[aC,hP];rfl
 refine⟨_,[true,true,false],TV,by rw[ag,RW];rfl,by rw[ag,RW];decide,λix f u h1 h2=>yt d8 hB S1 h1 λi l e r g1 g2 hf g4 g5 g6 g7=>?_,λf hf k hk=>?_,by rw[ac4];exact ac3⟩
 ·subst hf
  refine(Xn h2).elim (λhu=>?_) λhu=>?_
  ·rw[cj (hP.symm▸hu.2)]at g1
   obtain⟨l',e1,e2⟩:=Lx i (dw g1)
   rw[hu.1]
   exact⟨λZ=>AA g4 g5 g6 g7 (nR g2 e1▸e2),λe=>no e.symm⟩
  ·rw[hu.2,ba (aP hP),hP]at g1
   cases g1
   cases nR (mn▸g2) Y1
   rw[hu.1]
   exact⟨λe=>no e,λZ=>⟨d8 256,(CK.lead (i8.fall g4 g5 g6 g7) g5).1.1,1,[0,0],by decide+kernel,by decide⟩⟩
 ·rw[NB,q.1]at hf
  obtain⟨i,hi⟩:=cL hf
  refine yt d8 hB Xp hi λi' l e r g1 g2 hf g4 g5 g6 g7=>?_
  obtain⟨l',e1,e2⟩:=Lx i' (dw g1)
  rw[hf]at hk
  exact AA g4 g5 g6 g7 (nR g2 e1▸e2) k hk
theorem Ly{R:Nat->Prop}{a b:Nat}(h1:R a)(h2:R b):∀i∈[a,b],R i:=λi hi=>(au.mp hi).elim (λq=>q▸h1) λhi=>az.mp hi▸h2
theorem Xr{p q:Int}{hs:List Int}(h:cmQ p q hs=true):NG p q hs:=
 vo h λh1 h2 h3=>m7 CK SA (m_ h1) (by show 4<=10;decide) h3 λB hB u5 G5 Ej=>(Bool.or_eq_true_iff.mp u5).elim
  (λhf=>Qc (z:=0) hB Ej h2 hf rfl rfl (by decide) (by decide) (by decide+kernel) (Ly ⟨2,rfl,by decide⟩ ⟨16,rfl,by decide⟩) rfl rfl (by decide+kernel))
  λhf=>Qc (z:=1) hB Ej h2 hf rfl rfl (by decide) (by decide) (by decide+kernel) (Ly ⟨1,rfl,by decide⟩ ⟨32,rfl,by decide⟩) rfl rfl (by decide+kernel)
theorem Xs:lV 1=[[-2],[-1],[0],[1],[2]]:=by decide+kernel
theorem Xt:Ek where
 vd n ps hs h1 h3 hp hh:=vds h1 h3 hp hh
 ca n ps hs o c h1 h3 hp hh hc:=Lm h1 h3 hp hh hc
 sq p h o hp hh:=by
  rw[P_]at hp
  rw[Xs]at hh
  have hp:p∈([-1,0]:List Int):=by
   simp only[List.mem_cons,List.not_mem_nil,or_false,List.cons.injEq,and_true]at hp
   rcases hp with rfl|rfl<;>decide
  have hh:h∈([-2, -1,0,1,2]:List Int):=by
   simp only[List.mem_cons,List.not_mem_nil,or_false,List.cons.injEq,and_true]at hh
   rcases hh with rfl|rfl|rfl|rfl|rfl<;>decide
  exact⟨Xk o hp hh,SX hp hh,Xm hp hh⟩
 cm p q hs hp hh:=by
  have:=av.mp Lr [p,q] hp
  exact Xr (av.mp this hs hh)
end
section
open PySem PySem.W PyProof.Rows PySem.Calls
noncomputable def jc(h:Heap)(n:Str):Bool:=match h.nsMap mainGlobals n with
 |some (.ref a)=>(match h.get? a with
  |some o=>o.dict.isNone&&Nat.beq o.slots.size 0
  |none=>false)
 |_=>false
theorem qp{h h':Heap}{n:Str}(x:jc h n=true)(hk:∀b o,h.get? b=some o->h'.get? b=some o):jc h' n=true:=by
 unfold jc at x⊢
 have e:h'.nsMap mainGlobals n=h.nsMap mainGlobals n\/h.nsMap mainGlobals n=none:=by
  unfold Heap.nsMap
  cases g:h.get? mainGlobals with
  |none=>exact .inr rfl
  |some o=>rw[hk _ _ g];exact .inl rfl
 rcases e with e|e
 ·rw[e]
  cases g:h.nsMap mainGlobals n with
  |none=>rw[g]at x;cases x
  |some v=>
   rw[g]at x
   cases v with
   |ref a=>
    dsimp only at x⊢
    cases g2:h.get? a with
    |none=>rw[g2]at x;cases x
    |some o=>rw[g2]at x;rw[hk _ _ g2];exact x
   |_=>cases x
 ·rw[e]at x;cases x
def tupH:Hook:=⟨Bool,λs=>jc s.heap "R0"&&jc s.heap "R1",λZ=>true,λZ h=>jc h "R0"=true/\jc h "R1"=true,λZ Z e=>cK.mp e,λZ Z Z x hk=>⟨qp x.1 hk,qp x.2 hk⟩⟩
noncomputable def Lz:List (Str×Value):=[("len",.builtin "len"),("sum",.builtin "sum"),("max",.builtin "max"),("min",.builtin "min"),("abs",.builtin "abs"),("any",.builtin "any"),("all",.builtin "all"),("tuple",.type "tuple"),("dict",.type "dict"),("list",.type "list"),("sorted",.builtin "sorted"),("range",.type "range"),("enumerate",.type "enumerate")]
structure yw(q:Program)(loose:List Str):Prop where
 imp:importsNone q=true
 r0:tupIntsOf q "R0"=some [0,1]
 r1:tupIntsOf q "R1"=some [1,1]
 fns:(ux.all λx=>(recsOf q).any λd=>d.name==x.1&&Pt MP d.params d.body d.scope x.2)=true
 free:(Lz.all λx=> !(startupNames.contains x.1)&& !((looseW q loose).contains x.1)&& !(((recsOf q).map (·.name)).contains x.1)&& !(((litsOf q).map (·.1)).contains x.1)&& !(((clssOf q (looseW q loose)).map (·.name)).contains x.1))=true
theorem OD:(Lz.all λx=> !(x.1==("__name__":Str))&&(bootBuiltins x.1==some x.2))=true:=by decide+kernel
theorem qq{l:List Str}{x:Str}(h:(!(l.contains x))=true):x∉l:=λm=>by
 rw[List.contains_iff_mem.mpr m]at h;cases h
section
variable{q:Program}{loose:List Str}{S2:ExcName->Option Value}{mg mb:Str->Option Value}{h:Heap}
theorem yx(V:yw q loose)(T:Top q (looseW q loose) S2 mg mb h):∀x∈Lz,mg x.1=none/\mb x.1=some x.2:=λx hx=>by
 have h1:=av.mp V.free x hx
 simp only[Bool.and_eq_true]at h1
 obtain⟨⟨⟨⟨a1,a2⟩,a3⟩,a4⟩,a5⟩:=h1
 have h2:=av.mp OD x hx
 rw[bp]at h2
 refine⟨T.free x.1 (qq a1) (qq a2) (qq a3) (qq a4) (qq a5),?_⟩
 rw[T.builtins x.1 (by
  intro e
  rw[e]at h2
  have:=h2.1
  simp at this)]
 exact bt h2.2
theorem LA{n:Str}{a:Addr}{vs:List Value}(hN:h.Ns mainGlobals mg)(hg:mg n=some (.ref a))(ht:IsTup h a vs.toArray)(ho:jc h n=true):∃k,IsT h a vs.toArray k:=by
 obtain⟨o,e1,e2,k,e3⟩:=ht
 have hn:h.nsMap mainGlobals n=some (.ref a):=by rw[<-hN.eq_nsMap];exact hg
 unfold jc at ho
 rw[hn]at ho
 dsimp only at ho
 rw[e1]at ho
 dsimp only at ho
 rw[bp]at ho
 obtain⟨h1,h2⟩:=ho
 refine⟨k,?_⟩
 show h.get? a=_
 rw[e1]
 obtain⟨c,d,dt,sl⟩:=o
 have hd:d=none:=Option.isNone_iff_eq_none.mp h1
 have hs:sl=#[]:=Array.eq_empty_of_size_eq_zero (bf h2)
 dsimp only at e2 e3
 rw[e2,e3,hd,hs]
theorem OE(V:yw q loose){w:World}(T:Top q (looseW q loose) S2 mg mb h)(B:Tables q w mg h)(H:jc h "R0"=true/\jc h "R1"=true)(k:Nat):Gl h mg mb (XN F gv k) MP where
 ng:=T.g
 nb:=T.b
 bi b:=yx V T (lA b,rL b) (by
  cases b with
  |len=>exact dw (i:=0) rfl
  |sum=>exact dw (i:=1) rfl
  |max=>exact dw (i:=2) rfl
  |min=>exact dw (i:=3) rfl
  |abs=>exact dw (i:=4) rfl
  |any=>exact dw (i:=5) rfl
  |all=>exact dw (i:=6) rfl
  |tuple=>exact dw (i:=7) rfl
  |dict=>exact dw (i:=8) rfl
  |list=>exact dw (i:=9) rfl
  |sorted=>exact dw (i:=10) rfl)
 range:=yx V T ("range",.type "range") (dw (i:=11) rfl)
 enum:=yx V T ("enumerate",.type "enumerate") (dw (i:=12) rfl)
 val n x hx:=by
  have key:∀(n:Str) (a b:Int),tupIntsOf q n=some [a,b]->jc h n=true->∃v,mg n=some v/\∀(h':Heap) (U:Addr->Prop),(∀b o,h.get? b=some o->h'.get? b=some o)->(∀b,U b->h.get? b=none)->a_ h' U v (.bZ [.int a,.int b]):=λn a b ht ho=>by
   obtain⟨ad,vs,e1,e2,e3⟩:=B.tupI n _ ht
   obtain⟨k,e4⟩:=LA T.g e1 e2 ho
   refine⟨.ref ad,e1,λh' U hk hU=>?_⟩
   cases e3 with
   |cons _ t1 e3=>
    cases e3 with
    |cons _ t2 e3=>
     cases e3
     exact .bZ (λu=>by have e4':h.get? ad=_:=e4;rw[hU ad u]at e4';cases e4') (hk _ _ e4) (.cons (.int _ _) (.cons (.int _ _) .nil))
  have hx:gv n=some x:=hx
  unfold gv at hx
  by_cases h0:n="R0"
  ·rw[ai h0]at hx
   cases hx
   subst h0
   exact key _ 0 1 V.r0 H.1
  ·rw[ah h0]at hx
   by_cases h1:n="R1"
   ·rw[ai h1]at hx
    cases hx
    subst h1
    exact key _ 1 1 V.r1 H.2
   ·rw[ah h1]at hx;cases hx
 fn n hn:=by
  have hm:n∈MP:=List.contains_iff_mem.mp hn
  obtain⟨x,hx,rfl⟩:=aQ.mp hm
  obtain⟨d,hd,hc⟩:=List.any_eq_true.mp (av.mp V.fns x hx)
  rw[bp]at hc
  obtain⟨a,o,pm,code,doc,e1,e2,e3,_⟩:=T.fn d hd
  rw[bt hc.1]at e1
  exact⟨a,o,_,e1,e2,e3⟩
theorem LB(V:yw q loose)(T:Top q (looseW q loose) S2 mg mb h):Pu h mg MP F:=λf m hf=>by
 have hm:(f,m)∈ux:=by
  have hf:ux.lookup f=some m:=hf
  have:∀(l:List (Str×gz)),l.lookup f=some m->(f,m)∈l:=by
   intro l
   induction l with
   |nil=>intro h;cases h
   |cons p l ih=>
    intro h
    obtain⟨k,v⟩:=p
    rw[List.lookup_cons]at h
    cases hk:f==k with
    |true=>
     rw[hk]at h
     cases h
     rw[bt hk];exact .head _
    |false=>rw[hk]at h;exact .tail _ (ih h)
  exact this _ hf
 obtain⟨d,hd,hc⟩:=List.any_eq_true.mp (av.mp V.fns (f,m) hm)
 rw[bp]at hc
 obtain⟨a,o,pm,code,doc,e1,e2,e3,e4⟩:=T.fn d hd
 have hn:d.name=f:=bt hc.1
 rw[hn]at e1 e3 e4
 exact⟨a,o,d.params,d.body,d.scope,pm,code,doc,e1,e2,e3,e4,hc.2⟩
end
theorem ints_of{P:Params}{h:Heap}{U:Addr->Prop}:∀{vs:List Value} {xs:List WData},WellAll P h vs xs->(∀x∈xs,∃i,x=.int i)->∃L:List Int,L.length=xs.length/\cw h U vs (L.map V.int)
 |_,_,.nil,_=>⟨[],rfl,.nil⟩
 |_,_,.cons (v:=v) (d:=d) w ws,hx=>by
  obtain⟨i,rfl⟩:=hx d (.head _)
  obtain⟨L,h1,h2⟩:=ints_of (U:=U) ws λx m=>hx x (.tail _ m)
  cases w
  exact⟨i::L,by simp[h1],.cons (.int _ _) h2⟩
theorem xb{R:WRecords}:∀{xs:List WData},WShape.hasItems R xs .int=true->∀x∈xs,∃i,x=.int i
 |[],_,_,m=>nomatch m
 |y::ys,h,x,m=>by
  have h:WShape.has R y .int=true/\WShape.hasItems R ys .int=true:=by simpa[WShape.hasItems]using h
  rcases au.mp m with rfl|m
  ·exact hasW_int h.1
  ·exact xb h.2 x m
theorem walk{q:Program}{loose:List Str}{XP:(Str->Option Value)->Heap->Prop}{d:DefRec}{kwd:List (Str×Expr)}(hd:d.name="law")(VO:yw q loose):
  WalkO q loose XP tupH.says PySem.Challenge.rw_oj0008_01.row.toRowW d kwd λf vs=>PySem.call f vs:=by
 intro w s₀ bV mg mb G dJ8 a o pm cd doc dV kV ho hdt hcd hD PM Xu args me as oy ad6 hrd ti hlo
 have V_:=(pre_splitW oy).1
 have ql:=(pre_splitW oy).2
 obtain⟨d0,r0,rfl,h1,h2⟩:=hasAllW_cons V_
 obtain rfl:=hasAllW_nil h2
 obtain⟨xs,rfl,h3⟩:=hasW_list h1
 have fR:xs.length<=63:=by
  have ql:WTm.holds [] (.and (.not (.lt (.lit (.int 63)) (.len (.arg 0)))) (.lit (.bool true))) {args:=[.list xs]}=true:=ql
  w_cond ql
  have ql:¬(63:Int)<(xs.length:Int):=by assumption
  exact Nat.le_of_not_lt λh=>ql (cp.mpr h)
 have hint:=xb h3
 have ac5:∃o,bV.heap.get? sysModules=some o:=by
  obtain⟨mm,⟨o,es,ep,e1,_⟩,_⟩:=(G.T.seer VO.imp).mods
  exact⟨o,e1⟩
 have I:dR bV.heap (λZ=>False) bV.heap []:=⟨λa o x h=>(by cases h),λa h=>(by cases h),λb o e=>e,λb u=>u.elim (λh=>(by cases h)) False.elim,λb f=>f.elim,ac5⟩
 cases ti with
 |cons wv wr=>
  cases wr
  cases wv with
  |@list la vs _ hl hw=>
   obtain⟨L,hL,Qk⟩:=ints_of (U:=cf [] λZ=>False) hw hint
   have hr:cw bV.heap (cf [] λZ=>False) [.ref la] [.a9 (L.map V.int)]:=.cons (.a9 (λu=>u.elim (λh=>(by cases h)) False.elim) hl (.a9 Qk)) .nil
   have ak:h_ 15 callerA:=⟨rfl,by decide,by decide⟩
   rw[hd]at PM
   have snd:=By (S:=PySem.Challenge.rw_oj0008_01.row.prog) (w:=w) (OE VO G.T G.B dJ8) (LB VO G.T) G.T.nolimit 15 callerA ak "law" a (λZ=>False) bV [] [.ref la] [.a9 (L.map V.int)] (λx Z=>x=.bool true) PM I hr
    (Ko (j:=0) (J:=[]) (K:=λx Z=>x=.bool true) Xt (hL▸ae fR (by decide)) rfl)
   refine ay snd (λv s' h=>?_) λe s' h=>h.elim
   obtain⟨x,σ',p,rv,rfl⟩:=h
   obtain rfl:=rv.kr rfl
   obtain⟨h',tk,rfl⟩:=p.same
   refine⟨.inl ⟨.bool true,.bool true,[],rfl,λZ=>rfl,.bool true,(by wrow_post),λZ=>⟨.nil,λa h=>(nomatch h)⟩⟩,.of_keep λb o e=>p.keep.old b o (λu=>(by cases u)) e,rfl,.of_eq Xu⟩
end
end
end Mine.Internal
set_option tactic.hygienic true
set_option Elab.async true
namespace Mine.hd
theorem tw10170382586518783626:True:=⟨⟩
theorem tw10424393626065333798:True:=⟨⟩
theorem tw10743916045514856203:True:=⟨⟩
theorem tw10784824025267889561:True:=⟨⟩
theorem tw10792051664901133789:True:=⟨⟩
theorem tw11117797201346649052:True:=⟨⟩
theorem tw1129884963351977449:True:=⟨⟩
theorem tw11465210709893060100:True:=⟨⟩
theorem tw11660266114150955751:True:=⟨⟩
theorem tw12050417470231563642:True:=⟨⟩
theorem tw12949589719889679912:True:=⟨⟩
theorem tw13770079208771991547:True:=⟨⟩
theorem tw1382963296337349011:True:=⟨⟩
theorem tw14103535550066685397:True:=⟨⟩
theorem tw14168552714766633299:True:=⟨⟩
theorem tw1439246655266547700:True:=⟨⟩
theorem tw14705683404202351889:True:=⟨⟩
theorem tw14727110085682223627:True:=⟨⟩
theorem tw15043168886218598503:True:=⟨⟩
theorem tw15344866539931968096:True:=⟨⟩
theorem tw15508949281206285077:True:=⟨⟩
theorem tw15615537253650120727:True:=⟨⟩
theorem tw15852365999677673905:True:=⟨⟩
theorem tw1600037746751723098:True:=⟨⟩
theorem tw16037735763661986305:True:=⟨⟩
theorem tw16432713993328977331:True:=⟨⟩
theorem tw16649331688326792143:True:=⟨⟩
theorem tw16772102934027710169:True:=⟨⟩
theorem tw16828841361933241965:True:=⟨⟩
theorem tw17087091549796120035:True:=⟨⟩
theorem tw17420951861521290806:True:=⟨⟩
theorem tw17447410573909459338:True:=⟨⟩
theorem tw17606422857730326317:True:=⟨⟩
theorem tw17714235663813219645:True:=⟨⟩
theorem tw17903497710992402801:True:=⟨⟩
theorem tw18185175575083235020:True:=⟨⟩
theorem tw18291419657060728153:True:=⟨⟩
theorem tw18322514126500204803:True:=⟨⟩
theorem tw1847840615245081061:True:=⟨⟩
theorem tw2442259710966052079:True:=⟨⟩
theorem tw2708950531961675432:True:=⟨⟩
theorem tw2887051446865420828:True:=⟨⟩
theorem tw2930668341846507884:True:=⟨⟩
theorem tw3182187488490625086:True:=⟨⟩
theorem tw3443669649825651883:True:=⟨⟩
theorem tw3789350110615891812:True:=⟨⟩
theorem tw4015398097383911347:True:=⟨⟩
theorem tw4478166936697009375:True:=⟨⟩
theorem tw5130813555471234732:True:=⟨⟩
theorem tw5190246844813560578:True:=⟨⟩
theorem tw5363564295841288755:True:=⟨⟩
theorem tw5732804406350252772:True:=⟨⟩
theorem tw6060742912462422084:True:=⟨⟩
theorem tw6305734824756694309:True:=⟨⟩
theorem tw6411954120941647267:True:=⟨⟩
theorem tw6442067068224118133:True:=⟨⟩
theorem tw6819123309680001836:True:=⟨⟩
theorem tw6998783941825042932:True:=⟨⟩
theorem tw7023726343779634624:True:=⟨⟩
theorem tw7752767780024739350:True:=⟨⟩
theorem tw8117029840178788049:True:=⟨⟩
theorem tw8960069828448710407:True:=⟨⟩
theorem tw9499510787657705874:True:=⟨⟩
theorem tw9557236495431379559:True:=⟨⟩
theorem tw14490753871281386867:True:=⟨⟩
theorem tw17629270745964329407:True:=⟨⟩
theorem tw1007915042366553198:True:=⟨⟩
theorem tw3039998526598829958:True:=⟨⟩
theorem tw15533079785591918020:True:=⟨⟩
theorem tw7135375499430469523:True:=⟨⟩
theorem tw8001178428526945343:True:=⟨⟩
theorem tw11006295307154197183:True:=⟨⟩
theorem tw17566722767392897667:True:=⟨⟩
theorem tw4513884756475024261:True:=⟨⟩
theorem tw8530313416858939550:True:=⟨⟩
theorem tw16171809288044610508:True:=⟨⟩
theorem tw13866372431405929976:True:=⟨⟩
theorem tw2802487479954581227:True:=⟨⟩
theorem tw10614716105012338702:True:=⟨⟩
theorem tw541196102884509978:True:=⟨⟩
theorem tw432457690288141553:True:=⟨⟩
theorem tw14457593812595234344:True:=⟨⟩
theorem tw10357175440086982646:True:=⟨⟩
theorem tw5174551420813472067:True:=⟨⟩
theorem tw13855881374063213867:True:=⟨⟩
theorem tw13790719812936386609:True:=⟨⟩
theorem tw16904818350239718627:True:=⟨⟩
theorem tw11631869004601391166:True:=⟨⟩
theorem tw5343241284826551009:True:=⟨⟩
theorem tw6529707622633924500:True:=⟨⟩
theorem tw15683763237869141255:True:=⟨⟩
theorem tw7519716089354478335:True:=⟨⟩
theorem tw4856431653887292112:True:=⟨⟩
theorem tw6598312636042714100:True:=⟨⟩
theorem tw12631932088317031055:True:=⟨⟩
theorem tw8545014587354053640:True:=⟨⟩
theorem tw7068711184596962023:True:=⟨⟩
theorem tw13609717118414637909:True:=⟨⟩
theorem tw9430268157657104642:True:=⟨⟩
theorem tw11136197038861592535:True:=⟨⟩
theorem tw6264232113106981867:True:=⟨⟩
theorem tw395138700845864316:True:=⟨⟩
theorem tw13855946660403688772:True:=⟨⟩
theorem tw14478148883734587675:True:=⟨⟩
theorem tw16211521421427940678:True:=⟨⟩
theorem tw15615420239508185596:True:=⟨⟩
theorem tw11389486352061984695:True:=⟨⟩
theorem tw16920754564084929960:True:=⟨⟩
theorem tw8990313861142287110:True:=⟨⟩
theorem tw16722109127936396110:True:=⟨⟩
theorem tw16011055738799735888:True:=⟨⟩
theorem tw13783031573616600631:True:=⟨⟩
theorem tw12487502673411948298:True:=⟨⟩
theorem tw15616948245753086127:True:=⟨⟩
theorem tw6990203504111849199:True:=⟨⟩
theorem tw17054507655720011243:True:=⟨⟩
theorem tw11251137523995926341:True:=⟨⟩
theorem tw14896477498954680388:True:=⟨⟩
theorem tw10111801491309104144:True:=⟨⟩
theorem tw212345690472687942:True:=⟨⟩
theorem tw5781342201191254626:True:=⟨⟩
theorem tw6838551448383532254:True:=⟨⟩
theorem tw6164396464334811476:True:=⟨⟩
theorem tw11402939732021071671:True:=⟨⟩
theorem tw8716120427605611371:True:=⟨⟩
theorem tw1760603350576429475:True:=⟨⟩
theorem tw12936449754285732098:True:=⟨⟩
theorem tw17739348878880393726:True:=⟨⟩
theorem tw3795277891434052102:True:=⟨⟩
theorem tw3219085151875037572:True:=⟨⟩
theorem tw8343274005884668182:True:=⟨⟩
theorem tw1241404454085649124:True:=⟨⟩
theorem tw18293732401869909652:True:=⟨⟩
theorem tw8047900516022102942:True:=⟨⟩
theorem tw3493717111155160527:True:=⟨⟩
theorem tw18241275227582772068:True:=⟨⟩
theorem tw1506431575118746342:True:=⟨⟩
theorem tw11652457597714270106:True:=⟨⟩
theorem tw16091413853298234908:True:=⟨⟩
theorem tw1865391376527767206:True:=⟨⟩
theorem tw4115565904173853331:True:=⟨⟩
theorem tw18293851220164018083:True:=⟨⟩
theorem tw15411387601460861337:True:=⟨⟩
theorem tw6184460063843016694:True:=⟨⟩
theorem tw5978321128707920903:True:=⟨⟩
theorem tw8428860471423672150:True:=⟨⟩
theorem tw1800889605409440832:True:=⟨⟩
theorem tw3915529967508079626:True:=⟨⟩
theorem tw4478964076566166474:True:=⟨⟩
theorem tw13225837485096350037:True:=⟨⟩
theorem tw13431754692932380062:True:=⟨⟩
theorem tw17183224562656869120:True:=⟨⟩
theorem tw12113243949977362033:True:=⟨⟩
theorem tw16064382804478563927:True:=⟨⟩
theorem tw8959176491354863721:True:=⟨⟩
theorem tw14176624398918483544:True:=⟨⟩
theorem tw13267510147771200024:True:=⟨⟩
theorem tw10583446816852156582:True:=⟨⟩
theorem tw4870687313549177768:True:=⟨⟩
theorem tw15642763164714097627:True:=⟨⟩
theorem tw9657781627882305391:True:=⟨⟩
theorem tw3919010098100093602:True:=⟨⟩
theorem tw18343703819029505601:True:=⟨⟩
theorem tw16853341256802265648:True:=⟨⟩
theorem tw15673258824015622330:True:=⟨⟩
theorem tw17252143746492648416:True:=⟨⟩
theorem tw6123773746684550334:True:=⟨⟩
theorem tw1013155817946168525:True:=⟨⟩
theorem tw13372043803930879067:True:=⟨⟩
theorem tw5961118342813265553:True:=⟨⟩
end Mine.hd
open PySem PySem.W PyProof.Rows
set_option maxRecDepth 100000 in
set_option maxHeartbeats 8000000 in
theorem Mine.hd : PySem.Challenge.rw_oj0008_01.Holds := by
  w_on
  o_law
  o_head Mine.Internal.tupH
  (case hw => w_witness2)
  exact Mine.Internal.walk rfl ⟨by decide +kernel, by decide +kernel, by decide +kernel, by decide +kernel, by decide +kernel⟩

theorem PySem.Challenge.cw_oj0008_01_holds : PySem.Challenge.rw_oj0008_01.Holds :=
  Mine.hd
